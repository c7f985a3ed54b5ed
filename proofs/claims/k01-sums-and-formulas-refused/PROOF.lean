import PyProof.Rows.All
import Wide.All
import OpenK.AllK
import Wide.FinOn
import HandS.ForMost
import HandS.ForExc
import HandS.Flow
import HandS.Deep
import HandS.TupAny
import HandS.TupMul
import HandS.Wide
import HandS.Zip
import HandS.IsInst
import HandS.CallLocal
import HandS.CallSlots
import HandS.TryMany
import KE.KDictPairs
import HandS.More
import HandS.WordsDict
import HandS.Evl
import HandS.Iter
import HandS.Comp
import HandS.Exc
import HandS.Small
import HandS.ExcIs
import HandS.Defaults
import HandS.HeadHook4
import HandS.HeadEnd
import PyProof.ExcBaseAll.ValueError
import HandS.Head2
import PySem.Challenge.RW_promisepieces_k01_sums_and_formulas_refu
set_option Elab.async false
set_option linter.all false
set_option maxRecDepth 1000000
set_option maxHeartbeats 0
/-! MiniA: values, heap, results; primitives in continuation form (fast in the kernel), each with its plain reading. -/
namespace Mini

/-- a value: tuples by value (with a mark: known to be without attributes), lists and dicts by their cell's number, defs and classes by their number -/
inductive D where
  | und | non | bl (b : Bool) | int (i : Int) | str (s : List Nat) | tup (p : Bool) (xs : List D) | ref (n : Nat) | fn (n : Nat) | cl (n : Nat)
inductive Cell where
  | lst (n : Nat) (xs : List D)   -- the items from the last on
  | dct (t : Bool) (n : Nat) (kvs : List (D × D))
  | rol (n : Nat) (xs : List D)
inductive Tr where
  | nil | node (l : Tr) (v : Cell) (r : Tr)
structure G where
  n : Nat
  t : Tr
inductive R (α : Type) where
  | ok (a : α) (g : G) | exc (c : Nat) (p : D) (g : G) | stuck
abbrev St := List D
inductive RS where
  | nx (σ : St) (g : G) | rt (d : D) (g : G) | bk (σ : St) (g : G) | ct (σ : St) (g : G) | exc (c : Nat) (p : D) (σ : St) (g : G) | stuck

noncomputable section

/-! ### forcing -/
def fNat {α : Type} (n : Nat) (k : Nat → α) : α := Nat.rec (motive := fun _ => α) (k 0) (fun m _ => k (Nat.succ m)) n
theorem fNat_eq {α : Type} (n : Nat) (k : Nat → α) : fNat n k = k n := by cases n <;> rfl
def fInt {α : Type} (i : Int) (k : Int → α) : α := match i with
  | .ofNat n => fNat n fun n => k (.ofNat n)
  | .negSucc n => fNat n fun n => k (.negSucc n)
theorem fInt_eq {α : Type} (i : Int) (k : Int → α) : fInt i k = k i := by cases i <;> simp [fInt, fNat_eq]
def fBool {α : Type} (b : Bool) (k : Bool → α) : α := match b with
  | true => k true
  | false => k false
theorem fBool_eq {α : Type} (b : Bool) (k : Bool → α) : fBool b k = k b := by cases b <;> rfl

/-! ### ints -/
def ilt (i j : Int) : Bool := match i with
  | .ofNat a => (match j with
    | .ofNat b => Nat.blt a b
    | .negSucc _ => false)
  | .negSucc a => (match j with
    | .ofNat _ => true
    | .negSucc b => Nat.blt b a)
theorem ilt_eq (i j : Int) : ilt i j = decide (i < j) := by
  cases i <;> cases j <;> simp only [ilt, Nat.blt] <;> rw [Bool.eq_iff_iff] <;> simp [Nat.ble_eq] <;> omega
def ieq (i j : Int) : Bool := match i with
  | .ofNat a => (match j with
    | .ofNat b => Nat.beq a b
    | .negSucc _ => false)
  | .negSucc a => (match j with
    | .ofNat _ => false
    | .negSucc b => Nat.beq a b)
theorem ieq_eq (i j : Int) : ieq i j = decide (i = j) := by
  cases i <;> cases j <;> simp only [ieq] <;> rw [Bool.eq_iff_iff] <;> simp [Nat.beq_eq] <;> omega

/-! ### lists -/
def lget {α β : Type} (xs : List β) (i : Nat) (e : α) (k : β → α) : α :=
  List.rec (motive := fun _ => Nat → α) (fun _ => e) (fun x _ ih i => Nat.rec (motive := fun _ => α) (k x) (fun j _ => ih j) i) xs i
theorem lget_eq {α β : Type} (xs : List β) (i : Nat) (e : α) (k : β → α) : lget xs i e k = match xs[i]? with | some x => k x | none => e := by
  induction xs generalizing i with
  | nil => simp [lget]
  | cons x r ih =>
    cases i with
    | zero => rfl
    | succ i => exact (ih i).trans (by rw [List.getElem?_cons_succ])
/-- the list with its i-th place set, built anew -/
def lset {α β : Type} (xs : List β) (i : Nat) (y : β) (k : List β → α) : α :=
  List.rec (motive := fun _ => Nat → (List β → α) → α) (fun _ k => k []) (fun x r ih i k => Nat.rec (motive := fun _ => α) (k (y :: r)) (fun j _ => ih j fun r' => k (x :: r')) i) xs i k
theorem lset_eq {α β : Type} (xs : List β) (i : Nat) (y : β) (k : List β → α) : lset xs i y k = k (xs.set i y) := by
  induction xs generalizing i k with
  | nil => simp [lset]
  | cons x r ih =>
    cases i with
    | zero => rfl
    | succ i => exact ih i fun r' => k (x :: r')
/-- xs ++ ys, built anew -/
def lapp {α β : Type} (xs ys : List β) (k : List β → α) : α :=
  List.rec (motive := fun _ => (List β → α) → α) (fun k => k ys) (fun x _ ih k => ih fun r => k (x :: r)) xs k
theorem lapp_eq {α β : Type} (xs ys : List β) (k : List β → α) : lapp xs ys k = k (xs ++ ys) := by
  induction xs generalizing k with
  | nil => rfl
  | cons x r ih => exact ih fun r' => k (x :: r')
def llenA {α β : Type} (xs : List β) (n : Nat) (k : Nat → α) : α :=
  List.rec (motive := fun _ => Nat → α) (fun n => k n) (fun _ _ ih n => fNat (Nat.succ n) ih) xs n
theorem llenA_eq {α β : Type} (xs : List β) (n : Nat) (k : Nat → α) : llenA xs n k = k (xs.length + n) := by
  induction xs generalizing n with
  | nil => exact congrArg k (Nat.zero_add n).symm
  | cons x r ih =>
    show fNat (Nat.succ n) (fun n => llenA r n k) = _
    rw [fNat_eq, ih, List.length_cons, Nat.add_right_comm]; rfl
def llen {α β : Type} (xs : List β) (k : Nat → α) : α := llenA xs 0 k
theorem llen_eq {α β : Type} (xs : List β) (k : Nat → α) : llen xs k = k xs.length := llenA_eq xs 0 k
def lrev {α β : Type} (xs acc : List β) (k : List β → α) : α :=
  List.rec (motive := fun _ => List β → α) (fun acc => k acc) (fun x _ ih acc => ih (x :: acc)) xs acc
theorem lrev_eq {α β : Type} (xs acc : List β) (k : List β → α) : lrev xs acc k = k (xs.reverse ++ acc) := by
  induction xs generalizing acc with
  | nil => rfl
  | cons x r ih =>
    show lrev r (x :: acc) k = _
    rw [ih]; simp
/-- the first n, built anew -/
def ltake {α β : Type} (xs : List β) (n : Nat) (k : List β → α) : α :=
  List.rec (motive := fun _ => Nat → (List β → α) → α) (fun _ k => k []) (fun x _ ih n k => Nat.rec (motive := fun _ => α) (k []) (fun m _ => ih m fun r => k (x :: r)) n) xs n k
theorem ltake_eq {α β : Type} (xs : List β) (n : Nat) (k : List β → α) : ltake xs n k = k (xs.take n) := by
  induction xs generalizing n k with
  | nil => simp [ltake]
  | cons x r ih =>
    cases n with
    | zero => rfl
    | succ n => exact ih n fun r' => k (x :: r')
def ldrop {α β : Type} (xs : List β) (n : Nat) (k : List β → α) : α :=
  List.rec (motive := fun _ => Nat → α) (fun _ => k []) (fun x r ih n => Nat.rec (motive := fun _ => α) (k (x :: r)) (fun m _ => ih m) n) xs n
theorem ldrop_eq {α β : Type} (xs : List β) (n : Nat) (k : List β → α) : ldrop xs n k = k (xs.drop n) := by
  induction xs generalizing n with
  | nil => simp [ldrop]
  | cons x r ih =>
    cases n with
    | zero => rfl
    | succ n => exact ih n
/-- equal lists of numbers -/
def neqs (xs ys : List Nat) : Bool :=
  List.rec (motive := fun _ => List Nat → Bool) (fun ys => List.rec (motive := fun _ => Bool) true (fun _ _ _ => false) ys)
    (fun x _ ih ys => List.rec (motive := fun _ => Bool) false (fun y r _ => match Nat.beq x y with
      | true => ih r
      | false => false) ys) xs ys
theorem neqs_eq (xs ys : List Nat) : neqs xs ys = decide (xs = ys) := by
  induction xs generalizing ys with
  | nil => cases ys <;> simp [neqs]
  | cons x r ih =>
    cases ys with
    | nil => simp [neqs]
    | cons y r' =>
      show (match Nat.beq x y with
        | true => neqs r r'
        | false => false) = _
      cases h : Nat.beq x y with
      | true => have := Nat.eq_of_beq_eq_true h; subst this; rw [ih]; simp
      | false =>
        have : x ≠ y := fun e => by subst e; rw [Nat.beq_refl] at h; cases h
        simp [this]
/-- smaller, sign by sign -/
def nlts (xs ys : List Nat) : Bool :=
  List.rec (motive := fun _ => List Nat → Bool) (fun ys => List.rec (motive := fun _ => Bool) false (fun _ _ _ => true) ys)
    (fun x _ ih ys => List.rec (motive := fun _ => Bool) false (fun y r _ => match Nat.blt x y with
      | true => true
      | false => (match Nat.beq x y with
        | true => ih r
        | false => false)) ys) xs ys
theorem nlts_eq (xs ys : List Nat) : nlts xs ys = decide (xs < ys) := by
  induction xs generalizing ys with
  | nil => cases ys <;> simp [nlts]
  | cons x r ih =>
    cases ys with
    | nil => simp [nlts]
    | cons y r' =>
      show (match Nat.blt x y with
        | true => true
        | false => (match Nat.beq x y with
          | true => nlts r r'
          | false => false)) = _
      rw [Bool.eq_iff_iff, decide_eq_true_iff, List.cons_lt_cons_iff]
      cases h : Nat.blt x y with
      | true =>
        have : x < y := Nat.le_of_ble_eq_true h
        simp [this]
      | false =>
        have hn : ¬ x < y := fun e => by
          have : Nat.blt x y = true := by simp [Nat.blt, Nat.ble_eq]; omega
          rw [h] at this; cases this
        cases h2 : Nat.beq x y with
        | true => have := Nat.eq_of_beq_eq_true h2; subst this; simp [ih]
        | false =>
          have : x ≠ y := fun e => by subst e; rw [Nat.beq_refl] at h2; cases h2
          simp [hn, this]

/-! ### the heap -/
/-- a choice, the short way for the kernel -/
abbrev sel {α : Type} (b : Bool) (t f : α) : α := Bool.rec (motive := fun _ => α) f t b
def Tr.get {α : Type} (t : Tr) (i : Nat) (e : α) (k : Cell → α) : α :=
  Tr.rec (motive := fun _ => Nat → α) (fun _ => e) (fun _ v _ ihl ihr i => Nat.rec (motive := fun _ => α) (k v) (fun j _ => Bool.rec (motive := fun _ => α) (ihr (Nat.div j 2)) (ihl (Nat.div j 2)) (Nat.beq (Nat.mod j 2) 0)) i) t i
def Tr.at? (t : Tr) (i : Nat) : Option Cell := t.get i none some
theorem Tr.get_eq {α : Type} (t : Tr) (i : Nat) (e : α) (k : Cell → α) : t.get i e k = match t.at? i with | some c => k c | none => e := by
  induction t generalizing i with
  | nil => rfl
  | node l v r ihl ihr =>
    cases i with
    | zero => rfl
    | succ j =>
      show (sel (Nat.beq (Nat.mod j 2) 0) (l.get (Nat.div j 2) e k) (r.get (Nat.div j 2) e k)) = match (sel (Nat.beq (Nat.mod j 2) 0) (l.at? (Nat.div j 2)) (r.at? (Nat.div j 2))) with | some c => k c | none => e
      cases Nat.beq (Nat.mod j 2) 0
      · exact ihr _
      · exact ihl _
/-- the tree with c at i (a new leaf where it ends), built anew -/
def Tr.put {α : Type} (t : Tr) (i : Nat) (c : Cell) (e : α) (k : Tr → α) : α :=
  Tr.rec (motive := fun _ => Nat → (Tr → α) → α) (fun i k => Nat.rec (motive := fun _ => α) (k (.node .nil c .nil)) (fun _ _ => e) i)
    (fun l v r ihl ihr i k => Nat.rec (motive := fun _ => α) (k (.node l c r)) (fun j _ => Bool.rec (motive := fun _ => α) (ihr (Nat.div j 2) fun r' => k (.node l v r')) (ihl (Nat.div j 2) fun l' => k (.node l' v r)) (Nat.beq (Nat.mod j 2) 0)) i) t i k
def Tr.put? (t : Tr) (i : Nat) (c : Cell) : Option Tr := t.put i c none some
theorem Tr.put_eq {α : Type} (t : Tr) (i : Nat) (c : Cell) (e : α) (k : Tr → α) : t.put i c e k = match t.put? i c with | some t' => k t' | none => e := by
  have gen : ∀ (t : Tr) (i : Nat) (k : Tr → α) (k2 : Tr → Option Tr) , t.put i c e k = match t.put i c none some with | some t' => k t' | none => e := by
    intro t
    induction t with
    | nil => intro i k _; cases i <;> rfl
    | node l v r ihl ihr =>
      intro i k k2
      cases i with
      | zero => rfl
      | succ j =>
        have el : l.put (Nat.div j 2) c (none : Option Tr) (fun l' => some (.node l' v r)) = (l.put (Nat.div j 2) c none some).map fun l' => .node l' v r := by
          have gen2 : ∀ (t : Tr) (i : Nat) (f : Tr → Tr) (h : Tr → Tr), t.put i c (none : Option Tr) (fun l' => some (f (h l'))) = (t.put i c none (fun l' => some (h l'))).map f := by
            intro t
            induction t with
            | nil => intro i f h; cases i <;> rfl
            | node l v r ihl ihr =>
              intro i f h
              cases i with
              | zero => rfl
              | succ j =>
                show (sel (Nat.beq (Nat.mod j 2) 0) (l.put (Nat.div j 2) c (none : Option Tr) fun l' => some (f (h (.node l' v r)))) (r.put (Nat.div j 2) c (none : Option Tr) fun r' => some (f (h (.node l v r'))))) = Option.map f (sel (Nat.beq (Nat.mod j 2) 0) (l.put (Nat.div j 2) c (none : Option Tr) fun l' => some (h (.node l' v r))) (r.put (Nat.div j 2) c (none : Option Tr) fun r' => some (h (.node l v r'))))
                cases Nat.beq (Nat.mod j 2) 0
                · exact ihr _ f (fun r' => h (.node l v r'))
                · exact ihl _ f (fun l' => h (.node l' v r))
          exact gen2 l _ (fun l' => .node l' v r) id
        have er : r.put (Nat.div j 2) c (none : Option Tr) (fun r' => some (.node l v r')) = (r.put (Nat.div j 2) c none some).map fun r' => .node l v r' := by
          have gen2 : ∀ (t : Tr) (i : Nat) (f : Tr → Tr) (h : Tr → Tr), t.put i c (none : Option Tr) (fun l' => some (f (h l'))) = (t.put i c none (fun l' => some (h l'))).map f := by
            intro t
            induction t with
            | nil => intro i f h; cases i <;> rfl
            | node l v r ihl ihr =>
              intro i f h
              cases i with
              | zero => rfl
              | succ j =>
                show (sel (Nat.beq (Nat.mod j 2) 0) (l.put (Nat.div j 2) c (none : Option Tr) fun l' => some (f (h (.node l' v r)))) (r.put (Nat.div j 2) c (none : Option Tr) fun r' => some (f (h (.node l v r'))))) = Option.map f (sel (Nat.beq (Nat.mod j 2) 0) (l.put (Nat.div j 2) c (none : Option Tr) fun l' => some (h (.node l' v r))) (r.put (Nat.div j 2) c (none : Option Tr) fun r' => some (h (.node l v r'))))
                cases Nat.beq (Nat.mod j 2) 0
                · exact ihr _ f (fun r' => h (.node l v r'))
                · exact ihl _ f (fun l' => h (.node l' v r))
          exact gen2 r _ (fun r' => .node l v r') id
        show (sel (Nat.beq (Nat.mod j 2) 0) (l.put (Nat.div j 2) c e fun l' => k (.node l' v r)) (r.put (Nat.div j 2) c e fun r' => k (.node l v r'))) = match (sel (Nat.beq (Nat.mod j 2) 0) (l.put (Nat.div j 2) c none fun l' => some (.node l' v r)) (r.put (Nat.div j 2) c none fun r' => some (.node l v r'))) with | some t' => k t' | none => e
        cases Nat.beq (Nat.mod j 2) 0
        · show r.put (Nat.div j 2) c e _ = match r.put (Nat.div j 2) c none (fun r' => some (.node l v r')) with | some t' => k t' | none => e
          rw [er, ihr _ _ some]
          cases r.put (Nat.div j 2) c none some <;> rfl
        · show l.put (Nat.div j 2) c e _ = match l.put (Nat.div j 2) c none (fun l' => some (.node l' v r)) with | some t' => k t' | none => e
          rw [el, ihl _ _ some]
          cases l.put (Nat.div j 2) c none some <;> rfl
  exact gen t i k some
end
end Mini
/-! MiniB: operations on values. -/
namespace Mini
noncomputable section

def R.bind {α β : Type} (r : R α) (f : α → G → R β) : R β := match r with
  | .ok a g => f a g
  | .exc c p g => .exc c p g
  | .stuck => .stuck

/-- a limit for lengths, well below the model's own line -/
abbrev lim : Nat := 1000000

def G.look {α : Type} (g : G) (a : Nat) (e : α) (k : Cell → α) : α := g.t.get a e k
def G.at? (g : G) (a : Nat) : Option Cell := g.t.at? a
theorem G.look_eq {α : Type} (g : G) (a : Nat) (e : α) (k : Cell → α) : g.look a e k = match g.at? a with | some c => k c | none => e := Tr.get_eq _ _ _ _
def G.new {α : Type} (g : G) (c : Cell) (e : α) (k : Nat → G → α) : α := match g with
  | ⟨n, t⟩ => t.put n c e fun t' => fNat (Nat.succ n) fun n' => k n ⟨n', t'⟩
def G.upd {α : Type} (g : G) (a : Nat) (c : Cell) (e : α) (k : G → α) : α := match g with
  | ⟨n, t⟩ => t.put a c e fun t' => k ⟨n, t'⟩
/-- a list's items, written or read only -/
def G.list {α : Type} (g : G) (a : Nat) (e : α) (k : Nat → List D → α) : α := g.look a e fun c => match c with
  | .lst n xs => lrev xs [] fun ys => k n ys
  | .rol n xs => k n xs
  | .dct _ _ _ => e

/-- item i of a list, written or read only; nn: there is none -/
def G.nth {α : Type} (g : G) (a i : Nat) (e nn : α) (k : D → α) : α := g.look a e fun c => match c with
  | .lst n xs => (match Nat.blt i n with
    | true => lget xs (Nat.sub (Nat.pred n) i) e k
    | false => nn)
  | .rol _ xs => lget xs i nn k
  | .dct _ _ _ => e

/-! ### walks of lists by a test -/
def lall {β : Type} (f : β → Bool) (xs : List β) : Bool := List.rec (motive := fun _ => Bool) true (fun x _ ih => match f x with
  | true => ih
  | false => false) xs
theorem lall_eq {β : Type} (f : β → Bool) (xs : List β) : lall f xs = xs.all f := by
  induction xs with
  | nil => rfl
  | cons x r ih =>
    show (match f x with | true => lall f r | false => false) = _
    cases h : f x <;> simp [h, ih]
def lany {β : Type} (f : β → Bool) (xs : List β) : Bool := List.rec (motive := fun _ => Bool) false (fun x _ ih => match f x with
  | true => true
  | false => ih) xs
theorem lany_eq {β : Type} (f : β → Bool) (xs : List β) : lany f xs = xs.any f := by
  induction xs with
  | nil => rfl
  | cons x r ih =>
    show (match f x with | true => true | false => lany f r) = _
    cases h : f x <;> simp [h, ih]
def lall2 {β : Type} (f : β → β → Bool) (xs ys : List β) : Bool :=
  List.rec (motive := fun _ => List β → Bool) (fun ys => List.rec (motive := fun _ => Bool) true (fun _ _ _ => false) ys)
    (fun x _ ih ys => List.rec (motive := fun _ => Bool) false (fun y r _ => match f x y with
      | true => ih r
      | false => false) ys) xs ys
theorem lall2_nil {β : Type} (f : β → β → Bool) : lall2 f [] [] = true := rfl
theorem lall2_nc {β : Type} (f : β → β → Bool) (y : β) (r : List β) : lall2 f [] (y :: r) = false := rfl
theorem lall2_cn {β : Type} (f : β → β → Bool) (x : β) (r : List β) : lall2 f (x :: r) [] = false := rfl
theorem lall2_cc {β : Type} (f : β → β → Bool) (x y : β) (r q : List β) : lall2 f (x :: r) (y :: q) = (f x y && lall2 f r q) := by
  show (match f x y with | true => lall2 f r q | false => false) = _
  cases f x y <;> rfl

/-! ### plain data: what == and in may meet -/
def okSigns (s : List Nat) : Bool := lall (fun c => Nat.blt c 0x110000) s
def isdS (g : G) (ih : D → Bool) (x : D) : Bool := match x with
  | .non => true
  | .bl _ => true
  | .int _ => true
  | .str s => okSigns s
  | .tup _ xs => lall ih xs
  | .ref a => g.list a false fun _ xs => lall ih xs
  | .und => false
  | .fn _ => false
  | .cl _ => false
def isd (n : Nat) (g : G) : D → Bool := Nat.rec (motive := fun _ => D → Bool) (fun _ => false) (fun _ ih => isdS g ih) n
def deqS (g : G) (ih : D → D → Bool) (x y : D) : Bool := match x with
  | .non => (match y with
    | .non => true
    | _ => false)
  | .bl b => (match y with
    | .bl c => (match b with
      | true => c
      | false => !c)
    | .int j => (match b with
      | true => ieq 1 j
      | false => ieq 0 j)
    | _ => false)
  | .int i => (match y with
    | .int j => ieq i j
    | .bl c => (match c with
      | true => ieq i 1
      | false => ieq i 0)
    | _ => false)
  | .str s => (match y with
    | .str t => neqs s t
    | _ => false)
  | .tup _ xs => (match y with
    | .tup _ ys => lall2 ih xs ys
    | _ => false)
  | .ref a => (match y with
    | .ref b => g.list a false fun _ xs => g.list b false fun _ ys => lall2 ih xs ys
    | _ => false)
  | .und => false
  | .fn _ => false
  | .cl _ => false
def deq (n : Nat) (g : G) : D → D → Bool := Nat.rec (motive := fun _ => D → D → Bool) (fun _ _ => false) (fun _ ih => deqS g ih) n
abbrev deep : Nat := 40
def oEq (x y : D) (g : G) : R D := match isd deep g x with
  | true => (match isd deep g y with
    | true => fBool (deq deep g x y) fun b => .ok (.bl b) g
    | false => .stuck)
  | false => .stuck
def oNe (x y : D) (g : G) : R D := match isd deep g x with
  | true => (match isd deep g y with
    | true => (match deq deep g x y with
      | true => .ok (.bl false) g
      | false => .ok (.bl true) g)
    | false => .stuck)
  | false => .stuck

/-! ### arithmetic -/
def okInt (i : Int) : R D → R D := fun r => r
def rInt (i : Int) (g : G) : R D := fInt i fun r => .ok (.int r) g
def rNew (c : Cell) (g : G) : R D := g.new c .stuck fun a g' => .ok (.ref a) g'
/-- a new list -/
def rList (xs : List D) (g : G) : R D := llen xs fun n => match Nat.ble n lim with
  | true => lrev xs [] fun ys => rNew (.lst n ys) g
  | false => .stuck
/-- .. told from the last item on -/
def rListR (xs : List D) (g : G) : R D := llen xs fun n => match Nat.ble n lim with
  | true => rNew (.lst n xs) g
  | false => .stuck
def rTup (xs : List D) (g : G) : R D := llen xs fun n => match Nat.ble n lim with
  | true => .ok (.tup false xs) g
  | false => .stuck
def rStr (s : List Nat) (g : G) : R D := llen s fun n => match Nat.ble n lim with
  | true => .ok (.str s) g
  | false => .stuck
def oAdd (x y : D) (g : G) : R D := match x with
  | .int i => (match y with
    | .int j => rInt (Int.add i j) g
    | _ => .stuck)
  | .str s => (match y with
    | .str t => lapp s t fun u => rStr u g
    | _ => .stuck)
  | .tup _ xs => (match y with
    | .tup _ ys => lapp xs ys fun zs => rTup zs g
    | _ => .stuck)
  | .ref a => (match y with
    | .ref b => g.look a .stuck fun c => match c with
      | .lst _ xs => g.look b .stuck fun c => match c with
        | .lst _ ys => lapp ys xs fun zs => rListR zs g
        | _ => .stuck
      | _ => .stuck
    | _ => .stuck)
  | _ => .stuck
def oSub (x y : D) (g : G) : R D := match x with
  | .int i => (match y with
    | .int j => rInt (Int.sub i j) g
    | _ => .stuck)
  | _ => .stuck
/-- below 2^64 by size -/
def small (i : Int) : Bool := match i with
  | .ofNat n => Nat.blt n 18446744073709551616
  | .negSucc n => Nat.blt n 18446744073709551615
def reps {β : Type} (n : Nat) (xs : List β) : List β := Nat.rec (motive := fun _ => List β) [] (fun _ r => lapp xs r id) n
def oMul (x y : D) (g : G) : R D := match x with
  | .int i => (match y with
    | .int j => (match small i with
      | true => rInt (Int.mul i j) g
      | false => (match small j with
        | true => rInt (Int.mul i j) g
        | false => .stuck))
    | _ => .stuck)
  | .tup _ xs => (match y with
    | .int k => (match xs with
      | [] => .stuck
      | _ :: _ => (match k with
        | .ofNat n => (match Nat.ble 2 n with
          | true => (match Nat.ble n 1000 with
            | true => llen xs fun m => match Nat.ble m 1000 with
              | true => .ok (.tup false (reps n xs)) g
              | false => .stuck
            | false => .stuck)
          | false => .stuck)
        | .negSucc _ => .stuck))
    | _ => .stuck)
  | .ref a => (match y with
    | .int k => (match k with
      | .ofNat n => (match Nat.ble n 10000 with
        | true => g.look a .stuck fun c => match c with
          | .lst m xs => (match Nat.ble m 100 with
            | true => lapp (reps n xs) [] fun zs => rListR zs g
            | false => .stuck)
          | _ => .stuck
        | false => .stuck)
      | .negSucc _ => .stuck)
    | _ => .stuck)
  | .str s => (match y with
    | .int k => (match k with
      | .ofNat n => (match Nat.ble n 1000 with
        | true => llen s fun m => match Nat.ble m 1000 with
          | true => lapp (reps n s) [] fun t => .ok (.str t) g
          | false => .stuck
        | false => .stuck)
      | .negSucc _ => .stuck)
    | _ => .stuck)
  | _ => .stuck
/-- a divisor that the model takes: not 0, below 2^30 -/
def okDiv (j : Int) : Bool := match j with
  | .ofNat n => (match Nat.beq n 0 with
    | true => false
    | false => Nat.blt n 1073741824)
  | .negSucc n => Nat.blt n 1073741823
def oDiv (x y : D) (g : G) : R D := match x with
  | .int i => (match y with
    | .int j => (match okDiv j with
      | true => rInt (Int.fdiv i j) g
      | false => .stuck)
    | _ => .stuck)
  | _ => .stuck
def oMod (x y : D) (g : G) : R D := match x with
  | .int i => (match y with
    | .int j => (match ieq j 0 with
      | true => .stuck
      | false => rInt (Int.fmod i j) g)
    | _ => .stuck)
  | _ => .stuck
def oPow (x y : D) (g : G) : R D := match x with
  | .int i => (match y with
    | .int j => (match j with
      | .ofNat n => (match Nat.ble n 10000 with
        | true => (match small i with
          | true => (match i with
            | .ofNat m => rInt (.ofNat (Nat.pow m n)) g
            | .negSucc _ => .stuck)
          | false => .stuck)
        | false => .stuck)
      | .negSucc _ => .stuck)
    | _ => .stuck)
  | _ => .stuck
inductive BOp where
  | add | sub | mul | div | mod | pow
def oBin (o : BOp) (x y : D) (g : G) : R D := match o with
  | .add => oAdd x y g
  | .sub => oSub x y g
  | .mul => oMul x y g
  | .div => oDiv x y g
  | .mod => oMod x y g
  | .pow => oPow x y g
def oNeg (x : D) (g : G) : R D := match x with
  | .int i => rInt (Int.neg i) g
  | _ => .stuck

/-! ### comparisons -/
/-- order of ints, of texts: lt x y, turned about, denied -/
def oLt (x y : D) (g : G) : R D := match x with
  | .int i => (match y with
    | .int j => fBool (ilt i j) fun b => .ok (.bl b) g
    | _ => .stuck)
  | .str s => (match y with
    | .str t => fBool (nlts s t) fun b => .ok (.bl b) g
    | _ => .stuck)
  | _ => .stuck
def oLe (x y : D) (g : G) : R D := match x with
  | .int i => (match y with
    | .int j => (match ilt j i with
      | true => .ok (.bl false) g
      | false => .ok (.bl true) g)
    | _ => .stuck)
  | .str s => (match y with
    | .str t => (match nlts t s with
      | true => .ok (.bl false) g
      | false => .ok (.bl true) g)
    | _ => .stuck)
  | _ => .stuck
def isNone (x : D) : Bool := match x with
  | .non => true
  | _ => false
def oIs (x y : D) (g : G) : R D := match y with
  | .non => fBool (isNone x) fun b => .ok (.bl b) g
  | _ => .stuck
def oIsNot (x y : D) (g : G) : R D := match y with
  | .non => (match isNone x with
    | true => .ok (.bl false) g
    | false => .ok (.bl true) g)
  | _ => .stuck
/-- keys of dicts -/
def keq (x y : D) : Bool := match x with
  | .int i => (match y with
    | .int j => ieq i j
    | _ => false)
  | .str s => (match y with
    | .str t => neqs s t
    | _ => false)
  | _ => false
def isKey (x : D) : Bool := match x with
  | .int _ => true
  | .str _ => true
  | _ => false
def kfind {α : Type} (kvs : List (D × D)) (y : D) (e : α) (k : D → α) : α := List.rec (motive := fun _ => α) e (fun p _ ih => match p with
  | (a, v) => (match keq a y with
    | true => k v
    | false => ih)) kvs
/-- each place with the key gets v; a new place where there is none -/
def kputF {α : Type} (kvs : List (D × D)) (y v : D) (f : Bool) (k : List (D × D) → α) : α := List.rec (motive := fun _ => Bool → (List (D × D) → α) → α)
  (fun f k => match f with
    | true => k []
    | false => k [(y, v)])
  (fun p _ ih f k => match p with
    | (a, w) => (match keq a y with
      | true => ih true fun r' => k ((a, v) :: r')
      | false => ih f fun r' => k ((a, w) :: r'))) kvs f k
def kput {α : Type} (kvs : List (D × D)) (y v : D) (k : List (D × D) → α) : α := kputF kvs y v false k
def inL (x y : D) (g : G) (k : Bool → R D) : R D := match y with
  | .tup _ ys => (match isd deep g x with
    | true => (match lall (isd deep g) ys with
      | true => fBool (lany (fun z => deq deep g z x) ys) k
      | false => .stuck)
    | false => .stuck)
  | .ref a => g.look a .stuck fun c => match c with
    | .lst _ zs => lrev zs [] fun ys => (match isd deep g x with
      | true => (match lall (isd deep g) ys with
        | true => fBool (lany (fun z => deq deep g z x) ys) k
        | false => .stuck)
      | false => .stuck)
    | .rol _ ys => (match isd deep g x with
      | true => (match lall (isd deep g) ys with
        | true => fBool (lany (fun z => deq deep g z x) ys) k
        | false => .stuck)
      | false => .stuck)
    | .dct t _ kvs => (match t with
      | false => (match isKey x with
        | true => kfind kvs x (k false) fun _ => k true
        | false => .stuck)
      | true => .stuck)
  | _ => .stuck
def oIn (x y : D) (g : G) : R D := inL x y g fun b => .ok (.bl b) g
def oNotIn (x y : D) (g : G) : R D := inL x y g fun b => match b with
  | true => .ok (.bl false) g
  | false => .ok (.bl true) g
inductive COp where
  | eq | ne | lt | le | gt | ge | is_ | isn | in_ | nin
def oCmp (o : COp) (x y : D) (g : G) : R D := match o with
  | .eq => oEq x y g
  | .ne => oNe x y g
  | .lt => oLt x y g
  | .le => oLe x y g
  | .gt => oLt y x g
  | .ge => oLe y x g
  | .is_ => oIs x y g
  | .isn => oIsNot x y g
  | .in_ => oIn x y g
  | .nin => oNotIn x y g

/-! ### truth -/
def isNil {β : Type} (xs : List β) : Bool := match xs with
  | [] => true
  | _ :: _ => false
def tru {α : Type} (x : D) (g : G) (e : α) (k : Bool → α) : α := match x with
  | .non => k false
  | .bl b => fBool b k
  | .int i => (match ieq i 0 with
    | true => k false
    | false => k true)
  | .str s => (match s with
    | [] => k false
    | _ :: _ => llen s fun n => match Nat.ble n lim with
      | true => k true
      | false => e)
  | .tup _ xs => (match xs with
    | [] => k false
    | _ :: _ => k true)
  | .ref a => g.look a e fun c => match c with
    | .lst _ xs => (match xs with
      | [] => k false
      | _ :: _ => k true)
    | .rol _ xs => (match xs with
      | [] => k false
      | _ :: _ => k true)
    | .dct _ _ kvs => (match kvs with
      | [] => k false
      | _ :: _ => k true)
  | .und => e
  | .fn _ => e
  | .cl _ => e

/-! ### places -/
/-- the place of an index in n items -/
def place {α : Type} (n : Nat) (i : Int) (e : α) (k : Nat → α) : α := match i with
  | .ofNat j => (match Nat.blt j n with
    | true => k j
    | false => e)
  | .negSucc j => (match Nat.blt j n with
    | true => fNat (Nat.sub n (Nat.succ j)) k
    | false => e)
def oIx (x y : D) (g : G) : R D := match y with
  | .int i => (match x with
    | .tup _ xs => (match i with
      | .ofNat j => lget xs j .stuck fun d => .ok d g
      | .negSucc _ => llen xs fun n => place n i .stuck fun j => lget xs j .stuck fun d => .ok d g)
    | .ref a => g.look a .stuck fun c => match c with
      | .lst n xs => place n i .stuck fun j => lget xs (Nat.sub (Nat.pred n) j) .stuck fun d => .ok d g
      | .rol n xs => place n i .stuck fun j => lget xs j .stuck fun d => .ok d g
      | .dct t _ kvs => (match t with
        | false => kfind kvs y .stuck fun d => .ok d g
        | true => .stuck)
    | .str s => llen s fun n => match Nat.ble n lim with
      | true => place n i .stuck fun j => lget s j .stuck fun c => .ok (.str [c]) g
      | false => .stuck
    | _ => .stuck)
  | .str _ => (match x with
    | .ref a => g.look a .stuck fun c => match c with
      | .dct t _ kvs => (match t with
        | false => kfind kvs y .stuck fun d => .ok d g
        | true => .stuck)
      | _ => .stuck
    | _ => .stuck)
  | _ => .stuck
/-- the end of a slice: clipped -/
def clip {α : Type} (n d : Nat) (o : Option Int) (k : Nat → α) : α := match o with
  | none => k d
  | some i => (match i with
    | .ofNat j => (match Nat.ble j n with
      | true => k j
      | false => k n)
    | .negSucc j => fNat (Nat.sub n (Nat.succ j)) k)
def cut {α β : Type} (xs : List β) (n : Nat) (lo hi : Option Int) (k : List β → α) : α :=
  clip n 0 lo fun a => clip n n hi fun b => ldrop xs a fun r => fNat (Nat.sub b a) fun m => ltake r m k
def oSl (x : D) (lo hi : Option Int) (g : G) : R D := match x with
  | .tup _ xs => llen xs fun n => cut xs n lo hi fun ys => .ok (.tup false ys) g
  | .ref a => g.list a .stuck fun n xs => cut xs n lo hi fun ys => rList ys g
  | .str s => llen s fun n => match Nat.ble n lim with
    | true => cut s n lo hi fun t => .ok (.str t) g
    | false => .stuck
  | _ => .stuck
/-- o[i] = v -/
def oSet {α : Type} (x y v : D) (g : G) (e : α) (k : G → α) : α := match x with
  | .ref a => g.look a e fun c => match c with
    | .lst n xs => (match y with
      | .int i => place n i e fun j => lset xs (Nat.sub (Nat.pred n) j) v fun ys => g.upd a (.lst n ys) e k
      | _ => e)
    | .dct t n kvs => (match t with
      | false => (match isKey y with
        | true => (match Nat.blt n lim with
          | true => kput kvs y v fun ks => llen ks fun m => g.upd a (.dct t m ks) e k
          | false => e)
        | false => e)
      | true => e)
    | .rol _ _ => e
  | _ => e
end
end Mini
/-! MiniC: built-ins, methods, the code (IR) and its meaning. -/
namespace Mini
noncomputable section

/-! ### built-ins by value -/
inductive Bi where
  | len | abs | all | any | tuple | list | dict | sorted | str | int | sum
inductive Ty where
  | int | bool | str | tuple | list
/-- isinstance(x, T) -/
def isTy (g : G) (x : D) (t : Ty) (e : R D) (k : Bool → R D) : R D := match x with
  | .non => k false
  | .bl _ => (match t with
    | .bool => k true
    | .int => k true
    | _ => k false)
  | .int _ => (match t with
    | .int => k true
    | _ => k false)
  | .str _ => (match t with
    | .str => k true
    | _ => k false)
  | .tup _ _ => (match t with
    | .tuple => k true
    | _ => k false)
  | .ref a => g.look a e fun c => match c with
    | .dct _ _ _ => k false
    | _ => (match t with
      | .list => k true
      | _ => k false)
  | _ => e
def allBools {α : Type} (xs : List D) (e : α) (k : List Bool → α) : α := List.rec (motive := fun _ => (List Bool → α) → α) (fun k => k []) (fun x _ ih k => match x with
  | .bl b => ih fun r => k (b :: r)
  | _ => e) xs k
def allInts {α : Type} (xs : List D) (e : α) (k : List Int → α) : α := List.rec (motive := fun _ => (List Int → α) → α) (fun k => k []) (fun x _ ih k => match x with
  | .int b => ih fun r => k (b :: r)
  | _ => e) xs k
def lsum {α : Type} (xs : List Int) (acc : Int) (k : Int → α) : α := List.rec (motive := fun _ => Int → α) (fun acc => k acc) (fun x _ ih acc => fInt (Int.add acc x) ih) xs acc
/-- the pairs (k, v) of a list of tuples -/
def pairs {α : Type} (xs : List D) (acc : List (D × D)) (e : α) (k : List (D × D) → α) : α := List.rec (motive := fun _ => List (D × D) → α) (fun acc => k acc) (fun x _ ih acc => match x with
  | .tup _ ys => (match ys with
    | a :: r => (match r with
      | v :: q => (match q with
        | [] => (match isKey a with
          | true => kput acc a v ih
          | false => e)
        | _ :: _ => e)
      | [] => e)
    | [] => e)
  | _ => e) xs acc
/-- keys: all texts; insertion in order -/
def sins {α : Type} (s : List Nat) (xs : List (List Nat)) (k : List (List Nat) → α) : α := List.rec (motive := fun _ => (List (List Nat) → α) → α) (fun k => k [s]) (fun x r ih k => match nlts x s with
  | true => ih fun q => k (x :: q)
  | false => k (s :: x :: r)) xs k
def ssort {α : Type} (xs : List (List Nat)) (k : List (List Nat) → α) : α := List.rec (motive := fun _ => (List (List Nat) → α) → α) (fun k => k []) (fun x _ ih k => ih fun r => sins x r k) xs k
def allStrs {α : Type} (xs : List D) (e : α) (k : List (List Nat) → α) : α := List.rec (motive := fun _ => (List (List Nat) → α) → α) (fun k => k []) (fun x _ ih k => match x with
  | .str b => ih fun r => k (b :: r)
  | _ => e) xs k
def fstD (kvs : List (D × D)) : List D := List.rec (motive := fun _ => List D) [] (fun p _ r => match p with
  | (a, _) => a :: r) kvs
/-- the figures of a number -/
def digits (fuel : Nat) (n : Nat) (acc : List Nat) : List Nat := Nat.rec (motive := fun _ => Nat → List Nat → List Nat) (fun _ acc => acc)
  (fun _ ih n acc => fNat (Nat.add 48 (Nat.mod n 10)) fun c => match Nat.blt n 10 with
    | true => c :: acc
    | false => fNat (Nat.div n 10) fun m => ih m (c :: acc)) fuel n acc
def intText {α : Type} (i : Int) (e : α) (k : List Nat → α) : α := match i with
  | .ofNat n => (match Nat.blt (Nat.log2 n) 1900 with
    | true => lapp (digits 600 n []) [] k
    | false => e)
  | .negSucc n => (match Nat.blt (Nat.log2 (Nat.succ n)) 1900 with
    | true => lapp (digits 600 (Nat.succ n) []) [] fun s => k (45 :: s)
    | false => e)
def items {α : Type} (g : G) (x : D) (e : α) (k : List D → α) : α := match x with
  | .tup _ xs => k xs
  | .ref a => g.list a e fun _ xs => k xs
  | _ => e
def bi1 (b : Bi) (x : D) (g : G) : R D := match b with
  | .len => (match x with
    | .str s => llen s fun n => match Nat.ble n lim with
      | true => .ok (.int (.ofNat n)) g
      | false => .stuck
    | .tup _ xs => llen xs fun n => .ok (.int (.ofNat n)) g
    | .ref a => g.look a .stuck fun c => match c with
      | .lst n _ => .ok (.int (.ofNat n)) g
      | .rol n _ => .ok (.int (.ofNat n)) g
      | .dct _ n _ => .ok (.int (.ofNat n)) g
    | _ => .stuck)
  | .abs => (match x with
    | .int i => (match i with
      | .ofNat n => .ok (.int (.ofNat n)) g
      | .negSucc n => .ok (.int (.ofNat (Nat.succ n))) g)
    | _ => .stuck)
  | .all => (match x with
    | .ref a => g.list a .stuck fun _ xs => allBools xs .stuck fun bs => fBool (lall id bs) fun b => .ok (.bl b) g
    | _ => .stuck)
  | .any => (match x with
    | .ref a => g.list a .stuck fun _ xs => allBools xs .stuck fun bs => fBool (lany id bs) fun b => .ok (.bl b) g
    | _ => .stuck)
  | .tuple => (match x with
    | .tup p xs => .ok (.tup p xs) g
    | .ref a => g.list a .stuck fun _ xs => .ok (.tup true xs) g
    | _ => .stuck)
  | .list => items g x .stuck fun xs => rList xs g
  | .dict => (match x with
    | .ref a => g.look a .stuck fun c => match c with
      | .dct t n kvs => (match t with
        | false => rNew (.dct false n kvs) g
        | true => .stuck)
      | .lst _ xs => lrev xs [] fun xs => pairs xs [] .stuck fun kvs => llen kvs fun n => rNew (.dct false n kvs) g
      | .rol _ xs => pairs xs [] .stuck fun kvs => llen kvs fun n => rNew (.dct false n kvs) g
    | .tup p xs => (match p with
      | true => pairs xs [] .stuck fun kvs => llen kvs fun n => rNew (.dct false n kvs) g
      | false => .stuck)
    | _ => .stuck)
  | .sorted => (match x with
    | .ref a => g.look a .stuck fun c => match c with
      | .dct t n kvs => (match t with
        | false => (match Nat.blt n 60 with
          | true => allStrs (fstD kvs) .stuck fun ss => ssort ss fun ss => rList (ss.map D.str) g
          | false => .stuck)
        | true => .stuck)
      | _ => .stuck
    | _ => .stuck)
  | .str => (match x with
    | .int i => intText i .stuck fun s => .ok (.str s) g
    | _ => .stuck)
  | .int => (match x with
    | .int i => .ok (.int i) g
    | .bl b => (match b with
      | true => .ok (.int 1) g
      | false => .ok (.int 0) g)
    | _ => .stuck)
  | .sum => (match x with
    | .ref a => g.list a .stuck fun _ xs => allInts xs .stuck fun is => lsum is 0 fun i => .ok (.int i) g
    | _ => .stuck)

/-! ### methods -/
inductive Mt where
  | append | pop | extend | get1 | get2
def lastOf {α β : Type} (xs : List β) (e : α) (k : β → List β → α) : α := match xs with
  | [] => e
  | y :: ys => k y ys
def extBy (a : Nat) (ys : List D) (g : G) : R D := g.look a .stuck fun c => match c with
  | .lst n xs => llen ys fun m => fNat (Nat.add m n) fun q => match Nat.ble q lim with
    | true => lrev ys xs fun zs => g.upd a (.lst q zs) .stuck fun g' => .ok .non g'
    | false => .stuck
  | _ => .stuck
/-- the receiver's kind, seen ahead of the arguments -/
def isLst (c : Cell) (k e : R D) : R D := match c with
  | .lst _ _ => k
  | _ => e
def isDct (c : Cell) (k e : R D) : R D := match c with
  | .dct t _ _ => (match t with
    | false => k
    | true => e)
  | _ => e
def recv (m : Mt) (x : D) (g : G) (k : R D) : R D := match x with
  | .ref a => g.look a .stuck fun c => match m with
    | .append => isLst c k .stuck
    | .pop => isLst c k .stuck
    | .extend => isLst c k .stuck
    | .get1 => isDct c k .stuck
    | .get2 => isDct c k .stuck
  | _ => .stuck
def oMt (m : Mt) (o : D) (vs : List D) (g : G) : R D := match m with
  | .append => (match o with
    | .ref a => (match vs with
      | y :: _ => g.look a .stuck fun c => match c with
        | .lst n xs => (match Nat.blt n lim with
          | true => fNat (Nat.succ n) fun n' => g.upd a (.lst n' (y :: xs)) .stuck fun g' => .ok .non g'
          | false => .stuck)
        | _ => .stuck
      | [] => .stuck)
    | _ => .stuck)
  | .pop => (match o with
    | .ref a => g.look a .stuck fun c => match c with
      | .lst n xs => lastOf xs .stuck fun y ys => fNat (Nat.pred n) fun n' => g.upd a (.lst n' ys) .stuck fun g' => .ok y g'
      | _ => .stuck
    | _ => .stuck)
  | .extend => (match o with
    | .ref a => (match vs with
      | y :: _ => (match y with
        | .tup p ys => (match p with
          | true => extBy a ys g
          | false => .stuck)
        | .ref b => g.look b .stuck fun c => match c with
          | .lst _ ys => lrev ys [] fun ys => extBy a ys g
          | _ => .stuck
        | _ => .stuck)
      | [] => .stuck)
    | _ => .stuck)
  | .get1 => (match o with
    | .ref a => (match vs with
      | y :: _ => (match isKey y with
        | true => g.look a .stuck fun c => match c with
          | .dct t _ kvs => (match t with
            | false => kfind kvs y (.ok .non g) fun d => .ok d g
            | true => .stuck)
          | _ => .stuck
        | false => .stuck)
      | [] => .stuck)
    | _ => .stuck)
  | .get2 => (match o with
    | .ref a => (match vs with
      | y :: r => (match r with
        | z :: _ => (match isKey y with
          | true => g.look a .stuck fun c => match c with
            | .dct t _ kvs => (match t with
              | false => kfind kvs y (.ok z g) fun d => .ok d g
              | true => .stuck)
            | _ => .stuck
          | false => .stuck)
        | [] => .stuck)
      | [] => .stuck)
    | _ => .stuck)

/-! ### the code -/
mutual
inductive IE where
  | c (d : D) | v (i : Nat) | g (x : Nat)
  | bin (o : BOp) (a b : IE) | neg (a : IE) | cmp (o : COp) (a b : IE) | chain (o p : COp) (a b c : IE)
  | an (l : IA) | orr (l : IA) | nt (a : IE) | ife (t : IT) (a b : IE)
  | call (f : Nat) (l : IA) | callv (i : Nat) (l : IA) | bi (b : Bi) (a : IE) | isi (a : IE) (t : Ty) | isi2 (a : IE) (t u : Ty)
  | mtA (o a : IE) | mtX (o a : IE) | mtP (o : IE) | mtG (o a : IE) | mtH (o a b : IE) | ix (a b : IE) | sl (a : IE) (lo hi : IO)
  | tup (l : IA) | lst (l : IA) | dnew
  | lc (e : IE) (own : List Nat) (tg : IG) (it : II) (t : IT)
inductive IA where
  | nil | cons (e : IE) (l : IA)
inductive IO where
  | no | some (e : IE)
inductive IT where
  | yes | no (t : IT) | an (l : ITs) | orr (l : ITs) | ife (t u v : IT) | cmp (o : COp) (a b : IE) | chain (o p : COp) (a b c : IE) | val (e : IE)
inductive ITs where
  | nil | cons (t : IT) (l : ITs)
inductive II where
  | val (e : IE) | rng1 (a : IE) | rng2 (a b : IE) | enum (a : IE) | zip (a b : IE)
inductive IG where
  | v (i : Nat) | tup (l : IGs) | sub (o i : IE)
inductive IGs where
  | nil | cons (t : IG) (l : IGs)
end
mutual
inductive IS where
  | set (i : Nat) (e : IE) | par (i j : Nat) (a b : IE) | asg (tg : IG) (e : IE) | ex (e : IE) | ret (e : IE) | retN
  | ife (t : IT) (a b : IB) | whl (t : IT) (b : IB) | fr (tg : IG) (it : II) (b : IB)
  | rse (c : Nat) | tr (b : IB) (h : IH) | pass | brk | cont
inductive IB where
  | nil | cons (s : IS) (b : IB)
/-- except class c (of n) as slot nm: slot i = [text, isinstance(slot nm, another class)] -/
inductive IH where
  | nil | cons (n c nm i : Nat) (s : List Nat) (b : Bool) (h : IH)
end

/-! ### meaning -/
/-- what a call does: the number of the def, the arguments -/
abbrev CF := Nat → List D → G → R D
abbrev EK := CF → St → G → R D
abbrev AK := CF → St → G → R (List D)
abbrev OK := CF → St → G → R (Option Int)
abbrev TK := CF → St → G → R Bool
abbrev GK := CF → D → St → G → R St
abbrev GsK := CF → List D → St → G → R St
/-- a walk: at turn i nothing more, or an item -/
abbrev Wk := Nat → G → R (Option D)
abbrev IK := CF → St → G → R Wk
abbrev SK := CF → St → G → RS

def sget (σ : St) (i : Nat) (k : D → R D) : R D := lget σ i .stuck fun d => match d with
  | .und => .stuck
  | .non => k .non
  | .bl b => k (.bl b)
  | .int i => k (.int i)
  | .str s => k (.str s)
  | .tup p xs => k (.tup p xs)
  | .ref a => k (.ref a)
  | .fn n => k (.fn n)
  | .cl n => k (.cl n)
def eC (d : D) : EK := fun _ _ g => .ok d g
def eV (i : Nat) : EK := fun _ σ g => sget σ i fun d => .ok d g
def eBin (o : BOp) (a b : EK) : EK := fun Γ σ g => (a Γ σ g).bind fun x g => (b Γ σ g).bind fun y g => oBin o x y g
def eNeg (a : EK) : EK := fun Γ σ g => (a Γ σ g).bind oNeg
def eCmp (o : COp) (a b : EK) : EK := fun Γ σ g => (a Γ σ g).bind fun x g => (b Γ σ g).bind fun y g => oCmp o x y g
def thenBl (r : R D) (k : G → R D) : R D := r.bind fun d g => match d with
  | .bl c => (match c with
    | true => k g
    | false => .ok (.bl false) g)
  | _ => .stuck
def eChain (o p : COp) (a b c : EK) : EK := fun Γ σ g => (a Γ σ g).bind fun x g => (b Γ σ g).bind fun y g => thenBl (oCmp o x y g) fun g => (c Γ σ g).bind fun z g => oCmp p y z g
/-- x and .., x or ..: the first one's truth decides -/
def eAnd (a b : EK) : EK := fun Γ σ g => (a Γ σ g).bind fun x g => tru x g .stuck fun t => match t with
  | true => b Γ σ g
  | false => .ok x g
def eOr (a b : EK) : EK := fun Γ σ g => (a Γ σ g).bind fun x g => tru x g .stuck fun t => match t with
  | true => .ok x g
  | false => b Γ σ g
def eStuck : EK := fun _ _ _ => .stuck
def eNot (a : EK) : EK := fun Γ σ g => (a Γ σ g).bind fun x g => tru x g .stuck fun t => match t with
  | true => .ok (.bl false) g
  | false => .ok (.bl true) g
def eIf (t : TK) (a b : EK) : EK := fun Γ σ g => (t Γ σ g).bind fun c g => match c with
  | true => a Γ σ g
  | false => b Γ σ g
def eCall (f : Nat) (l : AK) : EK := fun Γ σ g => (l Γ σ g).bind fun vs g => Γ f vs g
def eCallv (i : Nat) (l : AK) : EK := fun Γ σ g => sget σ i fun d => match d with
  | .fn f => (l Γ σ g).bind fun vs g => Γ f vs g
  | _ => .stuck
def eBi (b : Bi) (a : EK) : EK := fun Γ σ g => (a Γ σ g).bind fun x g => bi1 b x g
def eIsi (a : EK) (t : Ty) : EK := fun Γ σ g => (a Γ σ g).bind fun x g => isTy g x t .stuck fun b => .ok (.bl b) g
def eIsi2 (a : EK) (t u : Ty) : EK := fun Γ σ g => (a Γ σ g).bind fun x g => isTy g x t .stuck fun b => match b with
  | true => .ok (.bl true) g
  | false => isTy g x u .stuck fun c => .ok (.bl c) g
def eMt (m : Mt) (o : EK) (l : AK) : EK := fun Γ σ g => (o Γ σ g).bind fun x g => recv m x g ((l Γ σ g).bind fun vs g => oMt m x vs g)
def eIx (a b : EK) : EK := fun Γ σ g => (a Γ σ g).bind fun x g => (b Γ σ g).bind fun y g => oIx x y g
def eSl (a : EK) (lo hi : OK) : EK := fun Γ σ g => (a Γ σ g).bind fun x g => (lo Γ σ g).bind fun l g => (hi Γ σ g).bind fun h g => oSl x l h g
def eTup (l : AK) : EK := fun Γ σ g => (l Γ σ g).bind fun vs g => llen vs fun n => match Nat.ble n lim with
  | true => .ok (.tup true vs) g
  | false => .stuck
def eLst (l : AK) : EK := fun Γ σ g => (l Γ σ g).bind fun vs g => rList vs g
def eDnew : EK := fun _ _ g => rNew (.dct false 0 []) g
def aNil : AK := fun _ _ g => .ok [] g
def aCons (e : EK) (l : AK) : AK := fun Γ σ g => (e Γ σ g).bind fun x g => (l Γ σ g).bind fun xs g => .ok (x :: xs) g
def oNo : OK := fun _ _ g => .ok none g
def oSome (e : EK) : OK := fun Γ σ g => (e Γ σ g).bind fun x g => match x with
  | .int i => .ok (some i) g
  | _ => .stuck
def tStuck : TK := fun _ _ _ => .stuck
def tYes : TK := fun _ _ g => .ok true g
def tNo (t : TK) : TK := fun Γ σ g => (t Γ σ g).bind fun c g => match c with
  | true => .ok false g
  | false => .ok true g
def tAn (t u : TK) : TK := fun Γ σ g => (t Γ σ g).bind fun c g => match c with
  | true => u Γ σ g
  | false => .ok false g
def tOr (t u : TK) : TK := fun Γ σ g => (t Γ σ g).bind fun c g => match c with
  | true => .ok true g
  | false => u Γ σ g
def tIf (t u v : TK) : TK := fun Γ σ g => (t Γ σ g).bind fun c g => match c with
  | true => u Γ σ g
  | false => v Γ σ g
def asBl (r : R D) : R Bool := r.bind fun d g => match d with
  | .bl b => .ok b g
  | _ => .stuck
def tCmp (o : COp) (a b : EK) : TK := fun Γ σ g => asBl (eCmp o a b Γ σ g)
def tChain (o p : COp) (a b c : EK) : TK := fun Γ σ g => asBl (eChain o p a b c Γ σ g)
def tVal (e : EK) : TK := fun Γ σ g => (e Γ σ g).bind fun x g => tru x g .stuck fun b => .ok b g
/-! walks -/
def wTup (xs : List D) : Wk := fun i g => lget xs i (.ok none g) fun d => .ok (some d) g
def wStr (s : List Nat) : Wk := fun i g => lget s i (.ok none g) fun c => .ok (some (.str [c])) g
/-- the list as it stands at each turn -/
def wLst (a : Nat) : Wk := fun i g => g.nth a i .stuck (.ok none g) fun d => .ok (some d) g
def wRng (lo : Int) (n : Nat) : Wk := fun i g => match Nat.blt i n with
  | true => fInt (Int.add lo (.ofNat i)) fun r => .ok (some (.int r)) g
  | false => .ok none g
/-- with their numbers -/
def wEnum (a : Nat) : Wk := fun i g => g.nth a i .stuck (.ok none g) fun d => .ok (some (.tup false [.int (.ofNat i), d])) g
def wZipL (a b : Nat) : Wk := fun i g => g.nth a i .stuck (g.nth b i .stuck (.ok none g) fun _ => .ok none g) fun d => g.nth b i .stuck (.ok none g) fun q => .ok (some (.tup false [d, q])) g
def wZipT (xs ys : List D) : Wk := fun i g => lget xs i (.ok none g) fun d => lget ys i (.ok none g) fun q => .ok (some (.tup false [d, q])) g
/-- bounds of ranges -/
def okRng (i : Int) : Bool := match i with
  | .ofNat n => Nat.blt n 4611686018427387904
  | .negSucc n => Nat.blt n 4611686018427387903
def toNatI (i : Int) : Nat := match i with
  | .ofNat n => n
  | .negSucc _ => 0
def iVal (e : EK) : IK := fun Γ σ g => (e Γ σ g).bind fun x g => match x with
  | .tup _ xs => .ok (wTup xs) g
  | .str s => .ok (wStr s) g
  | .ref a => g.list a .stuck fun _ _ => .ok (wLst a) g
  | _ => .stuck
def iRng1 (a : EK) : IK := fun Γ σ g => (a Γ σ g).bind fun x g => match x with
  | .int j => (match okRng j with
    | true => fNat (toNatI j) fun n => .ok (wRng 0 n) g
    | false => .stuck)
  | _ => .stuck
def iRng2 (a b : EK) : IK := fun Γ σ g => (a Γ σ g).bind fun x g => (b Γ σ g).bind fun y g => match x with
  | .int i => (match y with
    | .int j => (match okRng i with
      | true => (match okRng j with
        | true => fNat (toNatI (Int.sub j i)) fun n => .ok (wRng i n) g
        | false => .stuck)
      | false => .stuck)
    | _ => .stuck)
  | _ => .stuck
def iEnum (a : EK) : IK := fun Γ σ g => (a Γ σ g).bind fun x g => match x with
  | .ref a => g.list a .stuck fun _ _ => .ok (wEnum a) g
  | _ => .stuck
def iZip (a b : EK) : IK := fun Γ σ g => (a Γ σ g).bind fun x g => (b Γ σ g).bind fun y g => match x with
  | .ref a => (match y with
    | .ref b => g.list a .stuck fun _ _ => g.list b .stuck fun _ _ => .ok (wZipL a b) g
    | _ => .stuck)
  | .tup _ xs => (match y with
    | .tup _ ys => .ok (wZipT xs ys) g
    | _ => .stuck)
  | _ => .stuck
/-! targets -/
def gV (i : Nat) : GK := fun _ d σ g => lset σ i d fun σ' => .ok σ' g
def gTup (n : Nat) (l : GsK) : GK := fun Γ d σ g => match d with
  | .tup _ xs => llen xs fun m => match Nat.beq m n with
    | true => l Γ xs σ g
    | false => .stuck
  | _ => .stuck
def gSub (o i : EK) : GK := fun Γ d σ g => (o Γ σ g).bind fun x g => (i Γ σ g).bind fun y g => oSet x y d g .stuck fun g => .ok σ g
def gNil : GsK := fun _ ds σ g => match ds with
  | [] => .ok σ g
  | _ :: _ => .stuck
def gCons (t : GK) (l : GsK) : GsK := fun Γ ds σ g => match ds with
  | d :: r => (t Γ d σ g).bind fun σ g => l Γ r σ g
  | [] => .stuck
/-! comprehensions -/
/-- so many turns at most: a number that no loop here comes near -/
abbrev turns : Nat := 1000000
def wipeD (σ : St) (vs : List Nat) : St := List.rec (motive := fun _ => St) σ (fun v _ r => lset r v .und id) vs
/-- one more at the end of the list at a -/
def push1 {α : Type} (a : Nat) (d : D) (g : G) (e : α) (k : G → α) : α := g.look a e fun c => match c with
  | .lst n xs => (match Nat.blt n lim with
    | true => fNat (Nat.succ n) fun n' => g.upd a (.lst n' (d :: xs)) e k
    | false => e)
  | _ => e
def lcLoop (w : Wk) (tg : GK) (t : TK) (e : EK) (Γ : CF) (σ : St) (a : Nat) (m : Nat) : Nat → G → R D :=
  Nat.rec (motive := fun _ => Nat → G → R D) (fun _ _ => .stuck) (fun _ ih i g => (w i g).bind fun o g => match o with
    | none => .ok (.ref a) g
    | some d => (tg Γ d σ g).bind fun σ2 g => (t Γ σ2 g).bind fun b g => match b with
      | true => (e Γ σ2 g).bind fun y g => push1 a y g .stuck fun g => fNat (Nat.succ i) fun j => ih j g
      | false => fNat (Nat.succ i) fun j => ih j g) m
/-- what is raised within is not followed -/
def noExc {α : Type} (r : R α) : R α := match r with
  | .ok a g => .ok a g
  | .exc _ _ _ => .stuck
  | .stuck => .stuck
def eLc (e : EK) (own : List Nat) (tg : GK) (it : IK) (t : TK) : EK := fun Γ σ g => (it Γ σ g).bind fun w g => g.new (.lst 0 []) .stuck fun a g => noExc (lcLoop w tg t e Γ (wipeD σ own) a turns 0 g)

/-! statements -/
def R.st (r : R D) (σ : St) (k : D → G → RS) : RS := match r with
  | .ok a g => k a g
  | .exc c p g => .exc c p σ g
  | .stuck => .stuck
def R.stT (r : R Bool) (σ : St) (k : Bool → G → RS) : RS := match r with
  | .ok a g => k a g
  | .exc c p g => .exc c p σ g
  | .stuck => .stuck
def R.stA (r : R (List D)) (σ : St) (k : List D → G → RS) : RS := match r with
  | .ok a g => k a g
  | .exc c p g => .exc c p σ g
  | .stuck => .stuck
/-- a target raises nothing here -/
def R.stG (r : R St) (k : St → G → RS) : RS := match r with
  | .ok a g => k a g
  | .exc _ _ _ => .stuck
  | .stuck => .stuck
def R.stW (r : R Wk) (σ : St) (k : Wk → G → RS) : RS := match r with
  | .ok a g => k a g
  | .exc c p g => .exc c p σ g
  | .stuck => .stuck
def R.stO (r : R (Option D)) (k : Option D → G → RS) : RS := match r with
  | .ok a g => k a g
  | .exc _ _ _ => .stuck
  | .stuck => .stuck
def RS.seq (r : RS) (k : St → G → RS) : RS := match r with
  | .nx σ g => k σ g
  | .rt d g => .rt d g
  | .bk σ g => .bk σ g
  | .ct σ g => .ct σ g
  | .exc c p σ g => .exc c p σ g
  | .stuck => .stuck
/-- behind a loop's body: on, or out -/
def RS.lap (r : RS) (k : St → G → RS) : RS := match r with
  | .nx σ g => k σ g
  | .ct σ g => k σ g
  | .bk σ g => .nx σ g
  | .rt d g => .rt d g
  | .exc c p σ g => .exc c p σ g
  | .stuck => .stuck
def sSet (i : Nat) (e : EK) : SK := fun Γ σ g => (e Γ σ g).st σ fun d g => lset σ i d fun σ' => .nx σ' g
def sPar (i j : Nat) (a b : EK) : SK := fun Γ σ g => (a Γ σ g).st σ fun x g => (b Γ σ g).st σ fun y g => lset σ i x fun σ1 => lset σ1 j y fun σ2 => .nx σ2 g
def sAsg (tg : GK) (e : EK) : SK := fun Γ σ g => (e Γ σ g).st σ fun d g => (tg Γ d σ g).stG fun σ' g => .nx σ' g
def sEx (e : EK) : SK := fun Γ σ g => (e Γ σ g).st σ fun _ g => .nx σ g
def sRet (e : EK) : SK := fun Γ σ g => (e Γ σ g).st σ fun d g => .rt d g
def sRetN : SK := fun _ _ g => .rt .non g
def sIf (t : TK) (a b : SK) : SK := fun Γ σ g => (t Γ σ g).stT σ fun c g => match c with
  | true => a Γ σ g
  | false => b Γ σ g
def whlLoop (t : TK) (b : SK) (Γ : CF) (m : Nat) : St → G → RS :=
  Nat.rec (motive := fun _ => St → G → RS) (fun _ _ => .stuck) (fun _ ih σ g => (t Γ σ g).stT σ fun c g => match c with
    | true => (b Γ σ g).lap ih
    | false => .nx σ g) m
def sWhl (t : TK) (b : SK) : SK := fun Γ σ g => whlLoop t b Γ turns σ g
def forLoop (w : Wk) (tg : GK) (b : SK) (Γ : CF) (m : Nat) : Nat → St → G → RS :=
  Nat.rec (motive := fun _ => Nat → St → G → RS) (fun _ _ _ => .stuck) (fun _ ih i σ g => (w i g).stO fun o g => match o with
    | none => .nx σ g
    | some d => (tg Γ d σ g).stG fun σ g => (b Γ σ g).lap fun σ g => fNat (Nat.succ i) fun j => ih j σ g) m
def sFor (tg : GK) (it : IK) (b : SK) : SK := fun Γ σ g => (it Γ σ g).stW σ fun w g => forLoop w tg b Γ turns 0 σ g
def sRse (c : Nat) : SK := fun _ σ g => .exc c .non σ g
def sPass : SK := fun _ σ g => .nx σ g
def sBrk : SK := fun _ σ g => .bk σ g
def sCont : SK := fun _ σ g => .ct σ g
/-- what the clauses do with a raised class c -/
abbrev HK := CF → Nat → D → St → G → RS
def hNil : HK := fun _ c p σ g => .exc c p σ g
/-- except class c' (of n) as slot nm: slot i = [text, yes or no]; the name goes behind it -/
def hCons (n c' nm i : Nat) (s : List Nat) (b : Bool) (h : HK) : HK := fun Γ c p σ g => match Nat.blt c n with
  | true => (match Nat.beq c c' with
    | true => (rList [.str s, .bl b] g).st σ fun d g => lset σ i d fun σ1 => lget σ1 nm .stuck fun _ => lset σ1 nm .und fun σ2 => .nx σ2 g
    | false => h Γ c p σ g)
  | false => .stuck
def sTr (b : SK) (h : HK) : SK := fun Γ σ g => match b Γ σ g with
  | .exc c p σ1 g1 => h Γ c p σ1 g1
  | .nx σ g => .nx σ g
  | .rt d g => .rt d g
  | .bk σ g => .bk σ g
  | .ct σ g => .ct σ g
  | .stuck => .stuck
def bNil : SK := fun _ σ g => .nx σ g
def bCons (s b : SK) : SK := fun Γ σ g => (s Γ σ g).seq fun σ g => b Γ σ g
def bOne (s : SK) : SK := s

mutual
def denE (gv : Nat → D) : IE → EK
  | .c d => eC d
  | .v i => eV i
  | .g x => eC (gv x)
  | .bin o a b => eBin o (denE gv a) (denE gv b)
  | .neg a => eNeg (denE gv a)
  | .cmp o a b => eCmp o (denE gv a) (denE gv b)
  | .chain o p a b c => eChain o p (denE gv a) (denE gv b) (denE gv c)
  | .an l => denAn gv l
  | .orr l => denOr gv l
  | .nt a => eNot (denE gv a)
  | .ife t a b => eIf (denT gv t) (denE gv a) (denE gv b)
  | .call f l => eCall f (denA gv l)
  | .callv i l => eCallv i (denA gv l)
  | .bi b a => eBi b (denE gv a)
  | .isi a t => eIsi (denE gv a) t
  | .isi2 a t u => eIsi2 (denE gv a) t u
  | .mtA o a => eMt .append (denE gv o) (aCons (denE gv a) aNil)
  | .mtX o a => eMt .extend (denE gv o) (aCons (denE gv a) aNil)
  | .mtP o => eMt .pop (denE gv o) aNil
  | .mtG o a => eMt .get1 (denE gv o) (aCons (denE gv a) aNil)
  | .mtH o a b => eMt .get2 (denE gv o) (aCons (denE gv a) (aCons (denE gv b) aNil))
  | .ix a b => eIx (denE gv a) (denE gv b)
  | .sl a lo hi => eSl (denE gv a) (denO gv lo) (denO gv hi)
  | .tup l => eTup (denA gv l)
  | .lst l => eLst (denA gv l)
  | .dnew => eDnew
  | .lc e own tg it t => eLc (denE gv e) own (denG gv tg) (denI gv it) (denT gv t)
def denA (gv : Nat → D) : IA → AK
  | .nil => aNil
  | .cons e l => aCons (denE gv e) (denA gv l)
/-- the parts of an and, of an or: the last one is itself -/
def denAn (gv : Nat → D) : IA → EK
  | .nil => eStuck
  | .cons e l => denAn1 gv (denE gv e) l
def denAn1 (gv : Nat → D) (e : EK) : IA → EK
  | .nil => e
  | .cons a l => eAnd e (denAn1 gv (denE gv a) l)
def denOr (gv : Nat → D) : IA → EK
  | .nil => eStuck
  | .cons e l => denOr1 gv (denE gv e) l
def denOr1 (gv : Nat → D) (e : EK) : IA → EK
  | .nil => e
  | .cons a l => eOr e (denOr1 gv (denE gv a) l)
def denO (gv : Nat → D) : IO → OK
  | .no => oNo
  | .some e => oSome (denE gv e)
def denT (gv : Nat → D) : IT → TK
  | .yes => tYes
  | .no t => tNo (denT gv t)
  | .an l => denTan gv l
  | .orr l => denTor gv l
  | .ife t u v => tIf (denT gv t) (denT gv u) (denT gv v)
  | .cmp o a b => tCmp o (denE gv a) (denE gv b)
  | .chain o p a b c => tChain o p (denE gv a) (denE gv b) (denE gv c)
  | .val e => tVal (denE gv e)
def denTan (gv : Nat → D) : ITs → TK
  | .nil => tStuck
  | .cons t l => denTan1 gv (denT gv t) l
def denTan1 (gv : Nat → D) (t : TK) : ITs → TK
  | .nil => t
  | .cons a l => tAn t (denTan1 gv (denT gv a) l)
def denTor (gv : Nat → D) : ITs → TK
  | .nil => tStuck
  | .cons t l => denTor1 gv (denT gv t) l
def denTor1 (gv : Nat → D) (t : TK) : ITs → TK
  | .nil => t
  | .cons a l => tOr t (denTor1 gv (denT gv a) l)
def denI (gv : Nat → D) : II → IK
  | .val e => iVal (denE gv e)
  | .rng1 a => iRng1 (denE gv a)
  | .rng2 a b => iRng2 (denE gv a) (denE gv b)
  | .enum a => iEnum (denE gv a)
  | .zip a b => iZip (denE gv a) (denE gv b)
def denG (gv : Nat → D) : IG → GK
  | .v i => gV i
  | .tup l => gTup (lenG l) (denGs gv l)
  | .sub o i => gSub (denE gv o) (denE gv i)
def denGs (gv : Nat → D) : IGs → GsK
  | .nil => gNil
  | .cons t l => gCons (denG gv t) (denGs gv l)
def lenG : IGs → Nat
  | .nil => 0
  | .cons _ l => lenG l + 1
end
mutual
def denS (gv : Nat → D) : IS → SK
  | .set i e => sSet i (denE gv e)
  | .par i j a b => sPar i j (denE gv a) (denE gv b)
  | .asg tg e => sAsg (denG gv tg) (denE gv e)
  | .ex e => sEx (denE gv e)
  | .ret e => sRet (denE gv e)
  | .retN => sRetN
  | .ife t a b => sIf (denT gv t) (denB gv a) (denB gv b)
  | .whl t b => sWhl (denT gv t) (denB gv b)
  | .fr tg it b => sFor (denG gv tg) (denI gv it) (denB gv b)
  | .rse c => sRse c
  | .tr b h => sTr (denB gv b) (denH gv h)
  | .pass => sPass
  | .brk => sBrk
  | .cont => sCont
def denB (gv : Nat → D) : IB → SK
  | .nil => bNil
  | .cons s b => bCons (denS gv s) (denB gv b)
def denH (gv : Nat → D) : IH → HK
  | .nil => hNil
  | .cons n c nm i s b h => hCons n c nm i s b (denH gv h)
end

/-! ### defs -/
structure Fn where
  ps : Nat      -- parameters
  ns : Nat      -- slots
  pu : Bool     -- to be run by itself where its arguments hold no list and no dict
  body : SK
def startD (f : Fn) (vs : List D) : St := lapp vs (reps (f.ns - f.ps) [.und]) id
def endD (r : RS) : R D := match r with
  | .nx _ g => .ok .non g
  | .rt d g => .ok d g
  | .exc c p _ g => .exc c p g
  | .bk _ _ => .stuck
  | .ct _ _ => .stuck
  | .stuck => .stuck
def runFn (f : Fn) (Γ : CF) (vs : List D) (g : G) : R D := llen vs fun n => match Nat.beq n f.ps with
  | true => endD (f.body Γ (startD f vs) g)
  | false => .stuck
/-- a tree of defs by their numbers -/
inductive FT where
  | nil | node (l : FT) (v : Fn) (r : FT)
def FT.get {α : Type} (t : FT) (i : Nat) (e : α) (k : Fn → α) : α :=
  FT.rec (motive := fun _ => Nat → α) (fun _ => e) (fun _ v _ ihl ihr i => Nat.rec (motive := fun _ => α) (k v) (fun j _ => match Nat.beq (Nat.mod j 2) 0 with
    | true => ihl (Nat.div j 2)
    | false => ihr (Nat.div j 2)) i) t i
def FT.at? (t : FT) (i : Nat) : Option Fn := t.get i none some
/-- no list, no dict within; of defs only such as pf tells -/
def purD (pf : Nat → Bool) (d : D) : Bool := D.rec (motive_1 := fun _ => Bool) (motive_2 := fun _ => Bool) false true (fun _ => true) (fun _ => true) (fun _ => true) (fun _ _ ih => ih) (fun _ => false) pf (fun _ => true) true (fun _ _ ih il => Bool.rec (motive := fun _ => Bool) false il ih) d
def purL (pf : Nat → Bool) (ds : List D) : Bool := List.rec (motive := fun _ => Bool) true (fun d _ ih => Bool.rec (motive := fun _ => Bool) false ih (purD pf d)) ds
def pfOf (T : FT) (n : Nat) : Bool := Option.rec (motive := fun _ => Bool) false (fun fn => fn.pu) (T.at? n)
/-- what a call by itself leaves: the caller's heap as it was -/
def dropR (pf : Nat → Bool) (r : R D) (g : G) : R D := R.rec (motive := fun _ => R D) (fun d _ => Bool.rec (motive := fun _ => R D) .stuck (.ok d g) (purD pf d)) (fun c p _ => .exc c p g) .stuck r
def callFn (pf : Nat → Bool) (fn : Fn) (Γ : CF) (vs : List D) (g : G) : R D := Bool.rec (motive := fun _ => R D) (runFn fn Γ vs g) (Bool.rec (motive := fun _ => R D) (runFn fn Γ vs g) (dropR pf (runFn fn Γ vs ⟨0, .nil⟩) g) (purL pf vs)) fn.pu
/-- calls, so many deep at most; the def is looked up by a closed term, which the kernel keeps -/
def callN (T : FT) (k : Nat) : CF := Nat.rec (motive := fun _ => CF) (fun _ _ _ => .stuck) (fun _ Γ f vs g => Option.rec (motive := fun _ => R D) .stuck (fun fn => callFn (pfOf T) fn Γ vs g) (T.at? f)) k
end
end Mini
/-! MiniV: the same meaning, quicker in the kernel: continuations, recursors. -/
namespace Mini
noncomputable section

/-! look and put in one descent -/
def Tr.mod {α : Type} (t : Tr) (i : Nat) (f : Cell → (Cell → α) → α) (e : α) (k : Tr → α) : α :=
  Tr.rec (motive := fun _ => Nat → (Tr → α) → α) (fun _ _ => e) (fun l v r ihl ihr i k => Nat.rec (motive := fun _ => α) (f v fun c => k (.node l c r)) (fun j _ => Bool.rec (motive := fun _ => α) (ihr (Nat.div j 2) fun r' => k (.node l v r')) (ihl (Nat.div j 2) fun l' => k (.node l' v r)) (Nat.beq (Nat.mod j 2) 0)) i) t i k
theorem Tr.mod_eq {α : Type} (t : Tr) (i : Nat) (f : Cell → (Cell → α) → α) (e : α) (k : Tr → α) : t.mod i f e k = t.get i e fun v => f v fun c => t.put i c e k := by
  induction t generalizing i k with
  | nil => rfl
  | node l v r ihl ihr =>
    cases i with
    | zero => rfl
    | succ j =>
      show (sel (Nat.beq (Nat.mod j 2) 0) (l.mod (Nat.div j 2) f e fun l' => k (.node l' v r)) (r.mod (Nat.div j 2) f e fun r' => k (.node l v r'))) = (sel (Nat.beq (Nat.mod j 2) 0) (l.get (Nat.div j 2) e fun w => f w fun c => (Tr.node l v r).put (j + 1) c e k) (r.get (Nat.div j 2) e fun w => f w fun c => (Tr.node l v r).put (j + 1) c e k))
      have hp : ∀ c, (Tr.node l v r).put (j + 1) c e k = sel (Nat.beq (Nat.mod j 2) 0) (l.put (Nat.div j 2) c e fun l' => k (.node l' v r)) (r.put (Nat.div j 2) c e fun r' => k (.node l v r')) := fun c => rfl
      simp only [hp]
      cases Nat.beq (Nat.mod j 2) 0
      · exact ihr _ _
      · exact ihl _ _
abbrev EX := Nat → D → G → RS
/-- a result handed on -/
def fin {α : Type} (r : R α) (x : EX) (k : α → G → RS) : RS := R.rec (motive := fun _ => RS) (fun a g => k a g) (fun c p g => x c p g) .stuck r
theorem fin_bind {α β : Type} (r : R α) (f : α → G → R β) (x : EX) (k : β → G → RS) : fin (r.bind f) x k = fin r x fun a g => fin (f a g) x k := by cases r <;> rfl
abbrev VE := CF → St → G → EX → (D → G → RS) → RS
abbrev VA := CF → St → G → EX → (List D → G → RS) → RS
abbrev VO := CF → St → G → EX → (Option Int → G → RS) → RS
abbrev VT := CF → St → G → EX → (G → RS) → (G → RS) → RS
abbrev VI := CF → St → G → EX → (Wk → G → RS) → RS
abbrev VG := CF → D → St → G → (St → G → RS) → RS
abbrev VGs := CF → List D → St → G → (St → G → RS) → RS
abbrev VS := CF → St → G → (St → G → RS) → RS
abbrev VH := CF → Nat → D → St → G → (St → G → RS) → RS
def xs0 : EX := fun _ _ _ => .stuck
def exS (σ : St) : EX := fun c p g => .exc c p σ g
def cnd (b : Bool) (t f : RS) : RS := Bool.rec (motive := fun _ => RS) f t b
structure OkE (m : VE) (e : EK) : Prop where
  eq : ∀ Γ σ g x k, m Γ σ g x k = fin (e Γ σ g) x k
structure OkA (m : VA) (e : AK) : Prop where
  eq : ∀ Γ σ g x k, m Γ σ g x k = fin (e Γ σ g) x k
structure OkO (m : VO) (e : OK) : Prop where
  eq : ∀ Γ σ g x k, m Γ σ g x k = fin (e Γ σ g) x k
structure OkI (m : VI) (e : IK) : Prop where
  eq : ∀ Γ σ g x k, m Γ σ g x k = fin (e Γ σ g) x k
structure OkT (m : VT) (t : TK) : Prop where
  eq : ∀ Γ σ g x kt kf, m Γ σ g x kt kf = fin (t Γ σ g) x fun b g => cnd b (kt g) (kf g)
structure OkG (m : VG) (t : GK) : Prop where
  eq : ∀ Γ d σ g k, m Γ d σ g k = fin (t Γ d σ g) xs0 k
structure OkGs (m : VGs) (t : GsK) : Prop where
  eq : ∀ Γ d σ g k, m Γ d σ g k = fin (t Γ d σ g) xs0 k
structure OkS (m : VS) (s : SK) : Prop where
  eq : ∀ Γ σ g n, m Γ σ g n = (s Γ σ g).seq n
structure OkH (m : VH) (s : HK) : Prop where
  eq : ∀ Γ c p σ g n, m Γ c p σ g n = (s Γ c p σ g).seq n

/-! values -/
def vget (σ : St) (i : Nat) (k : D → RS) : RS := lget σ i .stuck fun d =>
  D.rec (motive_1 := fun _ => RS) (motive_2 := fun _ => RS) .stuck (k d) (fun _ => k d) (fun _ => k d) (fun _ => k d) (fun _ _ _ => k d) (fun _ => k d) (fun _ => k d) (fun _ => k d) .stuck (fun _ _ _ _ => .stuck) d
theorem vget_eq (σ : St) (i : Nat) (f : D → R D) (x : EX) (k : D → G → RS) : (vget σ i fun d => fin (f d) x k) = fin (sget σ i f) x k := by
  unfold vget sget
  rw [lget_eq, lget_eq]
  cases σ[i]? with
  | none => rfl
  | some d => cases d <;> rfl
def vC (d : D) : VE := fun _ _ g _ k => k d g
def vV (i : Nat) : VE := fun _ σ g _ k => vget σ i fun d => k d g
theorem vC_ok (d : D) : OkE (vC d) (eC d) := ⟨fun _ _ _ _ _ => rfl⟩
theorem vV_ok (i : Nat) : OkE (vV i) (eV i) := ⟨fun Γ σ g x k => vget_eq σ i (fun d => .ok d g) x k⟩
/-! ints -/
def iAdd (i j : Int) (k : Int → RS) : RS := Int.rec (motive := fun _ => RS) (fun m => Int.rec (motive := fun _ => RS) (fun n => fNat (Nat.add m n) fun r => k (.ofNat r)) (fun _ => fInt (Int.add i j) k) j) (fun _ => fInt (Int.add i j) k) i
theorem iAdd_eq (i j : Int) (k : Int → RS) : iAdd i j k = fInt (Int.add i j) k := by
  cases i with
  | ofNat m => cases j with
    | ofNat n =>
      show fNat (Nat.add m n) (fun r => k (.ofNat r)) = _
      rw [fNat_eq, fInt_eq]; rfl
    | negSucc n => rfl
  | negSucc m => rfl
/-- by a value's shape: an int, else -/
def asInt (x : D) (k : Int → RS) (e : RS) : RS := D.rec (motive_1 := fun _ => RS) (motive_2 := fun _ => RS) e e (fun _ => e) (fun i => k i) (fun _ => e) (fun _ _ _ => e) (fun _ => e) (fun _ => e) (fun _ => e) e (fun _ _ _ _ => e) x
def vAdd (p q : D) (g : G) (x : EX) (k : D → G → RS) : RS := asInt p (fun i => asInt q (fun j => iAdd i j fun r => k (.int r) g) .stuck) (fin (oAdd p q g) x k)
theorem vAdd_eq (p q : D) (g : G) (x : EX) (k : D → G → RS) : vAdd p q g x k = fin (oAdd p q g) x k := by
  cases p with
  | int i =>
    cases q with
    | int j =>
      show iAdd i j (fun r => k (.int r) g) = fin (rInt (Int.add i j) g) x k
      rw [iAdd_eq]
      unfold rInt
      rw [fInt_eq, fInt_eq]; rfl
    | _ => rfl
  | _ => rfl
def vOp (o : BOp) (p q : D) (g : G) (x : EX) (k : D → G → RS) : RS := BOp.rec (motive := fun _ => RS) (vAdd p q g x k) (fin (oSub p q g) x k) (fin (oMul p q g) x k) (fin (oDiv p q g) x k) (fin (oMod p q g) x k) (fin (oPow p q g) x k) o
theorem vOp_eq (o : BOp) (p q : D) (g : G) (x : EX) (k : D → G → RS) : vOp o p q g x k = fin (oBin o p q g) x k := by
  cases o with
  | add => exact vAdd_eq p q g x k
  | _ => rfl
def vBin (o : BOp) (a b : VE) : VE := fun Γ σ g x k => a Γ σ g x fun p g => b Γ σ g x fun q g => vOp o p q g x k
theorem vBin_ok (o : BOp) {a b : VE} {c d : EK} (ha : OkE a c) (hb : OkE b d) : OkE (vBin o a b) (eBin o c d) := ⟨fun Γ σ g x k => by
  unfold vBin eBin
  simp only [ha.eq, hb.eq, fin_bind, vOp_eq]⟩
def vNeg (a : VE) : VE := fun Γ σ g x k => a Γ σ g x fun p g => fin (oNeg p g) x k
theorem vNeg_ok {a : VE} {c : EK} (ha : OkE a c) : OkE (vNeg a) (eNeg c) := ⟨fun Γ σ g x k => by
  unfold vNeg eNeg
  simp only [ha.eq, fin_bind]⟩
/-! comparisons: to two ends -/
def iLt (i j : Int) (t f : RS) : RS := Int.rec (motive := fun _ => RS) (fun m => Int.rec (motive := fun _ => RS) (fun n => cnd (Nat.blt m n) t f) (fun _ => f) j) (fun m => Int.rec (motive := fun _ => RS) (fun _ => t) (fun n => cnd (Nat.blt n m) t f) j) i
theorem iLt_eq (i j : Int) (t f : RS) : iLt i j t f = cnd (ilt i j) t f := by cases i <;> cases j <;> rfl
def dBl (d : D) (t f : RS) : RS := D.rec (motive_1 := fun _ => RS) (motive_2 := fun _ => RS) .stuck .stuck (fun b => cnd b t f) (fun _ => .stuck) (fun _ => .stuck) (fun _ _ _ => .stuck) (fun _ => .stuck) (fun _ => .stuck) (fun _ => .stuck) .stuck (fun _ _ _ _ => .stuck) d
def vRel (o : COp) (p q : D) (g : G) (x : EX) (kt kf : G → RS) : RS := COp.rec (motive := fun _ => RS)
  (fin (oEq p q g) x fun d g => dBl d (kt g) (kf g)) (fin (oNe p q g) x fun d g => dBl d (kt g) (kf g))
  (asInt p (fun i => asInt q (fun j => iLt i j (kt g) (kf g)) .stuck) (fin (oLt p q g) x fun d g => dBl d (kt g) (kf g)))
  (asInt p (fun i => asInt q (fun j => iLt j i (kf g) (kt g)) .stuck) (fin (oLe p q g) x fun d g => dBl d (kt g) (kf g)))
  (asInt q (fun j => asInt p (fun i => iLt j i (kt g) (kf g)) .stuck) (fin (oLt q p g) x fun d g => dBl d (kt g) (kf g)))
  (asInt q (fun j => asInt p (fun i => iLt i j (kf g) (kt g)) .stuck) (fin (oLe q p g) x fun d g => dBl d (kt g) (kf g)))
  (fin (oIs p q g) x fun d g => dBl d (kt g) (kf g)) (fin (oIsNot p q g) x fun d g => dBl d (kt g) (kf g)) (fin (oIn p q g) x fun d g => dBl d (kt g) (kf g)) (fin (oNotIn p q g) x fun d g => dBl d (kt g) (kf g)) o
theorem vRel_eq (o : COp) (p q : D) (g : G) (x : EX) (kt kf : G → RS) : vRel o p q g x kt kf = fin (asBl (oCmp o p q g)) x fun b g => cnd b (kt g) (kf g) := by
  have key : ∀ r : R D, (fin r x fun d g => dBl d (kt g) (kf g)) = fin (asBl r) x fun b g => cnd b (kt g) (kf g) := fun r => by
    cases r with
    | ok d g => cases d <;> rfl
    | exc c p g => rfl
    | stuck => rfl
  cases o with
  | lt =>
    cases p with
    | int i =>
      cases q with
      | int j =>
        show iLt i j (kt g) (kf g) = _
        rw [iLt_eq, ← key]
        show _ = fin (oLt (.int i) (.int j) g) x _
        unfold oLt
        simp only [fBool_eq]
        rfl
      | _ => rfl
    | _ => rw [← key]; rfl
  | le =>
    cases p with
    | int i =>
      cases q with
      | int j =>
        show iLt j i (kf g) (kt g) = _
        rw [iLt_eq, ← key]
        show _ = fin (oLe (.int i) (.int j) g) x _
        unfold oLe
        simp only
        cases ilt j i <;> rfl
      | _ => rfl
    | _ => rw [← key]; rfl
  | gt =>
    cases q with
    | int j =>
      cases p with
      | int i =>
        show iLt j i (kt g) (kf g) = _
        rw [iLt_eq, ← key]
        show _ = fin (oLt (.int j) (.int i) g) x _
        unfold oLt
        simp only [fBool_eq]
        rfl
      | _ => rfl
    | _ => rw [← key]; rfl
  | ge =>
    cases q with
    | int j =>
      cases p with
      | int i =>
        show iLt i j (kf g) (kt g) = _
        rw [iLt_eq, ← key]
        show _ = fin (oLe (.int j) (.int i) g) x _
        unfold oLe
        simp only
        cases ilt i j <;> rfl
      | _ => rfl
    | _ => rw [← key]; rfl
  | eq => exact key _
  | ne => exact key _
  | is_ => exact key _
  | isn => exact key _
  | in_ => exact key _
  | nin => exact key _
def vTCmp (o : COp) (a b : VE) : VT := fun Γ σ g x kt kf => a Γ σ g x fun p g => b Γ σ g x fun q g => vRel o p q g x kt kf
theorem vTCmp_ok (o : COp) {a b : VE} {c d : EK} (ha : OkE a c) (hb : OkE b d) : OkT (vTCmp o a b) (tCmp o c d) := ⟨fun Γ σ g x kt kf => by
  unfold vTCmp tCmp eCmp
  have e : asBl ((c Γ σ g).bind fun x g => (d Γ σ g).bind fun y g => oCmp o x y g) = (c Γ σ g).bind fun x g => (d Γ σ g).bind fun y g => asBl (oCmp o x y g) := by
    cases c Γ σ g with
    | ok a g1 => show asBl ((d Γ σ g1).bind _) = (d Γ σ g1).bind _; cases d Γ σ g1 <;> rfl
    | exc c p g => rfl
    | stuck => rfl
  rw [e]
  simp only [ha.eq, hb.eq, fin_bind, vRel_eq]⟩
def vCmp (o : COp) (a b : VE) : VE := fun Γ σ g x k => a Γ σ g x fun p g => b Γ σ g x fun q g => fin (oCmp o p q g) x k
theorem vCmp_ok (o : COp) {a b : VE} {c d : EK} (ha : OkE a c) (hb : OkE b d) : OkE (vCmp o a b) (eCmp o c d) := ⟨fun Γ σ g x k => by
  unfold vCmp eCmp
  simp only [ha.eq, hb.eq, fin_bind]⟩
end
end Mini
/-! MiniW: MiniV, the rest: tests, calls, loops, statements. -/
namespace Mini
noncomputable section
theorem list_fin {α β : Type} (g : G) (a : Nat) (f : Nat → List D → R α) (x : EX) (k : α → G → RS) : fin (g.list a .stuck f) x k = g.list a RS.stuck fun n xs => fin (f n xs) x k := by
  unfold G.list
  simp only [G.look_eq]
  cases g.at? a with
  | none => rfl
  | some c => cases c <;> simp only [lrev_eq] <;> rfl
theorem tru_fin {α : Type} (d : D) (g : G) (f : Bool → R α) (x : EX) (k : α → G → RS) : fin (tru d g .stuck f) x k = tru d g RS.stuck fun b => fin (f b) x k := by
  unfold tru
  cases d with
  | ref a =>
    simp only [G.look_eq]
    cases g.at? a with
    | none => rfl
    | some c => cases c with
      | lst n xs => cases xs <;> rfl
      | rol n xs => cases xs <;> rfl
      | dct t n kvs => cases kvs <;> rfl
  | int i => simp only; cases ieq i 0 <;> rfl
  | str s =>
    cases s with
    | nil => rfl
    | cons c r => simp only [llen_eq]; cases Nat.ble (c :: r).length lim <;> rfl
  | tup p xs => cases xs <;> rfl
  | bl b => cases b <;> rfl
  | _ => rfl
/-! tests -/
def vTru (d : D) (g : G) (t f : RS) : RS := D.rec (motive_1 := fun _ => RS) (motive_2 := fun _ => RS) .stuck f (fun b => cnd b t f) (fun i => tru (.int i) g .stuck fun b => cnd b t f) (fun s => tru (.str s) g .stuck fun b => cnd b t f) (fun p xs _ => tru (.tup p xs) g .stuck fun b => cnd b t f) (fun a => tru (.ref a) g .stuck fun b => cnd b t f) (fun _ => .stuck) (fun _ => .stuck) .stuck (fun _ _ _ _ => .stuck) d
theorem vTru_eq (d : D) (g : G) (t f : RS) : vTru d g t f = tru d g .stuck fun b => cnd b t f := by
  cases d with
  | bl b => cases b <;> rfl
  | _ => rfl
def vYes : VT := fun _ _ g _ kt _ => kt g
theorem vYes_ok : OkT vYes tYes := ⟨fun _ _ _ _ _ _ => rfl⟩
def vNo (t : VT) : VT := fun Γ σ g x kt kf => t Γ σ g x kf kt
theorem cnd_not (b : Bool) (t f : RS) : cnd (!b) t f = cnd b f t := by cases b <;> rfl
theorem vNo_ok {t : VT} {s : TK} (h : OkT t s) : OkT (vNo t) (tNo s) := ⟨fun Γ σ g x kt kf => by
  unfold vNo tNo
  rw [h.eq, fin_bind]
  congr 1
  funext b g
  cases b <;> rfl⟩
def vTAn (t u : VT) : VT := fun Γ σ g x kt kf => t Γ σ g x (fun g => u Γ σ g x kt kf) kf
theorem vTAn_ok {t u : VT} {s r : TK} (h : OkT t s) (h' : OkT u r) : OkT (vTAn t u) (tAn s r) := ⟨fun Γ σ g x kt kf => by
  unfold vTAn tAn
  rw [h.eq, fin_bind]
  congr 1
  funext b g
  cases b with
  | true => exact h'.eq Γ σ g x kt kf
  | false => rfl⟩
def vTOr (t u : VT) : VT := fun Γ σ g x kt kf => t Γ σ g x kt (fun g => u Γ σ g x kt kf)
theorem vTOr_ok {t u : VT} {s r : TK} (h : OkT t s) (h' : OkT u r) : OkT (vTOr t u) (tOr s r) := ⟨fun Γ σ g x kt kf => by
  unfold vTOr tOr
  rw [h.eq, fin_bind]
  congr 1
  funext b g
  cases b with
  | false => exact h'.eq Γ σ g x kt kf
  | true => rfl⟩
def vTIf (t u v : VT) : VT := fun Γ σ g x kt kf => t Γ σ g x (fun g => u Γ σ g x kt kf) (fun g => v Γ σ g x kt kf)
theorem vTIf_ok {t u v : VT} {s r q : TK} (h : OkT t s) (h' : OkT u r) (h2 : OkT v q) : OkT (vTIf t u v) (tIf s r q) := ⟨fun Γ σ g x kt kf => by
  unfold vTIf tIf
  rw [h.eq, fin_bind]
  congr 1
  funext b g
  cases b with
  | false => exact h2.eq Γ σ g x kt kf
  | true => exact h'.eq Γ σ g x kt kf⟩
def vTVal (e : VE) : VT := fun Γ σ g x kt kf => e Γ σ g x fun d g => vTru d g (kt g) (kf g)
theorem vTVal_ok {e : VE} {c : EK} (h : OkE e c) : OkT (vTVal e) (tVal c) := ⟨fun Γ σ g x kt kf => by
  unfold vTVal tVal
  rw [h.eq, fin_bind]
  congr 1
  funext d g
  rw [vTru_eq, tru_fin]; rfl⟩
theorem asBl_bind {r : R D} {f : D → G → R D} : asBl (r.bind f) = r.bind fun d g => asBl (f d g) := by cases r <;> rfl
theorem thenBl_asBl {r : R D} {f : G → R D} : asBl (thenBl r f) = (asBl r).bind fun b g => match b with | true => asBl (f g) | false => .ok false g := by
  cases r with
  | ok d g => cases d with
    | bl b => cases b <;> rfl
    | _ => rfl
  | _ => rfl
def vTChain (o p : COp) (a b c : VE) : VT := fun Γ σ g x kt kf => a Γ σ g x fun u g => b Γ σ g x fun v g => vRel o u v g x (fun g => c Γ σ g x fun w g => vRel p v w g x kt kf) kf
theorem vTChain_ok (o p : COp) {a b c : VE} {d e f : EK} (ha : OkE a d) (hb : OkE b e) (hc : OkE c f) : OkT (vTChain o p a b c) (tChain o p d e f) := ⟨fun Γ σ g x kt kf => by
  unfold vTChain tChain eChain
  rw [asBl_bind, fin_bind, ha.eq]
  congr 1
  funext u g
  rw [asBl_bind, fin_bind, hb.eq]
  congr 1
  funext v g
  rw [vRel_eq, thenBl_asBl, fin_bind]
  congr 1
  funext b g
  cases b with
  | false => rfl
  | true =>
    show c Γ σ g x _ = _
    rw [hc.eq]
    simp only
    rw [asBl_bind, fin_bind]
    congr 1
    funext w g
    exact vRel_eq p v w g x kt kf⟩
def vChain (o p : COp) (a b c : VE) : VE := fun Γ σ g x k => a Γ σ g x fun u g => b Γ σ g x fun v g => fin (oCmp o u v g) x fun d g => dBl d (c Γ σ g x fun w g => fin (oCmp p v w g) x k) (k (.bl false) g)
theorem vChain_ok (o p : COp) {a b c : VE} {d e f : EK} (ha : OkE a d) (hb : OkE b e) (hc : OkE c f) : OkE (vChain o p a b c) (eChain o p d e f) := ⟨fun Γ σ g x k => by
  unfold vChain eChain thenBl
  rw [fin_bind, ha.eq]
  congr 1
  funext u g
  rw [fin_bind, hb.eq]
  congr 1
  funext v g
  rw [fin_bind]
  congr 1
  funext d g
  cases d with
  | bl b => cases b with
    | true =>
      show c Γ σ g x _ = _
      rw [hc.eq]
      simp only
      rw [fin_bind]
    | false => rfl
  | _ => rfl⟩
/-! and, or, not as values -/
def vAnd (a b : VE) : VE := fun Γ σ g x k => a Γ σ g x fun d g => vTru d g (b Γ σ g x k) (k d g)
theorem vAnd_ok {a b : VE} {c d : EK} (ha : OkE a c) (hb : OkE b d) : OkE (vAnd a b) (eAnd c d) := ⟨fun Γ σ g x k => by
  unfold vAnd eAnd
  rw [fin_bind, ha.eq]
  congr 1
  funext u g
  rw [vTru_eq, tru_fin]
  congr 1
  funext t
  cases t with
  | true => exact hb.eq Γ σ g x k
  | false => rfl⟩
def vOr (a b : VE) : VE := fun Γ σ g x k => a Γ σ g x fun d g => vTru d g (k d g) (b Γ σ g x k)
theorem vOr_ok {a b : VE} {c d : EK} (ha : OkE a c) (hb : OkE b d) : OkE (vOr a b) (eOr c d) := ⟨fun Γ σ g x k => by
  unfold vOr eOr
  rw [fin_bind, ha.eq]
  congr 1
  funext u g
  rw [vTru_eq, tru_fin]
  congr 1
  funext t
  cases t with
  | false => exact hb.eq Γ σ g x k
  | true => rfl⟩
def vNot (a : VE) : VE := fun Γ σ g x k => a Γ σ g x fun d g => vTru d g (k (.bl false) g) (k (.bl true) g)
theorem vNot_ok {a : VE} {c : EK} (ha : OkE a c) : OkE (vNot a) (eNot c) := ⟨fun Γ σ g x k => by
  unfold vNot eNot
  rw [fin_bind, ha.eq]
  congr 1
  funext u g
  rw [vTru_eq, tru_fin]
  congr 1
  funext t
  cases t <;> rfl⟩
def vIf (t : VT) (a b : VE) : VE := fun Γ σ g x k => t Γ σ g x (fun g => a Γ σ g x k) (fun g => b Γ σ g x k)
theorem vIf_ok {t : VT} {s : TK} {a b : VE} {c d : EK} (h : OkT t s) (ha : OkE a c) (hb : OkE b d) : OkE (vIf t a b) (eIf s c d) := ⟨fun Γ σ g x k => by
  unfold vIf eIf
  rw [h.eq, fin_bind]
  congr 1
  funext b g
  cases b with
  | true => exact ha.eq Γ σ g x k
  | false => exact hb.eq Γ σ g x k⟩
/-! arguments -/
def vNil : VA := fun _ _ g _ k => k [] g
theorem vNil_ok : OkA vNil aNil := ⟨fun _ _ _ _ _ => rfl⟩
def vCons (e : VE) (l : VA) : VA := fun Γ σ g x k => e Γ σ g x fun d g => l Γ σ g x fun ds g => k (d :: ds) g
theorem vCons_ok {e : VE} {c : EK} {l : VA} {m : AK} (h : OkE e c) (h' : OkA l m) : OkA (vCons e l) (aCons c m) := ⟨fun Γ σ g x k => by
  unfold vCons aCons
  rw [fin_bind, h.eq]
  congr 1
  funext d g
  rw [fin_bind, h'.eq]
  rfl⟩
def vCall (f : Nat) (l : VA) : VE := fun Γ σ g x k => l Γ σ g x fun vs g => fin (Γ f vs g) x k
theorem vCall_ok (f : Nat) {l : VA} {m : AK} (h : OkA l m) : OkE (vCall f l) (eCall f m) := ⟨fun Γ σ g x k => by
  unfold vCall eCall
  rw [fin_bind, h.eq]⟩
def asFn (d : D) (k : Nat → RS) : RS := D.rec (motive_1 := fun _ => RS) (motive_2 := fun _ => RS) .stuck .stuck (fun _ => .stuck) (fun _ => .stuck) (fun _ => .stuck) (fun _ _ _ => .stuck) (fun _ => .stuck) (fun f => k f) (fun _ => .stuck) .stuck (fun _ _ _ _ => .stuck) d
def vCallv (i : Nat) (l : VA) : VE := fun Γ σ g x k => vget σ i fun d => asFn d fun f => l Γ σ g x fun vs g => fin (Γ f vs g) x k
theorem vCallv_ok (i : Nat) {l : VA} {m : AK} (h : OkA l m) : OkE (vCallv i l) (eCallv i m) := ⟨fun Γ σ g x k => by
  unfold vCallv eCallv
  rw [← vget_eq]
  congr 1
  funext d
  cases d with
  | fn f =>
    show l Γ σ g x _ = _
    rw [h.eq]
    simp only
    rw [fin_bind]
  | _ => rfl⟩
/-! built-ins -/
def vLen (d : D) (g : G) (x : EX) (k : D → G → RS) : RS := D.rec (motive_1 := fun _ => RS) (motive_2 := fun _ => RS) .stuck .stuck (fun _ => .stuck) (fun _ => .stuck) (fun s => fin (bi1 .len (.str s) g) x k) (fun _ xs _ => llen xs fun n => k (.int (.ofNat n)) g)
  (fun a => g.look a .stuck fun c => Cell.rec (motive := fun _ => RS) (fun n _ => k (.int (.ofNat n)) g) (fun _ n _ => k (.int (.ofNat n)) g) (fun n _ => k (.int (.ofNat n)) g) c) (fun _ => .stuck) (fun _ => .stuck) .stuck (fun _ _ _ _ => .stuck) d
theorem vLen_eq (d : D) (g : G) (x : EX) (k : D → G → RS) : vLen d g x k = fin (bi1 .len d g) x k := by
  cases d with
  | tup p xs => show llen xs _ = _; simp only [bi1, llen_eq]; rfl
  | ref a =>
    show g.look a _ _ = _
    simp only [bi1, G.look_eq]
    cases g.at? a with
    | none => rfl
    | some c => cases c <;> rfl
  | _ => rfl
def vBi (b : Bi) (e : VE) : VE := fun Γ σ g x k => e Γ σ g x fun d g => Bi.rec (motive := fun _ => RS) (vLen d g x k) (fin (bi1 .abs d g) x k) (fin (bi1 .all d g) x k) (fin (bi1 .any d g) x k) (fin (bi1 .tuple d g) x k) (fin (bi1 .list d g) x k) (fin (bi1 .dict d g) x k) (fin (bi1 .sorted d g) x k) (fin (bi1 .str d g) x k) (fin (bi1 .int d g) x k) (fin (bi1 .sum d g) x k) b
theorem vBi_ok (b : Bi) {e : VE} {c : EK} (h : OkE e c) : OkE (vBi b e) (eBi b c) := ⟨fun Γ σ g x k => by
  unfold vBi eBi
  rw [fin_bind, h.eq]
  congr 1
  funext d g
  cases b with
  | len => exact vLen_eq d g x k
  | _ => rfl⟩
def vIsi (e : VE) (t : Ty) : VE := fun Γ σ g x k => e Γ σ g x fun d g => fin (isTy g d t .stuck fun b => .ok (.bl b) g) x k
theorem vIsi_ok {e : VE} {c : EK} (h : OkE e c) (t : Ty) : OkE (vIsi e t) (eIsi c t) := ⟨fun Γ σ g x k => by
  unfold vIsi eIsi
  rw [fin_bind, h.eq]⟩
def vIsi2 (e : VE) (t u : Ty) : VE := fun Γ σ g x k => e Γ σ g x fun d g => fin (isTy g d t .stuck fun b => match b with
  | true => .ok (.bl true) g
  | false => isTy g d u .stuck fun c => .ok (.bl c) g) x k
theorem vIsi2_ok {e : VE} {c : EK} (h : OkE e c) (t u : Ty) : OkE (vIsi2 e t u) (eIsi2 c t u) := ⟨fun Γ σ g x k => by
  unfold vIsi2 eIsi2
  rw [fin_bind, h.eq]
  try rfl⟩
/-! methods -/
def vRecv (m : Mt) (d : D) (g : G) (k : RS) : RS := D.rec (motive_1 := fun _ => RS) (motive_2 := fun _ => RS) .stuck .stuck (fun _ => .stuck) (fun _ => .stuck) (fun _ => .stuck) (fun _ _ _ => .stuck)
  (fun a => g.look a .stuck fun c => Mt.rec (motive := fun _ => RS) (Cell.rec (motive := fun _ => RS) (fun _ _ => k) (fun _ _ _ => .stuck) (fun _ _ => .stuck) c) (Cell.rec (motive := fun _ => RS) (fun _ _ => k) (fun _ _ _ => .stuck) (fun _ _ => .stuck) c) (Cell.rec (motive := fun _ => RS) (fun _ _ => k) (fun _ _ _ => .stuck) (fun _ _ => .stuck) c)
    (Cell.rec (motive := fun _ => RS) (fun _ _ => .stuck) (fun t _ _ => cnd t .stuck k) (fun _ _ => .stuck) c) (Cell.rec (motive := fun _ => RS) (fun _ _ => .stuck) (fun t _ _ => cnd t .stuck k) (fun _ _ => .stuck) c) m)
  (fun _ => .stuck) (fun _ => .stuck) .stuck (fun _ _ _ _ => .stuck) d
theorem vRecv_eq (m : Mt) (d : D) (g : G) (r : R D) (x : EX) (k : D → G → RS) : vRecv m d g (fin r x k) = fin (recv m d g r) x k := by
  cases d with
  | ref a =>
    show g.look a _ _ = _
    unfold recv
    simp only [G.look_eq]
    cases g.at? a with
    | none => rfl
    | some c => cases m <;> cases c <;> first | rfl | (rename_i t _ _; cases t <;> rfl)
  | _ => rfl
theorem upd_eqW {α : Type} (g : G) (a : Nat) (c : Cell) (e : α) (k : G → α) : g.upd a c e k = match g.t.put? a c with | some t' => k ⟨g.n, t'⟩ | none => e := by
  obtain ⟨n, t⟩ := g
  exact Tr.put_eq _ _ _ _ _
def G.mod {α : Type} (g : G) (a : Nat) (f : Cell → (Cell → α) → α) (e : α) (k : G → α) : α := G.rec (motive := fun _ => α) (fun n t => t.mod a f e fun t' => k ⟨n, t'⟩) g
theorem G.mod_eq {α : Type} (g : G) (a : Nat) (f : Cell → (Cell → α) → α) (e : α) (k : G → α) : g.mod a f e k = g.look a e fun c => f c fun c' => g.upd a c' e k := by
  obtain ⟨n, t⟩ := g
  unfold G.mod
  simp only [Tr.mod_eq]
  rfl
def pushQ {α : Type} (a : Nat) (d : D) (g : G) (e : α) (k : G → α) : α := g.mod a (fun c kc => Cell.rec (motive := fun _ => α) (fun m xs => Bool.rec (motive := fun _ => α) e (fNat (Nat.succ m) fun m' => kc (.lst m' (d :: xs))) (Nat.blt m lim)) (fun _ _ _ => e) (fun _ _ => e) c) e k
theorem pushQ_eq {α : Type} (a : Nat) (d : D) (g : G) (e : α) (k : G → α) : pushQ a d g e k = push1 a d g e k := by
  unfold pushQ push1
  rw [G.mod_eq]
  congr 1
  funext c
  cases c with
  | lst m xs =>
    simp only
    cases Nat.blt m lim <;> simp only [fNat_eq]
  | _ => rfl
def asRef (d : D) (k : Nat → RS) : RS := D.rec (motive_1 := fun _ => RS) (motive_2 := fun _ => RS) .stuck .stuck (fun _ => .stuck) (fun _ => .stuck) (fun _ => .stuck) (fun _ _ _ => .stuck) (fun a => k a) (fun _ => .stuck) (fun _ => .stuck) .stuck (fun _ _ _ _ => .stuck) d
def popQ (a : Nat) (g : G) (k : D → G → RS) : RS := g.look a .stuck fun c => Cell.rec (motive := fun _ => RS) (fun n xs => List.rec (motive := fun _ => RS) .stuck (fun y ys _ => fNat (Nat.pred n) fun n' => g.upd a (.lst n' ys) .stuck fun g' => k y g') xs) (fun _ _ _ => .stuck) (fun _ _ => .stuck) c
def extT (a : Nat) (ys : List D) (g : G) (k : D → G → RS) : RS := g.mod a (fun c kc => Cell.rec (motive := fun _ => RS) (fun n xs => llen ys fun m => fNat (Nat.add m n) fun q => cnd (Nat.ble q lim) (lrev ys xs fun zs => kc (.lst q zs)) .stuck) (fun _ _ _ => .stuck) (fun _ _ => .stuck) c) .stuck fun g' => k .non g'
def extL (a : Nat) (ys : List D) (g : G) (k : D → G → RS) : RS := g.mod a (fun c kc => Cell.rec (motive := fun _ => RS) (fun n xs => llen ys fun m => fNat (Nat.add m n) fun q => cnd (Nat.ble q lim) (lapp ys xs fun zs => kc (.lst q zs)) .stuck) (fun _ _ _ => .stuck) (fun _ _ => .stuck) c) .stuck fun g' => k .non g'
theorem extT_eq (a : Nat) (ys : List D) (g : G) (x : EX) (k : D → G → RS) : extT a ys g k = fin (extBy a ys g) x k := by
  unfold extT extBy
  rw [G.mod_eq]
  simp only [G.look_eq]
  cases g.at? a with
  | none => rfl
  | some c => cases c with
    | lst n xs =>
      simp only [llen_eq, lrev_eq, fNat_eq, upd_eqW]
      cases Nat.ble (ys.length.add n) lim with
      | false => rfl
      | true =>
        show (match g.t.put? a _ with | some t' => k .non ⟨g.n, t'⟩ | none => .stuck) = fin (match g.t.put? a _ with | some t' => (R.ok D.non ⟨g.n, t'⟩ : R D) | none => R.stuck) x k
        cases g.t.put? a (.lst (ys.length.add n) (ys.reverse ++ xs)) <;> rfl
    | _ => rfl
theorem extL_eq (a : Nat) (ys : List D) (g : G) (k : D → G → RS) : extL a ys g k = extT a ys.reverse g k := by
  unfold extL extT
  simp only [llen_eq, lapp_eq, lrev_eq, List.reverse_reverse, List.length_reverse]
/-- what a method does -/
def vMtEnd (m : Mt) (d : D) (vs : List D) (g : G) (x : EX) (k : D → G → RS) : RS := Mt.rec (motive := fun _ => RS)
  (List.rec (motive := fun _ => RS) .stuck (fun y _ _ => asRef d fun a => pushQ a y g .stuck fun g' => k .non g') vs)
  (asRef d fun a => popQ a g k)
  (List.rec (motive := fun _ => RS) .stuck (fun y _ _ => asRef d fun a => D.rec (motive_1 := fun _ => RS) (motive_2 := fun _ => RS) .stuck .stuck (fun _ => .stuck) (fun _ => .stuck) (fun _ => .stuck) (fun p ys _ => cnd p (extT a ys g k) .stuck)
    (fun b => g.look b .stuck fun c => Cell.rec (motive := fun _ => RS) (fun _ ys => extL a ys g k) (fun _ _ _ => .stuck) (fun _ _ => .stuck) c) (fun _ => .stuck) (fun _ => .stuck) .stuck (fun _ _ _ _ => .stuck) y) vs)
  (fin (oMt .get1 d vs g) x k) (fin (oMt .get2 d vs g) x k) m
theorem vMtEnd_eq (m : Mt) (d : D) (vs : List D) (g : G) (x : EX) (k : D → G → RS) : vMtEnd m d vs g x k = fin (oMt m d vs g) x k := by
  cases m with
  | append =>
    cases vs with
    | nil => cases d <;> rfl
    | cons y r => cases d with
      | ref a =>
        show pushQ a y g .stuck (fun g' => k .non g') = _
        rw [pushQ_eq]
        unfold push1
        simp only [oMt, G.look_eq]
        cases g.at? a with
        | none => rfl
        | some c => cases c with
          | lst n xs =>
            simp only [fNat_eq, upd_eqW]
            cases Nat.blt n lim with
            | false => rfl
            | true => cases g.t.put? a (.lst (Nat.succ n) (y :: xs)) <;> rfl
          | _ => rfl
      | _ => rfl
  | pop =>
    cases d with
    | ref a =>
      show popQ a g k = _
      unfold popQ
      simp only [oMt, G.look_eq]
      cases g.at? a with
      | none => rfl
      | some c => cases c with
        | lst n xs =>
          cases xs with
          | nil => rfl
          | cons y ys =>
            simp only [fNat_eq, upd_eqW, lastOf]
            cases g.t.put? a (.lst (Nat.pred n) ys) <;> rfl
        | _ => rfl
    | _ => rfl
  | extend =>
    cases vs with
    | nil => cases d <;> rfl
    | cons y r => cases d with
      | ref a => cases y with
        | tup p ys => cases p with
          | true => exact extT_eq a ys g x k
          | false => rfl
        | ref b =>
          show g.look b RS.stuck _ = _
          simp only [oMt, G.look_eq]
          cases g.at? b with
          | none => rfl
          | some c => cases c with
            | lst n ys =>
              show extL a ys g k = fin (lrev ys [] fun ys => extBy a ys g) x k
              rw [extL_eq, lrev_eq, List.append_nil]
              exact extT_eq a ys.reverse g x k
            | _ => rfl
        | _ => rfl
      | _ => rfl
  | get1 => rfl
  | get2 => rfl
def vMt (m : Mt) (o : VE) (l : VA) : VE := fun Γ σ g x k => o Γ σ g x fun d g => vRecv m d g (l Γ σ g x fun vs g => vMtEnd m d vs g x k)
theorem vMt_ok (m : Mt) {o : VE} {c : EK} {l : VA} {n : AK} (h : OkE o c) (h' : OkA l n) : OkE (vMt m o l) (eMt m c n) := ⟨fun Γ σ g x k => by
  unfold vMt eMt
  rw [fin_bind, h.eq]
  congr 1
  funext d g
  rw [← vRecv_eq, fin_bind, h'.eq]
  simp only [vMtEnd_eq]⟩
def vIx (a b : VE) : VE := fun Γ σ g x k => a Γ σ g x fun p g => b Γ σ g x fun q g => fin (oIx p q g) x k
theorem vIx_ok {a b : VE} {c d : EK} (ha : OkE a c) (hb : OkE b d) : OkE (vIx a b) (eIx c d) := ⟨fun Γ σ g x k => by
  unfold vIx eIx
  simp only [ha.eq, hb.eq, fin_bind]⟩
def vONo : VO := fun _ _ g _ k => k none g
theorem vONo_ok : OkO vONo oNo := ⟨fun _ _ _ _ _ => rfl⟩
def vOSome (e : VE) : VO := fun Γ σ g x k => e Γ σ g x fun d g => asInt d (fun i => k (some i) g) .stuck
theorem vOSome_ok {e : VE} {c : EK} (h : OkE e c) : OkO (vOSome e) (oSome c) := ⟨fun Γ σ g x k => by
  unfold vOSome oSome
  rw [fin_bind, h.eq]
  congr 1
  funext d g
  cases d <;> rfl⟩
def vSl (a : VE) (lo hi : VO) : VE := fun Γ σ g x k => a Γ σ g x fun p g => lo Γ σ g x fun l g => hi Γ σ g x fun h g => fin (oSl p l h g) x k
theorem vSl_ok {a : VE} {c : EK} {lo hi : VO} {l h : OK} (ha : OkE a c) (hl : OkO lo l) (hh : OkO hi h) : OkE (vSl a lo hi) (eSl c l h) := ⟨fun Γ σ g x k => by
  unfold vSl eSl
  simp only [ha.eq, hl.eq, hh.eq, fin_bind]⟩
def vTup (l : VA) : VE := fun Γ σ g x k => l Γ σ g x fun vs g => llen vs fun n => cnd (Nat.ble n lim) (k (.tup true vs) g) .stuck
theorem vTup_ok {l : VA} {m : AK} (h : OkA l m) : OkE (vTup l) (eTup m) := ⟨fun Γ σ g x k => by
  unfold vTup eTup
  rw [fin_bind, h.eq]
  congr 1
  funext vs g
  simp only [llen_eq]
  cases Nat.ble vs.length lim <;> rfl⟩
def vLst (l : VA) : VE := fun Γ σ g x k => l Γ σ g x fun vs g => fin (rList vs g) x k
theorem vLst_ok {l : VA} {m : AK} (h : OkA l m) : OkE (vLst l) (eLst m) := ⟨fun Γ σ g x k => by
  unfold vLst eLst
  rw [fin_bind, h.eq]⟩
def vDnew : VE := fun _ _ g x k => fin (rNew (.dct false 0 []) g) x k
theorem vDnew_ok : OkE vDnew eDnew := ⟨fun _ _ _ _ _ => rfl⟩
/-! walks -/
def vIVal (e : VE) : VI := fun Γ σ g x k => e Γ σ g x fun d g => fin (match d with
  | .tup _ xs => .ok (wTup xs) g
  | .str s => .ok (wStr s) g
  | .ref a => g.list a .stuck fun _ _ => .ok (wLst a) g
  | _ => .stuck) x k
theorem vIVal_ok {e : VE} {c : EK} (h : OkE e c) : OkI (vIVal e) (iVal c) := ⟨fun Γ σ g x k => by
  unfold vIVal iVal
  rw [fin_bind, h.eq]
  try rfl⟩
def vIGen (f : D → G → R Wk) (e : VE) : VI := fun Γ σ g x k => e Γ σ g x fun d g => fin (f d g) x k
def fRng1 (x : D) (g : G) : R Wk := match x with
  | .int j => (match okRng j with
    | true => fNat (toNatI j) fun n => .ok (wRng 0 n) g
    | false => .stuck)
  | _ => .stuck
theorem vRng1_ok {e : VE} {c : EK} (h : OkE e c) : OkI (vIGen fRng1 e) (iRng1 c) := ⟨fun Γ σ g x k => by
  unfold vIGen iRng1
  rw [fin_bind, h.eq]; rfl⟩
def fEnum (x : D) (g : G) : R Wk := match x with
  | .ref a => g.list a .stuck fun _ _ => .ok (wEnum a) g
  | _ => .stuck
theorem vEnum_ok {e : VE} {c : EK} (h : OkE e c) : OkI (vIGen fEnum e) (iEnum c) := ⟨fun Γ σ g x k => by
  unfold vIGen iEnum
  rw [fin_bind, h.eq]; rfl⟩
def vIGen2 (f : D → D → G → R Wk) (a b : VE) : VI := fun Γ σ g x k => a Γ σ g x fun d g => b Γ σ g x fun e g => fin (f d e g) x k
def fRng2 (x y : D) (g : G) : R Wk := match x with
  | .int i => (match y with
    | .int j => (match okRng i with
      | true => (match okRng j with
        | true => fNat (toNatI (Int.sub j i)) fun n => .ok (wRng i n) g
        | false => .stuck)
      | false => .stuck)
    | _ => .stuck)
  | _ => .stuck
def fZip (x y : D) (g : G) : R Wk := match x with
  | .ref a => (match y with
    | .ref b => g.list a .stuck fun _ _ => g.list b .stuck fun _ _ => .ok (wZipL a b) g
    | _ => .stuck)
  | .tup _ xs => (match y with
    | .tup _ ys => .ok (wZipT xs ys) g
    | _ => .stuck)
  | _ => .stuck
theorem vRng2_ok {a b : VE} {c d : EK} (ha : OkE a c) (hb : OkE b d) : OkI (vIGen2 fRng2 a b) (iRng2 c d) := ⟨fun Γ σ g x k => by
  unfold vIGen2 iRng2
  simp only [ha.eq, hb.eq, fin_bind]; rfl⟩
theorem vZip_ok {a b : VE} {c d : EK} (ha : OkE a c) (hb : OkE b d) : OkI (vIGen2 fZip a b) (iZip c d) := ⟨fun Γ σ g x k => by
  unfold vIGen2 iZip
  simp only [ha.eq, hb.eq, fin_bind]; rfl⟩
/-! targets -/
def vGV (i : Nat) : VG := fun _ d σ g k => lset σ i d fun σ' => k σ' g
theorem vGV_ok (i : Nat) : OkG (vGV i) (gV i) := ⟨fun Γ d σ g k => by unfold vGV gV; rw [lset_eq, lset_eq]; rfl⟩
def vGTup (n : Nat) (l : VGs) : VG := fun Γ d σ g k => D.rec (motive_1 := fun _ => RS) (motive_2 := fun _ => RS) .stuck .stuck (fun _ => .stuck) (fun _ => .stuck) (fun _ => .stuck) (fun _ xs _ => llen xs fun m => cnd (Nat.beq m n) (l Γ xs σ g k) .stuck) (fun _ => .stuck) (fun _ => .stuck) (fun _ => .stuck) .stuck (fun _ _ _ _ => .stuck) d
theorem vGTup_ok (n : Nat) {l : VGs} {m : GsK} (h : OkGs l m) : OkG (vGTup n l) (gTup n m) := ⟨fun Γ d σ g k => by
  cases d with
  | tup p xs =>
    show llen xs _ = _
    unfold gTup
    simp only [llen_eq]
    cases Nat.beq xs.length n with
    | true => exact h.eq Γ xs σ g k
    | false => rfl
  | _ => rfl⟩
def vGSub (o i : VE) : VG := fun Γ d σ g k => o Γ σ g xs0 fun x g => i Γ σ g xs0 fun y g => fin (oSet x y d g .stuck fun g => .ok σ g) xs0 k
theorem vGSub_ok {o i : VE} {c e : EK} (h : OkE o c) (h' : OkE i e) : OkG (vGSub o i) (gSub c e) := ⟨fun Γ d σ g k => by
  unfold vGSub gSub
  simp only [h.eq, h'.eq, fin_bind]⟩
def vGNil : VGs := fun _ ds σ g k => List.rec (motive := fun _ => RS) (k σ g) (fun _ _ _ => .stuck) ds
theorem vGNil_ok : OkGs vGNil gNil := ⟨fun Γ ds σ g k => by cases ds <;> rfl⟩
def vGCons (t : VG) (l : VGs) : VGs := fun Γ ds σ g k => List.rec (motive := fun _ => RS) .stuck (fun d r _ => t Γ d σ g fun σ g => l Γ r σ g k) ds
theorem vGCons_ok {t : VG} {s : GK} {l : VGs} {m : GsK} (h : OkG t s) (h' : OkGs l m) : OkGs (vGCons t l) (gCons s m) := ⟨fun Γ ds σ g k => by
  cases ds with
  | nil => rfl
  | cons d r =>
    show t Γ d σ g _ = _
    unfold gCons
    simp only
    rw [fin_bind, h.eq]
    congr 1
    funext σ g
    exact h'.eq Γ r σ g k⟩
/-! comprehensions -/
def oCase (o : Option D) (e : RS) (k : D → RS) : RS := Option.rec (motive := fun _ => RS) e (fun d => k d) o
def vlcLoop (w : Wk) (tg : VG) (t : VT) (e : VE) (Γ : CF) (σ : St) (a : Nat) (k : D → G → RS) (m : Nat) : Nat → G → RS :=
  Nat.rec (motive := fun _ => Nat → G → RS) (fun _ _ => .stuck) (fun _ ih i g => fin (w i g) xs0 fun o g => oCase o (k (.ref a) g) fun d => tg Γ d σ g fun σ2 g => t Γ σ2 g xs0
    (fun g => e Γ σ2 g xs0 fun y g => pushQ a y g .stuck fun g => fNat (Nat.succ i) fun j => ih j g) (fun g => fNat (Nat.succ i) fun j => ih j g)) m
theorem new_eqW {α : Type} (g : G) (c : Cell) (e : α) (k : Nat → G → α) : g.new c e k = match g.t.put? g.n c with | some t' => k g.n ⟨g.n + 1, t'⟩ | none => e := by
  obtain ⟨n, t⟩ := g
  exact (Tr.put_eq _ _ _ _ _).trans (by cases t.put? n c <;> simp [fNat_eq])
theorem push_fin {α : Type} (a : Nat) (y : D) (g : G) (f : G → R α) (x : EX) (k : α → G → RS) : fin (push1 a y g .stuck f) x k = push1 a y g RS.stuck fun g => fin (f g) x k := by
  unfold push1
  simp only [G.look_eq]
  cases g.at? a with
  | none => rfl
  | some c => cases c with
    | lst n xs =>
      simp only
      cases Nat.blt n lim with
      | false => rfl
      | true =>
        simp only [fNat_eq, upd_eqW]
        cases g.t.put? a (.lst (Nat.succ n) (y :: xs)) <;> rfl
    | _ => rfl
theorem noExc_bind {α β : Type} (r : R α) (f : α → G → R β) : noExc (r.bind f) = (noExc r).bind fun a g => noExc (f a g) := by cases r <;> rfl
theorem fin_noExc {α : Type} (r : R α) (x : EX) (k : α → G → RS) : fin (noExc r) x k = fin r xs0 k := by cases r <;> rfl
theorem vlc_eq {w : Wk} {tg : VG} {t : VT} {e : VE} {tg' : GK} {t' : TK} {e' : EK} (hg : OkG tg tg') (ht : OkT t t') (he : OkE e e') (Γ : CF) (σ : St) (a : Nat) (k : D → G → RS) :
    ∀ (m i : Nat) (g : G), vlcLoop w tg t e Γ σ a k m i g = fin (lcLoop w tg' t' e' Γ σ a m i g) xs0 k
  | 0, i, g => rfl
  | m + 1, i, g => by
    show fin (w i g) xs0 _ = fin ((w i g).bind _) xs0 k
    rw [fin_bind]
    congr 1
    funext o g
    cases o with
    | none => rfl
    | some d =>
      show tg Γ d σ g _ = _
      rw [hg.eq]
      simp only
      rw [fin_bind]
      congr 1
      funext σ2 g
      rw [ht.eq, fin_bind]
      congr 1
      funext b g
      cases b with
      | true =>
        show e Γ σ2 g xs0 _ = _
        rw [he.eq]
        simp only
        rw [fin_bind]
        congr 1
        funext y g
        rw [push_fin, ← pushQ_eq]
        congr 1
        funext g
        simp only [fNat_eq]
        exact vlc_eq hg ht he Γ σ a k m (i + 1) g
      | false =>
        show fNat (Nat.succ i) _ = _
        simp only [fNat_eq]
        exact vlc_eq hg ht he Γ σ a k m (i + 1) g
def vLc (e : VE) (own : List Nat) (tg : VG) (it : VI) (t : VT) : VE := fun Γ σ g x k => it Γ σ g x fun w g => g.new (.lst 0 []) .stuck fun a g => vlcLoop w tg t e Γ (wipeD σ own) a k turns 0 g
theorem vLc_ok {tg : VG} {t : VT} {e : VE} {it : VI} {tg' : GK} {t' : TK} {e' : EK} {it' : IK} (own : List Nat) (hg : OkG tg tg') (ht : OkT t t') (he : OkE e e') (hi : OkI it it') : OkE (vLc e own tg it t) (eLc e' own tg' it' t') := ⟨fun Γ σ g x k => by
  unfold vLc eLc
  rw [fin_bind, hi.eq]
  congr 1
  funext w g
  rw [new_eqW, new_eqW]
  cases g.t.put? g.n (.lst 0 []) with
  | none => rfl
  | some t2 =>
    show vlcLoop w tg t e Γ (wipeD σ own) g.n k turns 0 ⟨g.n + 1, t2⟩ = fin (noExc _) x k
    rw [fin_noExc]
    exact vlc_eq hg ht he Γ _ _ k turns 0 _⟩
/-! statements -/
theorem st_seq (r : R D) (σ : St) (k : D → G → RS) (n : St → G → RS) : (r.st σ k).seq n = fin r (exS σ) fun d g => (k d g).seq n := by cases r <;> rfl
theorem stT_seq (r : R Bool) (σ : St) (k : Bool → G → RS) (n : St → G → RS) : (r.stT σ k).seq n = fin r (exS σ) fun d g => (k d g).seq n := by cases r <;> rfl
theorem stW_seq (r : R Wk) (σ : St) (k : Wk → G → RS) (n : St → G → RS) : (r.stW σ k).seq n = fin r (exS σ) fun d g => (k d g).seq n := by cases r <;> rfl
theorem stG_seq (r : R St) (k : St → G → RS) (n : St → G → RS) : (r.stG k).seq n = fin r xs0 fun d g => (k d g).seq n := by cases r <;> rfl
def vsSet (i : Nat) (e : VE) : VS := fun Γ σ g n => e Γ σ g (exS σ) fun d g => lset σ i d fun σ' => n σ' g
theorem vsSet_ok (i : Nat) {e : VE} {c : EK} (h : OkE e c) : OkS (vsSet i e) (sSet i c) := ⟨fun Γ σ g n => by
  unfold vsSet sSet
  rw [st_seq, h.eq]
  congr 1
  funext d g
  rw [lset_eq, lset_eq]; rfl⟩
def vsPar (i j : Nat) (a b : VE) : VS := fun Γ σ g n => a Γ σ g (exS σ) fun x g => b Γ σ g (exS σ) fun y g => lset σ i x fun σ1 => lset σ1 j y fun σ2 => n σ2 g
theorem vsPar_ok (i j : Nat) {a b : VE} {c d : EK} (ha : OkE a c) (hb : OkE b d) : OkS (vsPar i j a b) (sPar i j c d) := ⟨fun Γ σ g n => by
  unfold vsPar sPar
  rw [st_seq, ha.eq]
  congr 1
  funext x g
  rw [st_seq, hb.eq]
  congr 1
  funext y g
  simp only [lset_eq]
  rfl⟩
def vsAsg (tg : VG) (e : VE) : VS := fun Γ σ g n => e Γ σ g (exS σ) fun d g => tg Γ d σ g n
theorem vsAsg_ok {tg : VG} {t : GK} {e : VE} {c : EK} (hg : OkG tg t) (h : OkE e c) : OkS (vsAsg tg e) (sAsg t c) := ⟨fun Γ σ g n => by
  unfold vsAsg sAsg
  rw [st_seq, h.eq]
  congr 1
  funext d g
  rw [stG_seq, hg.eq]
  rfl⟩
def vsEx (e : VE) : VS := fun Γ σ g n => e Γ σ g (exS σ) fun _ g => n σ g
theorem vsEx_ok {e : VE} {c : EK} (h : OkE e c) : OkS (vsEx e) (sEx c) := ⟨fun Γ σ g n => by
  unfold vsEx sEx
  rw [st_seq, h.eq]
  rfl⟩
def vsRet (e : VE) : VS := fun Γ σ g _ => e Γ σ g (exS σ) fun d g => .rt d g
theorem vsRet_ok {e : VE} {c : EK} (h : OkE e c) : OkS (vsRet e) (sRet c) := ⟨fun Γ σ g n => by
  unfold vsRet sRet
  rw [st_seq, h.eq]
  rfl⟩
def vsRetN : VS := fun _ _ g _ => .rt .non g
theorem vsRetN_ok : OkS vsRetN sRetN := ⟨fun _ _ _ _ => rfl⟩
def vsIf (t : VT) (a b : VS) : VS := fun Γ σ g n => t Γ σ g (exS σ) (fun g => a Γ σ g n) (fun g => b Γ σ g n)
theorem vsIf_ok {t : VT} {s : TK} {a b : VS} {c d : SK} (h : OkT t s) (ha : OkS a c) (hb : OkS b d) : OkS (vsIf t a b) (sIf s c d) := ⟨fun Γ σ g n => by
  unfold vsIf sIf
  rw [stT_seq, h.eq]
  congr 1
  funext b g
  cases b with
  | true => exact ha.eq Γ σ g n
  | false => exact hb.eq Γ σ g n⟩
def lapK (r : RS) (k n : St → G → RS) : RS := RS.rec (motive := fun _ => RS) (fun σ g => k σ g) (fun d g => .rt d g) (fun σ g => n σ g) (fun σ g => k σ g) (fun c p σ g => .exc c p σ g) .stuck r
theorem lap_seq (r : RS) (k n : St → G → RS) : (r.lap k).seq n = lapK r (fun σ g => (k σ g).seq n) n := by cases r <;> rfl
theorem seq_nx (r : RS) : (r.seq fun σ g => .nx σ g) = r := by cases r <;> rfl
def nx0 : St → G → RS := fun σ g => .nx σ g
def vWhl (t : VT) (b : VS) (Γ : CF) (n : St → G → RS) (m : Nat) : St → G → RS :=
  Nat.rec (motive := fun _ => St → G → RS) (fun _ _ => .stuck) (fun _ ih σ g => t Γ σ g (exS σ) (fun g => lapK (b Γ σ g nx0) ih n) (fun g => n σ g)) m
theorem vWhl_eq {t : VT} {s : TK} {b : VS} {d : SK} (h : OkT t s) (hb : OkS b d) (Γ : CF) (n : St → G → RS) : ∀ (m : Nat) (σ : St) (g : G), vWhl t b Γ n m σ g = (whlLoop s d Γ m σ g).seq n
  | 0, σ, g => rfl
  | m + 1, σ, g => by
    show t Γ σ g (exS σ) _ _ = RS.seq (R.stT _ σ _) n
    rw [stT_seq, h.eq]
    congr 1
    funext c g
    cases c with
    | true =>
      show lapK (b Γ σ g nx0) _ n = RS.seq (RS.lap (d Γ σ g) _) n
      rw [lap_seq, hb.eq]
      have e : (d Γ σ g).seq nx0 = d Γ σ g := seq_nx _
      rw [e]
      congr 1
      funext σ g
      exact vWhl_eq h hb Γ n m σ g
    | false => rfl
def vsWhl (t : VT) (b : VS) : VS := fun Γ σ g n => vWhl t b Γ n turns σ g
theorem vsWhl_ok {t : VT} {s : TK} {b : VS} {d : SK} (h : OkT t s) (hb : OkS b d) : OkS (vsWhl t b) (sWhl s d) := ⟨fun Γ σ g n => vWhl_eq h hb Γ n turns σ g⟩
theorem stO_seq (r : R (Option D)) (k : Option D → G → RS) (n : St → G → RS) : (r.stO k).seq n = fin r xs0 fun d g => (k d g).seq n := by cases r <;> rfl
def vFor (w : Wk) (tg : VG) (b : VS) (Γ : CF) (n : St → G → RS) (m : Nat) : Nat → St → G → RS :=
  Nat.rec (motive := fun _ => Nat → St → G → RS) (fun _ _ _ => .stuck) (fun _ ih i σ g => fin (w i g) xs0 fun o g => oCase o (n σ g) fun d => tg Γ d σ g fun σ g => lapK (b Γ σ g nx0) (fun σ g => fNat (Nat.succ i) fun j => ih j σ g) n) m
theorem vFor_eq {w : Wk} {tg : VG} {t : GK} {b : VS} {d : SK} (h : OkG tg t) (hb : OkS b d) (Γ : CF) (n : St → G → RS) : ∀ (m i : Nat) (σ : St) (g : G), vFor w tg b Γ n m i σ g = (forLoop w t d Γ m i σ g).seq n
  | 0, i, σ, g => rfl
  | m + 1, i, σ, g => by
    show fin (w i g) xs0 _ = RS.seq (R.stO (w i g) _) n
    rw [stO_seq]
    congr 1
    funext o g
    cases o with
    | none => rfl
    | some e =>
      show tg Γ e σ g _ = RS.seq (R.stG _ _) n
      rw [stG_seq, h.eq]
      congr 1
      funext σ g
      show lapK (b Γ σ g nx0) _ n = RS.seq (RS.lap (d Γ σ g) _) n
      rw [lap_seq, hb.eq]
      have e : (d Γ σ g).seq nx0 = d Γ σ g := seq_nx _
      rw [e]
      congr 1
      funext σ g
      simp only [fNat_eq]
      exact vFor_eq h hb Γ n m (i + 1) σ g
def vsFor (tg : VG) (it : VI) (b : VS) : VS := fun Γ σ g n => it Γ σ g (exS σ) fun w g => vFor w tg b Γ n turns 0 σ g
theorem vsFor_ok {tg : VG} {t : GK} {it : VI} {i : IK} {b : VS} {d : SK} (h : OkG tg t) (hi : OkI it i) (hb : OkS b d) : OkS (vsFor tg it b) (sFor t i d) := ⟨fun Γ σ g n => by
  unfold vsFor sFor
  rw [stW_seq, hi.eq]
  congr 1
  funext w g
  exact vFor_eq h hb Γ n turns 0 σ g⟩
def vsRse (c : Nat) : VS := fun _ σ g _ => .exc c .non σ g
theorem vsRse_ok (c : Nat) : OkS (vsRse c) (sRse c) := ⟨fun _ _ _ _ => rfl⟩
def vsPass : VS := fun _ σ g n => n σ g
theorem vsPass_ok : OkS vsPass sPass := ⟨fun _ _ _ _ => rfl⟩
def vsBrk : VS := fun _ σ g _ => .bk σ g
theorem vsBrk_ok : OkS vsBrk sBrk := ⟨fun _ _ _ _ => rfl⟩
def vsCont : VS := fun _ σ g _ => .ct σ g
theorem vsCont_ok : OkS vsCont sCont := ⟨fun _ _ _ _ => rfl⟩
def vbNil : VS := fun _ σ g n => n σ g
theorem vbNil_ok : OkS vbNil bNil := ⟨fun _ _ _ _ => rfl⟩
def vbCons (s b : VS) : VS := fun Γ σ g n => s Γ σ g fun σ g => b Γ σ g n
theorem seq_seq (r : RS) (f n : St → G → RS) : (r.seq f).seq n = r.seq fun σ g => (f σ g).seq n := by cases r <;> rfl
theorem vbCons_ok {s b : VS} {c d : SK} (h : OkS s c) (hb : OkS b d) : OkS (vbCons s b) (bCons c d) := ⟨fun Γ σ g n => by
  unfold vbCons bCons
  rw [seq_seq, h.eq]
  congr 1
  funext σ g
  exact hb.eq Γ σ g n⟩
/-- the clauses as they are -/
def vsTr (b : VS) (h : HK) : VS := fun Γ σ g n => RS.rec (motive := fun _ => RS) (fun σ g => n σ g) (fun d g => .rt d g) (fun σ g => .bk σ g) (fun σ g => .ct σ g) (fun c p σ g => (h Γ c p σ g).seq n) .stuck (b Γ σ g nx0)
theorem vsTr_ok {b : VS} {d : SK} (h : HK) (hb : OkS b d) : OkS (vsTr b h) (sTr d h) := ⟨fun Γ σ g n => by
  unfold vsTr sTr
  have e : b Γ σ g nx0 = d Γ σ g := (hb.eq Γ σ g nx0).trans (seq_nx _)
  rw [e]
  cases d Γ σ g <;> rfl⟩
/-- a body: nothing behind it -/
def vBody (b : VS) : SK := fun Γ σ g => b Γ σ g nx0
theorem vBody_eq {b : VS} {d : SK} (h : OkS b d) : vBody b = d := by
  funext Γ σ g
  exact (h.eq Γ σ g nx0).trans (seq_nx _)
end
end Mini
/-! MiniX: the quick evaluator from the code. -/
namespace Mini
noncomputable section
def vStuck : VE := fun _ _ _ _ _ => .stuck
def vTStuck : VT := fun _ _ _ _ _ _ => .stuck
mutual
def vdE (gv : Nat → D) : IE → VE
  | .c d => vC d
  | .v i => vV i
  | .g x => vC (gv x)
  | .bin o a b => vBin o (vdE gv a) (vdE gv b)
  | .neg a => vNeg (vdE gv a)
  | .cmp o a b => vCmp o (vdE gv a) (vdE gv b)
  | .chain o p a b c => vChain o p (vdE gv a) (vdE gv b) (vdE gv c)
  | .an l => vdAn gv l
  | .orr l => vdOr gv l
  | .nt a => vNot (vdE gv a)
  | .ife t a b => vIf (vdT gv t) (vdE gv a) (vdE gv b)
  | .call f l => vCall f (vdA gv l)
  | .callv i l => vCallv i (vdA gv l)
  | .bi b a => vBi b (vdE gv a)
  | .isi a t => vIsi (vdE gv a) t
  | .isi2 a t u => vIsi2 (vdE gv a) t u
  | .mtA o a => vMt .append (vdE gv o) (vCons (vdE gv a) vNil)
  | .mtX o a => vMt .extend (vdE gv o) (vCons (vdE gv a) vNil)
  | .mtP o => vMt .pop (vdE gv o) vNil
  | .mtG o a => vMt .get1 (vdE gv o) (vCons (vdE gv a) vNil)
  | .mtH o a b => vMt .get2 (vdE gv o) (vCons (vdE gv a) (vCons (vdE gv b) vNil))
  | .ix a b => vIx (vdE gv a) (vdE gv b)
  | .sl a lo hi => vSl (vdE gv a) (vdO gv lo) (vdO gv hi)
  | .tup l => vTup (vdA gv l)
  | .lst l => vLst (vdA gv l)
  | .dnew => vDnew
  | .lc e own tg it t => vLc (vdE gv e) own (vdG gv tg) (vdI gv it) (vdT gv t)
def vdA (gv : Nat → D) : IA → VA
  | .nil => vNil
  | .cons e l => vCons (vdE gv e) (vdA gv l)
def vdAn (gv : Nat → D) : IA → VE
  | .nil => vStuck
  | .cons e l => vdAn1 gv (vdE gv e) l
def vdAn1 (gv : Nat → D) (e : VE) : IA → VE
  | .nil => e
  | .cons a l => vAnd e (vdAn1 gv (vdE gv a) l)
def vdOr (gv : Nat → D) : IA → VE
  | .nil => vStuck
  | .cons e l => vdOr1 gv (vdE gv e) l
def vdOr1 (gv : Nat → D) (e : VE) : IA → VE
  | .nil => e
  | .cons a l => vOr e (vdOr1 gv (vdE gv a) l)
def vdO (gv : Nat → D) : IO → VO
  | .no => vONo
  | .some e => vOSome (vdE gv e)
def vdT (gv : Nat → D) : IT → VT
  | .yes => vYes
  | .no t => vNo (vdT gv t)
  | .an l => vdTan gv l
  | .orr l => vdTor gv l
  | .ife t u v => vTIf (vdT gv t) (vdT gv u) (vdT gv v)
  | .cmp o a b => vTCmp o (vdE gv a) (vdE gv b)
  | .chain o p a b c => vTChain o p (vdE gv a) (vdE gv b) (vdE gv c)
  | .val e => vTVal (vdE gv e)
def vdTan (gv : Nat → D) : ITs → VT
  | .nil => vTStuck
  | .cons t l => vdTan1 gv (vdT gv t) l
def vdTan1 (gv : Nat → D) (t : VT) : ITs → VT
  | .nil => t
  | .cons a l => vTAn t (vdTan1 gv (vdT gv a) l)
def vdTor (gv : Nat → D) : ITs → VT
  | .nil => vTStuck
  | .cons t l => vdTor1 gv (vdT gv t) l
def vdTor1 (gv : Nat → D) (t : VT) : ITs → VT
  | .nil => t
  | .cons a l => vTOr t (vdTor1 gv (vdT gv a) l)
def vdI (gv : Nat → D) : II → VI
  | .val e => vIVal (vdE gv e)
  | .rng1 a => vIGen fRng1 (vdE gv a)
  | .rng2 a b => vIGen2 fRng2 (vdE gv a) (vdE gv b)
  | .enum a => vIGen fEnum (vdE gv a)
  | .zip a b => vIGen2 fZip (vdE gv a) (vdE gv b)
def vdG (gv : Nat → D) : IG → VG
  | .v i => vGV i
  | .tup l => vGTup (lenG l) (vdGs gv l)
  | .sub o i => vGSub (vdE gv o) (vdE gv i)
def vdGs (gv : Nat → D) : IGs → VGs
  | .nil => vGNil
  | .cons t l => vGCons (vdG gv t) (vdGs gv l)
end
mutual
def vdS (gv : Nat → D) : IS → VS
  | .set i e => vsSet i (vdE gv e)
  | .par i j a b => vsPar i j (vdE gv a) (vdE gv b)
  | .asg tg e => vsAsg (vdG gv tg) (vdE gv e)
  | .ex e => vsEx (vdE gv e)
  | .ret e => vsRet (vdE gv e)
  | .retN => vsRetN
  | .ife t a b => vsIf (vdT gv t) (vdB gv a) (vdB gv b)
  | .whl t b => vsWhl (vdT gv t) (vdB gv b)
  | .fr tg it b => vsFor (vdG gv tg) (vdI gv it) (vdB gv b)
  | .rse c => vsRse c
  | .tr b h => vsTr (vdB gv b) (denH gv h)
  | .pass => vsPass
  | .brk => vsBrk
  | .cont => vsCont
def vdB (gv : Nat → D) : IB → VS
  | .nil => vbNil
  | .cons s b => vbCons (vdS gv s) (vdB gv b)
end
variable {gv : Nat → D}
mutual
theorem vdE_ok : ∀ i, OkE (vdE gv i) (denE gv i)
  | .c d => vC_ok d
  | .v i => vV_ok i
  | .g x => vC_ok (gv x)
  | .bin o a b => vBin_ok o (vdE_ok a) (vdE_ok b)
  | .neg a => vNeg_ok (vdE_ok a)
  | .cmp o a b => vCmp_ok o (vdE_ok a) (vdE_ok b)
  | .chain o p a b c => vChain_ok o p (vdE_ok a) (vdE_ok b) (vdE_ok c)
  | .an l => vdAn_ok l
  | .orr l => vdOr_ok l
  | .nt a => vNot_ok (vdE_ok a)
  | .ife t a b => vIf_ok (vdT_ok t) (vdE_ok a) (vdE_ok b)
  | .call f l => vCall_ok f (vdA_ok l)
  | .callv i l => vCallv_ok i (vdA_ok l)
  | .bi b a => vBi_ok b (vdE_ok a)
  | .isi a t => vIsi_ok (vdE_ok a) t
  | .isi2 a t u => vIsi2_ok (vdE_ok a) t u
  | .mtA o a => vMt_ok .append (vdE_ok o) (vCons_ok (vdE_ok a) vNil_ok)
  | .mtX o a => vMt_ok .extend (vdE_ok o) (vCons_ok (vdE_ok a) vNil_ok)
  | .mtP o => vMt_ok .pop (vdE_ok o) vNil_ok
  | .mtG o a => vMt_ok .get1 (vdE_ok o) (vCons_ok (vdE_ok a) vNil_ok)
  | .mtH o a b => vMt_ok .get2 (vdE_ok o) (vCons_ok (vdE_ok a) (vCons_ok (vdE_ok b) vNil_ok))
  | .ix a b => vIx_ok (vdE_ok a) (vdE_ok b)
  | .sl a lo hi => vSl_ok (vdE_ok a) (vdO_ok lo) (vdO_ok hi)
  | .tup l => vTup_ok (vdA_ok l)
  | .lst l => vLst_ok (vdA_ok l)
  | .dnew => vDnew_ok
  | .lc e own tg it t => vLc_ok own (vdG_ok tg) (vdT_ok t) (vdE_ok e) (vdI_ok it)
theorem vdA_ok : ∀ l, OkA (vdA gv l) (denA gv l)
  | .nil => vNil_ok
  | .cons e l => vCons_ok (vdE_ok e) (vdA_ok l)
theorem vdAn_ok : ∀ l, OkE (vdAn gv l) (denAn gv l)
  | .nil => ⟨fun _ _ _ _ _ => rfl⟩
  | .cons e l => vdAn1_ok (vdE_ok e) l
theorem vdAn1_ok {m : VE} {e : EK} (h : OkE m e) : ∀ l, OkE (vdAn1 gv m l) (denAn1 gv e l)
  | .nil => h
  | .cons a l => vAnd_ok h (vdAn1_ok (vdE_ok a) l)
theorem vdOr_ok : ∀ l, OkE (vdOr gv l) (denOr gv l)
  | .nil => ⟨fun _ _ _ _ _ => rfl⟩
  | .cons e l => vdOr1_ok (vdE_ok e) l
theorem vdOr1_ok {m : VE} {e : EK} (h : OkE m e) : ∀ l, OkE (vdOr1 gv m l) (denOr1 gv e l)
  | .nil => h
  | .cons a l => vOr_ok h (vdOr1_ok (vdE_ok a) l)
theorem vdO_ok : ∀ o, OkO (vdO gv o) (denO gv o)
  | .no => vONo_ok
  | .some e => vOSome_ok (vdE_ok e)
theorem vdT_ok : ∀ t, OkT (vdT gv t) (denT gv t)
  | .yes => vYes_ok
  | .no t => vNo_ok (vdT_ok t)
  | .an l => vdTan_ok l
  | .orr l => vdTor_ok l
  | .ife t u v => vTIf_ok (vdT_ok t) (vdT_ok u) (vdT_ok v)
  | .cmp o a b => vTCmp_ok o (vdE_ok a) (vdE_ok b)
  | .chain o p a b c => vTChain_ok o p (vdE_ok a) (vdE_ok b) (vdE_ok c)
  | .val e => vTVal_ok (vdE_ok e)
theorem vdTan_ok : ∀ l, OkT (vdTan gv l) (denTan gv l)
  | .nil => ⟨fun _ _ _ _ _ _ => rfl⟩
  | .cons t l => vdTan1_ok (vdT_ok t) l
theorem vdTan1_ok {m : VT} {e : TK} (h : OkT m e) : ∀ l, OkT (vdTan1 gv m l) (denTan1 gv e l)
  | .nil => h
  | .cons a l => vTAn_ok h (vdTan1_ok (vdT_ok a) l)
theorem vdTor_ok : ∀ l, OkT (vdTor gv l) (denTor gv l)
  | .nil => ⟨fun _ _ _ _ _ _ => rfl⟩
  | .cons t l => vdTor1_ok (vdT_ok t) l
theorem vdTor1_ok {m : VT} {e : TK} (h : OkT m e) : ∀ l, OkT (vdTor1 gv m l) (denTor1 gv e l)
  | .nil => h
  | .cons a l => vTOr_ok h (vdTor1_ok (vdT_ok a) l)
theorem vdI_ok : ∀ i, OkI (vdI gv i) (denI gv i)
  | .val e => vIVal_ok (vdE_ok e)
  | .rng1 a => vRng1_ok (vdE_ok a)
  | .rng2 a b => vRng2_ok (vdE_ok a) (vdE_ok b)
  | .enum a => vEnum_ok (vdE_ok a)
  | .zip a b => vZip_ok (vdE_ok a) (vdE_ok b)
theorem vdG_ok : ∀ t, OkG (vdG gv t) (denG gv t)
  | .v i => vGV_ok i
  | .tup l => vGTup_ok (lenG l) (vdGs_ok l)
  | .sub o i => vGSub_ok (vdE_ok o) (vdE_ok i)
theorem vdGs_ok : ∀ l, OkGs (vdGs gv l) (denGs gv l)
  | .nil => vGNil_ok
  | .cons t l => vGCons_ok (vdG_ok t) (vdGs_ok l)
end
mutual
theorem vdS_ok : ∀ s, OkS (vdS gv s) (denS gv s)
  | .set i e => vsSet_ok i (vdE_ok e)
  | .par i j a b => vsPar_ok i j (vdE_ok a) (vdE_ok b)
  | .asg tg e => vsAsg_ok (vdG_ok tg) (vdE_ok e)
  | .ex e => vsEx_ok (vdE_ok e)
  | .ret e => vsRet_ok (vdE_ok e)
  | .retN => vsRetN_ok
  | .ife t a b => vsIf_ok (vdT_ok t) (vdB_ok a) (vdB_ok b)
  | .whl t b => vsWhl_ok (vdT_ok t) (vdB_ok b)
  | .fr tg it b => vsFor_ok (vdG_ok tg) (vdI_ok it) (vdB_ok b)
  | .rse c => vsRse_ok c
  | .tr b h => vsTr_ok (denH gv h) (vdB_ok b)
  | .pass => vsPass_ok
  | .brk => vsBrk_ok
  | .cont => vsCont_ok
theorem vdB_ok : ∀ b, OkS (vdB gv b) (denB gv b)
  | .nil => vbNil_ok
  | .cons s b => vbCons_ok (vdS_ok s) (vdB_ok b)
end
end
end Mini
/-! MiniD: how values and cells stand in the hand layer's heap; readings of the code. -/
namespace Mini
open PySem PySem.Spec PyProof.Rows L2

def mkS (s : List Nat) : PySem.Str := ⟨s.toArray⟩
structure Lk where
  K : PySem.W.Frag
  fa : Nat → Addr
  ca : Nat → Addr
  F : Hp          -- what is not to be touched
abbrev Mu := Nat → Option Addr
variable (L : Lk)

def PlO (o : Obj) : Prop := o.dict = none ∧ o.slots = #[]
/-- an object that is known to be without attributes -/
def PlT (K : PySem.W.Frag) (H : Hp) (a : Addr) : Prop := (∃ o u, H a = some (.frz o u) ∧ PlO o) ∨ ∃ o, K.lookup a = some o ∧ PlO o
mutual
inductive RepV (L : Lk) (μ : Mu) (H : Hp) : D → V → Prop
  | non : RepV L μ H .non .non
  | bl (b : Bool) : RepV L μ H (.bl b) (.bl b)
  | int (i : Int) : RepV L μ H (.int i) (.int i)
  | str (s : List Nat) : RepV L μ H (.str s) (.str (mkS s))
  | tup {p : Bool} {a : Addr} {xs : List D} {vs : List V} : SqT L.K H a vs → (p = true → PlT L.K H a) → RepVs L μ H xs vs → RepV L μ H (.tup p xs) (.ref a)
  | ref {n : Nat} {a : Addr} : μ n = some a → RepV L μ H (.ref n) (.ref a)
  | fn (n : Nat) : RepV L μ H (.fn n) (.ref (L.fa n))
  | cl (n : Nat) : RepV L μ H (.cl n) (.ref (L.ca n))
inductive RepVs (L : Lk) (μ : Mu) (H : Hp) : List D → List V → Prop
  | nil : RepVs L μ H [] []
  | cons {x : D} {v : V} {xs : List D} {vs : List V} : RepV L μ H x v → RepVs L μ H xs vs → RepVs L μ H (x :: xs) (v :: vs)
end
def keyD : D → Option Key
  | .int i => some (Sum.inl i)
  | .str s => some (Sum.inr (mkS s))
  | _ => none
inductive RepK (L : Lk) (μ : Mu) (H : Hp) : List (D × D) → List (Key × V) → Prop
  | nil : RepK L μ H [] []
  | cons {y d : D} {k : Key} {v : V} {r : List (D × D)} {q : List (Key × V)} : keyD y = some k → RepV L μ H d v → RepK L μ H r q → RepK L μ H ((y, d) :: r) ((k, v) :: q)
/-- a list that is only read: locked, or written in the text -/
def SqR (K : PySem.W.Frag) (H : Hp) (a : Addr) (xs : List V) : Prop := (∃ o, H a = some (.frz o (.lst xs))) ∨
  ∃ (o : Obj) (its : Array Value) (n : Nat), K.lookup a = some o ∧ o.cls = .type "list" ∧ o.dict = none ∧ o.data = .seq its n ∧ its.size ≤ sizeLine ∧ Vals xs its.toList
theorem SqR.l {K : PySem.W.Frag} {H : Hp} {a : Addr} {xs : List V} (h : SqR K H a xs) : SqL K H a xs := by
  rcases h with ⟨o, h⟩ | h
  · exact .inl (.inr ⟨o, h⟩)
  · exact .inr h
inductive RepC (L : Lk) (μ : Mu) (H : Hp) : Cell → Addr → Prop
  | lst {xs : List D} {vs : List V} {a : Addr} : H a = some (.lst vs) → RepVs L μ H xs.reverse vs → RepC L μ H (.lst xs.length xs) a
  | rol {xs : List D} {vs : List V} {a : Addr} : SqR L.K H a vs → RepVs L μ H xs vs → RepC L μ H (.rol xs.length xs) a
  | dct {kvs : List (D × D)} {kw : List (Key × V)} {a : Addr} : H a = some (.dK kw) → RepK L μ H kvs kw → RepC L μ H (.dct false kvs.length kvs) a
def isMut : Cell → Bool
  | .lst _ _ => true
  | .dct _ _ _ => true
  | .rol _ _ => false
structure RepH (L : Lk) (μ : Mu) (g : G) (H : Hp) : Prop where
  cell : ∀ n c, g.at? n = some c → ∃ a, μ n = some a ∧ RepC L μ H c a
  inj : ∀ n m a c d, g.at? n = some c → g.at? m = some d → isMut c = true → isMut d = true → μ n = some a → μ m = some a → n = m
  dom : ∀ n a, μ n = some a → n < g.n
  lt : ∀ n c, g.at? n = some c → n < g.n
  fr : ∀ a u, L.F a = some u → H a = some u
  sep : ∀ n c a, g.at? n = some c → isMut c = true → μ n = some a → L.F a = none
/-- what stands goes on standing: the numbers' addresses, the tuples -/
structure Ext (μ : Mu) (H : Hp) (μ' : Mu) (H' : Hp) : Prop where
  mu : ∀ n a, μ n = some a → μ' n = some a
  tup : ∀ a xs, Rd H a (.tup xs) → Rd H' a (.tup xs)
  frz : ∀ a o u, H a = some (.frz o u) → H' a = some (.frz o u)
theorem Ext.refl {μ : Mu} {H : Hp} : Ext μ H μ H := ⟨fun _ _ h => h, fun _ _ h => h, fun _ _ _ h => h⟩
theorem Ext.trans {μ μ1 μ2 : Mu} {H H1 H2 : Hp} (a : Ext μ H μ1 H1) (b : Ext μ1 H1 μ2 H2) : Ext μ H μ2 H2 := ⟨fun n x h => b.mu n x (a.mu n x h), fun x y h => b.tup x y (a.tup x y h), fun x y z h => b.frz x y z (a.frz x y z h)⟩
variable {L : Lk} {μ μ' μ1 μ2 : Mu} {H H' H1 H2 : Hp}
theorem Ext.sqt {K : PySem.W.Frag} (e : Ext μ H μ' H') {a : Addr} {xs : List V} (h : SqT K H a xs) : SqT K H' a xs := by
  rcases h with h | h
  · exact .inl (e.tup _ _ h)
  · exact .inr h
theorem Ext.plT {K : PySem.W.Frag} (e : Ext μ H μ' H') {a : Addr} (h : PlT K H a) : PlT K H' a := by
  rcases h with ⟨o, u, h, d⟩ | h
  · exact .inl ⟨o, u, e.frz _ _ _ h, d⟩
  · exact .inr h
mutual
theorem RepV.mono (e : Ext μ H μ' H') : ∀ {x : D} {v : V}, RepV L μ H x v → RepV L μ' H' x v
  | _, _, .non => .non
  | _, _, .bl b => .bl b
  | _, _, .int i => .int i
  | _, _, .str s => .str s
  | _, _, .tup h k r => .tup (e.sqt h) (fun z => e.plT (k z)) (r.mono e)
  | _, _, .ref h => .ref (e.mu _ _ h)
  | _, _, .fn n => .fn n
  | _, _, .cl n => .cl n
theorem RepVs.mono (e : Ext μ H μ' H') : ∀ {xs : List D} {vs : List V}, RepVs L μ H xs vs → RepVs L μ' H' xs vs
  | _, _, .nil => .nil
  | _, _, .cons h r => .cons (h.mono e) (r.mono e)
end
theorem RepK.mono (e : Ext μ H μ' H') : ∀ {kvs : List (D × D)} {kw : List (Key × V)}, RepK L μ H kvs kw → RepK L μ' H' kvs kw
  | _, _, .nil => .nil
  | _, _, .cons hk h r => .cons hk (h.mono e) (r.mono e)
/-- values without lists and dicts: nothing of the numbers' addresses -/
def Lk.fr (L : Lk) (F : Hp) : Lk := ⟨L.K, L.fa, L.ca, F⟩
mutual
theorem RepV.pure {pf : Nat → Bool} {F F' : Hp} (ht : ∀ a xs, Rd H a (.tup xs) → Rd H' a (.tup xs)) (hf : ∀ a o u, H a = some (.frz o u) → H' a = some (.frz o u)) : ∀ {x : D} {v : V}, purD pf x = true → RepV (L.fr F) μ H x v → RepV (L.fr F') μ' H' x v
  | _, _, _, .non => .non
  | _, _, _, .bl b => .bl b
  | _, _, _, .int i => .int i
  | _, _, _, .str s => .str s
  | _, _, q, .tup h k r => .tup (h.imp (ht _ _) id) (fun z => (k z).imp (fun ⟨o, u, h, d⟩ => ⟨o, u, hf _ _ _ h, d⟩) id) (RepVs.pureT ht hf q r)
  | _, _, q, .ref h => nomatch q
  | _, _, _, .fn n => .fn n
  | _, _, _, .cl n => .cl n
theorem RepVs.pureT {pf : Nat → Bool} {F F' : Hp} (ht : ∀ a xs, Rd H a (.tup xs) → Rd H' a (.tup xs)) (hf : ∀ a o u, H a = some (.frz o u) → H' a = some (.frz o u)) {p : Bool} : ∀ {xs : List D} {vs : List V}, purD pf (.tup p xs) = true → RepVs (L.fr F) μ H xs vs → RepVs (L.fr F') μ' H' xs vs
  | _, _, _, .nil => .nil
  | x :: xs, _, q, .cons h r => by
    have q' : Bool.rec (motive := fun _ => Bool) false (purD pf (.tup p xs)) (purD pf x) = true := q
    cases hx : purD pf x with
    | false => rw [hx] at q'; cases q'
    | true => rw [hx] at q'; exact .cons (h.pure ht hf hx) (RepVs.pureT ht hf q' r)
end
theorem RepVs.pure {pf : Nat → Bool} {F F' : Hp} (ht : ∀ a xs, Rd H a (.tup xs) → Rd H' a (.tup xs)) (hf : ∀ a o u, H a = some (.frz o u) → H' a = some (.frz o u)) : ∀ {xs : List D} {vs : List V}, purL pf xs = true → RepVs (L.fr F) μ H xs vs → RepVs (L.fr F') μ' H' xs vs
  | _, _, _, .nil => .nil
  | x :: xs, _, q, .cons h r => by
    have q' : Bool.rec (motive := fun _ => Bool) false (purL pf xs) (purD pf x) = true := q
    cases hx : purD pf x with
    | false => rw [hx] at q'; cases q'
    | true => rw [hx] at q'; exact .cons (h.pure ht hf hx) (RepVs.pure ht hf q' r)
mutual
theorem RepV.frm {F F' : Hp} : ∀ {x : D} {v : V}, RepV (L.fr F) μ H x v → RepV (L.fr F') μ H x v
  | _, _, .non => .non
  | _, _, .bl b => .bl b
  | _, _, .int i => .int i
  | _, _, .str s => .str s
  | _, _, .tup h k r => .tup h k r.frm
  | _, _, .ref h => .ref h
  | _, _, .fn n => .fn n
  | _, _, .cl n => .cl n
theorem RepVs.frm {F F' : Hp} : ∀ {xs : List D} {vs : List V}, RepVs (L.fr F) μ H xs vs → RepVs (L.fr F') μ H xs vs
  | _, _, .nil => .nil
  | _, _, .cons h r => .cons h.frm r.frm
end
theorem RepVs.length : ∀ {xs : List D} {vs : List V}, RepVs L μ H xs vs → xs.length = vs.length
  | _, _, .nil => rfl
  | _, _, .cons _ r => by simp [r.length]
theorem RepVs.get : ∀ {xs : List D} {vs : List V} {i : Nat} {x : D}, RepVs L μ H xs vs → xs[i]? = some x → ∃ v, vs[i]? = some v ∧ RepV L μ H x v
  | _, _, _, _, .nil, e => by simp at e
  | _, _, 0, _, .cons h _, e => by simp at e; subst e; exact ⟨_, rfl, h⟩
  | _, _, i + 1, x, .cons _ r, e => by
    obtain ⟨v, h1, h2⟩ := RepVs.get (i := i) r (by simpa using e)
    exact ⟨v, by simpa using h1, h2⟩
theorem RepVs.none_of : ∀ {xs : List D} {vs : List V} {i : Nat}, RepVs L μ H xs vs → xs[i]? = none → vs.length ≤ i := fun r e => by
  have h1 := List.getElem?_eq_none_iff.mp e
  rw [r.length] at h1
  exact h1
theorem RepVs.append : ∀ {xs ys : List D} {vs ws : List V}, RepVs L μ H xs vs → RepVs L μ H ys ws → RepVs L μ H (xs ++ ys) (vs ++ ws)
  | _, _, _, _, .nil, s => s
  | _, _, _, _, .cons h r, s => .cons h (r.append s)
theorem RepVs.set {y : D} {w : V} (h : RepV L μ H y w) : ∀ {xs : List D} {vs : List V} (i : Nat), RepVs L μ H xs vs → RepVs L μ H (xs.set i y) (vs.set i w)
  | _, _, _, .nil => .nil
  | _, _, 0, .cons _ r => .cons h r
  | _, _, i + 1, .cons q r => .cons q (r.set h i)
theorem RepVs.take : ∀ {xs : List D} {vs : List V} (n : Nat), RepVs L μ H xs vs → RepVs L μ H (xs.take n) (vs.take n)
  | _, _, 0, _ => .nil
  | _, _, _ + 1, .nil => .nil
  | _, _, n + 1, .cons h r => .cons h (r.take n)
theorem RepVs.drop : ∀ {xs : List D} {vs : List V} (n : Nat), RepVs L μ H xs vs → RepVs L μ H (xs.drop n) (vs.drop n)
  | _, _, 0, r => r
  | _, _, _ + 1, .nil => .nil
  | _, _, n + 1, .cons _ r => r.drop n
theorem RepVs.rep {xs : List D} {vs : List V} (r : RepVs L μ H xs vs) : ∀ n : Nat, RepVs L μ H (List.replicate n xs).flatten (List.replicate n vs).flatten
  | 0 => .nil
  | n + 1 => by rw [List.replicate_succ, List.replicate_succ, List.flatten_cons, List.flatten_cons]; exact r.append (r.rep n)
theorem RepK.length : ∀ {xs : List (D × D)} {vs : List (Key × V)}, RepK L μ H xs vs → xs.length = vs.length
  | _, _, .nil => rfl
  | _, _, .cons _ _ r => by simp [r.length]

/-- the slots -/
structure RepS (L : Lk) (μ : Mu) (H : Hp) (σ : Mini.St) (τ : L2.St) : Prop where
  len : σ.length = τ.length
  at_ : ∀ (i : Nat) (d : D), σ[i]? = some d → d ≠ .und → ∃ v, τ[i]? = some (some v) ∧ RepV L μ H d v
theorem RepS.mono (e : Ext μ H μ' H') {σ : Mini.St} {τ : L2.St} (r : RepS L μ H σ τ) : RepS L μ' H' σ τ := ⟨r.len, fun i d h n => by
  obtain ⟨v, h1, h2⟩ := r.at_ i d h n
  exact ⟨v, h1, h2.mono e⟩⟩
theorem RepS.set {σ : Mini.St} {τ : L2.St} (r : RepS L μ H σ τ) (i : Nat) {d : D} {v : V} (h : RepV L μ H d v) : RepS L μ H (σ.set i d) (τ.set i (some v)) := by
  refine ⟨by simp [r.len], fun j x hx nx => ?_⟩
  by_cases hj : i = j
  · subst hj
    by_cases hi : i < σ.length
    · rw [List.getElem?_set_self hi] at hx
      cases hx
      exact ⟨v, by rw [List.getElem?_set_self (by rw [← r.len]; exact hi)], h⟩
    · rw [List.getElem?_eq_none (by simpa using hi)] at hx; cases hx
  · rw [List.getElem?_set_ne hj] at hx ⊢
    exact r.at_ j x hx nx
theorem RepS.unset {σ : Mini.St} {τ : L2.St} (r : RepS L μ H σ τ) (i : Nat) : RepS L μ H (σ.set i .und) (τ.set i none) := by
  refine ⟨by simp [r.len], fun j x hx nx => ?_⟩
  by_cases hj : i = j
  · subst hj
    by_cases hi : i < σ.length
    · rw [List.getElem?_set_self hi] at hx
      cases hx
      exact absurd rfl nx
    · rw [List.getElem?_eq_none (by simpa using hi)] at hx; cases hx
  · rw [List.getElem?_set_ne hj] at hx ⊢
    exact r.at_ j x hx nx

/-- an exception's own dict, by what it carries -/
inductive RepX (L : Lk) (μ : Mu) (H : Hp) : D → Option Addr → Prop
  | non : RepX L μ H .non none

/-- what is wanted of a result -/
def Post {α β : Type} (L : Lk) (Rp : Mu → Hp → α → β → Prop) (μ : Mu) (H : Hp) (τ : L2.St) (r : R α) (Q : β → Hp → Prop) (W : WX) : Prop := match r with
  | .ok a g => ∀ μ' H' b, Ext μ H μ' H' → Rp μ' H' a b → RepH L μ' g H' → Q b H'
  | .exc c p g => ∀ μ' H' x, Ext μ H μ' H' → RepH L μ' g H' → RepX L μ' H' p x → W (.ref (L.ca c)) x τ H'
  | .stuck => False
section
variable {α β γ δ : Type} {Rp : Mu → Hp → α → β → Prop} {Rq : Mu → Hp → γ → δ → Prop} {τ : L2.St} {W : WX}
theorem Post.mono {r : R α} {Q : β → Hp → Prop} (e : Ext μ H μ1 H1) (h : Post L Rp μ H τ r Q W) : Post L Rp μ1 H1 τ r Q W := by
  cases r with
  | ok a g => exact fun μ' H' b e' ra rh => h μ' H' b (e.trans e') ra rh
  | exc c p g => exact fun μ' H' x e' rh rx => h μ' H' x (e.trans e') rh rx
  | stuck => exact h
theorem Post.bind {r : R α} {f : α → G → R γ} {Q : δ → Hp → Prop} {Q' : β → Hp → Prop} (h : Post L Rq μ H τ (r.bind f) Q W)
    (k : ∀ b H1 μ1 a g1, Ext μ H μ1 H1 → Rp μ1 H1 a b → RepH L μ1 g1 H1 → Post L Rq μ1 H1 τ (f a g1) Q W → Q' b H1) : Post L Rp μ H τ r Q' W := by
  cases r with
  | ok a g => exact fun μ' H' b e ra rh => k b H' μ' a g e ra rh (Post.mono e h)
  | exc c p g => exact h
  | stuck => exact h
theorem Post.imp {r : R α} {Q Q' : β → Hp → Prop} (h : Post L Rp μ H τ r Q W) (k : ∀ b H1 μ1 a g1, Ext μ H μ1 H1 → Rp μ1 H1 a b → RepH L μ1 g1 H1 → Q b H1 → Q' b H1) : Post L Rp μ H τ r Q' W := by
  cases r with
  | ok a g => exact fun μ' H' b e ra rh => k b H' μ' a g e ra rh (h μ' H' b e ra rh)
  | exc c p g => exact h
  | stuck => exact h
theorem Post.val {a : α} {b : β} {g : G} {Q : β → Hp → Prop} (h : Post L Rp μ H τ (.ok a g) Q W) (ra : Rp μ H a b) (rh : RepH L μ g H) : Q b H := h μ H b Ext.refl ra rh
end

/-- the reading of an expression's meaning -/
def RD (L : Lk) (Γ : CF) (W : WX) (m : EK) : TE := fun τ H Q => ∃ μ σ g, RepS L μ H σ τ ∧ RepH L μ g H ∧ Post L (RepV L) μ H τ (m Γ σ g) Q W
def RA (L : Lk) (Γ : CF) (W : WX) (m : AK) : TA := fun τ H Q => ∃ μ σ g, RepS L μ H σ τ ∧ RepH L μ g H ∧ Post L (RepVs L) μ H τ (m Γ σ g) Q W
def RT (L : Lk) (Γ : CF) (W : WX) (m : TK) : TT := fun τ H Q => ∃ μ σ g, RepS L μ H σ τ ∧ RepH L μ g H ∧ Post L (fun _ _ (b : Bool) c => b = c) μ H τ (m Γ σ g) Q W
def RO (L : Lk) (Γ : CF) (W : WX) (m : OK) : TO := fun τ H Q => ∃ μ σ g, RepS L μ H σ τ ∧ RepH L μ g H ∧ Post L (fun _ _ (b : Option Int) c => b = c) μ H τ (m Γ σ g) Q W

theorem _root_.L2.PE.imp {X : Cx} {e : PySem.Expr} {t t' : TE} (h : PE X e t) (k : ∀ τ H Q, t' τ H Q → t τ H Q) : PE X e t' := ⟨fun pins s σ H Q I hq => h.run pins s σ H Q I (k _ _ _ hq)⟩
theorem _root_.L2.PT.imp {X : Cx} {e : PySem.Expr} {t t' : TT} (h : PT X e t) (k : ∀ τ H Q, t' τ H Q → t τ H Q) : PT X e t' := ⟨fun pins s σ H Q I hq => h.run pins s σ H Q I (k _ _ _ hq)⟩
theorem _root_.L2.PW.imp {X : Cx} {e : PySem.Expr} {t t' : TT} (h : PW X e t) (k : ∀ τ H Q, t' τ H Q → t τ H Q) : PW X e t' := ⟨fun wh pins s σ H Q I hq => h.run wh pins s σ H Q I (k _ _ _ hq)⟩
theorem _root_.L2.PA.imp {X : Cx} {e : List PySem.Expr} {t t' : TA} (h : PA X e t) (k : ∀ τ H Q, t' τ H Q → t τ H Q) : PA X e t' := ⟨fun pos pins s σ H Q I hq => h.run pos pins s σ H Q I (k _ _ _ hq)⟩
theorem _root_.L2.PO.imp {X : Cx} {e : Option PySem.Expr} {t t' : TO} (h : PO X e t) (k : ∀ τ H Q, t' τ H Q → t τ H Q) : PO X e t' := ⟨fun pins s σ H Q I hq => h.run pins s σ H Q I (k _ _ _ hq)⟩
theorem _root_.L2.PS.imp {X : Cx} {e : PySem.Stmt} {t t' : TS} (h : PS X e t) (k : ∀ D τ H, t' D τ H → t D τ H) : PS X e t' := ⟨fun pins s σ H D I hq => h.run pins s σ H D I (k _ _ _ hq)⟩
theorem _root_.L2.PSs.imp {X : Cx} {e : List PySem.Stmt} {t t' : TS} (h : PSs X e t) (k : ∀ D τ H, t' D τ H → t D τ H) : PSs X e t' := ⟨fun pins s σ H D I hq => h.run pins s σ H D I (k _ _ _ hq)⟩
theorem _root_.L2.PG.imp {X : Cx} {e : PySem.Expr} {t t' : TG} (h : PG X e t) (k : ∀ v τ H Q, t' v τ H Q → t v τ H Q) : PG X e t' := ⟨fun pins s σ H v u Q I r hq => h.run pins s σ H v u Q I r (k _ _ _ _ hq)⟩
theorem _root_.L2.PGs.imp {X : Cx} {e : List PySem.Expr} {t t' : TGs} (h : PGs X e t) (k : ∀ v τ H Q, t' v τ H Q → t v τ H Q) : PGs X e t' := ⟨fun pins s σ H v u Q I r hq => h.run pins s σ H v u Q I r (k _ _ _ _ hq)⟩
theorem _root_.L2.PI.imp {X : Cx} {tg e : PySem.Expr} {t t' : TI} (h : PI X tg e t) (k : ∀ τ H Q, t' τ H Q → t τ H Q) : PI X tg e t' := ⟨fun pins s σ H Q I hq => h.run pins s σ H Q I (k _ _ _ hq)⟩
end Mini
/-! MiniE: the heap's steps; operators by values. -/
namespace Mini
open PySem PySem.Spec PyProof.Rows L2

/-! ### the tree of cells -/
theorem Tr.put_at {c : Cell} : ∀ {t t' : Tr} {i : Nat}, t.put? i c = some t' → ∀ j, t'.at? j = if j = i then some c else t.at? j := by
  have main : ∀ (t : Tr) (i : Nat) (t' : Tr), t.put? i c = some t' → ∀ j, t'.at? j = if j = i then some c else t.at? j := by
    intro t
    induction t with
    | nil =>
      intro i t' h j
      cases i with
      | zero =>
        have e : Tr.node .nil c .nil = t' := Option.some.inj h
        subst e
        cases j with
        | zero => rfl
        | succ j =>
          show (sel (Nat.beq (Nat.mod j 2) 0) (none : Option Cell) (none)) = if j + 1 = 0 then some c else none
          rw [if_neg (by omega)]
          cases Nat.beq (Nat.mod j 2) 0 <;> rfl
      | succ i => cases h
    | node l v r ihl ihr =>
      intro i t' h j
      cases i with
      | zero =>
        have e : Tr.node l c r = t' := Option.some.inj h
        subst e
        cases j with
        | zero => rfl
        | succ j => rw [if_neg (by omega)]; rfl
      | succ i =>
        have h' : (sel (Nat.beq (Nat.mod i 2) 0) (l.put (Nat.div i 2) c (none : Option Tr) fun l' => some (.node l' v r)) (r.put (Nat.div i 2) c none fun r' => some (.node l v r'))) = some t' := h
        have div_inj : ∀ {a b : Nat}, Nat.beq (Nat.mod a 2) 0 = Nat.beq (Nat.mod b 2) 0 → Nat.div a 2 = Nat.div b 2 → a = b := by
          intro a b h1 h2
          have h2' : a / 2 = b / 2 := h2
          have h1' : (Nat.beq (a % 2) 0) = (Nat.beq (b % 2) 0) := h1
          have e1 : (a % 2 = 0) = (b % 2 = 0) := by rw [← @Nat.beq_eq (a % 2) 0, ← @Nat.beq_eq (b % 2) 0, h1']
          have e1 : (a % 2 = 0) ↔ (b % 2 = 0) := iff_of_eq e1
          omega
        cases hb : Nat.beq (Nat.mod i 2) 0 with
        | true =>
          rw [hb] at h'
          have h2 : l.put (Nat.div i 2) c (none : Option Tr) (fun l' => some (.node l' v r)) = some t' := h'
          rw [Tr.put_eq] at h2
          cases hp : l.put? (Nat.div i 2) c with
          | none => rw [hp] at h2; cases h2
          | some l' =>
            rw [hp] at h2
            have e : Tr.node l' v r = t' := Option.some.inj h2
            subst e
            have ih := ihl _ _ hp
            cases j with
            | zero => rw [if_neg (by omega)]; rfl
            | succ j =>
              show (sel (Nat.beq (Nat.mod j 2) 0) (l'.at? (Nat.div j 2)) (r.at? (Nat.div j 2))) = if j + 1 = i + 1 then some c else (sel (Nat.beq (Nat.mod j 2) 0) (l.at? (Nat.div j 2)) (r.at? (Nat.div j 2)))
              cases hj : Nat.beq (Nat.mod j 2) 0 with
              | true =>
                show l'.at? (Nat.div j 2) = _
                rw [ih]
                by_cases e : Nat.div j 2 = Nat.div i 2
                · have : j = i := div_inj (hj.trans hb.symm) e
                  subst this; simp
                · have : ¬ j + 1 = i + 1 := fun q => e (by rw [Nat.succ.inj q])
                  rw [if_neg e, if_neg this]
              | false =>
                have : ¬ j + 1 = i + 1 := fun q => by have := Nat.succ.inj q; subst this; rw [hj] at hb; cases hb
                rw [if_neg this]
        | false =>
          rw [hb] at h'
          have h2 : r.put (Nat.div i 2) c (none : Option Tr) (fun r' => some (.node l v r')) = some t' := h'
          rw [Tr.put_eq] at h2
          cases hp : r.put? (Nat.div i 2) c with
          | none => rw [hp] at h2; cases h2
          | some r' =>
            rw [hp] at h2
            have e : Tr.node l v r' = t' := Option.some.inj h2
            subst e
            have ih := ihr _ _ hp
            cases j with
            | zero => rw [if_neg (by omega)]; rfl
            | succ j =>
              show (sel (Nat.beq (Nat.mod j 2) 0) (l.at? (Nat.div j 2)) (r'.at? (Nat.div j 2))) = if j + 1 = i + 1 then some c else (sel (Nat.beq (Nat.mod j 2) 0) (l.at? (Nat.div j 2)) (r.at? (Nat.div j 2)))
              cases hj : Nat.beq (Nat.mod j 2) 0 with
              | false =>
                show r'.at? (Nat.div j 2) = _
                rw [ih]
                by_cases e : Nat.div j 2 = Nat.div i 2
                · have : j = i := div_inj (hj.trans hb.symm) e
                  subst this; simp
                · have : ¬ j + 1 = i + 1 := fun q => e (by rw [Nat.succ.inj q])
                  rw [if_neg e, if_neg this]
              | true =>
                have : ¬ j + 1 = i + 1 := fun q => by have := Nat.succ.inj q; subst this; rw [hj] at hb; cases hb
                rw [if_neg this]
  exact fun {t t' i} h => main t i t' h
theorem G.new_eq {α : Type} (g : G) (c : Cell) (e : α) (k : Nat → G → α) : g.new c e k = match g.t.put? g.n c with | some t' => k g.n ⟨g.n + 1, t'⟩ | none => e := by
  obtain ⟨n, t⟩ := g
  show t.put n c e (fun t' => fNat (Nat.succ n) fun n' => k n ⟨n', t'⟩) = _
  rw [Tr.put_eq]
  cases t.put? n c with
  | none => rfl
  | some t' => exact fNat_eq _ _
theorem G.upd_eq {α : Type} (g : G) (a : Nat) (c : Cell) (e : α) (k : G → α) : g.upd a c e k = match g.t.put? a c with | some t' => k ⟨g.n, t'⟩ | none => e := by
  obtain ⟨n, t⟩ := g
  exact Tr.put_eq _ _ _ _ _

variable {L : Lk} {μ μ' μ1 μ2 : Mu} {g g' : G} {H H' H1 H2 : Hp} {τ : L2.St} {W : WX}
theorem RepC.keep {c : Cell} {a : Addr} (h : RepC L μ H c a) (e : Ext μ H μ' H') (k : ∀ u, H a = some u → H' a = some u) : RepC L μ' H' c a := by
  cases h with
  | lst h r => exact .lst (k _ h) (r.mono e)
  | dct h r => exact .dct (k _ h) (r.mono e)
  | rol h r =>
    refine .rol ?_ (r.mono e)
    rcases h with ⟨o, h⟩ | h
    · exact .inl ⟨o, k _ h⟩
    · exact .inr h
def Mu.ins (μ : Mu) (n : Nat) (p : Addr) : Mu := fun m => if m = n then some p else μ m
theorem RepH.fresh (r : RepH L μ g H) : μ g.n = none := by
  cases h : μ g.n with
  | none => rfl
  | some a => exact absurd (r.dom _ _ h) (Nat.lt_irrefl _)
theorem Ext.ins (r : RepH L μ g H) {p : Addr} {o : HO} (hp : H p = none) : Ext μ H (μ.ins g.n p) (L2.upd H p o) := by
  refine ⟨fun n a h => ?_, fun a xs h => ?_, fun a ob u h => by rw [upd_ne (ne_of_none h hp)]; exact h⟩
  · unfold Mu.ins
    by_cases e : n = g.n
    · subst e; rw [r.fresh] at h; cases h
    · rw [if_neg e]; exact h
  · rcases h with h | ⟨ob, h⟩
    · exact .inl (by rw [upd_ne (ne_of_none h hp)]; exact h)
    · exact .inr ⟨ob, by rw [upd_ne (ne_of_none h hp)]; exact h⟩
/-- a new tuple alone -/
theorem Ext.new {p : Addr} {o : HO} (hp : H p = none) : Ext μ H μ (L2.upd H p o) := by
  refine ⟨fun n a h => h, fun a xs h => ?_, fun a ob u h => by rw [upd_ne (ne_of_none h hp)]; exact h⟩
  rcases h with h | ⟨ob, h⟩
  · exact .inl (by rw [upd_ne (ne_of_none h hp)]; exact h)
  · exact .inr ⟨ob, by rw [upd_ne (ne_of_none h hp)]; exact h⟩
theorem RepC.mutAt {c : Cell} {a : Addr} (h : RepC L μ H c a) (m : isMut c = true) : ∃ u, H a = some u ∧ ∀ xs, u ≠ .tup xs ∧ ∀ o v, u ≠ .frz o v := by
  cases h with
  | lst h r => exact ⟨_, h, fun xs => ⟨(nomatch ·), fun _ _ => (nomatch ·)⟩⟩
  | dct h r => exact ⟨_, h, fun xs => ⟨(nomatch ·), fun _ _ => (nomatch ·)⟩⟩
  | rol h r => cases m
theorem RepH.new (r : RepH L μ g H) {c : Cell} {t' : Tr} {p : Addr} {o : HO} (ht : g.t.put? g.n c = some t') (hp : H p = none) (rc : RepC L (μ.ins g.n p) (L2.upd H p o) c p) :
    RepH L (μ.ins g.n p) ⟨g.n + 1, t'⟩ (L2.upd H p o) := by
  have at_ := Tr.put_at ht
  have ex : Ext μ H (μ.ins g.n p) (L2.upd H p o) := Ext.ins r hp
  have old : ∀ m d, m ≠ g.n → (⟨g.n + 1, t'⟩ : G).at? m = some d → g.at? m = some d := fun m d hm h => by
    have h' : t'.at? m = some d := h
    rw [at_, if_neg hm] at h'
    exact h'
  have new : ∀ d, (⟨g.n + 1, t'⟩ : G).at? g.n = some d → d = c := fun d h => by
    have h' : t'.at? g.n = some d := h
    rw [at_, if_pos rfl] at h'
    exact (Option.some.inj h').symm
  refine ⟨fun m d h => ?_, fun m m' a d d' h h' hd hd' e e' => ?_, fun m a h => ?_, fun m d h => ?_, fun a u h => by rw [upd_ne (ne_of_none (r.fr a u h) hp)]; exact r.fr a u h, fun m d a h hd e => ?_⟩
  · by_cases hm : m = g.n
    · subst hm
      rw [new d h]
      exact ⟨p, by unfold Mu.ins; rw [if_pos rfl], rc⟩
    · obtain ⟨a, ha, ra⟩ := r.cell m d (old m d hm h)
      exact ⟨a, ex.mu _ _ ha, ra.keep ex fun u hu => by rw [upd_ne (ne_of_none hu hp)]; exact hu⟩
  · by_cases hm : m = g.n
    · by_cases hm' : m' = g.n
      · rw [hm, hm']
      · exfalso
        have od' := old m' d' hm' h'
        obtain ⟨a', ha', ra'⟩ := r.cell m' d' od'
        obtain ⟨u, hu, _⟩ := ra'.mutAt hd'
        have e1 : (μ.ins g.n p) m = some p := by unfold Mu.ins; rw [if_pos hm]
        have e2 : (μ.ins g.n p) m' = some a' := ex.mu _ _ ha'
        rw [e1] at e; rw [e2] at e'
        have : a' = p := by rw [← Option.some.inj e] at e'; exact Option.some.inj e'
        rw [this, hp] at hu; cases hu
    · by_cases hm' : m' = g.n
      · exfalso
        have od := old m d hm h
        obtain ⟨a', ha', ra'⟩ := r.cell m d od
        obtain ⟨u, hu, _⟩ := ra'.mutAt hd
        have e1 : (μ.ins g.n p) m' = some p := by unfold Mu.ins; rw [if_pos hm']
        have e2 : (μ.ins g.n p) m = some a' := ex.mu _ _ ha'
        rw [e1] at e'; rw [e2] at e
        have : a' = p := by rw [← Option.some.inj e'] at e; exact Option.some.inj e
        rw [this, hp] at hu; cases hu
      · unfold Mu.ins at e e'
        rw [if_neg hm] at e
        rw [if_neg hm'] at e'
        exact r.inj m m' a d d' (old m d hm h) (old m' d' hm' h') hd hd' e e'
  · unfold Mu.ins at h
    by_cases hm : m = g.n
    · rw [hm]; exact Nat.lt_succ_self _
    · rw [if_neg hm] at h
      exact Nat.lt_succ_of_lt (r.dom m a h)
  · by_cases hm : m = g.n
    · rw [hm]; exact Nat.lt_succ_self _
    · exact Nat.lt_succ_of_lt (r.lt m d (old m d hm h))
  · unfold Mu.ins at e
    by_cases hm : m = g.n
    · rw [if_pos hm] at e
      cases e
      cases hF : L.F p with
      | none => rfl
      | some u => have := r.fr p u hF; rw [hp] at this; cases this
    · rw [if_neg hm] at e
      exact r.sep m d a (old m d hm h) hd e
theorem Ext.upd {c : Cell} {a : Addr} {o : HO} (rc : RepC L μ H c a) (m : isMut c = true) : Ext μ H μ (L2.upd H a o) := by
  obtain ⟨u, hu, nt⟩ := rc.mutAt m
  refine ⟨fun _ _ h => h, fun b xs h => ?_, fun b ob v h => by
    have hb : b ≠ a := by
      rintro rfl
      rw [hu] at h; exact (nt []).2 _ _ (Option.some.inj h)
    rw [upd_ne hb]; exact h⟩
  have hb : b ≠ a := by
    rintro rfl
    rcases h with h | ⟨ob, h⟩
    · rw [hu] at h; exact (nt xs).1 (Option.some.inj h)
    · rw [hu] at h; exact (nt xs).2 _ _ (Option.some.inj h)
  rcases h with h | ⟨ob, h⟩
  · exact .inl (by rw [upd_ne hb]; exact h)
  · exact .inr ⟨ob, by rw [upd_ne hb]; exact h⟩
theorem RepH.upd (r : RepH L μ g H) {n : Nat} {c0 c : Cell} {t' : Tr} {a : Addr} {o : HO} (h0 : g.at? n = some c0) (m0 : isMut c0 = true) (ha : μ n = some a) (rc0 : RepC L μ H c0 a)
    (ht : g.t.put? n c = some t') (m1 : isMut c = true) (rc : RepC L μ (L2.upd H a o) c a) : RepH L μ ⟨g.n, t'⟩ (L2.upd H a o) := by
  have at_ := Tr.put_at ht
  have ex : Ext μ H μ (L2.upd H a o) := Ext.upd rc0 m0
  have old : ∀ m d, m ≠ n → (⟨g.n, t'⟩ : G).at? m = some d → g.at? m = some d := fun m d hm h => by
    have h' : t'.at? m = some d := h
    rw [at_, if_neg hm] at h'
    exact h'
  have new : ∀ d, (⟨g.n, t'⟩ : G).at? n = some d → d = c := fun d h => by
    have h' : t'.at? n = some d := h
    rw [at_, if_pos rfl] at h'
    exact (Option.some.inj h').symm
  obtain ⟨u0, hu0, nt0⟩ := rc0.mutAt m0
  have was : ∀ m d, (⟨g.n, t'⟩ : G).at? m = some d → isMut d = true → ∃ d', g.at? m = some d' ∧ isMut d' = true := fun m d h hm => by
    by_cases e : m = n
    · subst e; exact ⟨c0, h0, m0⟩
    · exact ⟨d, old m d e h, hm⟩
  have hFa : L.F a = none := r.sep n c0 a h0 m0 ha
  refine ⟨fun m d h => ?_, fun m m' b d d' h h' hd hd' e e' => ?_, fun m b h => r.dom m b h, fun m d h => ?_, fun b u h => ?_, fun m d b h hd e => ?_⟩
  · by_cases hm : m = n
    · subst hm
      rw [new d h]
      exact ⟨a, ha, rc⟩
    · obtain ⟨b, hb, rb⟩ := r.cell m d (old m d hm h)
      refine ⟨b, hb, ?_⟩
      by_cases q : isMut d = true
      · have hba : b ≠ a := fun e => hm (r.inj m n a d c0 (old m d hm h) h0 q m0 (by rw [← e]; exact hb) ha)
        exact rb.keep ex fun u hu => by rw [upd_ne hba]; exact hu
      · cases rb with
        | lst h r => exact absurd rfl q
        | dct h r => exact absurd rfl q
        | rol h1 r1 =>
          refine .rol ?_ (r1.mono ex)
          rcases h1 with ⟨ob, h1⟩ | h1
          · refine .inl ⟨ob, ?_⟩
            have hba : b ≠ a := by
              rintro rfl
              rw [hu0] at h1
              exact (nt0 []).2 _ _ (Option.some.inj h1)
            rw [upd_ne hba]; exact h1
          · exact .inr h1
  · obtain ⟨q, hq, mq⟩ := was m d h hd
    obtain ⟨q', hq', mq'⟩ := was m' d' h' hd'
    exact r.inj m m' b q q' hq hq' mq mq' e e'
  · by_cases hm : m = n
    · subst hm; exact r.lt _ c0 h0
    · exact r.lt m d (old m d hm h)
  · have hba : b ≠ a := fun q => by rw [q, hFa] at h; cases h
    rw [upd_ne hba]; exact r.fr b u h
  · obtain ⟨q, hq, mq⟩ := was m d h hd
    exact r.sep m q b hq mq e

/-- a new cell -/
theorem post_new {c : Cell} {Q : V → Hp → Prop} (h : Post L (RepV L) μ H τ (rNew c g) Q W) (r : RepH L μ g H) {p : Addr} {o : HO} (hp : H p = none)
    (rc : ∀ μ' H', Ext μ H μ' H' → H' p = some o → RepC L μ' H' c p) : Q (.ref p) (L2.upd H p o) := by
  unfold rNew at h
  rw [G.new_eq] at h
  cases e : g.t.put? g.n c with
  | none => rw [e] at h; exact h.elim
  | some t' =>
    rw [e] at h
    exact h _ _ _ (Ext.ins r hp) (.ref (by unfold Mu.ins; rw [if_pos rfl])) (r.new e hp (rc _ _ (Ext.ins r hp) upd_same))
theorem post_list {xs : List D} {vs : List V} {Q : V → Hp → Prop} (h : Post L (RepV L) μ H τ (rList xs g) Q W) (r : RepH L μ g H) (rv : RepVs L μ H xs vs) :
    xs.length ≤ lim ∧ ∀ p, H p = none → Q (.ref p) (L2.upd H p (.lst vs)) := by
  unfold rList at h
  rw [llen_eq] at h
  cases e : Nat.ble xs.length lim with
  | false => rw [e] at h; exact h.elim
  | true =>
    rw [e] at h
    simp only [lrev_eq, List.append_nil] at h
    have el : xs.length = xs.reverse.length := (List.length_reverse).symm
    rw [el] at h
    refine ⟨Nat.le_of_ble_eq_true e, fun p hp => post_new h r hp fun μ' H' ex q => .lst q ?_⟩
    rw [List.reverse_reverse]
    exact rv.mono ex
theorem post_listR {xs : List D} {vs : List V} {Q : V → Hp → Prop} (h : Post L (RepV L) μ H τ (rListR xs g) Q W) (r : RepH L μ g H) (rv : RepVs L μ H xs.reverse vs) :
    xs.length ≤ lim ∧ ∀ p, H p = none → Q (.ref p) (L2.upd H p (.lst vs)) := by
  unfold rListR at h
  rw [llen_eq] at h
  cases e : Nat.ble xs.length lim with
  | false => rw [e] at h; exact h.elim
  | true =>
    rw [e] at h
    exact ⟨Nat.le_of_ble_eq_true e, fun p hp => post_new h r hp fun μ' H' ex q => .lst q (rv.mono ex)⟩
theorem lim_line : lim ≤ sizeLine := by rw [sizeLine_eq]; decide
theorem lim_line1 : lim < sizeLine := by rw [sizeLine_eq]; decide
/-- a new tuple -/
theorem rep_tup_new {xs : List D} {vs : List V} {p : Addr} (hp : H p = none) (rv : RepVs L μ H xs vs) : RepV L μ (L2.upd H p (.tup vs)) (.tup false xs) (.ref p) :=
  .tup (.inl (.inl upd_same)) (fun z => nomatch z) (rv.mono (Ext.new hp))
theorem RepH.tupNew {o : HO} {p : Addr} (r : RepH L μ g H) (hp : H p = none) : RepH L μ g (L2.upd H p o) :=
  ⟨fun n c h => by
    obtain ⟨a, ha, rc⟩ := r.cell n c h
    exact ⟨a, ha, rc.keep (Ext.new hp) fun u hu => by rw [upd_ne (ne_of_none hu hp)]; exact hu⟩, r.inj, r.dom, r.lt, fun a u h => by rw [upd_ne (ne_of_none (r.fr a u h) hp)]; exact r.fr a u h, r.sep⟩
theorem post_tup {xs : List D} {vs : List V} {Q : V → Hp → Prop} (h : Post L (RepV L) μ H τ (.ok (.tup false xs) g) Q W) (r : RepH L μ g H) (rv : RepVs L μ H xs vs) {p : Addr} (hp : H p = none) :
    Q (.ref p) (L2.upd H p (.tup vs)) := h _ _ _ (Ext.new hp) (rep_tup_new hp rv) (r.tupNew hp)
theorem post_tupP {xs : List D} {vs : List V} {Q : V → Hp → Prop} (h : Post L (RepV L) μ H τ (.ok (.tup true xs) g) Q W) (r : RepH L μ g H) (rv : RepVs L μ H xs vs) {p : Addr} {o : Obj} (hp : H p = none) (ho : PlO o) :
    Q (.ref p) (L2.upd H p (.frz o (.tup vs))) := h _ _ _ (Ext.new hp) (.tup (.inl (.inr ⟨o, upd_same⟩)) (fun _ => .inl ⟨o, _, upd_same, ho⟩) (rv.mono (Ext.new hp))) (r.tupNew hp)
theorem post_rTup {xs : List D} {Q : V → Hp → Prop} (h : Post L (RepV L) μ H τ (rTup xs g) Q W) : xs.length ≤ lim ∧ Post L (RepV L) μ H τ (.ok (.tup false xs) g) Q W := by
  unfold rTup at h
  rw [llen_eq] at h
  cases e : Nat.ble xs.length lim with
  | false => rw [e] at h; exact h.elim
  | true => rw [e] at h; exact ⟨Nat.le_of_ble_eq_true e, h⟩
theorem post_rStr {s : List Nat} {Q : V → Hp → Prop} (h : Post L (RepV L) μ H τ (rStr s g) Q W) : s.length ≤ lim ∧ Post L (RepV L) μ H τ (.ok (.str s) g) Q W := by
  unfold rStr at h
  rw [llen_eq] at h
  cases e : Nat.ble s.length lim with
  | false => rw [e] at h; exact h.elim
  | true => rw [e] at h; exact ⟨Nat.le_of_ble_eq_true e, h⟩
/-- what stands in a cell -/
theorem RepH.look (r : RepH L μ g H) {n : Nat} {a : Addr} (ha : μ n = some a) {c : Cell} (h : g.at? n = some c) : RepC L μ H c a := by
  obtain ⟨b, hb, rc⟩ := r.cell n c h
  rw [ha] at hb; cases hb
  exact rc
theorem RepH.lst (r : RepH L μ g H) {n : Nat} {a : Addr} (ha : μ n = some a) {m : Nat} {xs : List D} (h : g.at? n = some (.lst m xs)) : ∃ vs, H a = some (.lst vs) ∧ RepVs L μ H xs.reverse vs ∧ m = xs.length := by
  have rc := r.look ha h
  cases rc with
  | lst h r => exact ⟨_, h, r, rfl⟩
theorem RepH.sqL (r : RepH L μ g H) {n : Nat} {a : Addr} (ha : μ n = some a) {m : Nat} {xs : List D} (h : g.at? n = some (.lst m xs.reverse) ∨ g.at? n = some (.rol m xs)) : ∃ vs, SqL L.K H a vs ∧ RepVs L μ H xs vs ∧ m = xs.length := by
  rcases h with h | h
  · obtain ⟨vs, h1, h2, h3⟩ := r.lst ha h
    rw [List.reverse_reverse] at h2
    rw [List.length_reverse] at h3
    exact ⟨vs, SqL.of h1, h2, h3⟩
  · have rc := r.look ha h
    cases rc with
    | rol h r => exact ⟨_, h.l, r, rfl⟩
theorem RepH.dct (r : RepH L μ g H) {n : Nat} {a : Addr} (ha : μ n = some a) {t : Bool} {m : Nat} {kvs : List (D × D)} (h : g.at? n = some (.dct t m kvs)) : ∃ kw, H a = some (.dK kw) ∧ RepK L μ H kvs kw ∧ m = kvs.length ∧ t = false := by
  have rc := r.look ha h
  cases rc with
  | dct h r => exact ⟨_, h, r, rfl, rfl⟩
/-- a list read through G.list -/
theorem list_of {α β : Type} {Rp : Mu → Hp → α → β → Prop} {n : Nat} {k : Nat → List D → R α} {Q : β → Hp → Prop} (h : Post L Rp μ H τ (g.list n .stuck k) Q W) :
    ∃ m xs, (g.at? n = some (.lst m xs.reverse) ∨ g.at? n = some (.rol m xs)) ∧ Post L Rp μ H τ (k m xs) Q W := by
  unfold G.list at h
  rw [G.look_eq] at h
  cases e : g.at? n with
  | none => rw [e] at h; exact h.elim
  | some c =>
    rw [e] at h
    cases c with
    | lst m xs =>
      simp only [lrev_eq, List.append_nil] at h
      exact ⟨m, xs.reverse, .inl (by rw [List.reverse_reverse]), h⟩
    | rol m xs => exact ⟨m, xs, .inr rfl, h⟩
    | dct t m kvs => exact h.elim
/-- a list's cell, whatever kind -/
theorem RepH.lstF (r : RepH L μ g H) {n : Nat} {a : Addr} (ha : μ n = some a) {m : Nat} {xs : List D} (h : g.at? n = some (.lst m xs)) : ∃ vs, H a = some (.lst vs) ∧ SqL L.K H a vs ∧ RepVs L μ H xs.reverse vs ∧ m = xs.length ∧ vs.length = xs.length := by
  obtain ⟨vs, h1, h2, h3⟩ := r.lst ha h
  refine ⟨vs, h1, SqL.of h1, h2, h3, ?_⟩
  have := h2.length
  rw [List.length_reverse] at this
  exact this.symm
/-- item i set from the front -/
theorem rev_set {β : Type} {xs : List β} {i : Nat} {y : β} (h : i < xs.length) : (xs.set (Nat.sub (Nat.pred xs.length) i) y).reverse = xs.reverse.set i y := by
  have e : Nat.sub (Nat.pred xs.length) i = xs.length - 1 - i := rfl
  rw [e]
  apply List.ext_getElem?
  intro j
  by_cases hj : j < xs.length
  · rw [List.getElem?_reverse (by rw [List.length_set]; exact hj), List.length_set, List.getElem?_set, List.getElem?_set, List.length_reverse, List.getElem?_reverse hj]
    by_cases hij : i = j
    · subst hij; simp [h]; omega
    · rw [if_neg (by omega), if_neg hij]
  · rw [List.getElem?_eq_none (by rw [List.length_reverse, List.length_set]; omega), List.getElem?_eq_none (by rw [List.length_set, List.length_reverse]; omega)]
/-- item i from the front is item n - 1 - i from the end -/
theorem rev_at {β : Type} {xs : List β} {i : Nat} (h : i < xs.length) : xs[Nat.sub (Nat.pred xs.length) i]? = xs.reverse[i]? := by
  rw [List.getElem?_reverse h]
  rfl
end Mini
/-! MiniF: arithmetic, comparisons. -/
namespace Mini
open PySem PySem.Spec PyProof.Rows L2
variable {L : Lk} {μ μ' μ1 μ2 : Mu} {g g' : G} {H H' H1 H2 : Hp} {τ : L2.St} {W : WX} {X : Cx}

/-- a two-place operation keeps its reading -/
def OpS (X : Cx) (L : Lk) (f : Value → Value → Sem Value) (m : D → D → G → R D) : Prop :=
  ∃ r : R2, OpR X f r ∧ ∀ (μ : Mu) (H : Hp) (g : G) (τ : L2.St) (W : WX) (x y : D) (a b : V) (Q : VK), RepV L μ H x a → RepV L μ H y b → RepH L μ g H → Post L (RepV L) μ H τ (m x y g) Q W → r a b H Q

theorem post_int {i : Int} {Q : VK} (h : Post L (RepV L) μ H τ (rInt i g) Q W) (r : RepH L μ g H) : Q (.int i) H := by
  unfold rInt at h
  rw [fInt_eq] at h
  exact h.val (.int i) r
theorem post_bl {b : Bool} {Q : VK} (h : Post L (RepV L) μ H τ (.ok (.bl b) g) Q W) (r : RepH L μ g H) : Q (.bl b) H := h.val (.bl b) r
theorem mkS_len (s : List Nat) : (mkS s).length = s.length := rfl
theorem mkS_app (s t : List Nat) : mkS s ++ mkS t = mkS (s ++ t) := by
  show PySem.Str.mk (s.toArray ++ t.toArray) = _
  simp [mkS]
theorem mkS_cps (s : List Nat) : (mkS s).cps.toList = s := rfl
theorem mkS_inj {s t : List Nat} : mkS s = mkS t ↔ s = t := by
  constructor
  · intro h
    have := congrArg (fun z : PySem.Str => z.cps.toList) h
    exact this
  · rintro rfl; rfl

theorem op_add_s (hK : X.K = L.K) : OpS X L (binaryOp .Add) oAdd := by
  refine ⟨_, op_add.or (op_add_str.or ((op_catA (X := X)).or op_cat)), fun μ H g τ W x y a b Q ra rb rh h => ?_⟩
  cases ra with
  | int i =>
    cases rb with
    | int j => exact .inl ⟨i, j, rfl, rfl, post_int h rh⟩
    | _ => exact h.elim
  | str s =>
    cases rb with
    | str t =>
      unfold oAdd at h
      simp only [lapp_eq] at h
      obtain ⟨hl, h⟩ := post_rStr h
      refine .inr (.inl ⟨mkS s, mkS t, rfl, rfl, ?_, ?_⟩)
      · rw [mkS_len, mkS_len]
        rw [List.length_append] at hl
        exact Nat.le_trans hl lim_line
      · rw [mkS_app]
        exact h.val (.str _) rh
    | _ => exact h.elim
  | tup ha hfa va =>
    cases rb with
    | tup hb hfb vb =>
      unfold oAdd at h
      simp only [lapp_eq] at h
      obtain ⟨hl, h⟩ := post_rTup h
      rename_i a xs vs b ys ws
      have e1 := va.length
      have e2 := vb.length
      rw [List.length_append] at hl
      refine .inr (.inr (.inl ⟨_, _, _, _, rfl, rfl, by rw [hK]; exact ha, by rw [hK]; exact hb, by rw [← e1, ← e2]; exact Nat.le_trans hl lim_line, fun hx => ?_, fun hx hy => ?_, fun _ _ p hp => ?_⟩))
      · subst hx
        cases va
        exact h.val (.tup hb (fun z => nomatch z) vb) rh
      · subst hy
        cases vb
        rw [List.append_nil] at h
        exact h.val (.tup ha (fun z => nomatch z) va) rh
      · exact post_tup h rh (va.append vb) hp
    | _ => exact h.elim
  | ref ha =>
    cases rb with
    | ref hb =>
      rename_i n a m b
      unfold oAdd at h
      simp only [G.look_eq] at h
      cases e : g.at? n with
      | none => rw [e] at h; exact h.elim
      | some c =>
        rw [e] at h
        cases c with
        | lst k xs =>
          cases e2 : g.at? m with
          | none => simp only [e2] at h; exact h.elim
          | some c2 =>
            simp only [e2] at h
            cases c2 with
            | lst k2 ys =>
              simp only [lapp_eq] at h
              obtain ⟨vs, h1, v1, _⟩ := rh.lst ha e
              obtain ⟨ws, h2, v2, _⟩ := rh.lst hb e2
              obtain ⟨hl, q⟩ := post_listR (vs := vs ++ ws) h rh (by rw [List.reverse_append]; exact v1.append v2)
              rw [List.length_append] at hl
              refine .inr (.inr (.inr ⟨_, _, vs, ws, rfl, rfl, h1, h2, ?_, q⟩))
              rw [← v1.length, ← v2.length, List.length_reverse, List.length_reverse, Nat.add_comm]
              exact Nat.le_trans hl lim_line
            | _ => exact h.elim
        | _ => exact h.elim
    | _ => exact h.elim
  | _ => exact h.elim
theorem op_sub_s : OpS X L (binaryOp .Sub) oSub := by
  refine ⟨_, op_sub, fun μ H g τ W x y a b Q ra rb rh h => ?_⟩
  cases ra with
  | int i =>
    cases rb with
    | int j => exact ⟨i, j, rfl, rfl, post_int h rh⟩
    | _ => exact h.elim
  | _ => exact h.elim
theorem small_ok {i : Int} (h : small i = true) : -(2 ^ 64) < i ∧ i < 2 ^ 64 := by
  cases i with
  | ofNat n =>
    have h' : n < 18446744073709551616 := Nat.le_of_ble_eq_true h
    constructor
    · show -(2 ^ 64 : Int) < (n : Int); omega
    · show (n : Int) < 2 ^ 64; omega
  | negSucc n =>
    have h' : n < 18446744073709551615 := Nat.le_of_ble_eq_true h
    constructor
    · show -(2 ^ 64 : Int) < Int.negSucc n; omega
    · show Int.negSucc n < 2 ^ 64; omega
theorem reps_eq {β : Type} (n : Nat) (xs : List β) : reps n xs = (List.replicate n xs).flatten := by
  induction n with
  | zero => rfl
  | succ n ih =>
    show lapp xs (reps n xs) id = _
    rw [lapp_eq, ih, List.replicate_succ, List.flatten_cons]; rfl
theorem foldl_str (s : List Nat) : ∀ n : Nat, (List.replicate n s.toArray).foldl (· ++ ·) #[] = ((List.replicate n s).flatten).toArray := by
  have gen : ∀ (n : Nat) (acc : List Nat), (List.replicate n s.toArray).foldl (· ++ ·) acc.toArray = (acc ++ (List.replicate n s).flatten).toArray := by
    intro n
    induction n with
    | zero => intro acc; simp
    | succ n ih =>
      intro acc
      rw [List.replicate_succ, List.foldl_cons, List.replicate_succ, List.flatten_cons]
      have : acc.toArray ++ s.toArray = (acc ++ s).toArray := by simp
      rw [this, ih, List.append_assoc]
  intro n
  have := gen n []
  simpa using this
theorem rep_rev {β : Type} (n : Nat) (xs : List β) : ((List.replicate n xs).flatten).reverse = (List.replicate n xs.reverse).flatten := by
  rw [List.reverse_flatten, List.map_replicate, List.reverse_replicate]
theorem len_rep {β : Type} (n : Nat) (xs : List β) : ((List.replicate n xs).flatten).length = n * xs.length := by
  induction n with
  | zero => simp
  | succ n ih => rw [List.replicate_succ, List.flatten_cons, List.length_append, ih, Nat.succ_mul, Nat.add_comm]
theorem op_rep_str : OpR X (binaryOp .Mult) (fun x y H Q => ∃ (s : List Nat) (n : Nat), x = .str (mkS s) ∧ y = .int n ∧ n ≤ 1000 ∧ s.length ≤ 1000 ∧ Q (.str (mkS (List.replicate n s).flatten)) H) := by
  intro pins s σ H x y v u Q I rx ry h
  obtain ⟨z, n, rfl, rfl, h1, h2, q⟩ := h
  obtain ⟨t, rfl⟩ := rx
  obtain ⟨t', rfl⟩ := ry
  have hlen : (mkS z).length = z.length := rfl
  have hm : z.length * n ≤ 1000000 := Nat.le_trans (Nat.mul_le_mul h2 h1) (by decide)
  refine PySem.P.mul_str ?_ ?_ ?_ ?_
  · rw [Bool.or_eq_false_iff]
    exact ⟨decide_eq_false (by omega), decide_eq_false (by omega)⟩
  · intro hn _
    have h3 : (9223372036854775 : Int) ≤ (2 ^ 63 - 1 : Int) / (n : Int) := Int.le_ediv_of_mul_le (by omega) (by omega)
    rw [hlen]
    omega
  · intro _ _
    rw [hlen]
    have e : (n : Int).toNat = n := rfl
    rw [e]
    show Builtin.Str.tooLong (z.length * n) = false
    unfold Builtin.Str.tooLong
    exact decide_eq_false (by have := sizeLine_eq; omega)
  · by_cases hn : (n : Int) < 1
    · rw [if_pos hn]
      have : n = 0 := by omega
      subst this
      exact ⟨by decide, ⟨.str _, H, I.tok _, ⟨_, rfl⟩, q⟩⟩
    · rw [if_neg hn]
      by_cases h3 : ((n : Int) == 1 || (mkS z).length == 0) = true
      · rw [if_pos h3]
        have e : (List.replicate n z).flatten = z := by
          rw [Bool.or_eq_true, beq_iff_eq, beq_iff_eq] at h3
          rcases h3 with h3 | h3
          · have : n = 1 := by omega
            subst this; simp
          · have : z = [] := List.length_eq_zero_iff.mp h3
            subst this; simp
        rw [e] at q
        exact ⟨.str _, H, I, ⟨t, rfl⟩, q⟩
      · rw [if_neg h3]
        have e : (n : Int).toNat = n := rfl
        rw [e]
        have e2 : (List.replicate n (mkS z).cps).foldl (· ++ ·) #[] = ((List.replicate n z).flatten).toArray := foldl_str z n
        rw [e2]
        refine ⟨?_, ⟨.str _, H, I.tok _, ⟨_, rfl⟩, q⟩⟩
        show ((List.replicate n z).flatten).toArray.size ≤ _
        rw [List.size_toArray, len_rep, Nat.mul_comm]
        exact Nat.le_trans hm lim_line

theorem op_mul_s (hK : X.K = L.K) : OpS X L (binaryOp .Mult) oMul := by
  refine ⟨_, op_mul.or ((op_repT (X := X)).or (op_rep.or op_rep_str)), fun μ H g τ W x y a b Q ra rb rh h => ?_⟩
  cases ra with
  | int i =>
    cases rb with
    | int j =>
      unfold oMul at h
      simp only at h
      cases e : small i with
      | true =>
        rw [e] at h
        exact .inl ⟨i, j, rfl, rfl, .inl (small_ok e), post_int h rh⟩
      | false =>
        rw [e] at h
        cases e2 : small j with
        | true =>
          rw [e2] at h
          exact .inl ⟨i, j, rfl, rfl, .inr (small_ok e2), post_int h rh⟩
        | false => rw [e2] at h; exact h.elim
    | _ => exact h.elim
  | tup ha hfa va =>
    cases rb with
    | int k =>
      rename_i a xs vs
      unfold oMul at h
      cases xs with
      | nil => exact h.elim
      | cons x0 xr =>
        cases k with
        | negSucc k => exact h.elim
        | ofNat n =>
          simp only at h
          cases e1 : Nat.ble 2 n with
          | false => rw [e1] at h; exact h.elim
          | true =>
            rw [e1] at h
            simp only at h
            cases e2 : Nat.ble n 1000 with
            | false => rw [e2] at h; exact h.elim
            | true =>
              rw [e2] at h
              simp only [llen_eq] at h
              cases e3 : Nat.ble (x0 :: xr).length 1000 with
              | false => rw [e3] at h; exact h.elim
              | true =>
                rw [e3] at h
                simp only [reps_eq] at h
                have h2 := Nat.le_of_ble_eq_true e1
                have h3 := Nat.le_of_ble_eq_true e2
                have h4 := Nat.le_of_ble_eq_true e3
                rw [va.length] at h4
                refine .inr (.inl ⟨_, (n : Int), vs, rfl, rfl, by rw [hK]; exact ha, ?_, by omega, by omega, h4, fun p hp => ?_⟩)
                · intro z; subst z; cases va
                · exact post_tup h rh (va.rep n) hp
    | _ => exact h.elim
  | ref ha =>
    cases rb with
    | int k =>
      unfold oMul at h
      cases k with
      | negSucc k => exact h.elim
      | ofNat n =>
        simp only [G.look_eq] at h
        cases e1 : Nat.ble n 10000 with
        | false => rw [e1] at h; exact h.elim
        | true =>
          rw [e1] at h
          rename_i m a
          simp only at h
          cases e : g.at? m with
          | none => rw [e] at h; exact h.elim
          | some c =>
            rw [e] at h
            cases c with
            | lst k xs =>
              simp only at h
              cases e2 : Nat.ble k 100 with
              | false => rw [e2] at h; exact h.elim
              | true =>
                rw [e2] at h
                simp only [lapp_eq, reps_eq, List.append_nil] at h
                obtain ⟨vs, h1, v1, hk⟩ := rh.lst ha e
                obtain ⟨hl, q⟩ := post_listR (vs := (List.replicate n vs).flatten) h rh (by rw [rep_rev]; exact v1.rep n)
                have h2 := Nat.le_of_ble_eq_true e1
                have h3 := Nat.le_of_ble_eq_true e2
                rw [hk, ← List.length_reverse, v1.length] at h3
                refine .inr (.inr (.inl ⟨_, (n : Int), vs, rfl, rfl, h1, by omega, by omega, ?_, q⟩))
                show vs.length * n ≤ _
                exact Nat.le_trans (Nat.mul_le_mul h3 h2) (by rw [sizeLine_eq]; decide)
            | _ => exact h.elim
    | _ => exact h.elim
  | str s =>
    cases rb with
    | int k =>
      unfold oMul at h
      cases k with
      | negSucc k => exact h.elim
      | ofNat n =>
        simp only [llen_eq, lapp_eq, reps_eq, List.append_nil] at h
        cases e1 : Nat.ble n 1000 with
        | false => rw [e1] at h; exact h.elim
        | true =>
          rw [e1] at h
          simp only at h
          cases e2 : Nat.ble s.length 1000 with
          | false => rw [e2] at h; exact h.elim
          | true =>
            rw [e2] at h
            exact .inr (.inr (.inr ⟨s, n, rfl, rfl, Nat.le_of_ble_eq_true e1, Nat.le_of_ble_eq_true e2, h.val (.str _) rh⟩))
    | _ => exact h.elim
  | _ => exact h.elim
theorem op_div_s : OpS X L (binaryOp .FloorDiv) oDiv := by
  refine ⟨_, op_fdivN, fun μ H g τ W x y a b Q ra rb rh h => ?_⟩
  cases ra with
  | int i =>
    cases rb with
    | int j =>
      unfold oDiv at h
      simp only at h
      cases e : okDiv j with
      | false => rw [e] at h; exact h.elim
      | true =>
        rw [e] at h
        refine ⟨i, j, rfl, rfl, ?_, post_int h rh⟩
        cases j with
        | ofNat n =>
          unfold okDiv at e
          simp only at e
          cases e2 : Nat.beq n 0 with
          | true => rw [e2] at e; cases e
          | false =>
            rw [e2] at e
            have h1 : n < 1073741824 := Nat.le_of_ble_eq_true e
            have h2 : n ≠ 0 := fun z => by subst z; cases e2
            exact ⟨by intro z; exact h2 (Int.ofNat.inj z), h1⟩
        | negSucc n =>
          have h1 : n < 1073741823 := Nat.le_of_ble_eq_true e
          exact ⟨(by intro z; cases z), (by show n + 1 < 1073741824; omega)⟩
    | _ => exact h.elim
  | _ => exact h.elim
theorem op_mod_s : OpS X L (binaryOp .Mod) oMod := by
  refine ⟨_, op_modN, fun μ H g τ W x y a b Q ra rb rh h => ?_⟩
  cases ra with
  | int i =>
    cases rb with
    | int j =>
      unfold oMod at h
      simp only [ieq_eq] at h
      by_cases e : j = 0
      · rw [decide_eq_true e] at h; exact h.elim
      · rw [decide_eq_false e] at h
        exact ⟨i, j, rfl, rfl, e, post_int h rh⟩
    | _ => exact h.elim
  | _ => exact h.elim
theorem op_pow_s : OpS X L (binaryOp .Pow) oPow := by
  refine ⟨_, op_pow, fun μ H g τ W x y a b Q ra rb rh h => ?_⟩
  cases ra with
  | int i =>
    cases rb with
    | int j =>
      unfold oPow at h
      cases j with
      | negSucc n => exact h.elim
      | ofNat n =>
        simp only at h
        cases e1 : Nat.ble n 10000 with
        | false => rw [e1] at h; exact h.elim
        | true =>
          rw [e1] at h
          simp only at h
          cases e2 : small i with
          | false => rw [e2] at h; exact h.elim
          | true =>
            rw [e2] at h
            cases i with
            | negSucc m => exact h.elim
            | ofNat m =>
              have h1 := Nat.le_of_ble_eq_true e1
              have h2 := small_ok e2
              refine ⟨(m : Int), (n : Int), rfl, rfl, ⟨by omega, by omega, ?_⟩, ?_⟩
              · have h3 : (m : Int) < 2 ^ 64 := h2.2
                show m < 2 ^ 64
                omega
              · have q := post_int h rh
                have e : ((m : Int) ^ (n : Int).toNat) = Int.ofNat (Nat.pow m n) := by
                  show ((m : Int) ^ n) = ((m ^ n : Nat) : Int)
                  rw [Int.natCast_pow]
                show Q (.int ((m : Int) ^ (n : Int).toNat)) H
                rw [e]; exact q
    | _ => exact h.elim
  | _ => exact h.elim
def opOf : BOp → PySem.Operator
  | .add => .Add
  | .sub => .Sub
  | .mul => .Mult
  | .div => .FloorDiv
  | .mod => .Mod
  | .pow => .Pow
theorem oBin_s (hK : X.K = L.K) : ∀ o : BOp, OpS X L (binaryOp (opOf o)) (oBin o)
  | .add => op_add_s hK
  | .sub => op_sub_s
  | .mul => op_mul_s hK
  | .div => op_div_s
  | .mod => op_mod_s
  | .pow => op_pow_s

/-! ### data -/
noncomputable def datS (g : G) (ih : D → PyData) (x : D) : PyData := match x with
  | .bl b => .bool b
  | .int i => .int i
  | .str s => .str (mkS s)
  | .tup _ xs => .tuple (xs.map ih)
  | .ref a => (match g.at? a with
    | some (.lst _ xs) => .list (xs.reverse.map ih)
    | some (.rol _ xs) => .list (xs.map ih)
    | _ => .none)
  | _ => .none
noncomputable def dat : Nat → G → D → PyData
  | 0, _, _ => .none
  | n + 1, g, x => datS g (dat n g) x
theorem isd_succ (n : Nat) (g : G) : isd (n + 1) g = isdS g (isd n g) := rfl
theorem deq_succ (n : Nat) (g : G) : deq (n + 1) g = deqS g (deq n g) := rfl
theorem dpAll_of {K : PySem.W.Frag} {f : D → PyData} : ∀ {xs : List D} {vs : List V}, RepVs L μ H xs vs → (∀ x ∈ xs, ∀ v, RepV L μ H x v → Dp K H v (f x)) → DpAll K H vs (xs.map f)
  | _, _, .nil, _ => .nil
  | _, _, .cons h r, k => .cons (k _ List.mem_cons_self _ h) (dpAll_of r fun x hx => k x (List.mem_cons_of_mem _ hx))
theorem canLayAll_of {f : D → PyData} {xs : List D} (k : ∀ x ∈ xs, PyData.canLay0 (f x) = true) : PyData.canLayAll0 (xs.map f) = true := by
  induction xs with
  | nil => simp [PyData.canLayAll0]
  | cons x r ih =>
    rw [List.map_cons]
    simp only [PyData.canLayAll0, Bool.and_eq_true]
    exact ⟨k x List.mem_cons_self, ih fun y hy => k y (List.mem_cons_of_mem _ hy)⟩
theorem depthAll_of {f : D → PyData} {n : Nat} {xs : List D} (k : ∀ x ∈ xs, PyData.depth (f x) ≤ n) : PyData.depthAll (xs.map f) ≤ n := by
  induction xs with
  | nil => simp [PyData.depthAll]
  | cons x r ih =>
    rw [List.map_cons]
    simp only [PyData.depthAll]
    exact Nat.max_le.mpr ⟨k x List.mem_cons_self, ih fun y hy => k y (List.mem_cons_of_mem _ hy)⟩
theorem okSigns_eq {s : List Nat} (h : okSigns s = true) : PyData.strOk (mkS s) = true := by
  unfold okSigns at h
  rw [lall_eq, List.all_eq_true] at h
  show (mkS s).cps.all (· < 0x110000) = true
  rw [← Array.all_toList, List.all_eq_true]
  intro c hc
  exact decide_eq_true (Nat.le_of_ble_eq_true (h c hc))
theorem isd_list {n a : Nat} {ih : D → Bool} (h : g.list a false (fun _ xs => lall ih xs) = true) : ∃ m xs, (g.at? a = some (.lst m xs.reverse) ∨ g.at? a = some (.rol m xs)) ∧ ∀ x ∈ xs, ih x = true := by
  unfold G.list at h
  rw [G.look_eq] at h
  cases e : g.at? a with
  | none => rw [e] at h; cases h
  | some c =>
    rw [e] at h
    cases c with
    | lst m xs =>
      have h : lrev xs [] (fun ys => lall ih ys) = true := h
      rw [lrev_eq, List.append_nil, lall_eq, List.all_eq_true] at h
      exact ⟨m, xs.reverse, .inl (by rw [List.reverse_reverse]), h⟩
    | rol m xs =>
      have h : lall ih xs = true := h
      rw [lall_eq, List.all_eq_true] at h
      exact ⟨m, xs, .inr rfl, h⟩
    | dct t m kvs => cases h
theorem dat_ref {n a m : Nat} {xs : List D} (h : g.at? a = some (.lst m xs.reverse) ∨ g.at? a = some (.rol m xs)) : dat (n + 1) g (.ref a) = .list (xs.map (dat n g)) := by
  show (match g.at? a with
    | some (.lst _ xs) => PyData.list (xs.reverse.map (dat n g))
    | some (.rol _ xs) => .list (xs.map (dat n g))
    | _ => .none) = _
  rcases h with h | h <;> rw [h]
  show PyData.list (xs.reverse.reverse.map (dat n g)) = _
  rw [List.reverse_reverse]
theorem isd_ok (r : RepH L μ g H) : ∀ (n : Nat) (x : D), isd n g x = true → (∀ v, RepV L μ H x v → Dp L.K H v (dat n g x)) ∧ PyData.canLay0 (dat n g x) = true ∧ PyData.depth (dat n g x) ≤ n := by
  intro n
  induction n with
  | zero => intro x h; cases h
  | succ n ih =>
    intro x h
    rw [isd_succ] at h
    cases x with
    | und => cases h
    | fn _ => cases h
    | cl _ => cases h
    | non => exact ⟨fun v rv => by cases rv; exact .non, by show PyData.canLay0 .none = true; simp [PyData.canLay0], by show PyData.depth .none ≤ _; simp [PyData.depth]⟩
    | bl b => exact ⟨fun v rv => by cases rv; exact .bl b, by show PyData.canLay0 (.bool b) = true; simp [PyData.canLay0], by show PyData.depth (.bool b) ≤ _; simp [PyData.depth]⟩
    | int b => exact ⟨fun v rv => by cases rv; exact .int b, by show PyData.canLay0 (.int b) = true; simp [PyData.canLay0], by show PyData.depth (.int b) ≤ _; simp [PyData.depth]⟩
    | str s =>
      refine ⟨fun v rv => by cases rv; exact .str _, ?_, by show PyData.depth (.str (mkS s)) ≤ _; simp [PyData.depth]⟩
      show PyData.canLay0 (.str (mkS s)) = true
      simp only [PyData.canLay0]
      exact okSigns_eq h
    | tup fl xs =>
      have h' : lall (isd n g) xs = true := h
      rw [lall_eq, List.all_eq_true] at h'
      have e : dat (n + 1) g (.tup fl xs) = .tuple (xs.map (dat n g)) := rfl
      rw [e]
      refine ⟨fun v rv => ?_, ?_, ?_⟩
      · cases rv with
        | tup hq hfq rv => exact .tup hq (dpAll_of rv fun x hx => (ih x (h' x hx)).1)
      · simp only [PyData.canLay0]; exact canLayAll_of fun x hx => (ih x (h' x hx)).2.1
      · simp only [PyData.depth]; exact Nat.succ_le_succ (depthAll_of fun x hx => (ih x (h' x hx)).2.2)
    | ref a =>
      obtain ⟨m, xs, hc, hx⟩ := isd_list (n := n) h
      rw [dat_ref hc]
      refine ⟨fun v rv => ?_, ?_, ?_⟩
      · cases rv with
        | ref ha =>
          obtain ⟨vs, hs, rv, _⟩ := r.sqL ha hc
          exact .lst hs (dpAll_of rv fun x hx' => (ih x (hx x hx')).1)
      · simp only [PyData.canLay0]; exact canLayAll_of fun x hx' => (ih x (hx x hx')).2.1
      · simp only [PyData.depth]; exact Nat.succ_le_succ (depthAll_of fun x hx' => (ih x (hx x hx')).2.2)
theorem lall2_dat {n : Nat} (ih : ∀ x y, isd n g x = true → isd n g y = true → deq n g x y = PyData.eqv (dat n g x) (dat n g y)) : ∀ (xs ys : List D), (∀ x ∈ xs, isd n g x = true) → (∀ x ∈ ys, isd n g x = true) →
    lall2 (deq n g) xs ys = PyData.eqvAll (xs.map (dat n g)) (ys.map (dat n g))
  | [], [], _, _ => by simp [lall2_nil, PyData.eqvAll]
  | [], _ :: _, _, _ => by simp [lall2_nc, PyData.eqvAll]
  | _ :: _, [], _, _ => by simp [lall2_cn, PyData.eqvAll]
  | x :: xs, y :: ys, hx, hy => by
    rw [lall2_cc, List.map_cons, List.map_cons, ih x y (hx x List.mem_cons_self) (hy y List.mem_cons_self), lall2_dat ih xs ys (fun z hz => hx z (List.mem_cons_of_mem _ hz)) fun z hz => hy z (List.mem_cons_of_mem _ hz)]
    simp only [PyData.eqvAll]
theorem deq_ok : ∀ (n : Nat) (x y : D), isd n g x = true → isd n g y = true → deq n g x y = PyData.eqv (dat n g x) (dat n g y) := by
  intro n
  induction n with
  | zero => intro x y h; cases h
  | succ n ih =>
    intro x y hx hy
    rw [deq_succ]
    rw [isd_succ] at hx hy
    have refE : ∀ {a}, isdS g (isd n g) (.ref a) = true → ∃ m xs, (g.at? a = some (.lst m xs.reverse) ∨ g.at? a = some (.rol m xs)) ∧ (∀ x ∈ xs, isd n g x = true) ∧ dat (n + 1) g (.ref a) = .list (xs.map (dat n g)) := fun {a} h => by
      obtain ⟨m, xs, hc, hx⟩ := isd_list (n := n) h
      exact ⟨m, xs, hc, hx, dat_ref hc⟩
    have tupE : ∀ {fl xs}, isdS g (isd n g) (.tup fl xs) = true → ∀ x ∈ xs, isd n g x = true := fun {fl xs} h => by
      have h' : lall (isd n g) xs = true := h
      rw [lall_eq, List.all_eq_true] at h'
      exact h'
    cases x with
    | und => cases hx
    | fn _ => cases hx
    | cl _ => cases hx
    | ref a =>
      obtain ⟨m, xs, hc, hxs, e1⟩ := refE hx
      rw [e1]
      cases y with
      | und => cases hy
      | fn _ => cases hy
      | cl _ => cases hy
      | ref b =>
        obtain ⟨m2, ys, hc2, hys, e2⟩ := refE hy
        rw [e2]
        simp only [PyData.eqv]
        rw [← lall2_dat ih xs ys hxs hys]
        show g.list a false (fun _ xs => g.list b false fun _ ys => lall2 (deq n g) xs ys) = _
        unfold G.list
        simp only [G.look_eq]
        rcases hc with h | h <;> rcases hc2 with h2 | h2 <;> simp only [h, h2, lrev_eq, List.append_nil, List.reverse_reverse]
      | non => show false = PyData.eqv _ .none; simp [PyData.eqv]
      | bl b => show false = PyData.eqv _ (.bool b); simp [PyData.eqv]
      | int b => show false = PyData.eqv _ (.int b); simp [PyData.eqv]
      | str b => show false = PyData.eqv _ (.str (mkS b)); simp [PyData.eqv]
      | tup _ ys => show false = PyData.eqv _ (.tuple (ys.map (dat n g))); simp [PyData.eqv]
    | tup fl xs =>
      cases y with
      | und => cases hy
      | fn _ => cases hy
      | cl _ => cases hy
      | ref b =>
        obtain ⟨m2, ys, hc2, hys, e2⟩ := refE hy
        rw [e2]
        show false = PyData.eqv (.tuple (xs.map (dat n g))) (.list _); simp [PyData.eqv]
      | tup _ ys =>
        show lall2 (deq n g) xs ys = PyData.eqv (.tuple (xs.map (dat n g))) (.tuple (ys.map (dat n g)))
        simp only [PyData.eqv]
        exact lall2_dat ih xs ys (tupE hx) (tupE hy)
      | non => show false = PyData.eqv (.tuple (xs.map (dat n g))) .none; simp [PyData.eqv]
      | bl b => show false = PyData.eqv (.tuple (xs.map (dat n g))) (.bool b); simp [PyData.eqv]
      | int b => show false = PyData.eqv (.tuple (xs.map (dat n g))) (.int b); simp [PyData.eqv]
      | str b => show false = PyData.eqv (.tuple (xs.map (dat n g))) (.str (mkS b)); simp [PyData.eqv]
    | non =>
      cases y with
      | und => cases hy
      | fn _ => cases hy
      | cl _ => cases hy
      | ref b => obtain ⟨m2, ys, hc2, hys, e2⟩ := refE hy; rw [e2]; show false = PyData.eqv .none _; simp [PyData.eqv]
      | tup _ ys => show false = PyData.eqv .none (.tuple (ys.map (dat n g))); simp [PyData.eqv]
      | non => show true = PyData.eqv .none .none; simp [PyData.eqv]
      | bl b => show false = PyData.eqv .none (.bool b); simp [PyData.eqv]
      | int b => show false = PyData.eqv .none (.int b); simp [PyData.eqv]
      | str b => show false = PyData.eqv .none (.str (mkS b)); simp [PyData.eqv]
    | bl c =>
      cases y with
      | und => cases hy
      | fn _ => cases hy
      | cl _ => cases hy
      | ref b => obtain ⟨m2, ys, hc2, hys, e2⟩ := refE hy; rw [e2]; show false = PyData.eqv (.bool c) _; simp [PyData.eqv]
      | tup _ ys => show false = PyData.eqv (.bool c) (.tuple (ys.map (dat n g))); simp [PyData.eqv]
      | non => show false = PyData.eqv (.bool c) .none; simp [PyData.eqv]
      | bl b => cases c <;> cases b <;> first
          | (show true = PyData.eqv (.bool _) (.bool _); simp [PyData.eqv])
          | (show false = PyData.eqv (.bool _) (.bool _); simp [PyData.eqv])
      | int b =>
        cases c
        · show ieq 0 b = PyData.eqv (.bool false) (.int b)
          simp only [ieq_eq, PyData.eqv]; simp [Bool.beq_eq_decide_eq]
        · show ieq 1 b = PyData.eqv (.bool true) (.int b)
          simp only [ieq_eq, PyData.eqv]; simp [Bool.beq_eq_decide_eq]
      | str b => show false = PyData.eqv (.bool c) (.str (mkS b)); simp [PyData.eqv]
    | int c =>
      cases y with
      | und => cases hy
      | fn _ => cases hy
      | cl _ => cases hy
      | ref b => obtain ⟨m2, ys, hc2, hys, e2⟩ := refE hy; rw [e2]; show false = PyData.eqv (.int c) _; simp [PyData.eqv]
      | tup _ ys => show false = PyData.eqv (.int c) (.tuple (ys.map (dat n g))); simp [PyData.eqv]
      | non => show false = PyData.eqv (.int c) .none; simp [PyData.eqv]
      | bl b =>
        cases b
        · show ieq c 0 = PyData.eqv (.int c) (.bool false)
          simp only [ieq_eq, PyData.eqv]; simp [Bool.beq_eq_decide_eq]
        · show ieq c 1 = PyData.eqv (.int c) (.bool true)
          simp only [ieq_eq, PyData.eqv]; simp [Bool.beq_eq_decide_eq]
      | int b =>
        show ieq c b = PyData.eqv (.int c) (.int b)
        simp only [ieq_eq, PyData.eqv]; simp [Bool.beq_eq_decide_eq]
      | str b => show false = PyData.eqv (.int c) (.str (mkS b)); simp [PyData.eqv]
    | str c =>
      cases y with
      | und => cases hy
      | fn _ => cases hy
      | cl _ => cases hy
      | ref b => obtain ⟨m2, ys, hc2, hys, e2⟩ := refE hy; rw [e2]; show false = PyData.eqv (.str (mkS c)) _; simp [PyData.eqv]
      | tup _ ys => show false = PyData.eqv (.str (mkS c)) (.tuple (ys.map (dat n g))); simp [PyData.eqv]
      | non => show false = PyData.eqv (.str (mkS c)) .none; simp [PyData.eqv]
      | bl b => show false = PyData.eqv (.str (mkS c)) (.bool b); simp [PyData.eqv]
      | int b => show false = PyData.eqv (.str (mkS c)) (.int b); simp [PyData.eqv]
      | str b =>
        show neqs c b = PyData.eqv (.str (mkS c)) (.str (mkS b))
        simp only [neqs_eq, PyData.eqv]
        by_cases e : c = b
        · subst e; simp
        · rw [decide_eq_false e]; symm; exact beq_eq_false_iff_ne.mpr fun z => e (mkS_inj.mp z)
theorem shaped_of {d : PyData} (h1 : PyData.canLay0 d = true) (h2 : PyData.depth d ≤ deep) : SeqAt.shaped d = true := by
  unfold SeqAt.shaped
  rw [h1, Bool.true_and]
  exact decide_eq_true (Nat.le_trans h2 (by decide))
theorem op_eq_s (hK : X.K = L.K) (hu : X.A.units + 65 < cLine) : OpS X L (compareOp .Eq) oEq := by
  refine ⟨_, op_eqD (by omega), fun μ H g τ W x y a b Q ra rb rh h => ?_⟩
  unfold oEq at h
  cases e1 : isd deep g x with
  | false => rw [e1] at h; exact h.elim
  | true =>
    rw [e1] at h
    simp only at h
    cases e2 : isd deep g y with
    | false => rw [e2] at h; exact h.elim
    | true =>
      rw [e2] at h
      simp only [fBool_eq] at h
      obtain ⟨d1, d2, d3⟩ := isd_ok rh _ x e1
      obtain ⟨c1, c2, c3⟩ := isd_ok rh _ y e2
      refine ⟨_, _, by rw [hK]; exact d1 _ ra, by rw [hK]; exact c1 _ rb, shaped_of d2 d3, shaped_of c2 c3, ?_⟩
      rw [← deq_ok _ x y e1 e2]
      exact post_bl h rh
theorem op_ne_s (hK : X.K = L.K) (hu : X.A.units + 65 < cLine) : OpS X L (compareOp .NotEq) oNe := by
  refine ⟨_, op_neD (by omega), fun μ H g τ W x y a b Q ra rb rh h => ?_⟩
  unfold oNe at h
  cases e1 : isd deep g x with
  | false => rw [e1] at h; exact h.elim
  | true =>
    rw [e1] at h
    simp only at h
    cases e2 : isd deep g y with
    | false => rw [e2] at h; exact h.elim
    | true =>
      rw [e2] at h
      simp only at h
      obtain ⟨d1, d2, d3⟩ := isd_ok rh _ x e1
      obtain ⟨c1, c2, c3⟩ := isd_ok rh _ y e2
      refine ⟨_, _, by rw [hK]; exact d1 _ ra, by rw [hK]; exact c1 _ rb, shaped_of d2 d3, shaped_of c2 c3, ?_⟩
      rw [← deq_ok _ x y e1 e2]
      cases e3 : deq deep g x y with
      | true => rw [e3] at h; exact post_bl h rh
      | false => rw [e3] at h; exact post_bl h rh
end Mini
/-! MiniG: order, membership, truth, places, slices. -/
namespace Mini
open PySem PySem.Spec PyProof.Rows L2
variable {L : Lk} {μ μ' μ1 μ2 : Mu} {g g' : G} {H H' H1 H2 : Hp} {τ : L2.St} {W : WX} {X : Cx}

theorem post_tf {b : Bool} {Q : VK} (h : Post L (RepV L) μ H τ (match b with | true => (.ok (.bl false) g : R D) | false => .ok (.bl true) g) Q W) (r : RepH L μ g H) : Q (.bl (!b)) H := by
  cases b <;> exact post_bl h r
theorem dec_not_lt {i j : Int} : (!decide (j < i)) = decide (i ≤ j) := by
  by_cases h : j < i
  · rw [decide_eq_true h, decide_eq_false (by omega)]; rfl
  · rw [decide_eq_false h, decide_eq_true (by omega)]; rfl
theorem op_lt_s : OpS X L (compareOp .Lt) oLt := by
  refine ⟨_, op_lt.or op_lt_str, fun μ H g τ W x y a b Q ra rb rh h => ?_⟩
  cases ra with
  | int i =>
    cases rb with
    | int j =>
      unfold oLt at h
      simp only [fBool_eq, ilt_eq] at h
      exact .inl ⟨i, j, rfl, rfl, post_bl h rh⟩
    | _ => exact h.elim
  | str s =>
    cases rb with
    | str t =>
      unfold oLt at h
      simp only [fBool_eq, nlts_eq] at h
      exact .inr ⟨_, _, rfl, rfl, post_bl h rh⟩
    | _ => exact h.elim
  | _ => exact h.elim
theorem op_gt_s : OpS X L (compareOp .Gt) (fun x y g => oLt y x g) := by
  refine ⟨_, op_gt.or op_gt_str, fun μ H g τ W x y a b Q ra rb rh h => ?_⟩
  cases ra with
  | int i =>
    cases rb with
    | int j =>
      unfold oLt at h
      simp only [fBool_eq, ilt_eq] at h
      exact .inl ⟨i, j, rfl, rfl, post_bl h rh⟩
    | _ => exact h.elim
  | str s =>
    cases rb with
    | str t =>
      unfold oLt at h
      simp only [fBool_eq, nlts_eq] at h
      exact .inr ⟨_, _, rfl, rfl, post_bl h rh⟩
    | _ => exact h.elim
  | _ => cases rb <;> exact h.elim
theorem op_le_s : OpS X L (compareOp .LtE) oLe := by
  refine ⟨_, op_le.or op_le_str, fun μ H g τ W x y a b Q ra rb rh h => ?_⟩
  cases ra with
  | int i =>
    cases rb with
    | int j =>
      unfold oLe at h
      simp only [ilt_eq] at h
      refine .inl ⟨i, j, rfl, rfl, ?_⟩
      show Q (.bl (decide (i ≤ j))) H
      rw [← dec_not_lt]
      exact post_tf h rh
    | _ => exact h.elim
  | str s =>
    cases rb with
    | str t =>
      unfold oLe at h
      simp only [nlts_eq] at h
      exact .inr ⟨_, _, rfl, rfl, post_tf h rh⟩
    | _ => exact h.elim
  | _ => exact h.elim
theorem op_ge_s : OpS X L (compareOp .GtE) (fun x y g => oLe y x g) := by
  refine ⟨_, op_ge.or op_ge_str, fun μ H g τ W x y a b Q ra rb rh h => ?_⟩
  cases ra with
  | int i =>
    cases rb with
    | int j =>
      unfold oLe at h
      simp only [ilt_eq] at h
      refine .inl ⟨i, j, rfl, rfl, ?_⟩
      show Q (.bl (decide (j ≤ i))) H
      rw [← dec_not_lt]
      exact post_tf h rh
    | _ => exact h.elim
  | str s =>
    cases rb with
    | str t =>
      unfold oLe at h
      simp only [nlts_eq] at h
      exact .inr ⟨_, _, rfl, rfl, post_tf h rh⟩
    | _ => exact h.elim
  | _ => cases rb <;> exact h.elim
theorem isNone_ok {x : D} {v : V} (r : RepV L μ H x v) : isNone x = decide (v = .non) := by
  cases r <;> rfl
theorem op_is_s : OpS X L (compareOp .Is) oIs := by
  refine ⟨_, op_isN, fun μ H g τ W x y a b Q ra rb rh h => ?_⟩
  cases rb with
  | non =>
    unfold oIs at h
    simp only [fBool_eq] at h
    refine ⟨rfl, ?_⟩
    rw [← isNone_ok ra]
    exact post_bl h rh
  | _ => exact h.elim
theorem op_isn_s : OpS X L (compareOp .IsNot) oIsNot := by
  refine ⟨_, op_notN, fun μ H g τ W x y a b Q ra rb rh h => ?_⟩
  cases rb with
  | non =>
    unfold oIsNot at h
    refine ⟨rfl, ?_⟩
    rw [← isNone_ok ra]
    exact post_tf h rh
  | _ => exact h.elim

/-! ### keys -/
theorem keyD_of {y : D} (h : isKey y = true) : ∃ k, keyD y = some k := by
  cases y <;> first | exact ⟨_, rfl⟩ | cases h
theorem keyD_rep {y : D} {k : Key} {v : V} (h : keyD y = some k) (r : RepV L μ H y v) : v = kV k := by
  cases r <;> first
    | (cases h; rfl)
    | cases h
theorem keq_ok {x y : D} {j k : Key} (h : keyD x = some j) (h' : keyD y = some k) : keq x y = decide (j = k) := by
  cases x <;> first | cases h | skip
  · cases y <;> first | cases h' | skip
    · rename_i a b
      show ieq a b = _
      rw [ieq_eq]
      by_cases e : a = b
      · subst e; simp
      · rw [decide_eq_false e, decide_eq_false (fun q => e (Sum.inl.inj q))]
    · show false = _
      exact (decide_eq_false (by simp)).symm
  · cases y <;> first | cases h' | skip
    · show false = _
      exact (decide_eq_false (by simp)).symm
    · rename_i a b
      show neqs a b = _
      rw [neqs_eq]
      by_cases e : a = b
      · subst e; simp
      · rw [decide_eq_false e, decide_eq_false (fun q => e (mkS_inj.mp (Sum.inr.inj q)))]
noncomputable def kval (kvs : List (D × D)) (y : D) : Option D := kfind kvs y none some
theorem kfind_eq {α : Type} (kvs : List (D × D)) (y : D) (e : α) (k : D → α) : kfind kvs y e k = match kval kvs y with | some d => k d | none => e := by
  unfold kval
  induction kvs with
  | nil => rfl
  | cons p r ih =>
    obtain ⟨a, v⟩ := p
    show (match keq a y with | true => k v | false => kfind r y e k) = match (match keq a y with | true => some v | false => kfind r y none some) with | some d => k d | none => e
    cases keq a y
    · exact ih
    · rfl
theorem kval_ok {y : D} {k : Key} (hk : keyD y = some k) : ∀ {kvs : List (D × D)} {kw : List (Key × V)}, RepK L μ H kvs kw → (match kval kvs y with | some d => ∃ v, valV kw k = some v ∧ RepV L μ H d v | none => valV kw k = none)
  | _, _, .nil => rfl
  | _, _, .cons (y := a) (d := d) (k := j) (v := v) (r := r) (q := q) ha hd rr => by
    have e : kval ((a, d) :: r) y = match keq a y with | true => some d | false => kval r y := rfl
    rw [e, keq_ok ha hk]
    by_cases h : j = k
    · rw [decide_eq_true h]
      exact ⟨v, valV_pos h, hd⟩
    · rw [decide_eq_false h]
      have := kval_ok hk rr
      show match kval r y with | some d => ∃ v_1, valV ((j, v) :: q) k = some v_1 ∧ RepV L μ H d v_1 | none => valV ((j, v) :: q) k = none
      rw [valV_neg h]
      exact this
theorem kputF_eq {α : Type} (kvs : List (D × D)) (y v : D) (f : Bool) (k : List (D × D) → α) : kputF kvs y v f k = k (kputF kvs y v f id) := by
  have gen : ∀ (kvs : List (D × D)) (f : Bool) (β : Type) (k : List (D × D) → β) (h : List (D × D) → List (D × D)), kputF kvs y v f (fun r => k (h r)) = k (kputF kvs y v f h) := by
    intro kvs
    induction kvs with
    | nil => intro f β k h; cases f <;> rfl
    | cons p r ih =>
      intro f β k h
      obtain ⟨a, w⟩ := p
      show (match keq a y with | true => kputF r y v true fun r' => k (h ((a, v) :: r')) | false => kputF r y v f fun r' => k (h ((a, w) :: r'))) = k (match keq a y with | true => kputF r y v true fun r' => h ((a, v) :: r') | false => kputF r y v f fun r' => h ((a, w) :: r'))
      cases keq a y
      · exact ih f β k fun r' => h ((a, w) :: r')
      · exact ih true β k fun r' => h ((a, v) :: r')
  exact gen kvs f α k id
theorem kput_eq {α : Type} (kvs : List (D × D)) (y v : D) (k : List (D × D) → α) : kput kvs y v k = k (kput kvs y v id) := kputF_eq _ _ _ _ _
theorem kputF_ok {y d : D} {k : Key} {v : V} (hk : keyD y = some k) (hd : RepV L μ H d v) : ∀ {kvs : List (D × D)} {kw : List (Key × V)} (f : Bool), RepK L μ H kvs kw →
    RepK L μ H (kputF kvs y d f id) ((kw.map fun kv => if kv.1 = k then (kv.1, v) else kv) ++ if (f || kw.any fun kv => decide (kv.1 = k)) = true then [] else [(k, v)])
  | _, _, true, .nil => .nil
  | _, _, false, .nil => .cons hk hd .nil
  | _, _, f, .cons (y := a) (d := c) (k := j) (v := w) (r := r) (q := q) ha hc rr => by
    have e : kputF ((a, c) :: r) y d f id = match keq a y with | true => kputF r y d true fun r' => (a, d) :: r' | false => kputF r y d f fun r' => (a, c) :: r' := rfl
    rw [e, keq_ok ha hk, List.map_cons, List.any_cons, List.cons_append]
    by_cases h : j = k
    · rw [decide_eq_true h, if_pos h]
      simp only [Bool.true_or, Bool.or_true]
      rw [kputF_eq]
      exact .cons ha hd (kputF_ok hk hd true rr)
    · rw [decide_eq_false h, if_neg h, Bool.false_or]
      simp only
      rw [kputF_eq]
      exact .cons ha hc (kputF_ok hk hd f rr)
theorem kput_ok {y d : D} {k : Key} {v : V} (hk : keyD y = some k) (hd : RepV L μ H d v) {kvs : List (D × D)} {kw : List (Key × V)} (r : RepK L μ H kvs kw) : RepK L μ H (kput kvs y d id) (putK kw k v) := by
  have h := kputF_ok hk hd false r
  rw [Bool.false_or] at h
  unfold putK
  by_cases e : (kw.any fun kv => decide (kv.1 = k)) = true
  · rw [if_pos e] at h ⊢
    rw [List.append_nil] at h
    exact h
  · rw [if_neg e] at h ⊢
    have e2 : (kw.map fun kv => if kv.1 = k then (kv.1, v) else kv) = kw := by
      clear h r
      induction kw with
      | nil => rfl
      | cons p q ih =>
        rw [List.any_cons, Bool.or_eq_true, not_or] at e
        rw [List.map_cons, if_neg (fun z => e.1 (decide_eq_true z)), ih e.2]
    rw [e2] at h
    exact h

/-! ### membership -/
def rInT (K : PySem.W.Frag) : R2 := fun x y H Q => ∃ d ds, Dp K H x d ∧ Dp K H y (.tuple ds) ∧ SeqAt.shaped d = true ∧ SeqAt.shaped (.tuple ds) = true ∧ Q (.bl (ds.any fun z => PyData.eqv z d)) H
def rNotInT (K : PySem.W.Frag) : R2 := fun x y H Q => ∃ d ds, Dp K H x d ∧ Dp K H y (.tuple ds) ∧ SeqAt.shaped d = true ∧ SeqAt.shaped (.tuple ds) = true ∧ Q (.bl (!ds.any fun z => PyData.eqv z d)) H
theorem room_in {A : Around} {d : PyData} {ds : List PyData} (sd : SeqAt.shaped d = true) (hu : A.units + 65 < cLine) : A.units + 1 + min (PyData.depthAll ds) d.depth < cLine := by
  have h1 := SeqAt.depth_of_shaped sd
  have h2 : min (PyData.depthAll ds) d.depth ≤ d.depth := Nat.min_le_right _ _
  omega
theorem op_inT (hu : X.A.units + 65 < cLine) : OpR X (compareOp .In) (rInT X.K) := by
  intro pins s σ H x y v u Q I rx ry h
  obtain ⟨d, ds, hd, he, sd, se, q⟩ := h
  obtain ⟨as, r1⟩ := Dp.reads I d x v hd rx
  obtain ⟨bs, r2⟩ := Dp.reads I (.tuple ds) y u he ry
  exact SeqAt.in_tuple_reads r2 r1 (SeqAt.canLay_of_shaped se) (SeqAt.canLay_of_shaped sd) (room_in sd hu) ⟨.bl _, H, I, rfl, q⟩
theorem op_notInT (hu : X.A.units + 65 < cLine) : OpR X (compareOp .NotIn) (rNotInT X.K) := by
  intro pins s σ H x y v u Q I rx ry h
  obtain ⟨d, ds, hd, he, sd, se, q⟩ := h
  obtain ⟨as, r1⟩ := Dp.reads I d x v hd rx
  obtain ⟨bs, r2⟩ := Dp.reads I (.tuple ds) y u he ry
  exact SeqAt.notIn_tuple_reads r2 r1 (SeqAt.canLay_of_shaped se) (SeqAt.canLay_of_shaped sd) (room_in sd hu) ⟨.bl _, H, I, rfl, q⟩
def rInDk : R2 := fun x y H Q => ∃ a o, y = .ref a ∧ DGet H a x o ∧ Q (.bl o.isSome) H
def rNotInDk : R2 := fun x y H Q => ∃ a o, y = .ref a ∧ DGet H a x o ∧ Q (.bl (!o.isSome)) H
theorem op_inDk (hu : X.A.units + 65 < cLine) : OpR X (compareOp .In) rInDk := by
  intro pins s σ H x y v u Q I rx ry h
  obtain ⟨a, o, rfl, hg, q⟩ := h
  cases ry
  exact d_in (by omega) I hg rx fun s' I' => ⟨.bl _, H, I', rfl, q⟩
theorem op_notInDk (hu : X.A.units + 65 < cLine) : OpR X (compareOp .NotIn) rNotInDk := by
  intro pins s σ H x y v u Q I rx ry h
  obtain ⟨a, o, rfl, hg, q⟩ := h
  cases ry
  exact d_notIn (by omega) I hg rx fun s' I' => ⟨.bl _, H, I', rfl, q⟩
def InCases (L : Lk) (μ : Mu) (g : G) (H : Hp) (τ : L2.St) (W : WX) (a b : V) (k : Bool → R D) (Q : VK) : Prop :=
    (∃ d ds, Dp L.K H a d ∧ Dp L.K H b (.tuple ds) ∧ SeqAt.shaped d = true ∧ SeqAt.shaped (.tuple ds) = true ∧ Post L (RepV L) μ H τ (k (ds.any fun z => PyData.eqv z d)) Q W) ∨
    (∃ d ds, Dp L.K H a d ∧ Dp L.K H b (.list ds) ∧ SeqAt.shaped d = true ∧ SeqAt.shaped (.list ds) = true ∧ Post L (RepV L) μ H τ (k (ds.any fun z => PyData.eqv z d)) Q W) ∨
    (∃ p o, b = .ref p ∧ DGet H p a o ∧ Post L (RepV L) μ H τ (k o.isSome) Q W)
/-- what membership comes to: by cases of the container -/
theorem inL_cases {x y : D} {a b : V} {k : Bool → R D} {Q : VK} (ra : RepV L μ H x a) (rb : RepV L μ H y b) (rh : RepH L μ g H) (h : Post L (RepV L) μ H τ (inL x y g k) Q W) :
    InCases L μ g H τ W a b k Q := by
  have anyE : ∀ {n : Nat} {xs : List D}, (∀ z ∈ xs, isd n g z = true) → isd n g x = true → lany (fun z => deq n g z x) xs = (xs.map (dat n g)).any fun z => PyData.eqv z (dat n g x) := fun {n xs} hx he => by
    rw [lany_eq, List.any_map]
    induction xs with
    | nil => rfl
    | cons z r ih =>
      rw [List.any_cons, List.any_cons, ih fun w hw => hx w (List.mem_cons_of_mem _ hw), deq_ok n z x (hx z List.mem_cons_self) he]
      rfl
  cases rb with
  | tup hq hfq rv =>
    rename_i p xs vs
    unfold inL at h
    simp only at h
    cases e1 : isd deep g x with
    | false => rw [e1] at h; exact h.elim
    | true =>
      rw [e1] at h
      simp only at h
      cases e2 : lall (isd deep g) xs with
      | false => rw [e2] at h; exact h.elim
      | true =>
        rw [e2] at h
        simp only [fBool_eq] at h
        have hx : ∀ z ∈ xs, isd deep g z = true := by rw [lall_eq, List.all_eq_true] at e2; exact e2
        obtain ⟨d1, d2, d3⟩ := isd_ok rh _ x e1
        refine .inl ⟨dat deep g x, xs.map (dat deep g), d1 _ ra, .tup hq (dpAll_of rv fun z hz => (isd_ok rh _ z (hx z hz)).1), shaped_of d2 d3, ?_, ?_⟩
        · unfold SeqAt.shaped
          rw [Bool.and_eq_true]
          refine ⟨by simp only [PyData.canLay0]; exact canLayAll_of fun z hz => (isd_ok rh _ z (hx z hz)).2.1, decide_eq_true ?_⟩
          simp only [PyData.depth]
          have := depthAll_of (f := dat deep g) (xs := xs) fun z hz => (isd_ok rh _ z (hx z hz)).2.2
          exact Nat.le_trans (Nat.succ_le_succ this) (by decide)
        · rw [← anyE hx e1]; exact h
  | ref hm =>
    rename_i n p
    unfold inL at h
    simp only [G.look_eq] at h
    cases e : g.at? n with
    | none => rw [e] at h; exact h.elim
    | some c =>
      rw [e] at h
      have listCase : ∀ {m : Nat} {xs : List D}, (g.at? n = some (.lst m xs.reverse) ∨ g.at? n = some (.rol m xs)) → Post L (RepV L) μ H τ (match isd deep g x with
          | true => (match lall (isd deep g) xs with
            | true => fBool (lany (fun z => deq deep g z x) xs) k
            | false => .stuck)
          | false => (.stuck : R D)) Q W → InCases L μ g H τ W a (.ref p) k Q := fun {m xs} hc h => by
        cases e1 : isd deep g x with
        | false => rw [e1] at h; exact h.elim
        | true =>
          rw [e1] at h
          simp only at h
          cases e2 : lall (isd deep g) xs with
          | false => rw [e2] at h; exact h.elim
          | true =>
            rw [e2] at h
            simp only [fBool_eq] at h
            have hx : ∀ z ∈ xs, isd deep g z = true := by rw [lall_eq, List.all_eq_true] at e2; exact e2
            obtain ⟨d1, d2, d3⟩ := isd_ok rh _ x e1
            obtain ⟨vs, hs, rv, _⟩ := rh.sqL hm hc
            refine .inr (.inl ⟨dat deep g x, xs.map (dat deep g), d1 _ ra, .lst hs (dpAll_of rv fun z hz => (isd_ok rh _ z (hx z hz)).1), shaped_of d2 d3, ?_, ?_⟩)
            · unfold SeqAt.shaped
              rw [Bool.and_eq_true]
              refine ⟨by simp only [PyData.canLay0]; exact canLayAll_of fun z hz => (isd_ok rh _ z (hx z hz)).2.1, decide_eq_true ?_⟩
              simp only [PyData.depth]
              have := depthAll_of (f := dat deep g) (xs := xs) fun z hz => (isd_ok rh _ z (hx z hz)).2.2
              exact Nat.le_trans (Nat.succ_le_succ this) (by decide)
            · rw [← anyE hx e1]; exact h
      cases c with
      | lst m xs =>
        simp only [lrev_eq, List.append_nil] at h
        exact listCase (.inl (by rw [List.reverse_reverse]; exact e)) h
      | rol m xs => exact listCase (.inr e) h
      | dct t m kvs =>
        cases t with
        | true => exact h.elim
        | false =>
          simp only at h
          cases e1 : isKey x with
          | false => rw [e1] at h; exact h.elim
          | true =>
            rw [e1] at h
            simp only [kfind_eq] at h
            obtain ⟨kk, hk⟩ := keyD_of e1
            obtain ⟨kw, hH, rk, _, _⟩ := rh.dct hm e
            have hv := kval_ok hk rk
            have ea := keyD_rep hk ra
            subst ea
            refine .inr (.inr ⟨p, valV kw kk, rfl, .inl ⟨kw, kk, .inl hH, rfl, rfl⟩, ?_⟩)
            cases e3 : kval kvs x with
            | none =>
              rw [e3] at h hv
              simp only at hv
              rw [hv]; exact h
            | some d =>
              rw [e3] at h hv
              obtain ⟨v, hv, _⟩ := hv
              rw [hv]; exact h
  | _ => exact h.elim
theorem op_in_s (hK : X.K = L.K) (hu : X.A.units + 65 < cLine) : OpS X L (compareOp .In) oIn := by
  refine ⟨_, (op_inT hu).or ((op_inD hu).or (op_inDk hu)), fun μ H g τ W x y a b Q ra rb rh h => ?_⟩
  rcases inL_cases ra rb rh h with ⟨d, ds, h1, h2, h3, h4, h5⟩ | ⟨d, ds, h1, h2, h3, h4, h5⟩ | ⟨p, o, h1, h2, h5⟩
  · exact .inl ⟨d, ds, by rw [hK]; exact h1, by rw [hK]; exact h2, h3, h4, post_bl h5 rh⟩
  · exact .inr (.inl ⟨d, ds, by rw [hK]; exact h1, by rw [hK]; exact h2, h3, h4, post_bl h5 rh⟩)
  · exact .inr (.inr ⟨p, o, h1, h2, post_bl h5 rh⟩)
theorem op_nin_s (hK : X.K = L.K) (hu : X.A.units + 65 < cLine) : OpS X L (compareOp .NotIn) oNotIn := by
  refine ⟨_, (op_notInT hu).or ((op_notInD hu).or (op_notInDk hu)), fun μ H g τ W x y a b Q ra rb rh h => ?_⟩
  rcases inL_cases ra rb rh h with ⟨d, ds, h1, h2, h3, h4, h5⟩ | ⟨d, ds, h1, h2, h3, h4, h5⟩ | ⟨p, o, h1, h2, h5⟩
  · exact .inl ⟨d, ds, by rw [hK]; exact h1, by rw [hK]; exact h2, h3, h4, post_tf h5 rh⟩
  · exact .inr (.inl ⟨d, ds, by rw [hK]; exact h1, by rw [hK]; exact h2, h3, h4, post_tf h5 rh⟩)
  · exact .inr (.inr ⟨p, o, h1, h2, post_tf h5 rh⟩)
def cmpOf : COp → PySem.CmpOp
  | .eq => .Eq
  | .ne => .NotEq
  | .lt => .Lt
  | .le => .LtE
  | .gt => .Gt
  | .ge => .GtE
  | .is_ => .Is
  | .isn => .IsNot
  | .in_ => .In
  | .nin => .NotIn
theorem oCmp_s (hK : X.K = L.K) (hu : X.A.units + 65 < cLine) : ∀ o : COp, OpS X L (compareOp (cmpOf o)) (oCmp o)
  | .eq => op_eq_s hK hu
  | .ne => op_ne_s hK hu
  | .lt => op_lt_s
  | .le => op_le_s
  | .gt => op_gt_s
  | .ge => op_ge_s
  | .is_ => op_is_s
  | .isn => op_isn_s
  | .in_ => op_in_s hK hu
  | .nin => op_nin_s hK hu

/-! ### truth -/
theorem isEmpty_rep {xs : List D} {vs : List V} (r : RepVs L μ H xs vs) : vs.isEmpty = xs.isEmpty := by cases r <;> rfl
theorem isEmpty_repK {xs : List (D × D)} {vs : List (Key × V)} (r : RepK L μ H xs vs) : vs.isEmpty = xs.isEmpty := by cases r <;> rfl
theorem tru_s {α β : Type} {Rp : Mu → Hp → α → β → Prop} {x : D} {v : V} {k : Bool → R α} {Q : β → Hp → Prop} (hK : X.K = L.K) (ra : RepV L μ H x v) (rh : RepH L μ g H) (h : Post L Rp μ H τ (tru x g .stuck k) Q W) :
    ∃ b, TruV X.K v H b ∧ Post L Rp μ H τ (k b) Q W := by
  cases ra with
  | non => exact ⟨false, rfl, h⟩
  | bl b =>
    unfold tru at h
    simp only [fBool_eq] at h
    exact ⟨b, rfl, h⟩
  | int i =>
    unfold tru at h
    simp only [ieq_eq] at h
    by_cases e : i = 0
    · rw [decide_eq_true e] at h
      exact ⟨false, by subst e; rfl, h⟩
    · rw [decide_eq_false e] at h
      exact ⟨true, (by show true = (i != 0); simp [e]), h⟩
  | str s =>
    unfold tru at h
    cases s with
    | nil => exact ⟨false, ⟨by rw [sizeLine_eq]; decide, rfl⟩, h⟩
    | cons c r =>
      simp only [llen_eq] at h
      cases e : Nat.ble (c :: r).length lim with
      | false => rw [e] at h; exact h.elim
      | true =>
        rw [e] at h
        refine ⟨true, ⟨Nat.le_trans (Nat.le_of_ble_eq_true e) lim_line, ?_⟩, h⟩
        show true = (((c :: r).length : Int) != 0)
        have : ((c :: r).length : Int) ≠ 0 := by simp only [List.length_cons]; omega
        exact (bne_iff_ne.mpr this).symm
  | tup hq hfq rv =>
    unfold tru at h
    rename_i a xs vs
    cases xs with
    | nil => exact ⟨false, .inr (.inl ⟨vs, by rw [hK]; exact hq, by rw [isEmpty_rep rv]; rfl⟩), h⟩
    | cons c r => exact ⟨true, .inr (.inl ⟨vs, by rw [hK]; exact hq, by rw [isEmpty_rep rv]; rfl⟩), h⟩
  | ref hm =>
    unfold tru at h
    rename_i n a
    simp only [G.look_eq] at h
    cases e : g.at? n with
    | none => rw [e] at h; exact h.elim
    | some c =>
      rw [e] at h
      cases c with
      | lst m xs =>
        obtain ⟨vs, _, hs, rv, _, hlen⟩ := rh.lstF hm e
        cases xs with
        | nil => exact ⟨false, .inl ⟨vs, by rw [hK]; exact hs, by rw [isEmpty_rep rv]; rfl⟩, h⟩
        | cons c r =>
          refine ⟨true, .inl ⟨vs, by rw [hK]; exact hs, ?_⟩, h⟩
          cases vs with
          | nil => cases hlen
          | cons _ _ => rfl
      | rol m xs =>
        obtain ⟨vs, hs, rv, _⟩ := rh.sqL hm (.inr e)
        cases xs with
        | nil => exact ⟨false, .inl ⟨vs, by rw [hK]; exact hs, by rw [isEmpty_rep rv]; rfl⟩, h⟩
        | cons c r => exact ⟨true, .inl ⟨vs, by rw [hK]; exact hs, by rw [isEmpty_rep rv]; rfl⟩, h⟩
      | dct t m kvs =>
        obtain ⟨kw, hH, rk, _, _⟩ := rh.dct hm e
        cases kvs with
        | nil => exact ⟨false, .inr (.inr ⟨kw, hH, by rw [isEmpty_repK rk]; rfl⟩), h⟩
        | cons c r => exact ⟨true, .inr (.inr ⟨kw, hH, by rw [isEmpty_repK rk]; rfl⟩), h⟩
  | fn n => exact h.elim
  | cl n => exact h.elim
end Mini
/-! MiniH: subscripts, slices, stores. -/
namespace Mini
open PySem PySem.Spec PyProof.Rows L2
variable {L : Lk} {μ μ' μ1 μ2 : Mu} {g g' : G} {H H' H1 H2 : Hp} {τ : L2.St} {W : WX} {X : Cx}

theorem place_s {α β : Type} {Rp : Mu → Hp → α → β → Prop} {n : Nat} {i : Int} {k : Nat → R α} {Q : β → Hp → Prop} (h : Post L Rp μ H τ (place n i .stuck k) Q W) : ∃ j, ixN n i = some j ∧ j < n ∧ Post L Rp μ H τ (k j) Q W := by
  unfold place at h
  cases i with
  | ofNat j =>
    simp only at h
    cases e : Nat.blt j n with
    | false => rw [e] at h; exact h.elim
    | true =>
      rw [e] at h
      have hj : j < n := Nat.le_of_ble_eq_true e
      refine ⟨j, ?_, hj, h⟩
      unfold ixN
      have h0 : (0 : Int) ≤ Int.ofNat j := Int.natCast_nonneg j
      have h1 : Int.ofNat j < (n : Int) := by show (j : Int) < n; omega
      rw [if_pos h0, if_pos h1]
      rfl
  | negSucc j =>
    simp only at h
    cases e : Nat.blt j n with
    | false => rw [e] at h; exact h.elim
    | true =>
      rw [e] at h
      simp only [fNat_eq] at h
      have hj : j < n := Nat.le_of_ble_eq_true e
      refine ⟨_, ?_, ?_, h⟩
      · unfold ixN
        rw [if_neg (by omega), if_pos (by omega)]
        congr 1
        show (Int.negSucc j + (n : Int)).toNat = n - (j + 1)
        omega
      · show n - (j + 1) < n
        omega
theorem lget_s {α β γ : Type} {Rp : Mu → Hp → α → β → Prop} {xs : List γ} {j : Nat} {k : γ → R α} {Q : β → Hp → Prop} (h : Post L Rp μ H τ (lget xs j .stuck k) Q W) : ∃ d, xs[j]? = some d ∧ Post L Rp μ H τ (k d) Q W := by
  rw [lget_eq] at h
  cases e : xs[j]? with
  | none => rw [e] at h; exact h.elim
  | some d => rw [e] at h; exact ⟨d, rfl, h⟩
theorem atI_of {α : Type} {xs : List α} {i : Int} {j : Nat} {v : α} (h : ixN xs.length i = some j) (h' : xs[j]? = some v) : atI xs i = some v := by
  unfold atI; rw [h]; exact h'
def rIxDk : R2 := fun x y H Q => ∃ a v, x = .ref a ∧ DGet H a y (some v) ∧ Q v H
theorem ix_dict (hu : X.A.units + 65 < cLine) : IxR X rIxDk := by
  intro value slice pins s σ H x y v u Q I rx ry h hs
  obtain ⟨a, z, rfl, hg, q⟩ := h
  cases rx
  exact tail_any (dict_typeIs I hg) PySem.F.slot_dict_getitem.lookup (d_getItem (by omega) I hg ry fun w' s3 I3 rw' => ⟨z, H, I3, rw', q⟩) hs
def IxS (X : Cx) (L : Lk) : Prop :=
  ∃ r : R2, IxR X r ∧ ∀ (μ : Mu) (H : Hp) (g : G) (τ : L2.St) (W : WX) (x y : D) (a b : V) (Q : VK), RepV L μ H x a → RepV L μ H y b → RepH L μ g H → Post L (RepV L) μ H τ (oIx x y g) Q W → r a b H Q
theorem oIx_s (hK : X.K = L.K) (hu : X.A.units + 65 < cLine) : IxS X L := by
  refine ⟨_, (ix_seq (X := X)).or (ix_dict hu), fun μ H g τ W x y a b Q ra rb rh h => ?_⟩
  have dictCase : ∀ {n : Nat} {p : Addr} {t : Bool} {m : Nat} {kvs : List (D × D)}, μ n = some p → g.at? n = some (.dct t m kvs) → isKey y = true → Post L (RepV L) μ H τ (kfind kvs y .stuck fun d => .ok d g) Q W → rIxDk (.ref p) b H Q := fun {n p t m kvs} hm e hy h => by
    obtain ⟨kk, hk⟩ := keyD_of hy
    obtain ⟨kw, hH, rk, _, _⟩ := rh.dct hm e
    have hv := kval_ok hk rk
    have ea := keyD_rep hk rb
    subst ea
    rw [kfind_eq] at h
    cases e3 : kval kvs y with
    | none => rw [e3] at h; exact h.elim
    | some d =>
      rw [e3] at h hv
      obtain ⟨v, hv, rv⟩ := hv
      exact ⟨p, v, rfl, .inl ⟨kw, kk, .inl hH, rfl, hv.symm⟩, h.val rv rh⟩
  cases rb with
  | int i =>
    cases ra with
    | tup hq hfq rv =>
      unfold oIx at h
      rename_i p xs vs
      refine .inl (.inr (.inl ?_))
      have fin : ∀ {j : Nat}, ixN xs.length i = some j → Post L (RepV L) μ H τ (lget xs j .stuck fun d => .ok d g) Q W → rIxT X.K (.ref p) (.int i) H Q := fun {j} hj h => by
        obtain ⟨d, hd, h⟩ := lget_s h
        obtain ⟨v, hv, rd⟩ := rv.get hd
        exact ⟨p, vs, i, v, rfl, rfl, by rw [hK]; exact hq, atI_of (by rw [← rv.length]; exact hj) hv, h.val rd rh⟩
      cases i with
      | ofNat j =>
        have h' : Post L (RepV L) μ H τ (lget xs j .stuck fun d => .ok d g) Q W := h
        obtain ⟨d, hd, _⟩ := lget_s h'
        have hj : j < xs.length := (List.getElem?_eq_some_iff.mp hd).1
        refine fin (j := j) ?_ h'
        unfold ixN
        have h0 : (0 : Int) ≤ Int.ofNat j := Int.natCast_nonneg j
        have h1 : Int.ofNat j < (xs.length : Int) := by show (j : Int) < xs.length; omega
        rw [if_pos h0, if_pos h1]
        rfl
      | negSucc j =>
        simp only [llen_eq] at h
        obtain ⟨j, hj, _, h⟩ := place_s h
        exact fin hj h
    | ref hm =>
      unfold oIx at h
      rename_i n p
      simp only [G.look_eq] at h
      cases e : g.at? n with
      | none => rw [e] at h; exact h.elim
      | some c =>
        rw [e] at h
        have listCase : ∀ {m : Nat} {xs : List D}, (g.at? n = some (.lst m xs.reverse) ∨ g.at? n = some (.rol m xs)) → Post L (RepV L) μ H τ (place m i .stuck fun j => lget xs j .stuck fun d => .ok d g) Q W → rIxL X.K (.ref p) (.int i) H Q := fun {m xs} hc h => by
          obtain ⟨vs, hs, rv, hmx⟩ := rh.sqL hm hc
          obtain ⟨j, hj, _, h⟩ := place_s h
          obtain ⟨d, hd, h⟩ := lget_s h
          obtain ⟨v, hv, rd⟩ := rv.get hd
          exact ⟨p, vs, i, v, rfl, rfl, by rw [hK]; exact hs, atI_of (by rw [← rv.length, ← hmx]; exact hj) hv, h.val rd rh⟩
        cases c with
        | lst m xs =>
          obtain ⟨vs, _, hs, rv, hmx, hlen⟩ := rh.lstF hm e
          simp only at h
          obtain ⟨j, hj, hjl, h⟩ := place_s h
          obtain ⟨d, hd, h⟩ := lget_s h
          rw [hmx] at hd hj hjl
          rw [rev_at hjl] at hd
          obtain ⟨v, hv, rd⟩ := rv.get hd
          exact .inl (.inl ⟨p, vs, i, v, rfl, rfl, by rw [hK]; exact hs, atI_of (by rw [hlen]; exact hj) hv, h.val rd rh⟩)
        | rol m xs => exact .inl (.inl (listCase (.inr e) h))
        | dct t m kvs =>
          cases t with
          | true => exact h.elim
          | false => exact .inr (dictCase hm e rfl h)
    | str s =>
      unfold oIx at h
      simp only [llen_eq] at h
      cases e : Nat.ble s.length lim with
      | false => rw [e] at h; exact h.elim
      | true =>
        rw [e] at h
        simp only at h
        obtain ⟨j, hj, _, h⟩ := place_s h
        obtain ⟨c, hc, h⟩ := lget_s h
        exact .inl (.inr (.inr ⟨mkS s, i, c, rfl, rfl, Nat.le_trans (Nat.le_of_ble_eq_true e) lim_line, atI_of (by rw [mkS_cps]; exact hj) (by rw [mkS_cps]; exact hc), h.val (.str [c]) rh⟩))
    | _ => exact h.elim
  | str s =>
    cases ra with
    | ref hm =>
      unfold oIx at h
      rename_i n p
      simp only [G.look_eq] at h
      cases e : g.at? n with
      | none => rw [e] at h; exact h.elim
      | some c =>
        rw [e] at h
        cases c with
        | dct t m kvs =>
          cases t with
          | true => exact h.elim
          | false => exact .inr (dictCase hm e rfl h)
        | _ => exact h.elim
    | _ => exact h.elim
  | _ => exact h.elim

/-! ### slices -/
theorem clip_eq' {α : Type} (n d : Nat) (o : Option Int) (k : Nat → α) : clip n d o k = k (HT.sIx n d o) := by
  cases o with
  | none => rfl
  | some i =>
    cases i with
    | ofNat j =>
      show (match Nat.ble j n with | true => k j | false => k n) = k (if Int.ofNat j < 0 then (Int.ofNat j + (n : Int)).toNat else min (Int.ofNat j).toNat n)
      rw [if_neg (by show ¬ ((j : Int) < 0); omega)]
      show _ = k (min j n)
      cases e : Nat.ble j n with
      | true => rw [Nat.min_eq_left (Nat.le_of_ble_eq_true e)]
      | false =>
        have : ¬ j ≤ n := fun z => by rw [Nat.ble_eq_true_of_le z] at e; cases e
        rw [Nat.min_eq_right (by omega)]
    | negSucc j =>
      show fNat (Nat.sub n (Nat.succ j)) k = k (if Int.negSucc j < 0 then (Int.negSucc j + (n : Int)).toNat else min (Int.negSucc j).toNat n)
      rw [fNat_eq, if_pos (by omega)]
      congr 1
      show n - (j + 1) = _
      omega
def cutL {β : Type} (xs : List β) (lo hi : Option Int) : List β := (xs.drop (HT.sIx xs.length 0 lo)).take (HT.sIx xs.length xs.length hi - HT.sIx xs.length 0 lo)
theorem cut_eq {α β : Type} (xs : List β) (lo hi : Option Int) (k : List β → α) : cut xs xs.length lo hi k = k (cutL xs lo hi) := by
  unfold cut
  simp only [clip_eq', ldrop_eq, ltake_eq, fNat_eq]
  rfl
theorem RepVs.cut {xs : List D} {vs : List V} (r : RepVs L μ H xs vs) (lo hi : Option Int) : RepVs L μ H (cutL xs lo hi) (cutV vs lo hi) := by
  unfold cutL cutV
  rw [← r.length]
  exact (r.drop _).take _
theorem cut_whole {β : Type} {xs : List β} {lo hi : Option Int} (h : HT.sIx xs.length 0 lo = 0 ∧ HT.sIx xs.length xs.length hi = xs.length) : cutL xs lo hi = xs := by
  unfold cutL
  rw [h.1, h.2]
  simp
theorem cutS_eq {s : List Nat} {lo hi : Option Int} : cutS (mkS s) lo hi = mkS (cutL s lo hi) := by
  unfold cutS cutL mkS
  simp [PySem.Str.length]
def SlS (X : Cx) (L : Lk) : Prop :=
  ∃ r : V → Option Int → Option Int → Hp → VK → Prop, SlR X r ∧ ∀ (μ : Mu) (H : Hp) (g : G) (τ : L2.St) (W : WX) (x : D) (lo hi : Option Int) (a : V) (Q : VK), RepV L μ H x a → RepH L μ g H → Post L (RepV L) μ H τ (oSl x lo hi g) Q W → r a lo hi H Q
theorem oSl_s (hK : X.K = L.K) : SlS X L := by
  refine ⟨_, (sl_tupA (X := X)).or ((sl_list (X := X)).or sl_str), fun μ H g τ W x lo hi a Q ra rh h => ?_⟩
  cases ra with
  | tup hq hfq rv =>
    rename_i p xs vs
    unfold oSl at h
    simp only [llen_eq, cut_eq] at h
    refine .inl ⟨p, vs, rfl, by rw [hK]; exact hq, fun hw => ?_, fun hw q hp => post_tup h rh (rv.cut lo hi) hp⟩
    rw [← rv.length] at hw
    rw [cut_whole hw] at h
    exact h.val (.tup hq (fun z => nomatch z) rv) rh
  | ref hm =>
    rename_i n p
    unfold oSl at h
    obtain ⟨m, xs, hc, h⟩ := list_of h
    obtain ⟨vs, hs, rv, hl⟩ := rh.sqL hm hc
    subst hl
    simp only [cut_eq] at h
    obtain ⟨_, q⟩ := post_list h rh (rv.cut lo hi)
    exact .inr (.inl ⟨p, vs, rfl, by rw [hK]; exact hs, q⟩)
  | str s =>
    unfold oSl at h
    simp only [llen_eq] at h
    cases e : Nat.ble s.length lim with
    | false => rw [e] at h; exact h.elim
    | true =>
      rw [e] at h
      simp only [cut_eq] at h
      refine .inr (.inr ⟨mkS s, rfl, Nat.le_trans (Nat.le_of_ble_eq_true e) lim_line, ?_⟩)
      rw [cutS_eq]
      exact h.val (.str _) rh
  | _ => exact h.elim

/-! ### stores -/
def rSetDk : V → V → V → Hp → (Hp → Prop) → Prop := fun o i v H Q => ∃ a H', o = .ref a ∧ DPut H a i v H' ∧ Q H'
theorem set_dict (hu : X.A.units + 65 < cLine) : PSet X rSetDk := by
  intro pins s σ H o i v ov iv u Q I ro ri rv h
  obtain ⟨a, H', rfl, hp, q⟩ := h
  cases ro
  exact d_setItem (by omega) I hp ri rv fun s' I' => ⟨H', I', q⟩
theorem psetOr {t t' : TSet} (h : PSet X t) (h' : PSet X t') : PSet X (fun o i v H Q => t o i v H Q ∨ t' o i v H Q) := by
  intro pins s σ H o i v ov iv u Q I ro ri rv q
  rcases q with q | q
  · exact h pins s σ H o i v ov iv u Q I ro ri rv q
  · exact h' pins s σ H o i v ov iv u Q I ro ri rv q
/-- a cell put anew -/
theorem post_upd {α β : Type} {Rp : Mu → Hp → α → β → Prop} {n : Nat} {c0 c : Cell} {a : Addr} {o : HO} {k : G → R α} {Q : β → Hp → Prop} (h : Post L Rp μ H τ (g.upd n c .stuck k) Q W) (r : RepH L μ g H) (h0 : g.at? n = some c0) (m0 : isMut c0 = true) (m1 : isMut c = true)
    (ha : μ n = some a) (rc : ∀ H', Ext μ H μ H' → H' a = some o → RepC L μ H' c a) : ∃ g', RepH L μ g' (L2.upd H a o) ∧ Ext μ H μ (L2.upd H a o) ∧ Post L Rp μ (L2.upd H a o) τ (k g') Q W := by
  rw [G.upd_eq] at h
  cases e : g.t.put? n c with
  | none => rw [e] at h; exact h.elim
  | some t' =>
    rw [e] at h
    have rc0 := r.look ha h0
    have ex : Ext μ H μ (L2.upd H a o) := Ext.upd rc0 m0
    exact ⟨_, r.upd h0 m0 ha rc0 e m1 (rc _ ex upd_same), ex, Post.mono ex h⟩
def SetS (X : Cx) (L : Lk) : Prop :=
  ∃ t : TSet, PSet X t ∧ ∀ {α β : Type} (Rp : Mu → Hp → α → β → Prop) (μ : Mu) (H : Hp) (g : G) (τ : L2.St) (W : WX) (x y v : D) (a b c : V) (k : G → R α) (Q : β → Hp → Prop) (Q' : Hp → Prop), RepV L μ H x a → RepV L μ H y b → RepV L μ H v c → RepH L μ g H → Post L Rp μ H τ (oSet x y v g .stuck k) Q W →
    (∀ H1 g1, Ext μ H μ H1 → RepH L μ g1 H1 → Post L Rp μ H1 τ (k g1) Q W → Q' H1) → t a b c H Q'
theorem oSet_s (hu : X.A.units + 65 < cLine) : SetS X L := by
  refine ⟨_, psetOr set_list (set_dict hu), fun {α β} Rp μ H g τ W x y v a b c k Q Q' ra rb rc rh h kk => ?_⟩
  cases ra with
  | ref hm =>
    rename_i n p
    unfold oSet at h
    simp only [G.look_eq] at h
    cases e : g.at? n with
    | none => rw [e] at h; exact h.elim
    | some cl =>
      rw [e] at h
      cases cl with
      | lst m xs =>
        cases rb with
        | int i =>
          simp only at h
          obtain ⟨j, hj, hjl, h⟩ := place_s h
          simp only [lset_eq] at h
          obtain ⟨vs, hH, rv, hl⟩ := rh.lst hm e
          obtain ⟨g1, r1, ex, h1⟩ := post_upd (o := .lst (vs.set j c)) h rh e rfl rfl hm fun H' ex' q => by
            subst hl
            have := RepC.lst (L := L) (μ := μ) (xs := xs.set (Nat.sub (Nat.pred xs.length) j) v) q (by rw [rev_set hjl]; exact (rv.mono ex').set (rc.mono ex') j)
            rw [List.length_set] at this
            exact this
          exact .inl ⟨p, vs, i, j, rfl, rfl, hH, by rw [← rv.length, List.length_reverse, ← hl]; exact hj, kk _ g1 ex r1 h1⟩
        | _ => exact h.elim
      | dct t m kvs =>
        cases t with
        | true => exact h.elim
        | false =>
          simp only at h
          cases e1 : isKey y with
          | false => rw [e1] at h; exact h.elim
          | true =>
            rw [e1] at h
            simp only at h
            cases e2 : Nat.blt m lim with
            | false => rw [e2] at h; exact h.elim
            | true =>
              rw [e2] at h
              simp only [llen_eq] at h
              rw [kput_eq] at h
              obtain ⟨kk', hk⟩ := keyD_of e1
              obtain ⟨kw, hH, rk, hml, _⟩ := rh.dct hm e
              have ea := keyD_rep hk rb
              subst ea
              obtain ⟨g1, r1, ex, h1⟩ := post_upd (o := .dK (putK kw kk' c)) h rh e rfl rfl hm fun H' ex' q => .dct q (kput_ok hk (rc.mono ex') (rk.mono ex'))
              refine .inr ⟨p, _, rfl, DPut.k hH ?_, kk _ g1 ex r1 h1⟩
              rw [← rk.length, ← hml]
              exact Nat.lt_trans (Nat.le_of_ble_eq_true e2) lim_line1
      | rol m xs => exact h.elim
  | _ => exact h.elim
end Mini
/-! MiniI: own rules for plain tuples and dicts of them; built-ins. -/
namespace Mini
open PySem PySem.Spec PyProof.Rows L2
section
variable {X : Cx} {e : PySem.Expr} {es : List PySem.Expr} {t : TA} {pos : Pos}
/-- a written tuple, known to be without attributes -/
def tTupP (t : TA) : TE := fun σ H Q => t σ H fun xs H1 => xs.length ≤ sizeLine ∧ ∀ p o, H1 p = none → PlO o → Q (.ref p) (upd H1 p (.frz o (.tup xs)))
theorem pe_tupP {x1} (h : PA X es t) : PE X (.Tuple es x1 pos) (tTupP t) := by
  refine ⟨fun pins s σ H Q I hq => ?_⟩
  refine wpAny_Tuple_spliced (thn (h.run pos pins s σ H _ I hq) fun us s1 ⟨xs, H1, I1, r, z, q⟩ => ⟨by rw [← r.length]; exact z, ?_⟩)
  have hf : H1 s1.heap.objs.size = none := I1.hok.fresh (Nat.le_refl _)
  refine ⟨.ref s1.heap.objs.size, upd H1 s1.heap.objs.size (.frz { cls := .type "tuple", data := .seq us.toArray } (.tup xs)), I1.laid (t' := s1.toks) (fun b u e => Heap.get?_push_of_some _ e) (Nat.le_refl _) ?_, rfl, q _ _ hf ⟨rfl, rfl⟩⟩
  exact ⟨Heap.get?_push_size _ rfl, z, us, r, ⟨_, Heap.get?_push_size _ rfl, rfl, _, rfl⟩⟩
/-- tuple(xs) of a list: a new one, known to be without attributes -/
theorem call_tupleP : CallR X (.type "tuple") (fun xs H Q => ∃ p ys, xs = [.ref p] ∧ SqL X.K H p ys ∧ ∀ l o, H l = none → PlO o → Q (.ref l) (upd H l (.frz o (.tup ys)))) := by
  intro pins s σ H xs us Q I r h
  obtain ⟨p, ys, rfl, hq, q⟩ := h
  obtain ⟨u, rfl, rx⟩ := vals1 r
  cases rx
  obtain ⟨its, r', pl, hz⟩ := I.list hq
  have hlen := r'.length
  refine call_tuple_list pl.isList (fun h' kp => ?_) (by simp only [List.size_toArray] <;> omega)
  have I1 : Inv X pins σ H { s with heap := h' } := I.kept (t' := s.toks) kp
  have I2 : Inv X pins σ (upd H h'.objs.size (.frz { cls := .type "tuple", data := .seq its.toArray } (.tup ys))) { s with heap := h'.push { cls := .type "tuple", data := .seq its.toArray } } :=
    I1.laid (t' := s.toks) (fun b o e => Heap.get?_push_of_some _ e) (Nat.le_refl _) (show ObjOk X.prog X.w _ _ _ (.frz { cls := .type "tuple", data := .seq its.toArray } (.tup ys)) from ⟨Heap.get?_push_size _ rfl, hz, its, r', IsTup.new _ _⟩)
  exact ⟨.ref h'.objs.size, _, I2, rfl, q _ _ (I1.hok.fresh (Nat.le_refl _)) ⟨rfl, rfl⟩⟩
theorem plain_of {pins : List (Addr × Obj)} {σ : L2.St} {H : Hp} {s : Shared} {a : Addr} (I : Inv X pins σ H s) (h : PlT X.K H a) : ∃ o, s.heap.get? a = some o ∧ PlO o := by
  rcases h with ⟨o, u, h, d⟩ | ⟨o, h, d⟩
  · exact ⟨o, (show ObjOk X.prog X.w H s.heap a (.frz o u) from I.hok a _ h).1, d⟩
  · exact ⟨o, I.kIn a o h, d⟩
/-- dict(t) of a tuple of pairs -/
theorem call_dictT (hcalm : X.calm = true) : CallR X (.type "dict") (fun xs H Q => ∃ (a : Addr) (ps : List Addr) (kvs : List (Key × V)), xs = [.ref a] ∧ SqT X.K H a (ps.map V.ref) ∧ PlT X.K H a ∧ Paired (fun p kv => SqT X.K H p [kV kv.1, kv.2]) ps kvs ∧
    ∀ p, H p = none → Q (.ref p) (upd H p (.dK (mergeK [] kvs)))) := by
  intro pins s σ H xs us Q I r q
  obtain ⟨a, ps, kvs, ex, hq, hpl, hp, q⟩ := q
  subst ex
  obtain ⟨u, eu, rx⟩ := vals1 r
  subst eu
  cases rx
  obtain ⟨its, rv, pl, hz⟩ := I.tuple hq
  have ei := refs_at rv
  subst ei
  rw [List.length_map] at hz
  obtain ⟨prs, rel, hl, hpr⟩ := pairs_of I hp
  obtain ⟨o, ho, hd, _⟩ := plain_of I hpl
  obtain ⟨o', ho', hc, n, hdat⟩ := pl
  rw [ho] at ho'
  cases ho'
  have hpr' : ∀ (j : Nat) (q : Key × Value), prs[j]? = some q → ∃ u, IsTup s.heap (ps.getD j 0) #[u, q.2] ∧ keyIs q.1 u = true := fun j q e => by
    obtain ⟨b, u, e1, e2, e3⟩ := hpr j q e
    refine ⟨u, ?_, e3⟩
    rw [List.getD_eq_getElem?_getD, e1]
    exact e2
  have gen : ∀ (prs : List (Key × Value)) (f : Nat → Addr), (∀ (j : Nat) (q : Key × Value), prs[j]? = some q → ∃ u, IsTup s.heap (f j) #[u, q.2] ∧ keyIs q.1 u = true) →
      ∃ us : List Value, us.length = prs.length ∧ ∀ (j : Nat) (q : Key × Value), prs[j]? = some q → ∃ u, us[j]? = some u ∧ IsTup s.heap (f j) #[u, q.2] ∧ keyIs q.1 u = true := by
    intro prs
    induction prs with
    | nil => exact fun f h => ⟨[], rfl, fun j q e => by simp at e⟩
    | cons p r ih =>
      intro f h
      obtain ⟨u, h1, h2⟩ := h 0 p rfl
      obtain ⟨us, e1, e2⟩ := ih (fun j => f (j + 1)) fun j q e => h (j + 1) q (by simpa using e)
      refine ⟨u :: us, by simp [e1], fun j q e => ?_⟩
      cases j with
      | zero =>
        have e' : p = q := by simpa using e
        subst e'
        exact ⟨u, rfl, h1, h2⟩
      | succ j =>
        obtain ⟨u', g1, g2⟩ := e2 j q (by simpa using e)
        exact ⟨u', by simpa using g1, g2⟩
  have ex := gen prs (fun j => ps.getD j 0) hpr'
  obtain ⟨us, hus, hu⟩ := ex
  have hit : PairItems s.heap (ps.map Value.ref).toArray (fun j => ps.getD j 0) (us.zip (prs.map (·.2))) := by
    refine ⟨by simp [hl, hus], fun j k v e => ?_⟩
    obtain ⟨h1, h2⟩ : us[j]? = some k ∧ (prs.map (·.2))[j]? = some v := by
      rw [List.getElem?_zip_eq_some] at e
      exact e
    rw [List.getElem?_map, Option.map_eq_some_iff] at h2
    obtain ⟨q, h2, h3⟩ := h2
    obtain ⟨u, h4, h5, _⟩ := hu j q h2
    rw [h1] at h4
    cases h4
    refine ⟨?_, .inl (by rw [← h3]; exact h5)⟩
    have hj : j < ps.length := by rw [← hl]; exact (List.getElem?_eq_some_iff.mp h2).1
    simp [List.getD_eq_getElem?_getD, hj]
  have P := PairArg.tuple (prog := X.prog) (w := X.w) a (ps.map Value.ref).toArray (fun j => ps.getD j 0) (us.zip (prs.map (·.2)))
  have hzl : (us.zip (prs.map (·.2))).length = prs.length := by simp [hus]
  refine call_dict_pairs (knd := mixKind X.prog X.w) (kvs := prs) P (I.ok.hd hcalm) ⟨⟨o, n, ho, hc, hd, hdat⟩, hit⟩ ⟨hzl.symm, fun j k v e => ?_⟩ (by rw [hzl, hl]; exact hz) fun h' tk hd' k => ?_
  · obtain ⟨h1, h2⟩ : us[j]? = some k ∧ (prs.map (·.2))[j]? = some v := by
      have e' : (us.zip (prs.map (·.2)))[j]? = some (k, v) := e
      rw [List.getElem?_zip_eq_some] at e'
      exact e'
    rw [List.getElem?_map, Option.map_eq_some_iff] at h2
    obtain ⟨q, h2, h3⟩ := h2
    obtain ⟨u, h4, _, h5⟩ := hu j q h2
    rw [h1] at h4
    cases h4
    exact ⟨q.1, by rw [h2, ← h3], h5⟩
  · have hm : (s.heap.objs.size == sysModules) = false := beq_eq_false_iff_ne.mpr (Nat.ne_of_gt I.big)
    have hlen : (mergeK [] kvs).length ≤ sizeLine := by
      refine Nat.le_trans (length_mergeK kvs []) ?_
      rw [List.length_nil, Nat.zero_add, rel.length, hl]
      exact hz
    exact ⟨.ref s.heap.objs.size, upd H s.heap.objs.size (.dK (mergeK [] kvs)), I.laid (t' := tk) (fun b o e => k b o (by simp) e) (Nat.le_refl _) (show ObjOk X.prog X.w _ _ _ (.dK (mergeK [] kvs)) from ⟨hlen, hm, merged [] prs, KV.merge rel .nil, hd'⟩), rfl, q _ (I.hok.fresh (Nat.le_refl _))⟩
/-- dict(d): a copy -/
theorem call_dictC : CallR X (.type "dict") (fun xs H Q => ∃ (a : Addr) (kvs : List (Key × V)), xs = [.ref a] ∧ Rd H a (.dK kvs) ∧ ∀ p, H p = none → Q (.ref p) (upd H p (.dK kvs))) := by
  intro pins s σ H xs us Q I r q
  obtain ⟨a, kvs, ex, hd, q⟩ := q
  subst ex
  obtain ⟨u, eu, rx⟩ := vals1 r
  subst eu
  cases rx
  exact d_copyOf I hd fun p s' hp I' => ⟨.ref p, _, I', rfl, q p hp⟩
end
end Mini
/-! MiniJ: built-ins. -/
namespace Mini
open PySem PySem.Spec PyProof.Rows L2
variable {L : Lk} {μ μ' μ1 μ2 : Mu} {g g' : G} {H H' H1 H2 : Hp} {τ : L2.St} {W : WX} {X : Cx}

/-- a built-in by value: its meaning is a reading -/
def BiS (X : Cx) (L : Lk) (f : Value) (b : Bi) : Prop := ∃ r : List V → Hp → VK → Prop, CallR X f r ∧ ∀ (μ : Mu) (H : Hp) (g : G) (τ : L2.St) (W : WX) (x : D) (v : V) (Q : VK),
  RepV L μ H x v → RepH L μ g H → Post L (RepV L) μ H τ (bi1 b x g) Q W → r [v] H Q

theorem sqL_of (hK : X.K = L.K) {a : Addr} {vs : List V} (h : SqL L.K H a vs) : SqL X.K H a vs := by rw [hK]; exact h
theorem bools_s {α β : Type} {Rp : Mu → Hp → α → β → Prop} {Q : β → Hp → Prop} : ∀ {xs : List D} {k : List Bool → R α}, Post L Rp μ H τ (allBools xs .stuck k) Q W → ∃ bs, xs = bs.map D.bl ∧ Post L Rp μ H τ (k bs) Q W
  | [], k, h => ⟨[], rfl, h⟩
  | x :: r, k, h => by
    cases x with
    | bl b =>
      obtain ⟨bs, e, h'⟩ := bools_s (xs := r) (k := fun q => k (b :: q)) h
      exact ⟨b :: bs, by rw [e]; rfl, h'⟩
    | _ => exact h.elim
theorem ints_s {α β : Type} {Rp : Mu → Hp → α → β → Prop} {Q : β → Hp → Prop} : ∀ {xs : List D} {k : List Int → R α}, Post L Rp μ H τ (allInts xs .stuck k) Q W → ∃ bs, xs = bs.map D.int ∧ Post L Rp μ H τ (k bs) Q W
  | [], k, h => ⟨[], rfl, h⟩
  | x :: r, k, h => by
    cases x with
    | int b =>
      obtain ⟨bs, e, h'⟩ := ints_s (xs := r) (k := fun q => k (b :: q)) h
      exact ⟨b :: bs, by rw [e]; rfl, h'⟩
    | _ => exact h.elim
theorem strs_s {α β : Type} {Rp : Mu → Hp → α → β → Prop} {Q : β → Hp → Prop} : ∀ {xs : List D} {k : List (List Nat) → R α}, Post L Rp μ H τ (allStrs xs .stuck k) Q W → ∃ bs, xs = bs.map D.str ∧ Post L Rp μ H τ (k bs) Q W
  | [], k, h => ⟨[], rfl, h⟩
  | x :: r, k, h => by
    cases x with
    | str b =>
      obtain ⟨bs, e, h'⟩ := strs_s (xs := r) (k := fun q => k (b :: q)) h
      exact ⟨b :: bs, by rw [e]; rfl, h'⟩
    | _ => exact h.elim
theorem rep_bools : ∀ {bs : List Bool} {vs : List V}, RepVs L μ H (bs.map D.bl) vs → vs = bs.map V.bl
  | [], _, .nil => rfl
  | b :: bs, _, .cons (.bl _) r => by rw [rep_bools r]; rfl
theorem rep_ints : ∀ {bs : List Int} {vs : List V}, RepVs L μ H (bs.map D.int) vs → vs = bs.map V.int
  | [], _, .nil => rfl
  | b :: bs, _, .cons (.int _) r => by rw [rep_ints r]; rfl
theorem rep_strs : ∀ {bs : List (List Nat)} {vs : List V}, RepVs L μ H (bs.map D.str) vs → vs = bs.map fun s => V.str (mkS s)
  | [], _, .nil => rfl
  | b :: bs, _, .cons (.str _) r => by rw [rep_strs r]; rfl

theorem bi_len (hK : X.K = L.K) : BiS X L (.builtin "len") .len := by
  refine ⟨_, (call_len (X := X)).or call_lenD, fun μ H g τ W x v Q ra rh h => ?_⟩
  cases ra with
  | str s =>
    simp only [bi1, llen_eq] at h
    cases e : Nat.ble s.length lim with
    | false => rw [e] at h; exact h.elim
    | true =>
      rw [e] at h
      exact .inl ⟨_, _, rfl, ⟨Nat.le_trans (Nat.le_of_ble_eq_true e) lim_line, rfl⟩, h.val (.int _) rh⟩
  | tup hq hfq rv =>
    rename_i p xs vs
    simp only [bi1, llen_eq] at h
    refine .inl ⟨_, _, rfl, .inr ⟨vs, by rw [hK]; exact hq, rfl⟩, ?_⟩
    rw [← rv.length]
    exact h.val (.int _) rh
  | ref hm =>
    rename_i n p
    simp only [bi1, G.look_eq] at h
    cases e : g.at? n with
    | none => rw [e] at h; exact h.elim
    | some cl =>
      rw [e] at h
      cases cl with
      | lst m xs =>
        obtain ⟨vs, _, hq, rv, hl, hlen⟩ := rh.lstF hm e
        refine .inl ⟨_, _, rfl, .inl ⟨vs, sqL_of hK hq, rfl⟩, ?_⟩
        rw [hlen, ← hl]
        exact h.val (.int _) rh
      | rol m xs =>
        obtain ⟨vs, hq, rv, hl⟩ := rh.sqL hm (.inr e)
        refine .inl ⟨_, _, rfl, .inl ⟨vs, sqL_of hK hq, rfl⟩, ?_⟩
        rw [← rv.length, ← hl]
        exact h.val (.int _) rh
      | dct t m kvs =>
        obtain ⟨kw, hH, rk, hl, _⟩ := rh.dct hm e
        refine .inr ⟨p, kw, rfl, hH, ?_⟩
        rw [← rk.length, ← hl]
        exact h.val (.int _) rh
  | _ => exact h.elim
theorem bi_abs : BiS X L (.builtin "abs") .abs := by
  refine ⟨_, call_abs, fun μ H g τ W x v Q ra rh h => ?_⟩
  cases ra with
  | int i =>
    cases i with
    | ofNat n =>
      have := h.val (.int _) rh
      refine ⟨_, rfl, ?_⟩
      rw [if_neg (by simp)]
      exact this
    | negSucc n =>
      have := h.val (.int _) rh
      refine ⟨_, rfl, ?_⟩
      rw [if_pos (by simp)]
      exact this
  | _ => exact h.elim
theorem lall_id (bs : List Bool) : lall id bs = bs.all id := by
  induction bs with
  | nil => rfl
  | cons b r ih => cases b <;> simp [lall] <;> exact ih
theorem lany_id (bs : List Bool) : lany id bs = bs.any id := by
  induction bs with
  | nil => rfl
  | cons b r ih => cases b <;> simp [lany] <;> exact ih
theorem bi_all (hK : X.K = L.K) (hc : X.calm = true) : BiS X L (.builtin "all") .all := by
  refine ⟨_, cr_all hc, fun μ H g τ W x v Q ra rh h => ?_⟩
  cases ra with
  | ref hm =>
    obtain ⟨m, xs, e, h⟩ := list_of h
    obtain ⟨bs, ex, h1⟩ := bools_s h
    clear h
    obtain ⟨vs, hq, rv, hl⟩ := rh.sqL hm e
    subst ex
    rw [rep_bools rv] at hq
    refine ⟨_, bs, rfl, sqL_of hK hq, ?_⟩
    simp only [fBool_eq, lall_id] at h1
    exact post_bl h1 rh
  | _ => exact h.elim
theorem bi_any (hK : X.K = L.K) (hc : X.calm = true) : BiS X L (.builtin "any") .any := by
  refine ⟨_, cr_any hc, fun μ H g τ W x v Q ra rh h => ?_⟩
  cases ra with
  | ref hm =>
    obtain ⟨m, xs, e, h⟩ := list_of h
    obtain ⟨bs, ex, h1⟩ := bools_s h
    clear h
    obtain ⟨vs, hq, rv, hl⟩ := rh.sqL hm e
    subst ex
    rw [rep_bools rv] at hq
    refine ⟨_, bs, rfl, sqL_of hK hq, ?_⟩
    simp only [fBool_eq, lany_id] at h1
    exact post_bl h1 rh
  | _ => exact h.elim
theorem lsum_eq {α : Type} : ∀ (xs : List Int) (acc : Int) (k : Int → α), lsum xs acc k = k (acc + xs.sum)
  | [], acc, k => by simp [lsum]
  | x :: r, acc, k => by
    show fInt (Int.add acc x) (fun a => lsum r a k) = _
    rw [fInt_eq, lsum_eq r]
    rw [List.sum_cons]
    show k (acc + x + r.sum) = _
    rw [Int.add_assoc]
theorem bi_sum (hK : X.K = L.K) (hc : X.calm = true) : BiS X L (.builtin "sum") .sum := by
  refine ⟨_, cr_sum hc, fun μ H g τ W x v Q ra rh h => ?_⟩
  cases ra with
  | ref hm =>
    obtain ⟨m, xs, e, h⟩ := list_of h
    obtain ⟨bs, ex, h1⟩ := ints_s h
    clear h
    obtain ⟨vs, hq, rv, hl⟩ := rh.sqL hm e
    subst ex
    rw [rep_ints rv] at hq
    refine ⟨_, bs, rfl, sqL_of hK hq, ?_⟩
    rw [lsum_eq] at h1
    have := h1.val (.int _) rh
    rw [Int.zero_add] at this
    exact this
  | _ => exact h.elim
theorem bi_tuple (hK : X.K = L.K) : BiS X L (.type "tuple") .tuple := by
  refine ⟨_, (call_tuple_of (X := X)).or call_tupleP, fun μ H g τ W x v Q ra rh h => ?_⟩
  cases ra with
  | tup hq hfq rv => exact .inl ⟨_, _, rfl, .inr ⟨by rw [hK]; exact hq, h.val (.tup hq hfq rv) rh⟩⟩
  | ref hm =>
    obtain ⟨m, xs, e, h⟩ := list_of h
    obtain ⟨vs, hq, rv, hl⟩ := rh.sqL hm e
    exact .inr ⟨_, vs, rfl, sqL_of hK hq, fun l o hl ho => post_tupP h rh rv hl ho⟩
  | _ => exact h.elim
theorem bi_list (hK : X.K = L.K) : BiS X L (.type "list") .list := by
  refine ⟨_, call_list_of (X := X), fun μ H g τ W x v Q ra rh h => ?_⟩
  cases ra with
  | tup hq hfq rv =>
    obtain ⟨_, h⟩ := post_list h rh rv
    exact ⟨_, _, rfl, .inr (by rw [hK]; exact hq), h⟩
  | ref hm =>
    obtain ⟨m, xs, e, h⟩ := list_of h
    obtain ⟨vs, hq, rv, hl⟩ := rh.sqL hm e
    obtain ⟨_, h⟩ := post_list h rh rv
    exact ⟨_, vs, rfl, .inl (sqL_of hK hq), h⟩
  | _ => exact h.elim
theorem bi_int : BiS X L (.type "int") .int := by
  refine ⟨_, call_int1 (X := X), fun μ H g τ W x v Q ra rh h => ?_⟩
  cases ra with
  | int i => exact .inl ⟨i, rfl, h.val (.int _) rh⟩
  | bl b =>
    cases b with
    | true => exact .inr ⟨true, rfl, h.val (.int _) rh⟩
    | false => exact .inr ⟨false, rfl, h.val (.int _) rh⟩
  | _ => exact h.elim

/-! dict(..) -/
theorem repK_merge : ∀ {a : List (D × D)} {b : List (Key × V)} {more : List (D × D)} {mw : List (Key × V)}, RepK L μ H a b → RepK L μ H more mw →
    RepK L μ H (more.foldl (fun acc p => kput acc p.1 p.2 id) a) (mergeK b mw)
  | _, _, _, _, r, .nil => r
  | _, _, _, _, r, .cons hk hd q => by
    have h := repK_merge (kput_ok hk hd r) q
    exact h
/-- pairs read -/
theorem pairs_s {α β : Type} {Rp : Mu → Hp → α → β → Prop} {Q : β → Hp → Prop} : ∀ {xs : List D} {vs : List V} {acc : List (D × D)} {k : List (D × D) → R α}, RepVs L μ H xs vs → Post L Rp μ H τ (pairs xs acc .stuck k) Q W →
    ∃ (ps : List Addr) (kd : List (D × D)) (kw : List (Key × V)), vs = ps.map V.ref ∧ Paired (fun p kv => SqT L.K H p [kV kv.1, kv.2]) ps kw ∧ RepK L μ H kd kw ∧ Post L Rp μ H τ (k (kd.foldl (fun acc p => kput acc p.1 p.2 id) acc)) Q W
  | [], _, acc, k, .nil, h => ⟨[], [], [], rfl, .nil, .nil, h⟩
  | x :: r, _, acc, k, .cons rx rr, h => by
    cases rx with
    | tup hq hfq rv =>
      rename_i fl p ys ws
      cases rv with
      | nil => exact h.elim
      | cons ra rv =>
        cases rv with
        | nil => exact h.elim
        | cons rb rv =>
          cases rv with
          | cons _ _ => exact h.elim
          | nil =>
            rename_i y ya d da
            have h' : Post L Rp μ H τ (match isKey y with | true => kput acc y d (fun acc => pairs r acc .stuck k) | false => .stuck) Q W := h
            cases e : isKey y with
            | false => rw [e] at h'; exact h'.elim
            | true =>
              rw [e] at h'
              simp only at h'
              rw [kput_eq] at h'
              obtain ⟨ps, kd, kw, e1, e2, e3, e4⟩ := pairs_s rr h'
              obtain ⟨kk, hk⟩ := keyD_of e
              have ev := keyD_rep hk ra
              subst ev
              exact ⟨_ :: ps, (y, d) :: kd, (kk, da) :: kw, by rw [e1]; rfl, .cons hq e2, .cons hk rb e3, e4⟩
    | _ => exact h.elim
theorem bi_dict (hK : X.K = L.K) (hc : X.calm = true) : BiS X L (.type "dict") .dict := by
  refine ⟨_, ((call_dictP (X := X) hc).or (call_dictT hc)).or call_dictC, fun μ H g τ W x v Q ra rh h => ?_⟩
  have sq : ∀ {ps : List Addr} {kw : List (Key × V)}, Paired (fun p kv => SqT L.K H p [kV kv.1, kv.2]) ps kw → Paired (fun p kv => SqT X.K H p [kV kv.1, kv.2]) ps kw := fun h => by rw [hK]; exact h
  cases ra with
  | tup hq hfq rv =>
    rename_i fl p xs vs
    cases fl with
    | false => exact h.elim
    | true =>
      obtain ⟨ps, kd, kw, e1, e2, e3, e4⟩ := pairs_s rv h
      subst e1
      simp only [llen_eq] at e4
      exact .inl (.inr ⟨_, ps, kw, rfl, by rw [hK]; exact hq, by rw [hK]; exact hfq rfl, sq e2, fun p hp => post_new e4 rh hp fun μ' H' ex q => .dct q (repK_merge .nil (e3.mono ex))⟩)
  | ref hm =>
    rename_i n p
    simp only [bi1, G.look_eq] at h
    cases e : g.at? n with
    | none => rw [e] at h; exact h.elim
    | some cl =>
      rw [e] at h
      cases cl with
      | lst m xs =>
        simp only [lrev_eq, List.append_nil] at h
        obtain ⟨vs, hq, rv, hl⟩ := rh.sqL (xs := xs.reverse) hm (.inl (by rw [List.reverse_reverse]; exact e))
        obtain ⟨ps, kd, kw, e1, e2, e3, e4⟩ := pairs_s rv h
        subst e1
        simp only [llen_eq] at e4
        exact .inl (.inl ⟨_, ps, kw, rfl, sqL_of hK hq, sq e2, fun p hp => post_new e4 rh hp fun μ' H' ex q => .dct q (repK_merge .nil (e3.mono ex))⟩)
      | rol m xs =>
        obtain ⟨vs, hq, rv, hl⟩ := rh.sqL hm (.inr e)
        obtain ⟨ps, kd, kw, e1, e2, e3, e4⟩ := pairs_s rv h
        subst e1
        simp only [llen_eq] at e4
        exact .inl (.inl ⟨_, ps, kw, rfl, sqL_of hK hq, sq e2, fun p hp => post_new e4 rh hp fun μ' H' ex q => .dct q (repK_merge .nil (e3.mono ex))⟩)
      | dct t m kvs =>
        cases t with
        | true => exact h.elim
        | false =>
          obtain ⟨kw, hH, rk, hl, _⟩ := rh.dct hm e
          subst hl
          exact .inr ⟨_, kw, rfl, .inl hH, fun p hp => post_new h rh hp fun μ' H' ex q => .dct q (rk.mono ex)⟩
  | _ => exact h.elim
end Mini
/-! MiniK: sorted, the texts of numbers, isinstance, methods. -/
namespace Mini
open PySem PySem.Spec PyProof.Rows L2
variable {L : Lk} {μ μ' μ1 μ2 : Mu} {g g' : G} {H H' H1 H2 : Hp} {τ : L2.St} {W : WX} {X : Cx}

/-! sorted -/
def sle (a b : List Nat) : Prop := ¬ b < a
theorem sle_trans {a b c : List Nat} (h : sle a b) (h' : sle b c) : sle a c := by
  unfold sle at *
  rw [List.not_lt] at *
  exact List.le_trans h h'
theorem sle_anti {a b : List Nat} (h : sle a b) (h' : sle b a) : a = b := by
  unfold sle at *
  rw [List.not_lt] at *
  exact List.le_antisymm h h'
theorem sle_total {a b : List Nat} (h : ¬ sle a b) : sle b a := by
  unfold sle at *
  rw [Classical.not_not] at h
  exact List.lt_asymm h
def insP (s : List Nat) : List (List Nat) → List (List Nat)
  | [] => [s]
  | x :: r => if x < s then x :: insP s r else s :: x :: r
theorem sins_eq {α : Type} (s : List Nat) : ∀ (xs : List (List Nat)) (k : List (List Nat) → α), sins s xs k = k (insP s xs)
  | [], k => rfl
  | x :: r, k => by
    show (match nlts x s with | true => sins s r (fun q => k (x :: q)) | false => k (s :: x :: r)) = _
    rw [nlts_eq]
    by_cases h : x < s
    · rw [decide_eq_true h]
      simp only [insP, if_pos h]
      exact sins_eq s r _
    · rw [decide_eq_false h]
      simp only [insP, if_neg h]
def sortP : List (List Nat) → List (List Nat)
  | [] => []
  | x :: r => insP x (sortP r)
theorem ssort_eq {α : Type} : ∀ (xs : List (List Nat)) (k : List (List Nat) → α), ssort xs k = k (sortP xs)
  | [], k => rfl
  | x :: r, k => by
    show ssort r (fun r => sins x r k) = _
    rw [ssort_eq r, sins_eq]; rfl
theorem insP_perm (s : List Nat) : ∀ xs, (insP s xs).Perm (s :: xs)
  | [] => .refl _
  | x :: r => by
    unfold insP
    split
    · exact ((insP_perm s r).cons x).trans (.swap s x r)
    · exact .refl _
theorem sortP_perm : ∀ xs, (sortP xs).Perm xs
  | [] => .refl _
  | x :: r => (insP_perm x _).trans ((sortP_perm r).cons x)
theorem insP_sorted (s : List Nat) : ∀ xs, xs.Pairwise sle → (insP s xs).Pairwise sle
  | [], _ => by simp [insP]
  | x :: r, h => by
    obtain ⟨h1, h2⟩ := List.pairwise_cons.mp h
    unfold insP
    split
    · rename_i hx
      refine List.pairwise_cons.mpr ⟨fun y hy => ?_, insP_sorted s r h2⟩
      rcases List.mem_cons.mp ((insP_perm s r).mem_iff.mp hy) with e | e
      · subst e; exact List.lt_asymm hx
      · exact h1 y e
    · rename_i hx
      refine List.pairwise_cons.mpr ⟨fun y hy => ?_, h⟩
      rcases List.mem_cons.mp hy with e | e
      · subst e; exact hx
      · exact sle_trans hx (h1 y e)
theorem sortP_sorted : ∀ xs, (sortP xs).Pairwise sle
  | [] => .nil
  | x :: r => insP_sorted x _ (sortP_sorted r)
theorem rising_elim : ∀ (p : PySem.Str) (l : List PySem.Str), risingS p l = true → ((p :: l).map fun s => s.cps.toList).Pairwise sle
  | p, [], _ => by simp
  | p, x :: r, h => by
    have h' : (!Spec.ltCps x.cps.toList p.cps.toList && risingS x r) = true := h
    rw [Bool.and_eq_true] at h'
    obtain ⟨h1, h2⟩ := h'
    have ih := rising_elim x r h2
    have hx : sle p.cps.toList x.cps.toList := by
      rw [ltCps_eq] at h1
      unfold sle
      simpa using h1
    refine List.pairwise_cons.mpr ⟨fun y hy => ?_, ih⟩
    rcases List.mem_cons.mp hy with e | e
    · subst e; exact hx
    · exact sle_trans hx ((List.pairwise_cons.mp ih).1 y e)
theorem sorted_elim : ∀ l : List PySem.Str, sortedS l = true → (l.map fun s => s.cps.toList).Pairwise sle
  | [], _ => .nil
  | x :: r, h => rising_elim x r h
theorem sorted_unique {ss : List (List Nat)} {ys : List PySem.Str} (hp : ys.Perm (ss.map mkS)) (hs : sortedS ys = true) : ys = (sortP ss).map mkS := by
  have h1 := sorted_elim ys hs
  have h2 := hp.map fun s => s.cps.toList
  rw [List.map_map] at h2
  have e : (ss.map ((fun s : PySem.Str => s.cps.toList) ∘ mkS)) = ss := by
    rw [show ((fun s : PySem.Str => s.cps.toList) ∘ mkS) = id from funext fun s => mkS_cps s, List.map_id]
  rw [e] at h2
  have h3 := List.Perm.eq_of_pairwise (le := sle) (fun a b _ _ h h' => sle_anti h h') h1 (sortP_sorted ss) (h2.trans (sortP_perm ss).symm)
  rw [← h3, List.map_map]
  conv => lhs; rw [← List.map_id ys]
  exact List.map_congr_left fun s _ => by cases s; rfl
theorem fstD_strs : ∀ {kvs : List (D × D)} {kw : List (Key × V)} {ss : List (List Nat)}, RepK L μ H kvs kw → fstD kvs = ss.map D.str → kw.map (·.1) = (ss.map mkS).map Sum.inr
  | _, _, ss, .nil, e => by
    cases ss with
    | nil => rfl
    | cons s r => cases e
  | _, _, ss, .cons (y := y) hk hd r, e => by
    cases ss with
    | nil => cases e
    | cons s q =>
      have e' : y :: fstD _ = D.str s :: q.map D.str := e
      rw [List.cons.injEq] at e'
      obtain ⟨e1, e2⟩ := e'
      subst e1
      cases hk
      rw [List.map_cons, fstD_strs r e2]
      rfl
theorem bi_sorted (hc : X.calm = true) : BiS X L (.builtin "sorted") .sorted := by
  refine ⟨_, call_sortedD hc, fun μ H g τ W x v Q ra rh h => ?_⟩
  cases ra with
  | ref hm =>
    rename_i n p
    simp only [bi1, G.look_eq] at h
    cases e : g.at? n with
    | none => rw [e] at h; exact h.elim
    | some cl =>
      rw [e] at h
      cases cl with
      | dct t m kvs =>
        cases t with
        | true => exact h.elim
        | false =>
          simp only at h
          cases e2 : Nat.blt m 60 with
          | false => rw [e2] at h; exact h.elim
          | true =>
            rw [e2] at h
            simp only at h
            obtain ⟨ss, es, h1⟩ := strs_s h
            clear h
            obtain ⟨kw, hH, rk, hl, _⟩ := rh.dct hm e
            rw [ssort_eq] at h1
            have hk := fstD_strs rk es
            refine ⟨p, kw, ss.map mkS, rfl, .inl hH, hk, ?_, fun ys q hp hs hq => ?_⟩
            · have h2 : kw.length = ss.length := by
                have := congrArg List.length hk
                simpa using this
              rw [List.length_map, ← h2, ← rk.length, ← hl]
              have := Nat.le_of_ble_eq_true e2
              omega
            · rw [sorted_unique hp hs]
              have rv : ∀ ss : List (List Nat), RepVs L μ H (ss.map D.str) ((ss.map mkS).map V.str) := fun ss => by
                induction ss with
                | nil => exact .nil
                | cons s r ih => exact .cons (.str s) ih
              exact (post_list h1 rh (rv _)).2 q hq
      | _ => exact h.elim
  | _ => exact h.elim

/-! the texts of numbers -/
def chN (c : Char) : Nat := c.toNat
theorem digit_ch (d : Nat) (h : d < 10) : (Nat.digitChar d).toNat = 48 + d := by
  match d, h with
  | 0, _ => rfl | 1, _ => rfl | 2, _ => rfl | 3, _ => rfl | 4, _ => rfl | 5, _ => rfl | 6, _ => rfl | 7, _ => rfl | 8, _ => rfl | 9, _ => rfl
theorem digits_eq : ∀ (f f' n : Nat) (acc : List Char), n < 10 ^ (f + 1) → n < f' → digits (f + 1) n (acc.map Char.toNat) = (Nat.toDigitsCore 10 f' n acc).map Char.toNat
  | f, 0, n, acc, h, h' => by omega
  | f, f' + 1, n, acc, h, h' => by
    show fNat (Nat.add 48 (Nat.mod n 10)) (fun c => match Nat.blt n 10 with | true => c :: acc.map Char.toNat | false => fNat (Nat.div n 10) fun m => digits f m (c :: acc.map Char.toNat)) = _
    have hd : n % 10 < 10 := Nat.mod_lt _ (by decide)
    have hc : Nat.add 48 (Nat.mod n 10) = (Nat.digitChar (n % 10)).toNat := (digit_ch _ hd).symm
    simp only [fNat_eq, hc]
    unfold Nat.toDigitsCore
    by_cases hn : n < 10
    · rw [show Nat.blt n 10 = true from Nat.ble_eq_true_of_le hn]
      have : n / 10 = 0 := Nat.div_eq_of_lt hn
      simp [this]
    · rw [show Nat.blt n 10 = false from by cases e : Nat.blt n 10 with | false => rfl | true => exact absurd (Nat.le_of_ble_eq_true e) hn]
      have h0 : n / 10 ≠ 0 := by omega
      simp only [h0, if_false]
      cases f with
      | zero => omega
      | succ f =>
        have := digits_eq f f' (n / 10) (Nat.digitChar (n % 10) :: acc) (by rw [Nat.pow_succ] at h; omega) (by omega)
        rw [List.map_cons] at this
        exact this
theorem log_small {n : Nat} (h : Nat.blt (Nat.log2 n) 1900 = true) : n < 10 ^ 600 := by
  have h1 : Nat.log2 n < 1900 := Nat.le_of_ble_eq_true h
  by_cases hz : n = 0
  · subst hz; exact Nat.pow_pos (by decide)
  · have h2 : n < 2 ^ 1900 := Nat.lt_of_lt_of_le (Nat.log2_lt hz |>.mp (Nat.lt_succ_self _) : n < 2 ^ (Nat.log2 n + 1)) (Nat.pow_le_pow_right (by decide) h1)
    have h3 : (2 : Nat) ^ 1900 ≤ 10 ^ 600 := by decide +kernel
    exact Nat.lt_of_lt_of_le h2 h3
theorem str_of (s : String) (l : List Nat) (h : s.toList.map Char.toNat = l) : PySem.Str.ofString s = mkS l := by
  rw [PySem.Str.ofString_eq_byList]
  unfold PySem.Str.ofStringByList
  rw [h]; rfl
theorem text_pos (n : Nat) (h : Nat.blt (Nat.log2 n) 1900 = true) : (toString (Int.ofNat n)).toList.map Char.toNat = digits 600 n [] := by
  have e := digits_eq 599 (n + 1) n [] (log_small h) (by omega)
  rw [List.map_nil] at e
  rw [show (599 + 1 : Nat) = 600 from rfl] at e
  rw [e]
  show (Nat.repr n).toList.map Char.toNat = _
  unfold Nat.repr Nat.toDigits
  rw [String.toList_ofList]
theorem text_neg (n : Nat) (h : Nat.blt (Nat.log2 (Nat.succ n)) 1900 = true) : (toString (Int.negSucc n)).toList.map Char.toNat = 45 :: digits 600 (Nat.succ n) [] := by
  have e := digits_eq 599 (n + 2) (Nat.succ n) [] (log_small h) (by omega)
  rw [List.map_nil] at e
  rw [show (599 + 1 : Nat) = 600 from rfl] at e
  rw [e]
  show ("-" ++ Nat.repr (Nat.succ n)).toList.map Char.toNat = _
  unfold Nat.repr Nat.toDigits
  rw [String.toList_append, List.map_append]
  have e2 := String.toList_ofList (l := Nat.toDigitsCore 10 (n.succ + 1) n.succ [])
  rw [e2]
  rfl
theorem bi_str : BiS X L (.type "str") .str := by
  refine ⟨_, call_str_int (X := X), fun μ H g τ W x v Q ra rh h => ?_⟩
  cases ra with
  | int i =>
    cases i with
    | ofNat n =>
      simp only [bi1, intText, lapp_eq] at h
      cases e : Nat.blt n.log2 1900 with
      | false => rw [e] at h; exact h.elim
      | true =>
        rw [e] at h
        refine ⟨_, rfl, Nat.lt_trans (Nat.le_of_ble_eq_true e) (by decide), ?_⟩
        have q := h.val (.str _) rh
        rw [List.append_nil] at q
        rw [str_of _ _ (text_pos n e)]
        exact q
    | negSucc n =>
      simp only [bi1, intText, lapp_eq] at h
      cases e : Nat.blt n.succ.log2 1900 with
      | false => rw [e] at h; exact h.elim
      | true =>
        rw [e] at h
        refine ⟨_, rfl, Nat.lt_trans (Nat.le_of_ble_eq_true e) (by decide), ?_⟩
        have q := h.val (.str _) rh
        rw [List.append_nil] at q
        rw [str_of _ _ (text_neg n e)]
        exact q
  | _ => exact h.elim

/-! isinstance -/
def tyV' : Ty → String
  | .int => "int" | .bool => "bool" | .str => "str" | .tuple => "tuple" | .list => "list"
/-- the value's type -/
theorem isTy_s {x : D} {v : V} {Q : V → Hp → Prop} {t : Ty} {k : Bool → R D} (hK : X.K = L.K) (ra : RepV L μ H x v) (rh : RepH L μ g H) (h : Post L (RepV L) μ H τ (isTy g x t .stuck k) Q W) :
    ∃ (y : Value), TyX X.K H v y ∧ (∀ u : Ty, ∃ c, PySem.W.kitOne X.K y (.type (tyV' u)) = some c ∧ ∀ (Q : VK) (k : Bool → R D), Post L (RepV L) μ H τ (isTy g x u .stuck k) Q W → Post L (RepV L) μ H τ (k c) Q W) := by
  cases ra with
  | non => exact ⟨_, .base .non, fun u => by cases u <;> exact ⟨false, kit_ty (by decide +kernel), fun _ _ h => h⟩⟩
  | bl b => exact ⟨_, .base (.bl b), fun u => by
      cases u
      · exact ⟨true, kit_ty (by decide +kernel), fun _ _ h => h⟩
      · exact ⟨true, kit_ty (by decide +kernel), fun _ _ h => h⟩
      all_goals exact ⟨false, kit_ty (by decide +kernel), fun _ _ h => h⟩⟩
  | int b => exact ⟨_, .base (.int b), fun u => by
      cases u
      · exact ⟨true, kit_ty (by decide +kernel), fun _ _ h => h⟩
      all_goals exact ⟨false, kit_ty (by decide +kernel), fun _ _ h => h⟩⟩
  | str b => exact ⟨_, .base (.str _), fun u => by
      cases u
      case str => exact ⟨true, kit_ty (by decide +kernel), fun _ _ h => h⟩
      all_goals exact ⟨false, kit_ty (by decide +kernel), fun _ _ h => h⟩⟩
  | tup hq hfq rv =>
    rename_i fl a xs vs
    have hx : TyX X.K H (.ref a) (.type "tuple") := by
      rw [hK]
      rcases hq with (hq | ⟨o, hq⟩) | ⟨o, its, n, e, c, _⟩
      · exact .base (.tup hq)
      · exact .fTuple hq
      · exact .kTuple e c
    exact ⟨_, hx, fun u => by
      cases u
      case tuple => exact ⟨true, kit_ty (by decide +kernel), fun _ _ h => h⟩
      all_goals exact ⟨false, kit_ty (by decide +kernel), fun _ _ h => h⟩⟩
  | ref hm =>
    rename_i n p
    have sq : ∀ {vs}, SqL L.K H p vs → TyX X.K H (.ref p) (.type "list") := fun hq => by
      rw [hK]
      rcases hq with (hq | ⟨o, hq⟩) | ⟨o, its, n, e, c, _⟩
      · exact .base (.lst hq)
      · exact .base (.frz hq)
      · exact .kList e c
    simp only [isTy, G.look_eq] at h
    cases e : g.at? n with
    | none => rw [e] at h; exact h.elim
    | some cl =>
      cases cl with
      | lst m xs =>
        obtain ⟨vs, _, hq, rv, hl, _⟩ := rh.lstF hm e
        refine ⟨_, sq hq, fun u => ?_⟩
        have h0 : ∀ {k : Bool → R D} {Q : VK}, Post L (RepV L) μ H τ (isTy g (.ref n) u .stuck k) Q W → Post L (RepV L) μ H τ (match u with | .list => k true | _ => k false) Q W := fun h => by
          simp only [isTy, G.look_eq, e] at h
          exact h
        cases u
        case list => exact ⟨true, kit_ty (by decide +kernel), fun _ _ h => h0 h⟩
        all_goals exact ⟨false, kit_ty (by decide +kernel), fun _ _ h => h0 h⟩
      | rol m xs =>
        obtain ⟨vs, hq, rv, hl⟩ := rh.sqL hm (.inr e)
        refine ⟨_, sq hq, fun u => ?_⟩
        have h0 : ∀ {k : Bool → R D} {Q : VK}, Post L (RepV L) μ H τ (isTy g (.ref n) u .stuck k) Q W → Post L (RepV L) μ H τ (match u with | .list => k true | _ => k false) Q W := fun h => by
          simp only [isTy, G.look_eq, e] at h
          exact h
        cases u
        case list => exact ⟨true, kit_ty (by decide +kernel), fun _ _ h => h0 h⟩
        all_goals exact ⟨false, kit_ty (by decide +kernel), fun _ _ h => h0 h⟩
      | dct t m kvs =>
        obtain ⟨kw, hH, rk, hl, _⟩ := rh.dct hm e
        refine ⟨_, .base (.dK hH), fun u => ?_⟩
        have h0 : ∀ {k : Bool → R D} {Q : VK}, Post L (RepV L) μ H τ (isTy g (.ref n) u .stuck k) Q W → Post L (RepV L) μ H τ (k false) Q W := fun h => by
          simp only [isTy, G.look_eq, e] at h
          exact h
        cases u <;> exact ⟨false, kit_ty (by decide +kernel), fun _ _ h => h0 h⟩
  | _ => exact h.elim

/-! methods -/
/-- list.extend by a list that is only read, or a plain tuple -/
def rExtendS (K : PySem.W.Frag) : V → List V → Hp → VK → Prop := fun x vs H Q => ∃ l b xs zs, x = .ref l ∧ vs = [.ref b] ∧ H l = some (.lst xs) ∧ SqT K H b zs ∧ PlT K H b ∧ xs.length + zs.length ≤ sizeLine ∧ Q .non (upd H l (.lst (xs ++ zs)))
theorem mt_extendT : MtR X "list.extend" (rExtendS X.K) := by
  intro pins s σ H x vs v us Q I rx rv h
  obtain ⟨l, b, xs, zs, rfl, rfl, hH, hB, hP, hz, q⟩ := h
  cases rx
  obtain ⟨u, rfl, ru⟩ := rv.one
  cases ru
  obtain ⟨z, its, n, r, hl, e⟩ := I.lstM hH
  obtain ⟨its2, r2, pl, hz2⟩ := I.tuple hB
  obtain ⟨o, ho, hd, hs⟩ := plain_of I hP
  obtain ⟨o', ho', hc, n2, hdat⟩ := pl
  rw [ho] at ho'
  cases ho'
  obtain ⟨oc, od, odt, os⟩ := o
  simp only at hd hs hc hdat
  subst hd hs hc hdat
  have hl2 := r2.length
  have hsz : its.toArray.size + its2.toArray.size ≤ sizeLine := by rw [List.size_toArray, List.size_toArray]; omega
  have hlong : ¬ (!its.toArray.isEmpty && Builtin.List.listTooLong (its.toArray.size + its2.toArray.size)) = true := by
    rw [notLongL hsz, Bool.and_false]
    exact Bool.false_ne_true
  refine call_meets F.slot_list_extend ⟨_, e, rfl⟩ F.entry_list_extend (F.args_list_extend_2 _ _)
    (AutoSeq1.list_extend_list_tuple_0 l its.toArray n b its2.toArray n2 hlong (by rw [List.size_toArray]; omega) (by omega)) ⟨e, ho, ?_⟩
  refine ⟨.non, _, I.lset (its' := its ++ its2) hH e (by simp) (r.append r2) ?_, rfl, q⟩
  rw [List.length_append]
  omega
theorem mtOr {id : String} {r r' : V → List V → Hp → VK → Prop} (h : MtR X id r) (h' : MtR X id r') : MtR X id (fun x vs H Q => r x vs H Q ∨ r' x vs H Q) := by
  intro pins s σ H x vs v us Q I rx rv q
  rcases q with q | q
  · exact h pins s σ H x vs v us Q I rx rv q
  · exact h' pins s σ H x vs v us Q I rx rv q
end Mini
/-! MiniL: the readings of expressions. -/
namespace Mini
open PySem PySem.Spec PyProof.Rows L2
variable {L : Lk} {Γ : CF} {μ μ' μ1 μ2 : Mu} {g g' : G} {H H' H1 H2 : Hp} {τ : L2.St} {W : WX} {X : Cx}
variable {a b c : PySem.Expr} {ma mb mc : EK} {pos : Pos}

theorem fnNone {W : WX} {Q : VK} (h : Post L (RepV L) μ H τ (.stuck : R D) Q W) : False := h
/-! names, constants -/
theorem get_s {σ : Mini.St} {i : Nat} {k : D → R D} {Q : VK} (h : Post L (RepV L) μ H τ (sget σ i k) Q W) : ∃ d, σ[i]? = some d ∧ d ≠ .und ∧ Post L (RepV L) μ H τ (k d) Q W := by
  unfold sget at h
  rw [lget_eq] at h
  cases e : σ[i]? with
  | none => rw [e] at h; exact h.elim
  | some d =>
    rw [e] at h
    cases d with
    | und => exact h.elim
    | _ => exact ⟨_, rfl, (nomatch ·), h⟩
theorem pe_varS {i : Nat} {x : PySem.Str} (hN : X.N[i]? = some x) (hv : Vis X.env.scope x) (hd : (x == ("__debug__" : PySem.Str)) = false) (hcd : (x == ("__classdict__" : PySem.Str)) = false) :
    PE X (.Name x pos) (RD L Γ W (eV i)) := (pe_var hN hv hd hcd).imp fun τ H Q ⟨μ, σ, g, rs, rh, h⟩ => by
  obtain ⟨d, hd, nd, h⟩ := get_s h
  obtain ⟨v, hv, rv⟩ := rs.at_ i d hd nd
  exact ⟨v, hv, h.val rv rh⟩
theorem c_s {d : D} {v : V} (r : ∀ (μ : Mu) (H : Hp), RepV L μ H d v) : ∀ τ H Q, RD L Γ W (eC d) τ H Q → tC v τ H Q := fun τ H Q ⟨μ, σ, g, rs, rh, h⟩ => h.val (r μ H) rh
/-! operators -/
theorem pe_binS (hK : X.K = L.K) {o : BOp} (ha : PE X a (RD L Γ W ma)) (hb : PE X b (RD L Γ W mb)) : PE X (.BinOp a (opOf o) b pos) (RD L Γ W (eBin o ma mb)) := by
  obtain ⟨r, hr, k⟩ := oBin_s (X := X) (L := L) hK o
  exact (pe_op hr ha hb).imp fun τ H Q ⟨μ, σ, g, rs, rh, h⟩ => ⟨μ, σ, g, rs, rh, h.bind fun x H1 μ1 d g1 e ra rh1 h1 =>
    ⟨μ1, σ, g1, rs.mono e, rh1, h1.bind fun y H2 μ2 d2 g2 e2 rb rh2 h2 => k μ2 H2 g2 τ W d d2 x y Q (ra.mono e2) rb rh2 h2⟩⟩
theorem pe_negS (ha : PE X a (RD L Γ W ma)) : PE X (.UnaryOp .USub a pos) (RD L Γ W (eNeg ma)) :=
  (pe_un un_neg ha).imp fun τ H Q ⟨μ, σ, g, rs, rh, h⟩ => ⟨μ, σ, g, rs, rh, h.bind fun x H1 μ1 d g1 e ra rh1 h1 => by
    cases ra with
    | int i =>
      refine ⟨i, rfl, ?_⟩
      unfold oNeg at h1
      exact post_int h1 rh1
    | _ => exact h1.elim⟩
theorem pe_cmpS (hK : X.K = L.K) (hu : X.A.units + 65 < cLine) {o : COp} (ha : PE X a (RD L Γ W ma)) (hb : PE X b (RD L Γ W mb)) (hm : behindInMarks (cmpOf o) b = false) : PE X (.Compare a [cmpOf o] [b] pos) (RD L Γ W (eCmp o ma mb)) := by
  obtain ⟨r, hr, k⟩ := oCmp_s (X := X) (L := L) hK hu o
  exact (pe_cmpR hr ha hb hm).imp fun τ H Q ⟨μ, σ, g, rs, rh, h⟩ => ⟨μ, σ, g, rs, rh, h.bind fun x H1 μ1 d g1 e ra rh1 h1 =>
    ⟨μ1, σ, g1, rs.mono e, rh1, h1.bind fun y H2 μ2 d2 g2 e2 rb rh2 h2 => k μ2 H2 g2 τ W d d2 x y Q (ra.mono e2) rb rh2 h2⟩⟩
theorem asBl_s {r : R D} {Q : Bool → Hp → Prop} (h : Post L (fun _ _ (b : Bool) c => b = c) μ H τ (asBl r) Q W) : Post L (RepV L) μ H τ r (fun x H' => ∃ k, x = .bl k ∧ Q k H') W := by
  unfold asBl at h
  refine h.bind fun x H1 μ1 d g1 e ra rh1 h1 => ?_
  cases ra with
  | bl b => exact ⟨b, rfl, h1.val rfl rh1⟩
  | _ => exact h1.elim
theorem pt_cmpS (hK : X.K = L.K) (hu : X.A.units + 65 < cLine) {o : COp} (ha : PE X a (RD L Γ W ma)) (hb : PE X b (RD L Γ W mb)) (hm : behindInMarks (cmpOf o) b = false) : PT X (.Compare a [cmpOf o] [b] pos) (RT L Γ W (tCmp o ma mb)) := by
  obtain ⟨r, hr, k⟩ := oCmp_s (X := X) (L := L) hK hu o
  exact (pt_cmpR hr ha hb hm).imp fun τ H Q ⟨μ, σ, g, rs, rh, h⟩ => ⟨μ, σ, g, rs, rh, (asBl_s h).bind fun x H1 μ1 d g1 e ra rh1 h1 =>
    ⟨μ1, σ, g1, rs.mono e, rh1, h1.bind fun y H2 μ2 d2 g2 e2 rb rh2 h2 => k μ2 H2 g2 τ W d d2 x y _ (ra.mono e2) rb rh2 h2⟩⟩
theorem thenBl_s {r : R D} {f : G → R D} {Q : VK} {Q' : VK} (h : Post L (RepV L) μ H τ (thenBl r f) Q W)
    (kt : ∀ H1 μ1 g1, Ext μ H μ1 H1 → RepH L μ1 g1 H1 → Post L (RepV L) μ1 H1 τ (f g1) Q W → Q' (.bl true) H1) (kf : ∀ H1, Q (.bl false) H1 → Q' (.bl false) H1) : Post L (RepV L) μ H τ r (fun z H1 => ∃ k, z = .bl k ∧ Q' (.bl k) H1) W := by
  unfold thenBl at h
  refine h.bind fun x H1 μ1 d g1 e ra rh1 h1 => ?_
  cases ra with
  | bl b =>
    cases b with
    | true => exact ⟨true, rfl, kt H1 μ1 g1 e rh1 h1⟩
    | false => exact ⟨false, rfl, kf H1 (h1.val (.bl _) rh1)⟩
  | _ => exact h1.elim
theorem chain_s {o p : COp} {r r' : R2} (k : ∀ (μ : Mu) (H : Hp) (g : G) (τ : L2.St) (W : WX) (x y : D) (a b : V) (Q : VK), RepV L μ H x a → RepV L μ H y b → RepH L μ g H → Post L (RepV L) μ H τ (oCmp o x y g) Q W → r a b H Q)
    (k' : ∀ (μ : Mu) (H : Hp) (g : G) (τ : L2.St) (W : WX) (x y : D) (a b : V) (Q : VK), RepV L μ H x a → RepV L μ H y b → RepH L μ g H → Post L (RepV L) μ H τ (oCmp p x y g) Q W → r' a b H Q) :
    ∀ τ H Q, RD L Γ W (eChain o p ma mb mc) τ H Q → L2.tChain r r' (RD L Γ W ma) (RD L Γ W mb) (RD L Γ W mc) τ H Q := fun τ H Q ⟨μ, σ, g, rs, rh, h⟩ =>
  ⟨μ, σ, g, rs, rh, h.bind fun x H1 μ1 d g1 e ra rh1 h1 => ⟨μ1, σ, g1, rs.mono e, rh1, h1.bind fun y H2 μ2 d2 g2 e2 rb rh2 h2 => by
    refine k μ2 H2 g2 τ W d d2 x y _ (ra.mono e2) rb rh2 ?_
    unfold thenBl at h2
    refine h2.bind fun z H3 μ3 dz g3 e3 rz rh3 h3 => ?_
    cases rz with
    | bl b =>
      refine ⟨b, rfl, ?_⟩
      cases b with
      | true =>
        rw [if_pos rfl]
        exact ⟨μ3, σ, g3, ((rs.mono e).mono e2).mono e3, rh3, h3.bind fun w H4 μ4 d4 g4 e4 rw' rh4 h4 => k' μ4 H4 g4 τ W d2 d4 y w Q ((rb.mono e3).mono e4) rw' rh4 h4⟩
      | false =>
        rw [if_neg Bool.false_ne_true]
        exact h3.val (.bl _) rh3
    | _ => exact h3.elim⟩⟩
theorem pe_chainS (hK : X.K = L.K) (hu : X.A.units + 65 < cLine) {o p : COp} (ha : PE X a (RD L Γ W ma)) (hb : PE X b (RD L Γ W mb)) (hc : PE X c (RD L Γ W mc)) (hm : lastMarks [cmpOf o, cmpOf p] [b, c] = false) :
    PE X (.Compare a [cmpOf o, cmpOf p] [b, c] pos) (RD L Γ W (eChain o p ma mb mc)) := by
  obtain ⟨r, hr, k⟩ := oCmp_s (X := X) (L := L) hK hu o
  obtain ⟨r', hr', k'⟩ := oCmp_s (X := X) (L := L) hK hu p
  exact (pe_chain hr hr' ha hb hc hm).imp (chain_s k k')
theorem pt_chainS (hK : X.K = L.K) (hu : X.A.units + 65 < cLine) {o p : COp} (ha : PE X a (RD L Γ W ma)) (hb : PE X b (RD L Γ W mb)) (hc : PE X c (RD L Γ W mc)) (hm : lastMarks [cmpOf o, cmpOf p] [b, c] = false) :
    PT X (.Compare a [cmpOf o, cmpOf p] [b, c] pos) (RT L Γ W (tChain o p ma mb mc)) := by
  obtain ⟨r, hr, k⟩ := oCmp_s (X := X) (L := L) hK hu o
  obtain ⟨r', hr', k'⟩ := oCmp_s (X := X) (L := L) hK hu p
  exact (pt_chain hr hr' ha hb hc hm).imp fun τ H Q ⟨μ, σ, g, rs, rh, h⟩ => chain_s k k' τ H _ ⟨μ, σ, g, rs, rh, asBl_s h⟩
/-! truth -/
theorem pe_andS (hK : X.K = L.K) {rest : List PySem.Expr} (ha : PE X a (RD L Γ W ma)) (hb : PE X (.BoolOp .And (b :: rest) pos) (RD L Γ W mb)) : PE X (.BoolOp .And (a :: b :: rest) pos) (RD L Γ W (eAnd ma mb)) :=
  (pe_andT ha hb).imp fun τ H Q ⟨μ, σ, g, rs, rh, h⟩ => ⟨μ, σ, g, rs, rh, h.bind fun x H1 μ1 d g1 e ra rh1 h1 => by
    obtain ⟨k, tv, h2⟩ := tru_s hK ra rh1 h1
    refine ⟨k, tv, ?_⟩
    cases k with
    | true => rw [if_pos rfl]; exact ⟨μ1, σ, g1, rs.mono e, rh1, h2⟩
    | false => rw [if_neg Bool.false_ne_true]; exact h2.val ra rh1⟩
theorem pe_orS (hK : X.K = L.K) {rest : List PySem.Expr} (ha : PE X a (RD L Γ W ma)) (hb : PE X (.BoolOp .Or (b :: rest) pos) (RD L Γ W mb)) : PE X (.BoolOp .Or (a :: b :: rest) pos) (RD L Γ W (eOr ma mb)) :=
  (pe_orT ha hb).imp fun τ H Q ⟨μ, σ, g, rs, rh, h⟩ => ⟨μ, σ, g, rs, rh, h.bind fun x H1 μ1 d g1 e ra rh1 h1 => by
    obtain ⟨k, tv, h2⟩ := tru_s hK ra rh1 h1
    refine ⟨k, tv, ?_⟩
    cases k with
    | true => rw [if_pos rfl]; exact h2.val ra rh1
    | false => rw [if_neg Bool.false_ne_true]; exact ⟨μ1, σ, g1, rs.mono e, rh1, h2⟩⟩
theorem pe_notS (hK : X.K = L.K) (ha : PE X a (RD L Γ W ma)) : PE X (.UnaryOp .Not a pos) (RD L Γ W (eNot ma)) :=
  (pe_notT ha).imp fun τ H Q ⟨μ, σ, g, rs, rh, h⟩ => ⟨μ, σ, g, rs, rh, h.bind fun x H1 μ1 d g1 e ra rh1 h1 => by
    obtain ⟨k, tv, h2⟩ := tru_s hK ra rh1 h1
    refine ⟨k, tv, ?_⟩
    cases k with
    | true => exact h2.val (.bl _) rh1
    | false => exact h2.val (.bl _) rh1⟩
theorem pt_valS (hK : X.K = L.K) (ha : PE X a (RD L Γ W ma)) (he : ∀ whole, isTrue a X.env whole = (do let v ← whole; standAt a.pos; holding [v] (truthy v))) : PT X a (RT L Γ W (tVal ma)) :=
  (pt_truth ha he).imp fun τ H Q ⟨μ, σ, g, rs, rh, h⟩ => ⟨μ, σ, g, rs, rh, h.bind fun x H1 μ1 d g1 e ra rh1 h1 => by
    obtain ⟨k, tv, h2⟩ := tru_s hK ra rh1 h1
    exact ⟨k, tv, h2.val rfl rh1⟩⟩
theorem pt_notS {ta : TK} (ha : PT X a (RT L Γ W ta)) : PT X (.UnaryOp .Not a pos) (RT L Γ W (tNo ta)) :=
  (pt_not ha).imp fun τ H Q ⟨μ, σ, g, rs, rh, h⟩ => ⟨μ, σ, g, rs, rh, h.bind fun x H1 μ1 d g1 e ra rh1 h1 => by
    subst ra
    cases d with
    | true => exact h1.val rfl rh1
    | false => exact h1.val rfl rh1⟩
theorem pw_and1S {ta : TK} (ha : PT X a (RT L Γ W ta)) : PW X (.BoolOp .And [a] pos) (RT L Γ W ta) := pw_and1 ha
theorem pw_or1S {ta : TK} (ha : PT X a (RT L Γ W ta)) : PW X (.BoolOp .Or [a] pos) (RT L Γ W ta) := pw_or1 ha
theorem pw_andS {ta tb : TK} {rest : List PySem.Expr} (ha : PT X a (RT L Γ W ta)) (hb : PW X (.BoolOp .And (b :: rest) pos) (RT L Γ W tb)) : PW X (.BoolOp .And (a :: b :: rest) pos) (RT L Γ W (tAn ta tb)) :=
  (pw_and ha hb).imp fun τ H Q ⟨μ, σ, g, rs, rh, h⟩ => ⟨μ, σ, g, rs, rh, h.bind fun x H1 μ1 d g1 e ra rh1 h1 => by
    subst ra
    cases d with
    | true => rw [if_pos rfl]; exact ⟨μ1, σ, g1, rs.mono e, rh1, h1⟩
    | false => rw [if_neg Bool.false_ne_true]; exact h1.val rfl rh1⟩
theorem pw_orS {ta tb : TK} {rest : List PySem.Expr} (ha : PT X a (RT L Γ W ta)) (hb : PW X (.BoolOp .Or (b :: rest) pos) (RT L Γ W tb)) : PW X (.BoolOp .Or (a :: b :: rest) pos) (RT L Γ W (tOr ta tb)) :=
  (pw_or ha hb).imp fun τ H Q ⟨μ, σ, g, rs, rh, h⟩ => ⟨μ, σ, g, rs, rh, h.bind fun x H1 μ1 d g1 e ra rh1 h1 => by
    subst ra
    cases d with
    | true => rw [if_pos rfl]; exact h1.val rfl rh1
    | false => rw [if_neg Bool.false_ne_true]; exact ⟨μ1, σ, g1, rs.mono e, rh1, h1⟩⟩
theorem pt_ifS {t u v : TK} (hc : PT X c (RT L Γ W t)) (ha : PT X a (RT L Γ W u)) (hb : PT X b (RT L Γ W v)) : PT X (.IfExp c a b pos) (RT L Γ W (tIf t u v)) := by
  refine ⟨fun pins s τ H Q I ⟨μ, σ, g, rs, rh, h⟩ => ?_⟩
  refine isTrue_IfExp (thn (hc.run pins s τ H (fun k H1 => if k = true then RT L Γ W u τ H1 Q else RT L Γ W v τ H1 Q) I ⟨μ, σ, g, rs, rh, h.bind fun x H1 μ1 d g1 e ra rh1 h1 => ?_⟩) fun k s1 ⟨H1, I1, q1⟩ => ?_)
  · subst ra
    cases d with
    | true => rw [if_pos rfl]; exact ⟨μ1, σ, g1, rs.mono e, rh1, h1⟩
    | false => rw [if_neg Bool.false_ne_true]; exact ⟨μ1, σ, g1, rs.mono e, rh1, h1⟩
  · cases k with
    | true => rw [if_pos rfl] at q1 ⊢; exact ha.run pins s1 τ H1 Q I1 q1
    | false => rw [if_neg Bool.false_ne_true] at q1 ⊢; exact hb.run pins s1 τ H1 Q I1 q1
theorem pe_ifS {t : TK} (hc : PT X c (RT L Γ W t)) (ha : PE X a (RD L Γ W ma)) (hb : PE X b (RD L Γ W mb)) : PE X (.IfExp c a b pos) (RD L Γ W (eIf t ma mb)) :=
  (pe_ifExp hc ha hb).imp fun τ H Q ⟨μ, σ, g, rs, rh, h⟩ => ⟨μ, σ, g, rs, rh, h.bind fun x H1 μ1 d g1 e ra rh1 h1 => by
    subst ra
    cases d with
    | true => rw [if_pos rfl]; exact ⟨μ1, σ, g1, rs.mono e, rh1, h1⟩
    | false => rw [if_neg Bool.false_ne_true]; exact ⟨μ1, σ, g1, rs.mono e, rh1, h1⟩⟩
/-! lists of arguments -/
theorem pa_nilS : PA X [] (RA L Γ W aNil) := pa_nil.imp fun τ H Q ⟨μ, σ, g, rs, rh, h⟩ => h.val .nil rh
theorem pa_consS {es : List PySem.Expr} {ml : AK} (ha : PE X a (RD L Γ W ma)) (hr : PA X es (RA L Γ W ml)) (hs : starEach (a :: es) X.env = (false, eval a X.env) :: starEach es X.env) : PA X (a :: es) (RA L Γ W (aCons ma ml)) :=
  (pa_cons ha hr hs).imp fun τ H Q ⟨μ, σ, g, rs, rh, h⟩ => ⟨μ, σ, g, rs, rh, h.bind fun x H1 μ1 d g1 e ra rh1 h1 =>
    ⟨μ1, σ, g1, rs.mono e, rh1, h1.bind fun y H2 μ2 d2 g2 e2 rb rh2 h2 => h2.val (.cons (ra.mono e2) rb) rh2⟩⟩
theorem pe_tupS {es : List PySem.Expr} {ml : AK} {k : Nat} (ha : PA X es (RA L Γ W ml)) : PE X (.Tuple es k pos) (RD L Γ W (eTup ml)) :=
  (pe_tupP ha).imp fun τ H Q ⟨μ, σ, g, rs, rh, h⟩ => ⟨μ, σ, g, rs, rh, h.bind fun x H1 μ1 d g1 e ra rh1 h1 => by
    rw [llen_eq] at h1
    cases e : Nat.ble d.length lim with
    | false => rw [e] at h1; exact h1.elim
    | true =>
      rw [e] at h1
      exact ⟨by rw [← ra.length]; exact Nat.le_trans (Nat.le_of_ble_eq_true e) lim_line, fun p o hp ho => post_tupP h1 rh1 ra hp ho⟩⟩
theorem pe_lstS {es : List PySem.Expr} {ml : AK} (ha : PA X es (RA L Γ W ml)) : PE X (.List es pos) (RD L Γ W (eLst ml)) :=
  (pe_lst ha).imp fun τ H Q ⟨μ, σ, g, rs, rh, h⟩ => ⟨μ, σ, g, rs, rh, h.bind fun x H1 μ1 d g1 e ra rh1 h1 => by
    obtain ⟨hl, k⟩ := post_list h1 rh1 ra
    exact ⟨by rw [← ra.length]; exact Nat.le_trans hl lim_line, k⟩⟩
theorem pe_dnewS : PE X (.Dict [] [] pos) (RD L Γ W eDnew) := pe_dnewK.imp fun τ H Q ⟨μ, σ, g, rs, rh, h⟩ p hp => post_new h rh hp fun μ' H' ex q => .dct q .nil
/-! places -/
theorem pe_ixS (hK : X.K = L.K) (hu : X.A.units + 65 < cLine) (ha : PE X a (RD L Γ W ma)) (hb : PE X b (RD L Γ W mb)) (hs : PlainIx b) : PE X (.Subscript a b pos) (RD L Γ W (eIx ma mb)) := by
  obtain ⟨r, hr, k⟩ := oIx_s (X := X) (L := L) hK hu
  exact (pe_ix hr ha hb hs).imp fun τ H Q ⟨μ, σ, g, rs, rh, h⟩ => ⟨μ, σ, g, rs, rh, h.bind fun x H1 μ1 d g1 e ra rh1 h1 =>
    ⟨μ1, σ, g1, rs.mono e, rh1, h1.bind fun y H2 μ2 d2 g2 e2 rb rh2 h2 => k μ2 H2 g2 τ W d d2 x y Q (ra.mono e2) rb rh2 h2⟩⟩
theorem po_noneS : PO X none (RO L Γ W oNo) := po_none.imp fun τ H Q ⟨μ, σ, g, rs, rh, h⟩ => h.val rfl rh
theorem po_someS (ha : PE X a (RD L Γ W ma)) : PO X (some a) (RO L Γ W (oSome ma)) := (po_some ha).imp fun τ H Q ⟨μ, σ, g, rs, rh, h⟩ => ⟨μ, σ, g, rs, rh, h.bind fun x H1 μ1 d g1 e ra rh1 h1 => by
    cases ra with
    | int i => exact ⟨i, rfl, h1.val rfl rh1⟩
    | _ => exact h1.elim⟩
theorem pe_slS (hK : X.K = L.K) {lo hi : Option PySem.Expr} {ml mh : OK} {p2 : Pos} (ha : PE X a (RD L Γ W ma)) (hl : PO X lo (RO L Γ W ml)) (hh : PO X hi (RO L Γ W mh)) : PE X (.Subscript a (.Slice lo hi none p2) pos) (RD L Γ W (eSl ma ml mh)) := by
  obtain ⟨r, hr, k⟩ := oSl_s (X := X) (L := L) hK
  exact (pe_slice hr ha hl hh).imp fun τ H Q ⟨μ, σ, g, rs, rh, h⟩ => ⟨μ, σ, g, rs, rh, h.bind fun x H1 μ1 d g1 e ra rh1 h1 =>
    ⟨μ1, σ, g1, rs.mono e, rh1, h1.bind fun l H2 μ2 d2 g2 e2 rb rh2 h2 => ⟨μ2, σ, g2, (rs.mono e).mono e2, rh2, h2.bind fun u H3 μ3 d3 g3 e3 rc rh3 h3 => by
      subst rb rc
      exact k μ3 H3 g3 τ W d d2 d3 x Q ((ra.mono e2).mono e3) rh3 h3⟩⟩⟩
end Mini
/-! MiniM: calls. -/
namespace Mini
open PySem PySem.Spec PyProof.Rows L2
variable {L : Lk} {Γ : CF} {μ μ' μ1 μ2 : Mu} {g g' : G} {H H' H1 H2 : Hp} {τ : L2.St} {W : WX} {X : Cx}
variable {a b c : PySem.Expr} {ma mb mc : EK} {pos : Pos}

/-! trees -/
def notStar : PySem.Expr → Bool
  | .Starred _ _ => false
  | _ => true
theorem star_cons {e : PySem.Expr} {es : List PySem.Expr} {env : Env} (h : notStar e = true) : starEach (e :: es) env = (false, eval e env) :: starEach es env := by
  cases e <;> first | rfl | cases h
theorem star_plain {env : Env} {pos : Pos} : ∀ {es : List PySem.Expr}, es.all notStar = true → (backTo pos (starEach es env)).any (·.1) = false
  | [], _ => rfl
  | e :: es, h => by
    rw [List.all_cons, Bool.and_eq_true] at h
    rw [star_cons h.1]
    show (false || (backTo pos (starEach es env)).any (·.1)) = false
    rw [star_plain h.2]; rfl
def baseOk : PySem.Expr → Bool
  | .Call _ _ _ _ => false
  | _ => true
theorem base_ok {e : PySem.Expr} {n : PySem.Str} {env : Env} (h : baseOk e = true) {t : Sem Value} : attributeBase e n env t = t := by
  cases e <;> first | rfl | cases h

/-! built-ins -/
def biName : Bi → PySem.Str
  | .len => "len" | .abs => "abs" | .all => "all" | .any => "any" | .tuple => "tuple" | .list => "list" | .dict => "dict" | .sorted => "sorted" | .str => "str" | .int => "int" | .sum => "sum"
theorem bi_one {b : Bi} {f : Value} (hb : BiS X L f b) (k : ∀ r, CallR X f r → PE X c (tCB r (L2.tCons (RD L Γ W ma) L2.tNil))) : PE X c (RD L Γ W (eBi b ma)) := by
  obtain ⟨r, hr, q⟩ := hb
  exact (k r hr).imp fun τ H Q ⟨μ, σ, g, rs, rh, h⟩ => ⟨μ, σ, g, rs, rh, h.bind fun x H1 μ1 d g1 e ra rh1 h1 => q μ1 H1 g1 τ W d x Q ra rh1 h1⟩
theorem pe_biS (hK : X.K = L.K) (hc : X.calm = true) (bi : Bi) (hg : Gl X (biName bi)) (hm : X.mg (biName bi) = none) (ha : PE X a (RD L Γ W ma)) (hs : notStar a = true) {p : Pos} :
    PE X (.Call (.Name (biName bi) p) [a] [] pos) (RD L Γ W (eBi bi ma)) := by
  have pa := pa_cons ha (pa_nil (X := X)) (star_cons hs)
  have he : starEach [a] X.env = (false, eval a X.env) :: starEach [] X.env := star_cons hs
  cases bi with
  | len => exact bi_one (bi_len hK) fun r hr => pe_callB hr hg hm (by decide +kernel) pa (by decide) (by decide) he rfl
  | abs => exact bi_one bi_abs fun r hr => pe_callB hr hg hm (by decide +kernel) pa (by decide) (by decide) he rfl
  | all => exact bi_one (bi_all hK hc) fun r hr => pe_callB hr hg hm (by decide +kernel) pa (by decide) (by decide) he rfl
  | any => exact bi_one (bi_any hK hc) fun r hr => pe_callB hr hg hm (by decide +kernel) pa (by decide) (by decide) he rfl
  | sorted => exact bi_one (bi_sorted hc) fun r hr => pe_callB hr hg hm (by decide +kernel) pa (by decide) (by decide) he rfl
  | sum => exact bi_one (bi_sum hK hc) fun r hr => pe_callB hr hg hm (by decide +kernel) pa (by decide) (by decide) he rfl
  | tuple => exact bi_one (bi_tuple hK) fun r hr => pe_callTy hr hg hm (by decide +kernel) pa (by decide) (by decide) he rfl
  | list => exact bi_one (bi_list hK) fun r hr => pe_callTy hr hg hm (by decide +kernel) pa (by decide) (by decide) he rfl
  | dict => exact bi_one (bi_dict hK hc) fun r hr => pe_callTy hr hg hm (by decide +kernel) pa (by decide) (by decide) he rfl
  | str => exact bi_one bi_str fun r hr => pe_callTy hr hg hm (by decide +kernel) pa (by decide) (by decide) he rfl
  | int => exact bi_one bi_int fun r hr => pe_callTy hr hg hm (by decide +kernel) pa (by decide) (by decide) he rfl
/-! isinstance -/
theorem boot_ty (t : Ty) : bootBuiltins (PySem.Str.ofString (tyV' t)) = some (.type (tyV' t)) := by cases t <;> decide +kernel
theorem pe_tyS (t : Ty) (hg : Gl X (PySem.Str.ofString (tyV' t))) (hm : X.mg (PySem.Str.ofString (tyV' t)) = none) {p : Pos} : PE X (.Name (PySem.Str.ofString (tyV' t)) p) (tC (.ty (tyV' t))) :=
  pe_bltn (v := .ty (tyV' t)) hg hm (boot_ty t) rfl (by cases t <;> decide) (by cases t <;> decide)
theorem pe_isiS (hK : X.K = L.K) (t : Ty) (hg : Gl X "isinstance") (hm : X.mg "isinstance" = none) (hgt : Gl X (PySem.Str.ofString (tyV' t))) (hmt : X.mg (PySem.Str.ofString (tyV' t)) = none) (ha : PE X a (RD L Γ W ma)) (hs : notStar a = true) {p pt : Pos} :
    PE X (.Call (.Name "isinstance" p) [a, .Name (PySem.Str.ofString (tyV' t)) pt] [] pos) (RD L Γ W (eIsi ma t)) := by
  have pa := pa_cons ha (pa_cons (pe_tyS (p := pt) t hgt hmt) (pa_nil (X := X)) rfl) (star_cons hs)
  exact (pe_callB call_isi hg hm boot_isinstance pa (by decide) (by decide) (star_cons hs) rfl).imp fun τ H Q ⟨μ, σ, g, rs, rh, h⟩ => ⟨μ, σ, g, rs, rh, h.bind fun x H1 μ1 d g1 e ra rh1 h1 => by
    obtain ⟨y, ty, k⟩ := isTy_s hK ra rh1 h1
    obtain ⟨cc, kc, kk⟩ := k t
    exact ⟨x, _, y, _, cc, rfl, .ty _, ty, kc, post_bl (kk _ _ h1) rh1⟩⟩
theorem pe_isi2S (hK : X.K = L.K) (t u : Ty) (hg : Gl X "isinstance") (hm : X.mg "isinstance" = none) (hgt : Gl X (PySem.Str.ofString (tyV' t))) (hmt : X.mg (PySem.Str.ofString (tyV' t)) = none) (hgu : Gl X (PySem.Str.ofString (tyV' u))) (hmu : X.mg (PySem.Str.ofString (tyV' u)) = none)
    (ha : PE X a (RD L Γ W ma)) (hs : notStar a = true) {p pt pu ps : Pos} {k : Nat} :
    PE X (.Call (.Name "isinstance" p) [a, .Tuple [.Name (PySem.Str.ofString (tyV' t)) pt, .Name (PySem.Str.ofString (tyV' u)) pu] k ps] [] pos) (RD L Γ W (eIsi2 ma t u)) := by
  have pt' := pe_tup (pos := ps) (x1 := k) (pa_cons (pe_tyS (p := pt) t hgt hmt) (pa_cons (pe_tyS (p := pu) u hgu hmu) (pa_nil (X := X)) rfl) rfl)
  have pa := pa_cons ha (pa_cons pt' (pa_nil (X := X)) rfl) (star_cons hs)
  exact (pe_callB call_isiT hg hm boot_isinstance pa (by decide) (by decide) (star_cons hs) rfl).imp fun τ H Q ⟨μ, σ, g, rs, rh, h⟩ => ⟨μ, σ, g, rs, rh, h.bind fun x H1 μ1 d g1 e ra rh1 h1 => by
    refine ⟨by show 2 ≤ _; rw [sizeLine_eq]; decide, fun q hq => ?_⟩
    obtain ⟨y, ty, kk⟩ := isTy_s hK ra rh1 h1
    obtain ⟨c1, k1, f1⟩ := kk t
    obtain ⟨c2, k2, f2⟩ := kk u
    have rhq : RepH L μ1 g1 (L2.upd H1 q (.tup [.ty (tyV' t), .ty (tyV' u)])) := rh1.tupNew hq
    have eq' : Ext μ1 H1 μ1 (L2.upd H1 q (.tup [.ty (tyV' t), .ty (tyV' u)])) := Ext.new hq
    have ra' := ra.mono eq'
    have h1' := Post.mono eq' h1
    obtain ⟨y', ty', kk'⟩ := isTy_s hK ra' rhq h1'
    obtain ⟨c1', k1', f1'⟩ := kk' t
    obtain ⟨c2', k2', f2'⟩ := kk' u
    have h2 := f1' _ _ h1'
    cases c1' with
    | true =>
      exact ⟨x, q, _, y', [.type (tyV' t), .type (tyV' u)], true, rfl, upd_same, .cons (.ty _) (.cons (.ty _) .nil), ty', kitAny_cons k1' (fun z => nomatch z) (fun _ => rfl), post_bl h2 rhq⟩
    | false =>
      have h3 := f2' _ _ h2
      refine ⟨x, q, _, y', [.type (tyV' t), .type (tyV' u)], c2', rfl, upd_same, .cons (.ty _) (.cons (.ty _) .nil), ty', kitAny_cons k1' (fun _ => kitAny_cons k2' (fun z => ?_) (fun z => z)) (fun z => nomatch z), post_bl h3 rhq⟩
      rw [z]; exact kitAny_nil⟩

/-! calls of defs -/
def spOf (L : Lk) (Γ : CF) (f : Nat) : Sp := fun vs H Q E => ∃ F μ ds g, RepVs (L.fr F) μ H ds vs ∧ RepH (L.fr F) μ g H ∧ Post (L.fr F) (RepV (L.fr F)) μ H [] (Γ f ds g) Q (fun cls d _ H' => E cls d H')
structure FnF (X : Cx) (L : Lk) (Γ : CF) (f : Nat) : Prop where
  ex : ∃ k fd ps, FnOk X.prog X.w X.K X.mg X.base (L2.CX X.prog X.w) k (L.fa f) fd ps (spOf L Γ f) ∧ Room k X.A ∧ PySem.W.keepIn X.K (.ref (L.fa f)) = true ∧ Binds X.K fd ps []
theorem post_we {r : R D} {Q : VK} (h : Post L (RepV L) μ H τ r Q W) : Post L (RepV L) μ H [] r Q (fun cls d _ H' => WE W τ cls d H') := by
  cases r <;> exact h
theorem pe_callF {f : Nat} {x : PySem.Str} {e : PySem.Expr} {es : List PySem.Expr} {ml : AK} {p : Pos} (F : FnF X L Γ f) (tk : Takes X W) (hg : Gl X x) (hm : X.mg x = some (.ref (L.fa f))) (ha : PA X (e :: es) (RA L Γ W ml)) (hd : (x == ("__debug__" : PySem.Str)) = false)
    (hs : (e :: es).all notStar = true) : PE X (.Call (.Name x p) (e :: es) [] pos) (RD L Γ W (eCall f ml)) := by
  obtain ⟨k, fd, ps, F, hr, hk, hb⟩ := F.ex
  rw [List.all_cons, Bool.and_eq_true] at hs
  exact (pe_callS F hr hg hm hk hb (fun σ => passAt tk σ) ha hd (star_cons hs.1) (star_plain hs.2)).imp fun τ H Q ⟨μ, σ, g, rs, rh, h⟩ => ⟨μ, σ, g, rs, rh, h.bind fun x H1 μ1 d g1 e ra rh1 h1 =>
    ⟨L.F, μ1, d, g1, ra, rh1, post_we h1⟩⟩
/-- f() -/
theorem pe_callF0 {f : Nat} {x : PySem.Str} {p : Pos} (F : FnF X L Γ f) (tk : Takes X W) (hg : Gl X x) (hm : X.mg x = some (.ref (L.fa f))) (hd : (x == ("__debug__" : PySem.Str)) = false) : PE X (.Call (.Name x p) [] [] pos) (RD L Γ W (eCall f aNil)) := by
  obtain ⟨k, fd, ps, F, hr, hk, hb⟩ := F.ex
  refine ⟨fun pins s σ H Q I h => ?_⟩
  obtain ⟨μ, ss, g, rs, rh, h⟩ := h
  refine wpAny_Call_Name_kw (ld_glob I hg hm ?_ hd)
  exact PySem.W.callWith_K0 I.kIn hk (run_fnS (us := []) (E := WE W) F hr hb (passAt tk σ) I .nil ⟨L.F, μ, [], g, .nil, rh, post_we h⟩)
theorem pe_callvF {i : Nat} {x : PySem.Str} {e : PySem.Expr} {es : List PySem.Expr} {ml : AK} {p : Pos} (F : ∀ f, FnF X L Γ f) (tk : Takes X W) (hN : X.N[i]? = some x) (hv : Vis X.env.scope x) (ha : PA X (e :: es) (RA L Γ W ml)) (hd : (x == ("__debug__" : PySem.Str)) = false) (hcd : (x == ("__classdict__" : PySem.Str)) = false)
    (hs : (e :: es).all notStar = true) : PE X (.Call (.Name x p) (e :: es) [] pos) (RD L Γ W (eCallv i ml)) := by
  refine ⟨fun pins s σ H Q I h => ?_⟩
  obtain ⟨μ, ss, g, rs, rh, h⟩ := h
  obtain ⟨d, hdd, nd, h⟩ := get_s h
  obtain ⟨v, hvv, rv⟩ := rs.at_ i d hdd nd
  cases rv with
  | fn n =>
    obtain ⟨k, fd, ps, F, hr, hk, hb⟩ := (F n).ex
    rw [List.all_cons, Bool.and_eq_true] at hs
    refine wpAny_Call_Name_kw (thn ((pe_var (pos := p) hN hv hd hcd).run pins s σ H (fun v H1 => v = .ref (L.fa n) ∧ H1 = H) I ⟨.ref (L.fa n), hvv, rfl, rfl⟩) fun u s1 ⟨v, H1, I1, r1, q1⟩ => ?_)
    obtain ⟨rfl, rfl⟩ := q1
    cases r1
    refine PySem.W.callWith_K (h₀ := X.base) I.ok.mod.kin hk (thn (ha.run pos pins s1 σ _ (fun vs H1 => spOf L Γ n vs H1 Q (WE W σ)) I1 ⟨μ, ss, g, rs, rh, h.bind fun x H1 μ1 d g1 e ra rh1 h1 => ⟨L.F, μ1, d, g1, ra, rh1, post_we h1⟩⟩) fun us s2 ⟨vs, H2, I2, r, q⟩ => ⟨I2.kIn, ?_⟩) (star_cons hs.1) (star_plain hs.2)
    exact run_fnS (E := WE W) F hr hb (passAt tk σ) I2 r q
  | _ => exact h.elim

/-! methods -/
def mtName : Mt → PySem.Str
  | .append => "append" | .pop => "pop" | .extend => "extend" | .get1 => "get" | .get2 => "get"
theorem recvL_s {m : Mt} {x : D} {v : V} {k : R D} {Q : VK} (hm : m = .append ∨ m = .pop ∨ m = .extend) (ra : RepV L μ H x v) (rh : RepH L μ g H) (h : Post L (RepV L) μ H τ (recv m x g k) Q W) :
    ∃ n p vs, x = .ref n ∧ v = .ref p ∧ μ n = some p ∧ H p = some (.lst vs) ∧ Post L (RepV L) μ H τ k Q W := by
  cases ra with
  | ref hmu =>
    rename_i n p
    unfold recv at h
    simp only [G.look_eq] at h
    cases e : g.at? n with
    | none => rw [e] at h; exact h.elim
    | some cl =>
      rw [e] at h
      cases cl with
      | lst q xs =>
        obtain ⟨vs, hH, rv, hl⟩ := rh.lst hmu e
        refine ⟨n, p, vs, rfl, rfl, hmu, hH, ?_⟩
        rcases hm with hm | hm | hm <;> subst hm <;> exact h
      | _ => rcases hm with hm | hm | hm <;> subst hm <;> exact h.elim
  | _ => exact h.elim
theorem recvD_s {m : Mt} {x : D} {v : V} {k : R D} {Q : VK} (hm : m = .get1 ∨ m = .get2) (ra : RepV L μ H x v) (rh : RepH L μ g H) (h : Post L (RepV L) μ H τ (recv m x g k) Q W) :
    ∃ n p kw, x = .ref n ∧ v = .ref p ∧ μ n = some p ∧ H p = some (.dK kw) ∧ Post L (RepV L) μ H τ k Q W := by
  cases ra with
  | ref hmu =>
    rename_i n p
    unfold recv at h
    simp only [G.look_eq] at h
    cases e : g.at? n with
    | none => rw [e] at h; exact h.elim
    | some cl =>
      rw [e] at h
      cases cl with
      | dct t q kvs =>
        cases t with
        | true => rcases hm with hm | hm <;> subst hm <;> exact h.elim
        | false =>
          obtain ⟨kw, hH, rk, hl, _⟩ := rh.dct hmu e
          refine ⟨n, p, kw, rfl, rfl, hmu, hH, ?_⟩
          rcases hm with hm | hm <;> subst hm <;> exact h
      | _ => rcases hm with hm | hm <;> subst hm <;> exact h.elim
  | _ => exact h.elim
theorem fin_none {n : Nat} {c0 c : Cell} {p : Addr} {o : HO} {Q : VK} (h : Post L (RepV L) μ H τ (g.upd n c .stuck fun g' => .ok .non g') Q W) (r : RepH L μ g H) (h0 : g.at? n = some c0) (m0 : isMut c0 = true) (m1 : isMut c = true) (hm : μ n = some p)
    (rc : ∀ H', Ext μ H μ H' → H' p = some o → RepC L μ H' c p) : Q .non (L2.upd H p o) := by
  obtain ⟨g1, r1, ex, h1⟩ := post_upd h r h0 m0 m1 hm rc
  exact h1.val .non r1
theorem few1 {e : PySem.Expr} {env : Env} {cpos : Pos} (hs : notStar e = true) : ((backTo cpos (starEach [e] env)).all (fun x => !x.1) && (backToKw cpos (keywordEach [] env)).all (fun x => x.1.isSome)
    && decide (([e] : List PySem.Expr).length + ([] : List Keyword).length + (if ([] : List Keyword).isEmpty then 0 else 1) < 30)) = true := by
  rw [star_cons hs]; rfl
theorem pe_appendS (hK : X.K = L.K) {o e : PySem.Expr} {mo me : EK} {apos cpos : Pos} (ho : PE X o (RD L Γ W mo)) (he : PE X e (RD L Γ W me)) (hb : baseOk o = true) (hl : (apos.endLine == cpos.line) = true) (hs : notStar e = true) :
    PE X (.Call (.Attribute o "append" apos) [e] [] cpos) (RD L Γ W (eMt .append mo (aCons me aNil))) := by
  have pa := pa_cons he (pa_nil (X := X)) (star_cons hs)
  exact (pe_bm F.plainAttrs_list F.slot_list_append F.type_list_append mt_append ho pa (base_ok hb) (few1 hs) hl (star_cons hs) rfl).imp fun τ H Q ⟨μ, σ, g, rs, rh, h⟩ => ⟨μ, σ, g, rs, rh, h.bind fun x H1 μ1 d g1 e1 ra rh1 h1 => by
    obtain ⟨n, p, vs, rfl, rfl, hm, hH, h1⟩ := recvL_s (.inl rfl) ra rh1 h1
    refine ⟨.inl ⟨rfl, vs, .inl (.inl hH)⟩, μ1, σ, g1, rs.mono e1, rh1, ?_⟩
    have h1 : Post L (RepV L) μ1 H1 τ ((me Γ σ g1).bind fun y g => oMt .append (.ref n) [y] g) Q W := by
      unfold aCons aNil at h1
      cases hr : me Γ σ g1 with
      | ok a g => rw [hr] at h1; exact h1
      | exc c p g => rw [hr] at h1; exact h1
      | stuck => rw [hr] at h1; exact h1
    refine h1.bind fun y H2 μ2 d2 g2 e2 rb rh2 h2 => ?_
    have hm2 := e2.mu _ _ hm
    simp only [oMt, G.look_eq] at h2
    cases e : g2.at? n with
    | none => rw [e] at h2; exact h2.elim
    | some cl =>
      rw [e] at h2
      cases cl with
      | lst q xs =>
        simp only at h2
        cases hq : Nat.blt q lim with
        | false => rw [hq] at h2; exact h2.elim
        | true =>
          rw [hq] at h2
          simp only [fNat_eq] at h2
          obtain ⟨ws, hH2, rv, hlen⟩ := rh2.lst hm2 e
          refine ⟨p, ws, y, rfl, rfl, hH2, ?_, ?_⟩
          · rw [← rv.length, List.length_reverse, ← hlen]
            exact Nat.lt_trans (Nat.le_of_ble_eq_true hq) lim_line1
          · refine fin_none h2 rh2 e rfl rfl hm2 fun H' ex q' => ?_
            have z := RepC.lst (L := L) (μ := μ2) (xs := d2 :: xs) q' (by rw [List.reverse_cons]; exact (rv.mono ex).append (.cons (rb.mono ex) .nil))
            rw [List.length_cons, ← hlen] at z
            exact z
      | _ => exact h2.elim⟩
theorem pe_extendS (hK : X.K = L.K) {o e : PySem.Expr} {mo me : EK} {apos cpos : Pos} (ho : PE X o (RD L Γ W mo)) (he : PE X e (RD L Γ W me)) (hb : baseOk o = true) (hl : (apos.endLine == cpos.line) = true) (hs : notStar e = true) :
    PE X (.Call (.Attribute o "extend" apos) [e] [] cpos) (RD L Γ W (eMt .extend mo (aCons me aNil))) := by
  have pa := pa_cons he (pa_nil (X := X)) (star_cons hs)
  exact (pe_bm F.plainAttrs_list F.slot_list_extend F.type_list_extend (mtOr mt_extend mt_extendT) ho pa (base_ok hb) (few1 hs) hl (star_cons hs) rfl).imp fun τ H Q ⟨μ, σ, g, rs, rh, h⟩ => ⟨μ, σ, g, rs, rh, h.bind fun x H1 μ1 d g1 e1 ra rh1 h1 => by
    obtain ⟨n, p, vs, rfl, rfl, hm, hH, h1⟩ := recvL_s (.inr (.inr rfl)) ra rh1 h1
    refine ⟨.inl ⟨rfl, vs, .inl (.inl hH)⟩, μ1, σ, g1, rs.mono e1, rh1, ?_⟩
    have h1 : Post L (RepV L) μ1 H1 τ ((me Γ σ g1).bind fun y g => oMt .extend (.ref n) [y] g) Q W := by
      unfold aCons aNil at h1
      cases hr : me Γ σ g1 with
      | ok a g => rw [hr] at h1; exact h1
      | exc c p g => rw [hr] at h1; exact h1
      | stuck => rw [hr] at h1; exact h1
    refine h1.bind fun y H2 μ2 d2 g2 e2 rb rh2 h2 => ?_
    have hm2 := e2.mu _ _ hm
    have by_ : ∀ {ys : List D} {zs : List V}, RepVs L μ2 H2 ys zs → Post L (RepV L) μ2 H2 τ (extBy n ys g2) Q W → ∃ ws, H2 p = some (.lst ws) ∧ ws.length + zs.length ≤ sizeLine ∧ Q .non (L2.upd H2 p (.lst (ws ++ zs))) := by
      intro ys zs ry h3
      unfold extBy at h3
      simp only [G.look_eq] at h3
      cases e : g2.at? n with
      | none => rw [e] at h3; exact h3.elim
      | some cl =>
        rw [e] at h3
        cases cl with
        | lst q xs =>
          obtain ⟨ws, hH2, rv, hlen⟩ := rh2.lst hm2 e
          have hql : Nat.add ys.length q = (ys.reverse ++ xs).length := by rw [List.length_append, List.length_reverse, hlen]; rfl
          simp only [lrev_eq, llen_eq, fNat_eq, hql] at h3
          cases hq : Nat.ble (ys.reverse ++ xs).length lim with
          | false => rw [hq] at h3; exact h3.elim
          | true =>
            rw [hq] at h3
            have hle := Nat.le_of_ble_eq_true hq
            rw [List.length_append, List.length_reverse] at hle
            refine ⟨ws, hH2, ?_, fin_none h3 rh2 e rfl rfl hm2 fun H' ex q' => .lst q' (by rw [List.reverse_append, List.reverse_reverse]; exact (rv.mono ex).append (ry.mono ex))⟩
            rw [← rv.length, ← ry.length, List.length_reverse, Nat.add_comm]
            exact Nat.le_trans hle lim_line
        | _ => exact h3.elim
    cases rb with
    | tup hq hfq rv =>
      rename_i fl a xs zs
      cases fl with
      | false => exact h2.elim
      | true =>
        obtain ⟨ws, hH2, hz, q⟩ := by_ rv h2
        exact .inr ⟨p, a, ws, zs, rfl, rfl, hH2, by rw [hK]; exact hq, by rw [hK]; exact hfq rfl, hz, q⟩
    | ref hm' =>
      rename_i n' p'
      simp only [oMt, G.look_eq] at h2
      cases e : g2.at? n' with
      | none => rw [e] at h2; exact h2.elim
      | some cl =>
        rw [e] at h2
        cases cl with
        | lst q xs =>
          obtain ⟨zs, hB, rz, _⟩ := rh2.lst hm' e
          simp only [lrev_eq, List.append_nil] at h2
          obtain ⟨ws, hH2, hz, q⟩ := by_ rz h2
          exact .inl ⟨p, p', ws, zs, rfl, rfl, hH2, hB, hz, q⟩
        | _ => exact h2.elim
    | _ => exact h2.elim⟩
theorem rev_last {xs : List D} {y : D} {q : List D} (h : xs.reverse = y :: q) : xs[xs.length - 1]? = some y ∧ q.reverse = xs.dropLast := by
  have e : xs = q.reverse ++ [y] := by
    have := congrArg List.reverse h
    rw [List.reverse_reverse, List.reverse_cons] at this
    exact this
  subst e
  constructor
  · simp
  · simp
theorem RepVs.dropLast : ∀ {xs : List D} {vs : List V}, RepVs L μ H xs vs → RepVs L μ H xs.dropLast vs.dropLast
  | _, _, .nil => .nil
  | _, _, .cons _ .nil => .nil
  | _, _, .cons h (.cons h2 r) => .cons h (RepVs.dropLast (.cons h2 r))
theorem pe_popS (hK : X.K = L.K) {o : PySem.Expr} {mo : EK} {apos cpos : Pos} (ho : PE X o (RD L Γ W mo)) (hb : baseOk o = true) (hl : (apos.endLine == cpos.line) = true) :
    PE X (.Call (.Attribute o "pop" apos) [] [] cpos) (RD L Γ W (eMt .pop mo aNil)) :=
  (pe_bm0 F.plainAttrs_list F.slot_list_pop F.type_list_pop mt_pop ho (base_ok hb) hl).imp fun τ H Q ⟨μ, σ, g, rs, rh, h⟩ => ⟨μ, σ, g, rs, rh, h.bind fun x H1 μ1 d g1 e1 ra rh1 h1 => by
    obtain ⟨n, p, vs, rfl, rfl, hm, hH, h1⟩ := recvL_s (.inr (.inl rfl)) ra rh1 h1
    refine ⟨.inl ⟨rfl, vs, .inl (.inl hH)⟩, ?_⟩
    have h2 : Post L (RepV L) μ1 H1 τ (oMt .pop (.ref n) [] g1) Q W := h1
    simp only [oMt, G.look_eq] at h2
    cases e : g1.at? n with
    | none => rw [e] at h2; exact h2.elim
    | some cl =>
      rw [e] at h2
      cases cl with
      | lst q xs =>
        cases xs with
        | nil => exact h2.elim
        | cons y ys =>
          simp only [lastOf, fNat_eq] at h2
          obtain ⟨ws, hH2, rv, hlen⟩ := rh1.lst hm e
          have hr : (y :: ys).reverse.reverse = y :: ys := List.reverse_reverse _
          obtain ⟨hy, hd⟩ := rev_last hr
          obtain ⟨v, hv, rv1⟩ := rv.get hy
          obtain ⟨g2, r2, ex, h3⟩ := post_upd (o := .lst ws.dropLast) h2 rh1 e rfl rfl hm fun H' ex q' => by
            have z := RepC.lst (L := L) (μ := μ1) (xs := ys) q' (by rw [hd]; exact (rv.mono ex).dropLast)
            rw [hlen]; exact z
          refine ⟨p, ws, v, rfl, rfl, hH2, by rw [← rv.length]; exact hv, ?_⟩
          exact h3.val (rv1.mono ex) r2
      | _ => exact h2.elim⟩
theorem dget_s {n : Nat} {p : Addr} {y : D} {w : V} {e0 : R D} {Q : VK} {z : V} (hm : μ n = some p) (rh : RepH L μ g H) (rb : RepV L μ H y w)
    (h : Post L (RepV L) μ H τ (match isKey y with | true => g.look n .stuck fun c => (match c with | .dct t _ kvs => (match t with | false => kfind kvs y e0 fun d => .ok d g | true => .stuck) | _ => .stuck) | false => .stuck) Q W)
    (h0 : Post L (RepV L) μ H τ e0 Q W → Q z H) : ∃ o, DGet H p w o ∧ Q (o.getD z) H := by
  cases hk : isKey y with
  | false => rw [hk] at h; exact h.elim
  | true =>
    rw [hk] at h
    simp only [G.look_eq] at h
    cases e : g.at? n with
    | none => rw [e] at h; exact h.elim
    | some cl =>
      rw [e] at h
      cases cl with
      | dct t q kvs =>
        cases t with
        | true => exact h.elim
        | false =>
          simp only at h
          rw [kfind_eq] at h
          obtain ⟨kk, hkk⟩ := keyD_of hk
          have ew := keyD_rep hkk rb
          subst ew
          obtain ⟨kw, hH, rk, _, _⟩ := rh.dct hm e
          have hv := kval_ok hkk rk
          cases ev : kval kvs y with
          | none =>
            rw [ev] at h hv
            exact ⟨_, DGet.k hH, by rw [show valV kw kk = none from hv]; exact h0 h⟩
          | some d =>
            rw [ev] at h hv
            obtain ⟨v, e1, rv⟩ := hv
            exact ⟨_, DGet.k hH, by rw [e1]; exact h.val rv rh⟩
      | _ => exact h.elim
theorem m1_of {o e : PySem.Expr} {n : PySem.Str} {apos cpos : Pos} (hb : baseOk o = true) (hl : (apos.endLine == cpos.line) = true) (hs : notStar e = true) : M1 X o n apos e cpos :=
  ⟨base_ok hb, few1 hs, hl, by rw [star_cons hs]; rfl⟩
theorem m2_of {o e f : PySem.Expr} {n : PySem.Str} {apos cpos : Pos} (hb : baseOk o = true) (hl : (apos.endLine == cpos.line) = true) (hs : notStar e = true) (hf : notStar f = true) : M2 X o n apos e f cpos :=
  ⟨base_ok hb, by rw [star_cons hs, star_cons hf]; rfl, hl, by rw [star_cons hs, star_cons hf]; rfl⟩
theorem pe_get1S (hK : X.K = L.K) (hu : X.A.units + 65 < cLine) {o e : PySem.Expr} {mo me : EK} {apos cpos : Pos} (ho : PE X o (RD L Γ W mo)) (he : PE X e (RD L Γ W me)) (hb : baseOk o = true) (hl : (apos.endLine == cpos.line) = true) (hs : notStar e = true) :
    PE X (.Call (.Attribute o "get" apos) [e] [] cpos) (RD L Γ W (eMt .get1 mo (aCons me aNil))) :=
  (pe_dget1 (by omega) ho he (m1_of hb hl hs)).imp fun τ H Q ⟨μ, σ, g, rs, rh, h⟩ => ⟨μ, σ, g, rs, rh, h.bind fun x H1 μ1 d g1 e1 ra rh1 h1 => by
    obtain ⟨n, p, kw, rfl, rfl, hm, hH, h1⟩ := recvD_s (.inl rfl) ra rh1 h1
    refine ⟨p, rfl, .inl ⟨kw, .inl hH⟩, μ1, σ, g1, rs.mono e1, rh1, ?_⟩
    have h1 : Post L (RepV L) μ1 H1 τ ((me Γ σ g1).bind fun y g => oMt .get1 (.ref n) [y] g) Q W := by
      unfold aCons aNil at h1
      cases hr : me Γ σ g1 with
      | ok a g => rw [hr] at h1; exact h1
      | exc c p g => rw [hr] at h1; exact h1
      | stuck => rw [hr] at h1; exact h1
    refine h1.bind fun y H2 μ2 d2 g2 e2 rb rh2 h2 => ?_
    exact dget_s (e2.mu _ _ hm) rh2 rb h2 fun q => q.val .non rh2⟩
theorem pe_get2S (hK : X.K = L.K) (hu : X.A.units + 65 < cLine) {o e f : PySem.Expr} {mo me mf : EK} {apos cpos : Pos} (ho : PE X o (RD L Γ W mo)) (he : PE X e (RD L Γ W me)) (hf : PE X f (RD L Γ W mf)) (hb : baseOk o = true) (hl : (apos.endLine == cpos.line) = true) (hs : notStar e = true) (hsf : notStar f = true) :
    PE X (.Call (.Attribute o "get" apos) [e, f] [] cpos) (RD L Γ W (eMt .get2 mo (aCons me (aCons mf aNil)))) :=
  (pe_dget2 (by omega) ho he hf (m2_of hb hl hs hsf)).imp fun τ H Q ⟨μ, σ, g, rs, rh, h⟩ => ⟨μ, σ, g, rs, rh, h.bind fun x H1 μ1 d g1 e1 ra rh1 h1 => by
    obtain ⟨n, p, kw, rfl, rfl, hm, hH, h1⟩ := recvD_s (.inr rfl) ra rh1 h1
    refine ⟨p, rfl, .inl ⟨kw, .inl hH⟩, μ1, σ, g1, rs.mono e1, rh1, ?_⟩
    have h1 : Post L (RepV L) μ1 H1 τ ((me Γ σ g1).bind fun y g => (mf Γ σ g).bind fun z g => oMt .get2 (.ref n) [y, z] g) Q W := by
      unfold aCons aNil at h1
      cases hr : me Γ σ g1 with
      | ok a g =>
        rw [hr] at h1
        cases hr2 : mf Γ σ g with
        | ok b g' => simp only [R.bind, hr2] at h1 ⊢; exact h1
        | exc c p g' => simp only [R.bind, hr2] at h1 ⊢; exact h1
        | stuck => simp only [R.bind, hr2] at h1 ⊢; exact h1
      | exc c p g => rw [hr] at h1; exact h1
      | stuck => rw [hr] at h1; exact h1
    refine h1.bind fun y H2 μ2 d2 g2 e2 rb rh2 h2 => ⟨μ2, σ, g2, (rs.mono e1).mono e2, rh2, h2.bind fun z H3 μ3 d3 g3 e3 rc rh3 h3 => ?_⟩
    exact dget_s (e3.mu _ _ (e2.mu _ _ hm)) rh3 (rb.mono e3) h3 fun q => q.val rc rh3⟩
end Mini
/-! MiniN: walks, targets, comprehensions. -/
namespace Mini
open PySem PySem.Spec PyProof.Rows L2 RZ
variable {L : Lk} {Γ : CF} {μ μ' μ1 μ2 : Mu} {g g' : G} {H H' H1 H2 : Hp} {τ : L2.St} {W : WX} {X : Cx}
variable {a b c tg : PySem.Expr} {ma mb mc : EK} {pos : Pos}

/-! walks -/
def WkOk (L : Lk) (μ : Mu) (H : Hp) (w : Wk) (J : It) : Prop := ∀ (μ' : Mu) (H' : Hp) (g' : G) (i : Nat), Ext μ H μ' H' → RepH L μ' g' H' → match w i g' with
  | .ok none g1 => J.stop i H' ∧ g1 = g'
  | .ok (some d) g1 => J.go i H' ∧ ∀ x H'', J.yld i H' x H'' → ∃ μ'', Ext μ' H' μ'' H'' ∧ RepV L μ'' H'' d x ∧ RepH L μ'' g1 H''
  | _ => True
def RI (L : Lk) (Γ : CF) (W : WX) (m : IK) : TI := fun τ H R => ∃ μ σ g, RepS L μ H σ τ ∧ RepH L μ g H ∧ Post L (WkOk L) μ H τ (m Γ σ g) R W
theorem _root_.L2.piOr {t t' : TI} {e : PySem.Expr} (h : PI X tg e t) (h' : PI X tg e t') : PI X tg e (fun σ H R => t σ H R ∨ t' σ H R) := ⟨fun pins s σ H R I q => q.elim (h.run pins s σ H R I) (h'.run pins s σ H R I)⟩
theorem wk_tup {xs : List D} {vs : List V} {p : Addr} (hq : SqT L.K H p vs) (rv : RepVs L μ H xs vs) : WkOk L μ H (wTup xs) (Itt L.K p) := by
  intro μ' H' g' i ex rh
  unfold wTup
  rw [lget_eq]
  cases e : xs[i]? with
  | none => exact ⟨⟨vs, ex.sqt hq, rv.none_of e⟩, rfl⟩
  | some d =>
    obtain ⟨v, hv, r1⟩ := rv.get e
    refine ⟨⟨vs, v, ex.sqt hq, hv⟩, fun x H'' y => ?_⟩
    obtain ⟨rfl, y⟩ := y
    have := y vs (ex.sqt hq)
    rw [hv] at this
    cases this
    exact ⟨μ', Ext.refl, r1.mono ex, rh⟩
theorem wk_str {s : List Nat} : WkOk L μ H (wStr s) (Its (mkS s)) := by
  intro μ' H' g' i ex rh
  unfold wStr
  rw [lget_eq]
  have hsz : (mkS s).cps.size = s.length := rfl
  have hget : (mkS s).cps[i]? = s[i]? := by show (s.toArray)[i]? = _; simp
  cases e : s[i]? with
  | none => exact ⟨by rw [← hsz] at *; exact (List.getElem?_eq_none_iff.mp e), rfl⟩
  | some c =>
    refine ⟨(List.getElem?_eq_some_iff.mp e).1, fun x H'' y => ?_⟩
    obtain ⟨rfl, c', h1, rfl⟩ := y
    rw [hget, e] at h1
    cases h1
    exact ⟨μ', Ext.refl, .str [c], rh⟩
/-- item i of a list that stands at a cell -/
theorem nth_at {n i : Nat} {p : Addr} (hm : μ n = some p) (rh : RepH L μ g H) {α : Type} {nn : R α} {k : D → R α} {P : R α → Prop} (hs : P .stuck) (hn : ∀ vs, SqL L.K H p vs → vs.length ≤ i → P nn)
    (hk : ∀ vs d v, SqL L.K H p vs → vs[i]? = some v → RepV L μ H d v → P (k d)) : P (g.nth n i .stuck nn k) := by
  unfold G.nth
  rw [G.look_eq]
  cases e : g.at? n with
  | none => exact hs
  | some cl =>
    cases cl with
    | lst m xs =>
      obtain ⟨vs, _, hq, rv, hl, hlen⟩ := rh.lstF hm e
      simp only
      cases e2 : Nat.blt i m with
      | true =>
        simp only
        rw [lget_eq]
        have hi : i < m := Nat.le_of_ble_eq_true e2
        rw [hl] at hi ⊢
        rw [rev_at hi]
        cases e3 : xs.reverse[i]? with
        | none => exact hs
        | some d =>
          obtain ⟨v, hv, rd⟩ := rv.get e3
          exact hk vs d v hq hv rd
      | false =>
        refine hn vs hq ?_
        have : ¬ i < m := fun h => by rw [show Nat.blt i m = true from Nat.ble_eq_true_of_le h] at e2; cases e2
        omega
    | rol m xs =>
      obtain ⟨vs, hq, rv, _⟩ := rh.sqL hm (.inr e)
      simp only
      rw [lget_eq]
      cases e3 : xs[i]? with
      | none => exact hn vs hq (rv.none_of e3)
      | some d =>
        obtain ⟨v, hv, rd⟩ := rv.get e3
        exact hk vs d v hq hv rd
    | dct t m kvs => exact hs
/-- a list that stands at a cell through the loop -/
theorem wk_lst {n : Nat} {p : Addr} (hm : μ n = some p) : WkOk L μ H (wLst n) (Itl L.K p) := by
  intro μ' H' g' i ex rh
  refine nth_at (P := fun r => match r with
      | .ok none g1 => (Itl L.K p).stop i H' ∧ g1 = g'
      | .ok (some d) g1 => (Itl L.K p).go i H' ∧ ∀ x H'', (Itl L.K p).yld i H' x H'' → ∃ μ'', Ext μ' H' μ'' H'' ∧ RepV L μ'' H'' d x ∧ RepH L μ'' g1 H''
      | _ => True) (ex.mu _ _ hm) rh True.intro (fun vs hq hl => ⟨⟨vs, hq, hl⟩, rfl⟩) fun vs d v hq hv r1 => ⟨⟨vs, v, hq, hv⟩, fun x H'' y => ?_⟩
  obtain ⟨rfl, y⟩ := y
  have := y vs hq
  rw [hv] at this
  cases this
  exact ⟨μ', Ext.refl, r1, rh⟩
theorem wk_rng {lo : Int} {n : Nat} : WkOk L μ H (wRng lo n) (Itr lo n) := by
  intro μ' H' g' i ex rh
  unfold wRng
  cases e : Nat.blt i n with
  | true =>
    simp only [fInt_eq]
    refine ⟨Nat.le_of_ble_eq_true e, fun x H'' y => ?_⟩
    obtain ⟨rfl, rfl⟩ := y
    exact ⟨μ', Ext.refl, .int _, rh⟩
  | false =>
    refine ⟨?_, rfl⟩
    have : ¬ i < n := fun h => by rw [show Nat.blt i n = true from Nat.ble_eq_true_of_le h] at e; cases e
    exact Nat.le_of_not_lt this
theorem tup2 {T : Addr} {x y : V} {d q : D} {μ' : Mu} {H' : Hp} {g' : G} (hT : H' T = none) (r1 : RepV L μ' H' d x) (r2 : RepV L μ' H' q y) (rh : RepH L μ' g' H') :
    ∃ μ'', Ext μ' H' μ'' (L2.upd H' T (.tup [x, y])) ∧ RepV L μ'' (L2.upd H' T (.tup [x, y])) (.tup false [d, q]) (.ref T) ∧ RepH L μ'' g' (L2.upd H' T (.tup [x, y])) :=
  ⟨μ', Ext.new hT, rep_tup_new hT (.cons r1 (.cons r2 .nil)), rh.tupNew hT⟩
theorem wk_enum {n : Nat} {p : Addr} (hm : μ n = some p) : WkOk L μ H (wEnum n) (Ite L.K p) := by
  intro μ' H' g' i ex rh
  refine nth_at (P := fun r => match r with
      | .ok none g1 => (Ite L.K p).stop i H' ∧ g1 = g'
      | .ok (some d) g1 => (Ite L.K p).go i H' ∧ ∀ x H'', (Ite L.K p).yld i H' x H'' → ∃ μ'', Ext μ' H' μ'' H'' ∧ RepV L μ'' H'' d x ∧ RepH L μ'' g1 H''
      | _ => True) (ex.mu _ _ hm) rh True.intro (fun vs hq hl => ⟨⟨vs, hq, hl⟩, rfl⟩) fun vs d v hq hv r1 => ⟨⟨vs, v, hq, hv⟩, fun x H'' y => ?_⟩
  obtain ⟨T, x', rfl, hT, rfl, y⟩ := y
  have := y vs hq
  rw [hv] at this
  cases this
  exact tup2 hT (.int _) r1 rh
theorem wk_zipL {n m : Nat} {p q : Addr} (hn : μ n = some p) (hm : μ m = some q) : WkOk L μ H (wZipL n m) (Itz L.K p q) := by
  intro μ' H' g' i ex rh
  refine nth_at (P := fun r => match r with
      | .ok none g1 => (Itz L.K p q).stop i H' ∧ g1 = g'
      | .ok (some d) g1 => (Itz L.K p q).go i H' ∧ ∀ x H'', (Itz L.K p q).yld i H' x H'' → ∃ μ'', Ext μ' H' μ'' H'' ∧ RepV L μ'' H'' d x ∧ RepH L μ'' g1 H''
      | _ => True) (ex.mu _ _ hn) rh True.intro (fun vs hq hl => ?_) fun vs d v hq hv r1 => ?_
  · exact nth_at (P := fun r => match r with
      | .ok none g1 => (Itz L.K p q).stop i H' ∧ g1 = g'
      | .ok (some d) g1 => (Itz L.K p q).go i H' ∧ ∀ x H'', (Itz L.K p q).yld i H' x H'' → ∃ μ'', Ext μ' H' μ'' H'' ∧ RepV L μ'' H'' d x ∧ RepH L μ'' g1 H''
      | _ => True) (ex.mu _ _ hm) rh True.intro (fun ws hq2 _ => ⟨⟨vs, ws, hq, hq2, .inl hl⟩, rfl⟩) fun ws _ _ hq2 _ _ => ⟨⟨vs, ws, hq, hq2, .inl hl⟩, rfl⟩
  · refine nth_at (P := fun r => match r with
      | .ok none g1 => (Itz L.K p q).stop i H' ∧ g1 = g'
      | .ok (some d) g1 => (Itz L.K p q).go i H' ∧ ∀ x H'', (Itz L.K p q).yld i H' x H'' → ∃ μ'', Ext μ' H' μ'' H'' ∧ RepV L μ'' H'' d x ∧ RepH L μ'' g1 H''
      | _ => True) (ex.mu _ _ hm) rh True.intro (fun ws hq2 hl => ⟨⟨vs, ws, hq, hq2, .inr hl⟩, rfl⟩) fun ws d2 v2 hq2 hv2 r2 => ⟨⟨vs, ws, v, v2, hq, hq2, hv, hv2⟩, fun x H'' y => ?_⟩
    obtain ⟨T, x', y', rfl, hT, rfl, y1, y2⟩ := y
    have z1 := y1 vs hq
    have z2 := y2 ws hq2
    rw [hv] at z1; rw [hv2] at z2
    cases z1; cases z2
    exact tup2 hT r1 r2 rh
theorem wk_zipT {xs ys : List D} {vs ws : List V} {p q : Addr} (hq : SqT L.K H p vs) (rv : RepVs L μ H xs vs) (hq2 : SqT L.K H q ws) (rw2 : RepVs L μ H ys ws) : WkOk L μ H (wZipT xs ys) (ItzT L.K p q) := by
  intro μ' H' g' i ex rh
  have hq := ex.sqt hq
  have hq2 := ex.sqt hq2
  have rv := rv.mono ex
  have rw2 := rw2.mono ex
  unfold wZipT
  rw [lget_eq]
  cases e : xs[i]? with
  | none => exact ⟨⟨vs, ws, hq, hq2, .inl (rv.none_of e)⟩, rfl⟩
  | some d =>
    obtain ⟨v, hv, r1⟩ := rv.get e
    simp only [lget_eq]
    cases e2 : ys[i]? with
    | none => exact ⟨⟨vs, ws, hq, hq2, .inr (rw2.none_of e2)⟩, rfl⟩
    | some d2 =>
      obtain ⟨v2, hv2, r2⟩ := rw2.get e2
      refine ⟨⟨vs, ws, v, v2, hq, hq2, hv, hv2⟩, fun x H'' y => ?_⟩
      obtain ⟨T, x', y', rfl, hT, rfl, y1, y2⟩ := y
      have z1 := y1 vs hq
      have z2 := y2 ws hq2
      rw [hv] at z1; rw [hv2] at z2
      cases z1; cases z2
      exact tup2 hT r1 r2 rh
/-- a reading of a result by its shape: what is raised comes through -/
theorem post_exc {α β γ δ : Type} {Rp : Mu → Hp → α → β → Prop} {Rq : Mu → Hp → γ → δ → Prop} {c : Nat} {p : D} {Q : β → Hp → Prop} (Q' : δ → Hp → Prop) (h : Post L Rp μ H τ (.exc c p g : R α) Q W) : Post L Rq μ H τ (.exc c p g : R γ) Q' W := h
theorem pi_valS (hK : X.K = L.K) (ha : PE X a (RD L Γ W ma)) : PI X tg a (RI L Γ W (iVal ma)) := by
  refine ⟨fun pins s σ H R I q => (piOr (tg := tg) (pi_tup ha) (piOr (tg := tg) (pi_list ha) (pi_str ha))).run pins s σ H R I ?_⟩
  obtain ⟨μ, ss, g, rs, rh, h⟩ := q
  unfold iVal at h
  cases e : ma Γ ss g with
  | stuck => rw [e] at h; exact h.elim
  | exc c p g1 =>
    rw [e] at h
    exact .inl ⟨μ, ss, g, rs, rh, by rw [e]; exact post_exc _ h⟩
  | ok d g1 =>
    rw [e] at h
    cases d with
    | tup fl xs =>
      refine .inl ⟨μ, ss, g, rs, rh, ?_⟩
      rw [e]
      intro μ' H' v ex ra rh'
      cases ra with
      | tup hq hfq rv =>
        rename_i p vs
        refine ⟨p, rfl, ⟨vs, by rw [hK]; exact hq⟩, ?_⟩
        rw [hK]
        exact h μ' H' _ ex (wk_tup hq rv) rh'
    | str s =>
      refine .inr (.inr ⟨μ, ss, g, rs, rh, ?_⟩)
      rw [e]
      intro μ' H' v ex ra rh'
      cases ra
      exact ⟨_, rfl, h μ' H' _ ex wk_str rh'⟩
    | ref n =>
      refine .inr (.inl ⟨μ, ss, g, rs, rh, ?_⟩)
      rw [e]
      intro μ' H' v ex ra rh'
      cases ra with
      | ref hm =>
        rename_i p
        have h' : Post L (WkOk L) μ' H' σ (g1.list n .stuck fun _ _ => .ok (wLst n) g1) R W := Post.mono ex h
        obtain ⟨m, xs, hc, h'⟩ := list_of h'
        obtain ⟨vs, hq, rv, _⟩ := rh'.sqL hm hc
        refine ⟨p, rfl, ⟨vs, by rw [hK]; exact hq⟩, ?_⟩
        rw [hK]
        exact h'.val (wk_lst hm) rh'
    | _ => exact (show False from h).elim
theorem okRng_s {j : Int} (h : okRng j = true) : -(2 ^ 62) ≤ j ∧ j < 2 ^ 62 := by
  unfold okRng at h
  cases j with
  | ofNat n =>
    have := Nat.le_of_ble_eq_true h
    constructor
    · have : (0 : Int) ≤ Int.ofNat n := Int.ofNat_nonneg n
      omega
    · show (Int.ofNat n) < _
      rw [Int.ofNat_eq_natCast]
      omega
  | negSucc n =>
    have := Nat.le_of_ble_eq_true h
    constructor <;> rw [Int.negSucc_eq] <;> omega
theorem toNatI_eq (i : Int) : toNatI i = i.toNat := by cases i <;> rfl
theorem pi_rng1S (hg : Gl X "range") (hm : X.mg "range" = none) (ha : PE X a (RD L Γ W ma)) (hs : notStar a = true) {p : Pos} : PI X tg (.Call (.Name "range" p) [a] [] pos) (RI L Γ W (iRng1 ma)) := by
  have pa := pa_cons ha (pa_nil (X := X)) (star_cons hs)
  exact (pi_range1 hg hm pa (star_cons hs)).imp fun τ H R ⟨μ, σ, g, rs, rh, h⟩ => ⟨μ, σ, g, rs, rh, h.bind fun x H1 μ1 d g1 e ra rh1 h1 => by
    cases ra with
    | int j =>
      replace h1 : Post L (WkOk L) μ1 H1 τ (match okRng j with | true => fNat (toNatI j) fun n => .ok (wRng 0 n) g1 | false => .stuck) R W := h1
      cases ok : okRng j with
      | false => rw [ok] at h1; exact h1.elim
      | true =>
        rw [ok] at h1
        simp only [fNat_eq, toNatI_eq] at h1
        obtain ⟨b1, b2⟩ := okRng_s ok
        exact ⟨j, rfl, b1, b2, h1.val wk_rng rh1⟩
    | _ => exact h1.elim⟩
theorem pi_rng2S (hg : Gl X "range") (hm : X.mg "range" = none) (ha : PE X a (RD L Γ W ma)) (hb : PE X b (RD L Γ W mb)) (hs : notStar a = true) (hs2 : notStar b = true) {p : Pos} : PI X tg (.Call (.Name "range" p) [a, b] [] pos) (RI L Γ W (iRng2 ma mb)) := by
  have pa := pa_cons ha (pa_cons hb (pa_nil (X := X)) (star_cons hs2)) (star_cons hs)
  exact (pi_range2 hg hm pa (by rw [star_cons hs, star_cons hs2]; rfl) (star_cons hs2)).imp fun τ H R ⟨μ, σ, g, rs, rh, h⟩ => ⟨μ, σ, g, rs, rh, h.bind fun x H1 μ1 d g1 e ra rh1 h1 =>
    ⟨μ1, σ, g1, rs.mono e, rh1, h1.bind fun y H2 μ2 d2 g2 e2 rb rh2 h2 => by
      cases ra with
      | int i =>
        cases rb with
        | int j =>
          replace h2 : Post L (WkOk L) μ2 H2 τ (match okRng i with | true => (match okRng j with | true => fNat (toNatI (Int.sub j i)) fun n => .ok (wRng i n) g2 | false => .stuck) | false => .stuck) R W := h2
          cases ok : okRng i with
          | false => rw [ok] at h2; exact h2.elim
          | true =>
            rw [ok] at h2
            simp only at h2
            cases ok2 : okRng j with
            | false => rw [ok2] at h2; exact h2.elim
            | true =>
              rw [ok2] at h2
              simp only [fNat_eq, toNatI_eq] at h2
              obtain ⟨b1, b2⟩ := okRng_s ok
              obtain ⟨b3, b4⟩ := okRng_s ok2
              exact ⟨i, j, rfl, ⟨b1, b2, b3, b4⟩, h2.val wk_rng rh2⟩
        | _ => exact h2.elim
      | _ => exact h2.elim⟩⟩
theorem pi_enumS (hK : X.K = L.K) {elts : List PySem.Expr} {kk : Nat} {tpos : Pos} (hg : Gl X "enumerate") (hm : X.mg "enumerate" = none) (ha : PE X a (RD L Γ W ma)) (hs : notStar a = true) {p : Pos} :
    PI X (.Tuple elts kk tpos) (.Call (.Name "enumerate" p) [a] [] pos) (RI L Γ W (iEnum ma)) := by
  have pa := pa_cons ha (pa_nil (X := X)) (star_cons hs)
  exact (pi_enum hg hm pa (star_cons hs)).imp fun τ H R ⟨μ, σ, g, rs, rh, h⟩ => ⟨μ, σ, g, rs, rh, h.bind fun x H1 μ1 d g1 e ra rh1 h1 => by
    cases ra with
    | ref hmu =>
      rename_i n p
      obtain ⟨m, xs, hc, h'⟩ := list_of h1
      obtain ⟨vs, hq, rv, _⟩ := rh1.sqL hmu hc
      exact ⟨p, vs, rfl, by rw [hK]; exact hq, by rw [hK]; exact h'.val (wk_enum hmu) rh1⟩
    | _ => exact h1.elim⟩
theorem pi_zipS (hK : X.K = L.K) {elts : List PySem.Expr} {kk : Nat} {tpos : Pos} (hg : Gl X "zip") (hm : X.mg "zip" = none) (ha : PE X a (RD L Γ W ma)) (hb : PE X b (RD L Γ W mb)) (hs : notStar a = true) (hs2 : notStar b = true) {p : Pos} :
    PI X (.Tuple elts kk tpos) (.Call (.Name "zip" p) [a, b] [] pos) (RI L Γ W (iZip ma mb)) := by
  have pa := pa_cons ha (pa_cons hb (pa_nil (X := X)) (star_cons hs2)) (star_cons hs)
  exact (pi_zipA hg hm pa (star_cons hs) (by rw [star_cons hs2]; rfl)).imp fun τ H R ⟨μ, σ, g, rs, rh, h⟩ => ⟨μ, σ, g, rs, rh, h.bind fun x H1 μ1 d g1 e ra rh1 h1 =>
    ⟨μ1, σ, g1, rs.mono e, rh1, h1.bind fun y H2 μ2 d2 g2 e2 rb rh2 h2 => by
      cases ra with
      | ref hmu =>
        rename_i n p
        cases rb with
        | ref hmu2 =>
          rename_i n2 p2
          obtain ⟨m, xs, hc, h'⟩ := list_of h2
          obtain ⟨m2, ys, hc2, h'⟩ := list_of h'
          obtain ⟨vs, hq, rv, _⟩ := rh2.sqL (e2.mu _ _ hmu) hc
          obtain ⟨ws, hq2, rw2, _⟩ := rh2.sqL hmu2 hc2
          exact ⟨p, p2, vs, ws, rfl, .inl ⟨by rw [hK]; exact hq, by rw [hK]; exact hq2, by rw [hK]; exact h'.val (wk_zipL (e2.mu _ _ hmu) hmu2) rh2⟩⟩
        | _ => exact h2.elim
      | tup hq hfq rv =>
        cases rb with
        | tup hq2 hfq2 rv2 =>
          exact ⟨_, _, _, _, rfl, .inr ⟨by rw [hK]; exact e2.sqt hq, by rw [hK]; exact hq2, by rw [hK]; exact h2.val (wk_zipT (e2.sqt hq) (rv.mono e2) hq2 rv2) rh2⟩⟩
        | _ => exact h2.elim
      | _ => exact h2.elim⟩⟩

def notSlice : PySem.Expr → Bool
  | .Slice _ _ _ _ => false
  | _ => true
/-! targets -/
/-- only slots of vs have changed -/
structure Same (vs : List Nat) (τ τ' : L2.St) : Prop where
  len : τ'.length = τ.length
  at_ : ∀ i : Nat, i ∉ vs → τ'[i]? = τ[i]?
theorem Same.refl {vs : List Nat} {τ : L2.St} : Same vs τ τ := ⟨rfl, fun _ _ => rfl⟩
theorem Same.trans {vs : List Nat} {τ τ1 τ2 : L2.St} (a : Same vs τ τ1) (b : Same vs τ1 τ2) : Same vs τ τ2 := ⟨b.len.trans a.len, fun i h => (b.at_ i h).trans (a.at_ i h)⟩
theorem wipe_get {σ : L2.St} : ∀ {vs : List Nat} {i : Nat}, (wipe σ vs)[i]? = if i ∈ vs then (if i < σ.length then some none else none) else σ[i]?
  | [], i => by simp [wipe]
  | v :: vs, i => by
    unfold wipe
    rw [List.getElem?_set, wipe_length]
    by_cases h : v = i
    · subst h
      simp
    · rw [if_neg h, wipe_get]
      by_cases h2 : i ∈ vs
      · simp [h2]
      · simp [h2, Ne.symm h]
theorem Same.wipe {vs : List Nat} {τ τ' : L2.St} (s : Same vs τ τ') : L2.wipe τ' vs = L2.wipe τ vs := by
  apply List.ext_getElem?
  intro i
  rw [wipe_get, wipe_get]
  by_cases h : i ∈ vs
  · simp [h, s.len]
  · simp [h, s.at_ i h]
/-- what is wanted behind a target -/
def PostG (L : Lk) (vs : List Nat) (μ : Mu) (H : Hp) (τ : L2.St) (r : R Mini.St) (Q : L2.St → Hp → Prop) : Prop := match r with
  | .ok σ' g' => ∀ μ' H' τ', Ext μ H μ' H' → Same vs τ τ' → RepS L μ' H' σ' τ' → RepH L μ' g' H' → Q τ' H'
  | _ => False
def RG (L : Lk) (Γ : CF) (vs : List Nat) (m : GK) : TG := fun v τ H Q => ∃ μ d σ g, RepV L μ H d v ∧ RepS L μ H σ τ ∧ RepH L μ g H ∧ PostG L vs μ H τ (m Γ d σ g) Q
def RGs (L : Lk) (Γ : CF) (vs : List Nat) (m : GsK) : TGs := fun xs τ H Q => ∃ μ ds σ g, RepVs L μ H ds xs ∧ RepS L μ H σ τ ∧ RepH L μ g H ∧ PostG L vs μ H τ (m Γ ds σ g) Q
theorem _root_.L2.PG.imp' {X : Cx} {e : PySem.Expr} {t t' : TG} (h : PG X e t) (k : ∀ v τ H Q, t' v τ H Q → t v τ H Q) : PG X e t' := h.imp k
theorem PostG.mono {vs : List Nat} {r : R Mini.St} {Q : L2.St → Hp → Prop} (e : Ext μ H μ1 H1) (h : PostG L vs μ H τ r Q) : PostG L vs μ1 H1 τ r Q := by
  cases r with
  | ok a g => exact fun μ' H' t e' s ra rh => h μ' H' t (e.trans e') s ra rh
  | exc c p g => exact h
  | stuck => exact h
/-- an expression within a target: what is raised is not followed -/
theorem PostG.bind {vs : List Nat} {α β : Type} {Rq : Mu → Hp → α → β → Prop} {r : R α} {f : α → G → R Mini.St} {Q : L2.St → Hp → Prop} {Q' : β → Hp → Prop} (W : WX) (h : PostG L vs μ H τ (r.bind f) Q)
    (k : ∀ b H1 μ1 a g1, Ext μ H μ1 H1 → Rq μ1 H1 a b → RepH L μ1 g1 H1 → PostG L vs μ1 H1 τ (f a g1) Q → Q' b H1) : Post L Rq μ H τ r Q' W := by
  cases r with
  | ok a g => exact fun μ' H' b e ra rh => k b H' μ' a g e ra rh (PostG.mono e h)
  | exc c p g => exact h.elim
  | stuck => exact h.elim
theorem pg_vS {i : Nat} {x : PySem.Str} {vs : List Nat} (hN : X.N.Nodup) (hi : X.N[i]? = some x) (hx : Loc X.env.scope x) (hf : X.fn x = true ∨ X.env.scope.names.lookup x = some .local) (hv : i ∈ vs) : PG X (.Name x pos) (RG L Γ vs (gV i)) :=
  (pg_name hN hi hx hf).imp fun v τ H Q ⟨μ, d, σ, g, rv, rs, rh, h⟩ => by
    unfold gV at h
    rw [lset_eq] at h
    exact h μ H _ Ext.refl ⟨by simp, fun j hj => by rw [List.getElem?_set_ne]; rintro rfl; exact hj hv⟩ (rs.set i rv) rh
theorem pgs_nilS {vs : List Nat} : PGs X [] (RGs L Γ vs gNil) := pgs_nil.imp fun v τ H Q ⟨μ, ds, σ, g, rv, rs, rh, h⟩ => by
  cases rv with
  | nil => exact ⟨rfl, h μ H τ Ext.refl Same.refl rs rh⟩
  | cons _ _ => exact h.elim
theorem pgs_consS {e : PySem.Expr} {es : List PySem.Expr} {vs : List Nat} {mt : GK} {ml : GsK} (h1 : PG X e (RG L Γ vs mt)) (h2 : PGs X es (RGs L Γ vs ml)) (hs : notStar e = true) : PGs X (e :: es) (RGs L Γ vs (gCons mt ml)) :=
  (pgs_cons h1 h2 (by cases e <;> first | rfl | cases hs)).imp fun xs τ H Q ⟨μ, ds, σ, g, rv, rs, rh, h⟩ => by
    cases rv with
    | nil => exact h.elim
    | @cons d v dr vr ra rr =>
      refine ⟨_, _, rfl, μ, d, σ, g, ra, rs, rh, ?_⟩
      replace h : PostG L vs μ H τ ((mt Γ d σ g).bind fun σ g => ml Γ dr σ g) Q := h
      cases e1 : mt Γ d σ g with
      | stuck => rw [e1] at h; exact h.elim
      | exc c p g1 => rw [e1] at h; exact h.elim
      | ok σ1 g1 =>
        rw [e1] at h
        intro μ' H' τ' ex sm rs' rh'
        refine ⟨μ', dr, σ1, g1, rr.mono ex, rs', rh', ?_⟩
        have h' : PostG L vs μ' H' τ (ml Γ dr σ1 g1) Q := PostG.mono ex h
        cases e2 : ml Γ dr σ1 g1 with
        | stuck => rw [e2] at h'; exact h'.elim
        | exc c p g1 => rw [e2] at h'; exact h'.elim
        | ok σ2 g2 =>
          rw [e2] at h'
          exact fun μ2 H2 τ2 ex2 sm2 rs2 rh2 => h' μ2 H2 τ2 ex2 (sm.trans sm2) rs2 rh2
theorem assign_len {env : Env} : ∀ {es : List PySem.Expr}, (assignEach es env).length = es.length
  | [] => rfl
  | e :: es => by
    have := assign_len (env := env) (es := es)
    cases e <;> simp [assignEach, this]
theorem assign_plain {env : Env} : ∀ {es : List PySem.Expr}, es.all notStar = true → (assignEach es env).findIdx? (·.1) = none
  | [], _ => rfl
  | e :: es, h => by
    rw [List.all_cons, Bool.and_eq_true] at h
    have ih := assign_plain (env := env) h.2
    have e1 : assignEach (e :: es) env = (false, assign e env) :: assignEach es env := by
      have h1 := h.1
      cases e <;> first | rfl | cases h1
    rw [e1, List.findIdx?_cons]
    simp [ih]
theorem pg_tupS (hK : X.K = L.K) (hc : X.calm = true) {es : List PySem.Expr} {k : Nat} {vs : List Nat} {ml : GsK} (h : PGs X es (RGs L Γ vs ml)) (hs : es.all notStar = true) : PG X (.Tuple es k pos) (RG L Γ vs (Mini.gTup es.length ml)) :=
  (pg_tup hc h assign_len (assign_plain hs)).imp fun v τ H Q ⟨μ, d, σ, g, rv, rs, rh, h⟩ => by
    cases rv with
    | @tup fl p xs ws hq hfq rv =>
      unfold Mini.gTup at h
      simp only [llen_eq] at h
      cases e : Nat.beq xs.length es.length with
      | false => rw [e] at h; exact h.elim
      | true =>
        rw [e] at h
        refine ⟨p, ws, rfl, by rw [hK]; exact hq, by rw [← rv.length]; exact Nat.eq_of_beq_eq_true e, μ, xs, σ, g, rv, rs, rh, h⟩
    | _ => exact h.elim
theorem pg_subS (hu : X.A.units + 65 < cLine) {vs : List Nat} (ha : PE X a (RD L Γ W ma)) (hb : PE X b (RD L Γ W mb)) (hs : notSlice b = true) : PG X (.Subscript a b pos) (RG L Γ vs (Mini.gSub ma mb)) := by
  obtain ⟨t, ht, k⟩ := oSet_s (X := X) (L := L) hu
  refine (pg_sub ha hb ht (by intro v; cases b <;> first | rfl | cases hs)).imp fun v τ H Q ⟨μ, d, σ, g, rv, rs, rh, h⟩ => ⟨μ, σ, g, rs, rh, ?_⟩
  refine PostG.bind W h fun x H1 μ1 dx g1 e1 ra rh1 h1 => ⟨μ1, σ, g1, rs.mono e1, rh1, PostG.bind W h1 fun y H2 μ2 dy g2 e2 rb rh2 h2 => ?_⟩
  have rv' : RepV L μ2 H2 d v := (rv.mono e1).mono e2
  have rs' : RepS L μ2 H2 σ τ := (rs.mono e1).mono e2
  refine k (fun μ H (s : Mini.St) (t : L2.St) => Same vs τ t ∧ RepS L μ H s t) μ2 H2 g2 τ W dx dy d x y v (fun g => .ok σ g) (fun t H => Q t H) (fun H => Q τ H) (ra.mono e2) rb rv' rh2 ?_ fun H3 g3 e3 rh3 h3 => ?_
  · have h2' : PostG L vs μ2 H2 τ (oSet dx dy d g2 .stuck fun g => .ok σ g) Q := h2
    revert h2'
    generalize oSet dx dy d g2 .stuck (fun g => (R.ok σ g : R Mini.St)) = r
    intro h2'
    cases r with
    | ok s g => exact fun μ' H' t ex ⟨s1, s2⟩ rh => h2' μ' H' t ex s1 s2 rh
    | exc c p g => exact h2'.elim
    | stuck => exact h2'.elim
  · exact h3 _ _ τ Ext.refl ⟨Same.refl, rs'.mono e3⟩ rh3
end Mini
/-! MiniO: comprehensions, statements. -/
namespace Mini
open PySem PySem.Spec PyProof.Rows L2
variable {L : Lk} {Γ : CF} {μ μ' μ1 μ2 : Mu} {g g' : G} {H H' H1 H2 : Hp} {τ : L2.St} {W : WX} {X : Cx}
variable {a b c tg : PySem.Expr} {ma mb mc : EK} {pos : Pos}

/-! comprehensions -/
abbrev WF : WX := fun _ _ _ _ => False
theorem takesF {X : Cx} : Takes X WF := fun _ _ ⟨_, _, _, _, _, _, _, _, _, _, _, _, _, _, _, _, w⟩ => w.elim
theorem noExc_s {α β : Type} {Rp : Mu → Hp → α → β → Prop} {r : R α} {Q : β → Hp → Prop} (h : Post L Rp μ H τ (noExc r) Q W) : Post L Rp μ H τ (noExc r) Q WF := by
  cases r with
  | ok a g => exact h
  | exc c p g => exact h.elim
  | stuck => exact h.elim
theorem noExc_t {α β : Type} {Rp : Mu → Hp → α → β → Prop} {r : R α} {Q : β → Hp → Prop} {τ' : L2.St} (h : Post L Rp μ H τ (noExc r) Q WF) : Post L Rp μ H τ' (noExc r) Q WF := by
  cases r with
  | ok a g => exact h
  | exc c p g => exact h.elim
  | stuck => exact h.elim
theorem bindN {α β γ δ : Type} {Rp : Mu → Hp → α → β → Prop} {Rq : Mu → Hp → γ → δ → Prop} {r : R α} {f : α → G → R γ} {Q : δ → Hp → Prop} {Q' : β → Hp → Prop} (h : Post L Rq μ H τ (noExc (r.bind f)) Q WF)
    (k : ∀ b H1 μ1 a g1, Ext μ H μ1 H1 → Rp μ1 H1 a b → RepH L μ1 g1 H1 → Post L Rq μ1 H1 τ (noExc (f a g1)) Q WF → Q' b H1) : Post L Rp μ H τ r Q' WF := by
  cases r with
  | ok a g => exact fun μ' H' b e ra rh => k b H' μ' a g e ra rh (Post.mono e h)
  | exc c p g => exact h.elim
  | stuck => exact h.elim
theorem RepS.wipe {σ : Mini.St} {t : L2.St} (r : RepS L μ H σ t) : ∀ vs : List Nat, RepS L μ H (wipeD σ vs) (L2.wipe t vs)
  | [] => r
  | v :: vs => by
    show RepS L μ H (lset (wipeD σ vs) v .und id) ((L2.wipe t vs).set v none)
    rw [lset_eq]
    exact (r.wipe vs).unset v
theorem wipe_twice {t : L2.St} {vs : List Nat} : L2.wipe (L2.wipe t vs) vs = L2.wipe t vs := by
  apply List.ext_getElem?
  intro i
  rw [wipe_get, wipe_get, wipe_length]
  by_cases h : i ∈ vs <;> simp [h]
theorem postG_of {vs : List Nat} {r : R Mini.St} {f : Mini.St → G → R D} {Q : VK} {Q' : L2.St → Hp → Prop} (h : Post L (RepV L) μ H τ (noExc (r.bind f)) Q WF)
    {τ0 : L2.St} (k : ∀ H1 μ1 σ1 g1 τ1, Ext μ H μ1 H1 → Same vs τ0 τ1 → RepS L μ1 H1 σ1 τ1 → RepH L μ1 g1 H1 → Post L (RepV L) μ1 H1 τ (noExc (f σ1 g1)) Q WF → Q' τ1 H1) : PostG L vs μ H τ0 r Q' := by
  cases r with
  | ok s g => exact fun μ' H' t ex sm rs rh => k H' μ' s g t ex sm rs rh (Post.mono ex h)
  | exc c p g => exact h.elim
  | stuck => exact h.elim
theorem lcLoop_succ (w : Wk) (tg : GK) (t : TK) (e : EK) (Γ : CF) (σ : Mini.St) (a m i : Nat) (g : G) : lcLoop w tg t e Γ σ a (m + 1) i g = ((w i g).bind fun o g => match o with
    | none => .ok (.ref a) g
    | some d => (tg Γ d σ g).bind fun σ2 g => (t Γ σ2 g).bind fun b g => match b with
      | true => (e Γ σ2 g).bind fun y g => push1 a y g .stuck fun g => fNat (Nat.succ i) fun j => lcLoop w tg t e Γ σ a m j g
      | false => fNat (Nat.succ i) fun j => lcLoop w tg t e Γ σ a m j g) := rfl
theorem push_s {α β : Type} {Rp : Mu → Hp → α → β → Prop} {n : Nat} {p : Addr} {y : D} {v : V} {k : G → R α} {Q : β → Hp → Prop} (hm : μ n = some p) (rh : RepH L μ g H) (ry : RepV L μ H y v) (h : Post L Rp μ H τ (push1 n y g .stuck k) Q W) :
    ∃ acc, H p = some (.lst acc) ∧ acc.length < sizeLine ∧ ∃ g1, RepH L μ g1 (L2.upd H p (.lst (acc ++ [v]))) ∧ Ext μ H μ (L2.upd H p (.lst (acc ++ [v]))) ∧ Post L Rp μ (L2.upd H p (.lst (acc ++ [v]))) τ (k g1) Q W := by
  unfold push1 at h
  simp only [G.look_eq] at h
  cases e : g.at? n with
  | none => rw [e] at h; exact h.elim
  | some cl =>
    rw [e] at h
    cases cl with
    | lst q xs =>
      simp only at h
      cases hq : Nat.blt q lim with
      | false => rw [hq] at h; exact h.elim
      | true =>
        rw [hq] at h
        simp only [fNat_eq] at h
        obtain ⟨ws, hH, rv, hlen⟩ := rh.lst hm e
        obtain ⟨g1, r1, ex, h1⟩ := post_upd (o := .lst (ws ++ [v])) h rh e rfl rfl hm fun H' ex q' => by
          have z := RepC.lst (L := L) (μ := μ) (xs := y :: xs) q' (by rw [List.reverse_cons]; exact (rv.mono ex).append (.cons (ry.mono ex) .nil))
          rw [List.length_cons, ← hlen] at z
          exact z
        refine ⟨ws, hH, ?_, g1, r1, ex, h1⟩
        rw [← rv.length, List.length_reverse, ← hlen]
        exact Nat.lt_trans (Nat.le_of_ble_eq_true hq) lim_line1
    | _ => exact h.elim
theorem lc_s {mi : IK} {mg : GK} {mt : TK} {me : EK} {own : List Nat} : ∀ τ H Q, RD L Γ W (eLc me own mg mi mt) τ H Q → tLc (RI L Γ W mi) (RG L Γ own mg) (RT L Γ WF mt) (RD L Γ WF me) own τ H Q := fun τ H Q ⟨μ, σ, g, rs, rh, h⟩ =>
  ⟨μ, σ, g, rs, rh, h.bind fun J H1 μ1 w g1 e1 wk rh1 h1 => fun Dd hD => by
    rw [G.new_eq] at h1
    cases hp : g1.t.put? g1.n (.lst 0 []) with
    | none => rw [hp] at h1; exact h1.elim
    | some t' =>
      rw [hp] at h1
      have exN := Ext.ins rh1 (p := Dd) (o := .lst []) hD
      have hmu : (μ1.ins g1.n Dd) g1.n = some Dd := by unfold Mu.ins; rw [if_pos rfl]
      have rhN := rh1.new hp hD (.lst (L := L) (xs := []) (vs := []) upd_same .nil)
      have h2 := noExc_s h1
      have wk0 : WkOk L μ1 H1 w J := wk
      have rsw : RepS L μ1 H1 (wipeD σ own) (L2.wipe τ own) := (rs.mono e1).wipe own
      generalize hsw : wipeD σ own = sw at h2 rsw
      generalize g1.n = aa at h2 hmu exN rhN
      refine ⟨fun i m Hc => ∃ μc gc, Ext μ1 H1 μc Hc ∧ RepH L μc gc Hc ∧ μc aa = some Dd ∧ Post L (RepV L) μc Hc τ (noExc (lcLoop w mg mt me Γ sw aa m i gc)) Q WF, ⟨turns, _, _, exN, rhN, hmu, Post.mono exN h2⟩, ?_⟩
      rintro i m Hc ⟨μc, gc, ex, rhc, hmc, hc⟩
      cases m with
      | zero => exact hc.elim
      | succ m =>
        rw [lcLoop_succ] at hc
        have wki := wk0 μc Hc gc i ex rhc
        cases hw : w i gc with
        | stuck => rw [hw] at hc; exact hc.elim
        | exc c p g => rw [hw] at hc; exact hc.elim
        | ok o g2 =>
          rw [hw] at hc wki
          cases o with
          | none =>
            obtain ⟨st, eg⟩ := wki
            subst eg
            exact .inl ⟨st, hc.val (.ref hmc) rhc⟩
          | some d =>
            obtain ⟨go, step⟩ := wki
            refine .inr ⟨go, fun Hn => ∃ μc gc, Ext μ1 H1 μc Hn ∧ RepH L μc gc Hn ∧ μc aa = some Dd ∧ Post L (RepV L) μc Hn τ (noExc (lcLoop w mg mt me Γ sw aa m (i + 1) gc)) Q WF, fun H' hN => ⟨m, Nat.lt_succ_self m, hN⟩, fun x H'' y => ?_⟩
            obtain ⟨μ3, ex3, rx, rh3⟩ := step x H'' y
            have hc' : Post L (RepV L) μ3 H'' τ (noExc ((mg Γ d sw g2).bind fun σ2 g => (mt Γ σ2 g).bind fun b g => match b with
              | true => (me Γ σ2 g).bind fun y g => push1 aa y g .stuck fun g => fNat (Nat.succ i) fun j => lcLoop w mg mt me Γ sw aa m j g
              | false => fNat (Nat.succ i) fun j => lcLoop w mg mt me Γ sw aa m j g)) Q WF := Post.mono ex3 hc
            refine ⟨μ3, d, sw, g2, rx, (rsw.mono ex).mono ex3, rh3, postG_of hc' fun H4 μ4 σ4 g4 τ4 e4 sm rs4 rh4 h4 => ⟨by rw [sm.wipe, wipe_twice], μ4, σ4, g4, rs4, rh4, ?_⟩⟩
            refine bindN (noExc_t h4) fun bb H5 μ5 d5 g5 e5 rb rh5 h5 => ?_
            subst rb
            cases d5 with
            | false =>
              rw [if_neg Bool.false_ne_true]
              simp only [fNat_eq] at h5
              exact ⟨μ5, g5, ((ex.trans ex3).trans e4).trans e5, rh5, e5.mu _ _ (e4.mu _ _ (ex3.mu _ _ hmc)), noExc_t h5⟩
            | true =>
              rw [if_pos rfl]
              refine ⟨μ5, σ4, g5, rs4.mono e5, rh5, bindN h5 fun yv H6 μ6 d6 g6 e6 ry rh6 h6 => ?_⟩
              have h6' : Post L (RepV L) μ6 H6 τ4 (push1 aa d6 g6 .stuck fun g => noExc (lcLoop w mg mt me Γ sw aa m (i + 1) g)) Q WF := by
                have e : (push1 aa d6 g6 .stuck fun g => noExc (lcLoop w mg mt me Γ sw aa m (i + 1) g)) = noExc (push1 aa d6 g6 .stuck fun g => fNat (Nat.succ i) fun j => lcLoop w mg mt me Γ sw aa m j g) := by
                  unfold push1
                  simp only [G.look_eq, fNat_eq]
                  cases g6.at? aa with
                  | none => rfl
                  | some cl =>
                    cases cl with
                    | lst q xs =>
                      simp only
                      cases Nat.blt q lim with
                      | false => rfl
                      | true =>
                        simp only [G.upd_eq]
                        cases g6.t.put? aa (.lst (Nat.succ q) (d6 :: xs)) <;> rfl
                    | _ => rfl
                rw [e]; exact h6
              obtain ⟨acc, h1a, h2a, g7, rh7, e7, h7⟩ := push_s (e6.mu _ _ (e5.mu _ _ (e4.mu _ _ (ex3.mu _ _ hmc)))) rh6 ry h6'
              exact ⟨acc, h1a, h2a, μ6, g7, ((((ex.trans ex3).trans e4).trans e5).trans e6).trans e7, rh7, e7.mu _ _ (e6.mu _ _ (e5.mu _ _ (e4.mu _ _ (ex3.mu _ _ hmc)))), noExc_t h7⟩⟩
theorem pe_lcS {elt iter : PySem.Expr} {ifs : List PySem.Expr} {scope : Scope} {own : List (PySem.Str × Nat)} {mi : IK} {mg : GK} {mt : TK} {me : EK} (hc : X.calm = true) (hN : X.N.Nodup) (hi : PI X tg iter (RI L Γ W mi)) (ok : BlkOk X.N X.env.scope scope own)
    (hg : ∀ (s : Shared) (H : Hp) (C : Addr) (cl : List (PySem.Str × Addr)) (fp : List Addr), PG (X.blk s H scope (compEnvC scope cl C X.env) fp) tg (RG L Γ (own.map (·.2)) mg)) (ht : ∀ (s : Shared) (H : Hp) (C : Addr) (cl : List (PySem.Str × Addr)) (fp : List Addr), PTs (X.blk s H scope (compEnvC scope cl C X.env) fp) ifs (RT L Γ WF mt))
    (he : ∀ (s : Shared) (H : Hp) (C : Addr) (cl : List (PySem.Str × Addr)) (fp : List Addr), PE (X.blk s H scope (compEnvC scope cl C X.env) fp) elt (RD L Γ WF me)) (hs : ∀ x, foldedSetIterable iter X.env x = pure x) :
    PE X (.ListComp elt [⟨tg, iter, ifs, 0⟩] scope pos) (RD L Γ W (eLc me (own.map (·.2)) mg mi mt)) := (pe_lc hc hN hi ok hg ht he hs).imp lc_s

/-! statements -/
def PostS (L : Lk) (μ : Mu) (H : Hp) (r : RS) (D : Ends) (W : WX) : Prop := match r with
  | .nx σ' g' => ∀ μ' H' τ', Ext μ H μ' H' → RepS L μ' H' σ' τ' → RepH L μ' g' H' → D.nx τ' H'
  | .rt d g' => ∀ μ' H' v, Ext μ H μ' H' → RepV L μ' H' d v → RepH L μ' g' H' → D.rt v H'
  | .bk σ' g' => ∀ μ' H' τ', Ext μ H μ' H' → RepS L μ' H' σ' τ' → RepH L μ' g' H' → D.bk τ' H'
  | .ct σ' g' => ∀ μ' H' τ', Ext μ H μ' H' → RepS L μ' H' σ' τ' → RepH L μ' g' H' → D.ct τ' H'
  | .exc c p σ' g' => ∀ μ' H' τ' x, Ext μ H μ' H' → RepS L μ' H' σ' τ' → RepH L μ' g' H' → RepX L μ' H' p x → W (.ref (L.ca c)) x τ' H'
  | .stuck => False
def RSt (L : Lk) (Γ : CF) (W : WX) (m : SK) : TS := fun D τ H => ∃ μ σ g, RepS L μ H σ τ ∧ RepH L μ g H ∧ PostS L μ H (m Γ σ g) D W
theorem PostS.mono {r : RS} {D : Ends} (e : Ext μ H μ1 H1) (h : PostS L μ H r D W) : PostS L μ1 H1 r D W := by
  cases r with
  | nx s g => exact fun μ' H' t e' rs rh => h μ' H' t (e.trans e') rs rh
  | rt d g => exact fun μ' H' t e' rs rh => h μ' H' t (e.trans e') rs rh
  | bk s g => exact fun μ' H' t e' rs rh => h μ' H' t (e.trans e') rs rh
  | ct s g => exact fun μ' H' t e' rs rh => h μ' H' t (e.trans e') rs rh
  | exc c p s g => exact fun μ' H' t x e' rs rh rx => h μ' H' t x (e.trans e') rs rh rx
  | stuck => exact h
variable {D0 : Ends}
/-- an expression within a statement -/
theorem st_s {σ : Mini.St} {r : R D} {k : D → G → RS} {Q' : VK} (rs : RepS L μ H σ τ) (h : PostS L μ H (r.st σ k) D0 W)
    (kk : ∀ v H1 μ1 d g1, Ext μ H μ1 H1 → RepV L μ1 H1 d v → RepH L μ1 g1 H1 → RepS L μ1 H1 σ τ → PostS L μ1 H1 (k d g1) D0 W → Q' v H1) : Post L (RepV L) μ H τ r Q' W := by
  cases r with
  | ok d g => exact fun μ' H' v e ra rh => kk v H' μ' d g e ra rh (rs.mono e) (PostS.mono e h)
  | exc c p g => exact fun μ' H' x e rh rx => h μ' H' τ x e (rs.mono e) rh rx
  | stuck => exact h.elim
theorem stT_s {σ : Mini.St} {r : R Bool} {k : Bool → G → RS} {Q' : Bool → Hp → Prop} (rs : RepS L μ H σ τ) (h : PostS L μ H (r.stT σ k) D0 W)
    (kk : ∀ v H1 μ1 g1, Ext μ H μ1 H1 → RepH L μ1 g1 H1 → RepS L μ1 H1 σ τ → PostS L μ1 H1 (k v g1) D0 W → Q' v H1) : Post L (fun _ _ (b : Bool) c => b = c) μ H τ r Q' W := by
  cases r with
  | ok d g => exact fun μ' H' v e ra rh => by subst ra; exact kk d H' μ' g e rh (rs.mono e) (PostS.mono e h)
  | exc c p g => exact fun μ' H' x e rh rx => h μ' H' τ x e (rs.mono e) rh rx
  | stuck => exact h.elim
theorem stW_s {σ : Mini.St} {r : R Wk} {k : Wk → G → RS} {Q' : It → Hp → Prop} (rs : RepS L μ H σ τ) (h : PostS L μ H (r.stW σ k) D0 W)
    (kk : ∀ J H1 μ1 w g1, Ext μ H μ1 H1 → WkOk L μ1 H1 w J → RepH L μ1 g1 H1 → RepS L μ1 H1 σ τ → PostS L μ1 H1 (k w g1) D0 W → Q' J H1) : Post L (WkOk L) μ H τ r Q' W := by
  cases r with
  | ok d g => exact fun μ' H' v e ra rh => kk v H' μ' d g e ra rh (rs.mono e) (PostS.mono e h)
  | exc c p g => exact fun μ' H' x e rh rx => h μ' H' τ x e (rs.mono e) rh rx
  | stuck => exact h.elim
theorem stG_s {vs : List Nat} {r : R Mini.St} {k : Mini.St → G → RS} {Q' : L2.St → Hp → Prop} (h : PostS L μ H (r.stG k) D0 W)
    (kk : ∀ H1 μ1 σ1 g1 τ1, Ext μ H μ1 H1 → RepS L μ1 H1 σ1 τ1 → RepH L μ1 g1 H1 → PostS L μ1 H1 (k σ1 g1) D0 W → Q' τ1 H1) : PostG L vs μ H τ r Q' := by
  cases r with
  | ok d g => exact fun μ' H' t e _ rs rh => kk H' μ' d g t e rs rh (PostS.mono e h)
  | exc c p g => exact h.elim
  | stuck => exact h.elim
theorem set_s {i : Nat} {te : TE} (k : ∀ τ H Q, RD L Γ W ma τ H Q → te τ H Q) : ∀ D τ H, RSt L Γ W (sSet i ma) D τ H → tAsg te (gName i) D τ H := fun D τ H ⟨μ, σ, g, rs, rh, h⟩ =>
  k _ _ _ ⟨μ, σ, g, rs, rh, st_s rs h fun v H1 μ1 d g1 e ra rh1 rs1 h1 => by
    rw [lset_eq] at h1
    exact h1 μ1 H1 _ Ext.refl (rs1.set i ra) rh1⟩
theorem ps_setS {i : Nat} {x : PySem.Str} {pos' : Pos} (hN : X.N.Nodup) (hi : X.N[i]? = some x) (hx : Loc X.env.scope x) (ha : PE X a (RD L Γ W ma)) (hs : swapsWith a (some (.Name x pos')) pos.line X.env = pure false) (hf : X.fn x = true ∨ X.env.scope.names.lookup x = some .local) :
    PS X (.Assign [.Name x pos'] a pos) (RSt L Γ W (sSet i ma)) := (ps_set hN hi hx ha hs hf).imp (set_s fun _ _ _ h => h)
theorem ps_setLcS {i : Nat} {y : PySem.Str} {py spos : Pos} {elt iter : PySem.Expr} {ifs : List PySem.Expr} {scope : Scope} {own : List (PySem.Str × Nat)} {mi : IK} {mg : GK} {mt : TK} {me : EK} (hc : X.calm = true) (hN : X.N.Nodup) (hy : X.N[i]? = some y) (hyl : X.env.scope.names.lookup y = some .local)
    (hsw : swapsWith (.ListComp elt [⟨tg, iter, ifs, 0⟩] scope pos) (some (.Name y py)) spos.line X.env = pure true) (hi : PI X tg iter (RI L Γ W mi)) (ok : BlkOk X.N X.env.scope scope own)
    (hg : ∀ (s : Shared) (H : Hp) (C : Addr) (cl : List (PySem.Str × Addr)) (fp : List Addr), PG (X.blk s H scope (compEnvC scope cl C X.env) fp) tg (RG L Γ (own.map (·.2)) mg)) (ht : ∀ (s : Shared) (H : Hp) (C : Addr) (cl : List (PySem.Str × Addr)) (fp : List Addr), PTs (X.blk s H scope (compEnvC scope cl C X.env) fp) ifs (RT L Γ WF mt))
    (he : ∀ (s : Shared) (H : Hp) (C : Addr) (cl : List (PySem.Str × Addr)) (fp : List Addr), PE (X.blk s H scope (compEnvC scope cl C X.env) fp) elt (RD L Γ WF me)) (hs : ∀ x, foldedSetIterable iter X.env x = pure x) :
    PS X (.Assign [.Name y py] (.ListComp elt [⟨tg, iter, ifs, 0⟩] scope pos) spos) (RSt L Γ W (sSet i (eLc me (own.map (·.2)) mg mi mt))) := (ps_setLc hc hN hy hyl hsw hi ok hg ht he hs).imp (set_s lc_s)
theorem ps_parS {i j : Nat} {x y : PySem.Str} {px py pt : Pos} {kt k2 pt2} (hc : X.calm = true) (hN : X.N.Nodup) (hi : X.N[i]? = some x) (hj : X.N[j]? = some y) (hij : i ≠ j)
    (hx : X.env.scope.names.lookup x = some .local) (hy : X.env.scope.names.lookup y = some .local) (ha : PE X a (RD L Γ W ma)) (hb : PE X b (RD L Γ W mb)) (hsa : notStar a = true) (hsb : notStar b = true)
    (hw : swappedStores [.Tuple [.Name x px, .Name y py] kt pt] (.Tuple [a, b] k2 pt2) X.env = pure (some [x, y])) :
    PS X (.Assign [.Tuple [.Name x px, .Name y py] kt pt] (.Tuple [a, b] k2 pt2) pos) (RSt L Γ W (sPar i j ma mb)) :=
  (ps_par hc hN hi hj hij hx hy (pa_cons ha (pa_cons hb (pa_nil (X := X)) (star_cons hsb)) (star_cons hsa)) hw rfl).imp fun D τ H ⟨μ, σ, g, rs, rh, h⟩ => ⟨μ, σ, g, rs, rh, st_s rs h fun v H1 μ1 d g1 e ra rh1 rs1 h1 =>
    ⟨μ1, σ, g1, rs1, rh1, st_s rs1 h1 fun w H2 μ2 d2 g2 e2 rb rh2 rs2 h2 => ⟨v, w, rfl, by
      simp only [lset_eq] at h2
      exact h2 μ2 H2 _ Ext.refl ((rs2.set i (ra.mono e2)).set j rb) rh2⟩⟩⟩
theorem ps_asgS {vs : List Nat} {mg : GK} (ha : PE X a (RD L Γ W ma)) (hg : PG X tg (RG L Γ vs mg)) (hs : swapsWithSole [tg] a pos.line X.env = pure false) (hw : swappedStores [tg] a X.env = pure none) (ht : notStar tg = true) : PS X (.Assign [tg] a pos) (RSt L Γ W (sAsg mg ma)) :=
  (ps_asg ha hg hs hw (by cases tg <;> first | rfl | cases ht)).imp fun D τ H ⟨μ, σ, g, rs, rh, h⟩ => ⟨μ, σ, g, rs, rh, st_s rs h fun v H1 μ1 d g1 e ra rh1 rs1 h1 =>
    ⟨μ1, d, σ, g1, ra, rs1, rh1, stG_s h1 fun H2 μ2 σ2 g2 τ2 e2 rs2 rh2 h2 => h2 μ2 H2 τ2 Ext.refl rs2 rh2⟩⟩
theorem ps_exS (ha : PE X a (RD L Γ W ma)) (hs : swapsWith a none pos.line X.env = pure false) : PS X (.Expr a pos) (RSt L Γ W (sEx ma)) :=
  (ps_expr ha hs).imp fun D τ H ⟨μ, σ, g, rs, rh, h⟩ => ⟨μ, σ, g, rs, rh, st_s rs h fun v H1 μ1 d g1 e ra rh1 rs1 h1 => h1 μ1 H1 τ Ext.refl rs1 rh1⟩
theorem ps_retS (ha : PE X a (RD L Γ W ma)) : PS X (.Return (some a) pos) (RSt L Γ W (sRet ma)) :=
  (ps_ret ha).imp fun D τ H ⟨μ, σ, g, rs, rh, h⟩ => ⟨μ, σ, g, rs, rh, st_s rs h fun v H1 μ1 d g1 e ra rh1 rs1 h1 => h1 μ1 H1 v Ext.refl ra rh1⟩
theorem ps_retNS : PS X (.Return none pos) (RSt L Γ W sRetN) := ps_retN.imp fun D τ H ⟨μ, σ, g, rs, rh, h⟩ => h μ H .non Ext.refl .non rh
theorem ps_passS : PS X (.Pass pos) (RSt L Γ W sPass) := ps_pass.imp fun D τ H ⟨μ, σ, g, rs, rh, h⟩ => h μ H τ Ext.refl rs rh
theorem ps_brkS : PS X (.Break pos) (RSt L Γ W sBrk) := ps_break.imp fun D τ H ⟨μ, σ, g, rs, rh, h⟩ => h μ H τ Ext.refl rs rh
theorem ps_contS : PS X (.Continue pos) (RSt L Γ W sCont) := ps_continue.imp fun D τ H ⟨μ, σ, g, rs, rh, h⟩ => h μ H τ Ext.refl rs rh
theorem ps_ifS {t : TK} {p q : List PySem.Stmt} {mp mq : SK} (hc : PT X c (RT L Γ W t)) (hp : PSs X p (RSt L Γ W mp)) (hq : PSs X q (RSt L Γ W mq)) : PS X (.If c p q pos) (RSt L Γ W (sIf t mp mq)) :=
  (ps_if hc hp hq).imp fun D τ H ⟨μ, σ, g, rs, rh, h⟩ => ⟨μ, σ, g, rs, rh, stT_s rs h fun v H1 μ1 g1 e rh1 rs1 h1 => by
    cases v with
    | true => rw [if_pos rfl]; exact ⟨μ1, σ, g1, rs1, rh1, h1⟩
    | false => rw [if_neg Bool.false_ne_true]; exact ⟨μ1, σ, g1, rs1, rh1, h1⟩⟩
theorem pss_nilS : PSs X [] (RSt L Γ W bNil) := pss_nil.imp fun D τ H ⟨μ, σ, g, rs, rh, h⟩ => h μ H τ Ext.refl rs rh
theorem pss_consS {s : PySem.Stmt} {r : List PySem.Stmt} {ms mr : SK} (h1 : PS X s (RSt L Γ W ms)) (h2 : PSs X r (RSt L Γ W mr)) : PSs X (s :: r) (RSt L Γ W (bCons ms mr)) :=
  (pss_cons h1 h2).imp fun D τ H ⟨μ, σ, g, rs, rh, h⟩ => ⟨μ, σ, g, rs, rh, by
    replace h : PostS L μ H ((ms Γ σ g).seq fun σ g => mr Γ σ g) D W := h
    cases e : ms Γ σ g with
    | nx s g1 => rw [e] at h; exact fun μ' H' t ex rs rh => ⟨μ', s, g1, rs, rh, PostS.mono ex h⟩
    | rt d g1 => rw [e] at h; exact h
    | bk s g1 => rw [e] at h; exact h
    | ct s g1 => rw [e] at h; exact h
    | exc c p s g1 => rw [e] at h; exact h
    | stuck => rw [e] at h; exact h⟩
/-- behind a loop's body -/
theorem lap_s {r : RS} {k : Mini.St → G → RS} {N : L2.St → Hp → Prop} (h : PostS L μ H (r.lap k) D0 W) (hn : ∀ σ1 g1 μ1 H1 τ1, Ext μ H μ1 H1 → RepS L μ1 H1 σ1 τ1 → RepH L μ1 g1 H1 → PostS L μ1 H1 (k σ1 g1) D0 W → N τ1 H1) :
    PostS L μ H r { D0 with nx := N, ct := N, bk := D0.nx } W := by
  cases r with
  | nx s g => exact fun μ' H' t e rs rh => hn s g μ' H' t e rs rh (PostS.mono e h)
  | ct s g => exact fun μ' H' t e rs rh => hn s g μ' H' t e rs rh (PostS.mono e h)
  | bk s g => exact h
  | rt d g => exact h
  | exc c p s g => exact h
  | stuck => exact h
theorem ps_whlS {t : TK} {p : List PySem.Stmt} {mp : SK} (hp : PassesOwn (model X.prog X.w) X.A X.env X.xe) (hc : PT X c (RT L Γ W t)) (hb : PSs X p (RSt L Γ W mp)) : PS X (.While c p [] pos) (RSt L Γ W (sWhl t mp)) :=
  (ps_while hp hc hb).imp fun D τ H ⟨μ, σ, g, rs, rh, h⟩ => by
    refine ⟨fun m τ H => ∃ μ σ g, RepS L μ H σ τ ∧ RepH L μ g H ∧ PostS L μ H (whlLoop t mp Γ m σ g) D W, ⟨turns, μ, σ, g, rs, rh, h⟩, ?_⟩
    rintro m τ H ⟨μ, σ, g, rs, rh, h⟩
    cases m with
    | zero => exact h.elim
    | succ m =>
      replace h : PostS L μ H ((t Γ σ g).stT σ fun c g => match c with | true => (mp Γ σ g).lap (whlLoop t mp Γ m) | false => .nx σ g) D W := h
      refine ⟨μ, σ, g, rs, rh, stT_s rs h fun v H1 μ1 g1 e rh1 rs1 h1 => ?_⟩
      cases v with
      | false => rw [if_neg Bool.false_ne_true]; exact h1 μ1 H1 τ Ext.refl rs1 rh1
      | true =>
        rw [if_pos rfl]
        exact ⟨fun τ H => ∃ μ σ g, RepS L μ H σ τ ∧ RepH L μ g H ∧ PostS L μ H (whlLoop t mp Γ m σ g) D W, fun τ' H' n => ⟨m, Nat.lt_succ_self m, n⟩, μ1, σ, g1, rs1, rh1, lap_s h1 fun σ2 g2 μ2 H2 τ2 e2 rs2 rh2 h2 => ⟨μ2, σ2, g2, rs2, rh2, h2⟩⟩
theorem ps_forS {iter : PySem.Expr} {mi : IK} {mg : GK} {vs : List Nat} {p : List PySem.Stmt} {mp : SK} (hp : PassesOwn (model X.prog X.w) X.A X.env X.xe) (hc : X.calm = true) (hi : PI X tg iter (RI L Γ W mi)) (hg : PG X tg (RG L Γ vs mg)) (hb : PSs X p (RSt L Γ W mp)) (hs : ∀ x, foldedSetIterable iter X.env x = pure x) :
    PS X (.For tg iter p [] pos) (RSt L Γ W (sFor mg mi mp)) :=
  (ps_for hp hc hi hg hb hs).imp fun D τ H ⟨μ, σ, g, rs, rh, h⟩ => ⟨μ, σ, g, rs, rh, stW_s rs h fun J H1 μ1 w g1 e1 wk rh1 rs1 h1 => by
    have wk0 : WkOk L μ1 H1 w J := wk
    refine ⟨fun i m τ Hc => ∃ μc σc gc, Ext μ1 H1 μc Hc ∧ RepS L μc Hc σc τ ∧ RepH L μc gc Hc ∧ PostS L μc Hc (forLoop w mg mp Γ m i σc gc) D W, ⟨turns, μ1, σ, g1, Ext.refl, rs1, rh1, h1⟩, ?_⟩
    rintro i m τc Hc ⟨μc, σc, gc, ex, rsc, rhc, hc⟩
    cases m with
    | zero => exact hc.elim
    | succ m =>
      replace hc : PostS L μc Hc ((w i gc).stO fun o g => match o with | none => .nx σc g | some d => (mg Γ d σc g).stG fun σ g => (mp Γ σ g).lap fun σ g => fNat (Nat.succ i) fun j => forLoop w mg mp Γ m j σ g) D W := hc
      have wki := wk0 μc Hc gc i ex rhc
      cases hw : w i gc with
      | stuck => rw [hw] at hc; exact hc.elim
      | exc c p g => rw [hw] at hc; exact hc.elim
      | ok o g2 =>
        rw [hw] at hc wki
        cases o with
        | none =>
          obtain ⟨st, eg⟩ := wki
          subst eg
          exact .inl ⟨st, hc μc Hc τc Ext.refl rsc rhc⟩
        | some d =>
          obtain ⟨go, step⟩ := wki
          refine .inr ⟨go, fun τn Hn => ∃ μc σc gc, Ext μ1 H1 μc Hn ∧ RepS L μc Hn σc τn ∧ RepH L μc gc Hn ∧ PostS L μc Hn (forLoop w mg mp Γ m (i + 1) σc gc) D W, fun _ H' hN => ⟨m, Nat.lt_succ_self m, hN⟩, fun x H'' y => ?_⟩
          obtain ⟨μ3, ex3, rx, rh3⟩ := step x H'' y
          have hc' : PostS L μ3 H'' ((mg Γ d σc g2).stG fun σ g => (mp Γ σ g).lap fun σ g => fNat (Nat.succ i) fun j => forLoop w mg mp Γ m j σ g) D W := PostS.mono ex3 hc
          refine ⟨μ3, d, σc, g2, rx, rsc.mono ex3, rh3, stG_s hc' fun H4 μ4 σ4 g4 τ4 e4 rs4 rh4 h4 => ⟨μ4, σ4, g4, rs4, rh4, lap_s h4 fun σ5 g5 μ5 H5 τ5 e5 rs5 rh5 h5 => ?_⟩⟩
          simp only [fNat_eq] at h5
          exact ⟨μ5, σ5, g5, ((ex.trans ex3).trans e4).trans e5, rs5, rh5, h5⟩⟩
end Mini
/-! MiniP: raise, try. -/
namespace Mini
open PySem PySem.Spec PyProof.Rows L2
variable {L : Lk} {Γ : CF} {μ μ' μ1 μ2 : Mu} {g g' : G} {H H' H1 H2 : Hp} {τ : L2.St} {W : WX} {X : Cx}
variable {a b c tg : PySem.Expr} {ma mb mc : EK} {pos : Pos}

/-- X() -/
theorem pmk_own0 {C : Addr} {bmB : List Value} {B newId initId : String} {x : PySem.Str} {p : Pos} (F : ExcBaseFacts B newId initId bmB) (q : PySem.W.excIn X.K C bmB newId = true) (gC : X.mg x = some (.ref C)) (kC : PySem.W.keepIn X.K (.ref C) = true) (r : Raises X (.ref C)) (hg : Gl X x)
    (hdb : (x == ("__debug__" : PySem.Str)) = false) : PMk X (.Call (.Name x p) [] [] pos) (fun _ H Q => Q (.ref C) none H) := by
  intro pins s σ H Q I h
  refine wpAny_Call_Name_kw (ld_glob I hg gC ?_ hdb)
  refine PySem.W.callWith_K0 I.kIn kC ?_
  obtain ⟨bm, N, nm, qn, bs, hdct, sn, sub, ab, col, dd, k0, k1, k2, k3, k5, mN, hC, hN, hni, T⟩ := exc_obj I.kIn q
  refine wpAny_call_exc_subT F T hC hN hni (fun h' e hm => ?_) (Nat.zero_le _)
  exact mk_of I hm r h (I.hok.gone hm.new)
/-- the class of number n may be raised -/
structure ClF (X : Cx) (L : Lk) (n : Nat) : Prop where
  ex : ∃ (bmB : List Value) (B newId initId : String), ExcBaseFacts B newId initId bmB ∧ PySem.W.excIn X.K (L.ca n) bmB newId = true
  kp : PySem.W.keepIn X.K (.ref (L.ca n)) = true
  sb : PySem.W.subIn X.K (.ref (L.ca n)) (.type "BaseException") = some true
  ty : PySem.W.typeIn X.K (.ref (L.ca n)) = some (.type "type")
  ec : ExcC X.K (L.ca n)
theorem ps_rseS {n : Nat} {x : PySem.Str} {p pos2 : Pos} (hc : X.calm = true) (tk : Takes X W) (F : ClF X L n) (hg : Gl X x) (hm : X.mg x = some (.ref (L.ca n))) (hd : (x == ("__debug__" : PySem.Str)) = false) :
    PS X (.Raise (some (.Call (.Name x p) [] [] pos)) none pos2) (RSt L Γ W (sRse n)) := by
  obtain ⟨bmB, B, newId, initId, f, q⟩ := F.ex
  exact (ps_raise hc tk (pmk_own0 f q hm F.kp (raises_own F.sb F.ty) hg hd)).imp fun D τ H ⟨μ, σ, g, rs, rh, h⟩ => h μ H τ none Ext.refl rs rh .non

/-! try: body, except c as n: .., several -/
/-- a clause: the class, the name's slot, the suite's reading -/
abbrev Clause := Value × Nat × (Addr → Value → Option Addr → TS)
def wAll (K : PySem.W.Frag) (Wout : WX) (D : Ends) : List Clause → WX
  | [] => Wout
  | (c, i, ts) :: r => fun cls d σ H => ∃ b, PySem.W.exmOne K cls c = some b ∧
      (b = true → ∀ a, H a = none → ts a cls d { nx := fun σ' H' => D.nx (σ'.set i none) H', rt := D.rt, bk := fun σ' H' => D.bk (σ'.set i none) H', ct := fun σ' H' => D.ct (σ'.set i none) H' } (σ.set i (some (.ref a))) H) ∧
      (b = false → wAll K Wout D r cls d σ H)
inductive Clauses (X : Cx) : List ExceptHandler → List Clause → Prop
  | nil : Clauses X [] []
  | cons {x n : PySem.Str} {c : Value} {i : Nat} {ts : Addr → Value → Option Addr → TS} {b₀ : PySem.Stmt} {suite : List PySem.Stmt} {np pos' : Pos} {hds : List ExceptHandler} {l : List Clause} (hc : Names X x c) (hi : X.N[i]? = some n) (hl : X.env.kindOf n = some .local)
      (hsu : ∀ (a : Addr) (oe : Obj) (cls : Value) (d : Option Addr) (pn : List (Addr × Obj)), Zc cls d oe → (∃ vs, oe.data = .fields vs) → PSs (X.suite a ((a, oe) :: pn)) (b₀ :: suite) (ts a cls d)) (r : Clauses X hds l) :
      Clauses X (.ExceptHandler (some (.Name x np)) (some n) (b₀ :: suite) pos' :: hds) ((c, i, ts) :: l)
/-- what a caught exception gives to the clauses: the state behind the landing -/
theorem ps_try_all {body : List PySem.Stmt} {h₀ : ExceptHandler} {hds : List ExceptHandler} {l : List Clause} {tb : WX → TS} {Wout : WX} (hN : X.N.Nodup) (hs : X.stack = X.env :: X.outer) (hf : X.env.frame = some X.env.locals) (tk : Takes X Wout)
    (hb : ∀ (W : WX) (pn : List (Addr × Obj)) (xe : Value → Shared → Prop), Takes (X.tr pn xe) W → PassesOwn (model X.prog X.w) X.A X.env xe → PSs (X.tr pn xe) body (tb W))
    (hh : Clauses X (h₀ :: hds) l) : PS X (.Try body (h₀ :: hds) [] [] pos) (fun D σ H => tb (wAll X.K Wout D l) D σ H) := by
  refine ⟨fun pins s σ H D I h => ?_⟩
  have ok := I.ok
  have hfr : X.A.frames = some (X.env :: X.outer) := by rw [ok.frames, hs]
  refine wpAny_Try_except ?_
  have land : ∀ (u : Value) (s' : Shared), XE (X.tr (X.pn ++ pins) (fun e s₁ => wpAny (model X.prog X.w) X.A (noteFrame e X.env) (fun _ s₂ => wpAny (model X.prog X.w) X.A (setFlight e none) (fun _ s₃ =>
      wpAny (model X.prog X.w) X.A (handleBy e X.env (h₀ :: hds)) (SP X pins D) X.xe s₃) X.xe s₂) X.xe s₁)) (wAll X.K Wout D l) u s' →
      wpAny (model X.prog X.w) X.A (noteFrame u X.env) (fun _ s₂ => wpAny (model X.prog X.w) X.A (setFlight u none) (fun _ s₃ => wpAny (model X.prog X.w) X.A (handleBy u X.env (h₀ :: hds)) (SP X pins D) X.xe s₃) X.xe s₂) X.xe s' := by
    intro u s' xx
    obtain ⟨a, B, sI, pins', σ', H', cls, d, rfl, J', nb, up, sky, na, os, ag, w⟩ := xx
    have J : Inv X pins σ' H' sI := J'.ofTry ok
    have sky' : Sky B (X.env :: X.outer) a (Zc cls d) X.env.locals s'.heap := by rw [← hs]; exact sky
    refine Sky.land Zc.steady hfr hf sky' fun h3 fl3 up3 => ?_
    have J3 : Inv X pins σ' H' { s' with heap := h3 } := J.landed nb fl3.1 (up.trans up3) os ag
    obtain ⟨oe3, vs3, he3, hz3, hd3⟩ := fl3.there
    have nfr : a ∉ frs (X.env :: X.outer) := fun hm => by
      obtain ⟨_, o', e', hnf⟩ := fl3.2.2.1.mem hm
      rw [he3] at e'; cases e'
      exact hnf _ hd3
    have nL : a ≠ X.env.locals := fun z => nfr (List.mem_filterMap.mpr ⟨X.env, List.mem_cons_self, by rw [hf, z]⟩)
    have nF : a ∉ X.fs := fun hm => by
      obtain ⟨e, he, q⟩ := List.mem_filterMap.mp hm
      exact nfr (List.mem_filterMap.mpr ⟨e, List.mem_cons_of_mem _ he, q⟩)
    have S3 := J3.suite he3 hd3 na nL nF
    suffices go : ∀ {hds' : List ExceptHandler} {l' : List Clause}, Clauses X hds' l' → wAll X.K Wout D l' cls d σ' H' → wpAny (model X.prog X.w) X.A (handleBy (.ref a) X.env hds') (SP X pins D) X.xe { s' with heap := h3 } from go hh w
    intro hds' l' hk
    induction hk with
    | nil =>
      intro w
      refine wpAny_handleBy_nil ?_
      obtain ⟨k1, k2, k3, oe, vs, T, oT, ts', he, hz, hd, h1, hr⟩ := id fl3
      unfold PySem.passOn
      refine wpAny_bind (wpAny_field he hd h1 ?_)
      rw [if_neg (show ¬ ((Value.ref T == Value.none) = true) from by simp)]
      have fin : wpAny (model X.prog X.w) X.A (setFlight (.ref a) X.env.frame) (fun _ s4 => wpAny (model X.prog X.w) X.A (throw (.ref a) : Sem Flow) (SP X pins D) X.xe s4) X.xe { s' with heap := h3 } := by
        rw [hf]
        refine HandSPX.setFlight_upZ fl3 fun h4 hh4 up4 => wpAny_throw (tk _ _ ?_)
        exact ⟨a, B, sI, pins, σ', H', cls, d, rfl, J, nb, (up.trans up3).trans up4, .inr (.inr (by rw [hs]; exact hh4)), na, os, ag, w⟩
      first
        | exact wpAny_bind (wpAny_pure (wpAny_bind fin))
        | exact wpAny_bind fin
    | @cons x n c i ts b₀ suite np pos' hds2 l2 hc hi hln hsu r ih =>
      intro w
      obtain ⟨b, hb1, hyes, hno⟩ := w
      refine wpAny_handleBy_cons (codeAny_handlers_test ?_) (by intro q; cases q)
      have LT : PySem.W.Looks (model X.prog X.w) h3 (typeOf (.ref a)) cls := fun A Q E s k q => wpAny_typeOf_ref (k _ _ he3) (by rw [hz3.1]; exact q)
      have LM := PySem.W.exm_one (M := model X.prog X.w) (J3.kIn) LT hb1
      have test : ∀ {Q : Value → Shared → Prop} {E : Value → Shared → Prop}, Q c { s' with heap := h3 } → wpAny (model X.prog X.w) (X.A.mark (some (.ref a))) (eval (.Name x np) X.env) Q E { s' with heap := h3 } := fun {Q E} q => by
        obtain ⟨hg, hdbg, hm | ⟨hm, hv, hnn⟩⟩ := hc
        · exact ld_glob (X := X.suite a ((a, oe3) :: (X.pn ++ pins))) S3 hg hm q hdbg
        · exact ld_blt (X := X.suite a ((a, oe3) :: (X.pn ++ pins))) S3 hg hm hv q hnn hdbg
      refine test (LM.here ?_)
      cases b with
      | true =>
        refine codeAny_handlers_suite_as ?_
        refine HandSPX.lands_againZ fl3 fun h4 fl4 up4 => ?_
        have J4 : Inv X pins σ' H' { s' with heap := h4 } := J.landed nb fl4.1 ((up.trans up3).trans up4) os ag
        obtain ⟨oe4, vs4, he4, hz4, hd4⟩ := fl4.there
        have S4 := J4.suite he4 hd4 na nL nF
        refine store_ok (X := X.suite a ((a, oe4) :: (X.pn ++ pins))) (v := .ref a) S4 hN hi (.inl hln) rfl (fun s5 S5 => ?_) (.inr hln)
        refine wpAny_mono ((hsu a oe4 cls d (X.pn ++ pins) hz4 ⟨_, hd4⟩).run [] s5 _ H' _ S5 (hyes rfl a na)) (fun f s6 hsp => ?_) (fun _ _ z => False.elim z)
        have end_ : ∀ {σ6 : L2.St} {H6 : Hp} {Q : Shared → Prop}, Inv (X.suite a ((a, oe4) :: (X.pn ++ pins))) [] σ6 H6 s6 → (∀ s7, Inv X pins (σ6.set i none) H6 s7 → Q s7) →
            wpAny (model X.prog X.w) X.A (do bindName X.env n .none; unbindBehindTheSuite X.env n pos') (fun _ s7 => Q s7) X.xe s6 := fun {σ6 H6 Q} S6 hq => gone_ok (S6.unsuite ok) hN hi hln hq
        cases f with
        | next => obtain ⟨σ6, H6, S6, q6⟩ := hsp; exact end_ S6 fun s7 J7 => ⟨_, _, J7, q6⟩
        | brk => obtain ⟨σ6, H6, S6, q6⟩ := hsp; exact end_ S6 fun s7 J7 => ⟨_, _, J7, q6⟩
        | cont => obtain ⟨σ6, H6, S6, q6⟩ := hsp; exact end_ S6 fun s7 J7 => ⟨_, _, J7, q6⟩
        | ret u => obtain ⟨v6, σ6, H6, S6, r6, q6⟩ := hsp; exact end_ S6 fun s7 J7 => ⟨_, _, _, J7, r6, q6⟩
      | false => exact ih (hno rfl)
  refine wpAny_mono ((hb (wAll X.K Wout D l) (X.pn ++ pins) _ land PassesOwn.looking).run [] s σ H D (I.toTry _) h) (fun f s1 hsp => ?_) (fun e s1 he => he)
  cases f with
  | next => obtain ⟨σ', H', J', q⟩ := hsp; exact wpAny_execs_nil ⟨σ', H', J'.ofTry ok, q⟩
  | brk => obtain ⟨σ', H', J', q⟩ := hsp; exact ⟨σ', H', J'.ofTry ok, q⟩
  | cont => obtain ⟨σ', H', J', q⟩ := hsp; exact ⟨σ', H', J'.ofTry ok, q⟩
  | ret u => obtain ⟨v, σ', H', J', r, q⟩ := hsp; exact ⟨v, σ', H', J'.ofTry ok, r, q⟩

/-- the suite's reading: slot i = [text, yes or no] -/
def tsC (L : Lk) (c' nm i : Nat) (s : List Nat) (b : Bool) : Addr → Value → Option Addr → TS := fun a cls d D σ H => cls = .ref (L.ca c') ∧ d = none ∧ σ[nm]? = some (some (.ref a)) ∧
  ∀ p, H p = none → D.nx (σ.set i (some (.ref p))) (L2.upd H p (.lst [.str (mkS s), .bl b]))
/-- what must be seen of one clause -/
structure HdOk (X : Cx) (L : Lk) (n c' nm i : Nat) (b : Bool) (x nn y x2 : PySem.Str) : Prop where
  hc : Names X x (.ref (L.ca c'))
  hn : X.N[nm]? = some nn
  hl : X.env.kindOf nn = some .local
  hd : (nn == ("__debug__" : PySem.Str)) = false
  hcd : (nn == ("__classdict__" : PySem.Str)) = false
  hi : X.N[i]? = some y
  hy : X.env.scope.names.lookup y = some .local
  ne : i ≠ nm
  lt : c' < n
  gi : Gl X "isinstance"
  mi : X.mg "isinstance" = none
  g2 : Gl X x2
  d2 : (x2 == ("__debug__" : PySem.Str)) = false
  cl : ClF X L c'
  two : ∃ c2, X.mg x2 = some (.ref (L.ca c2)) ∧ PySem.W.kitOne X.K (.ref (L.ca c')) (.ref (L.ca c2)) = some b
theorem suite_s (hN : X.N.Nodup) {n c' nm i : Nat} {s : List Nat} {b : Bool} {x nn y x2 : PySem.Str} (h : HdOk X L n c' nm i b x nn y x2) {py p1 p2 p3 p4 p5 p6 p7 : Pos} {j1 : Nat} :
    ∀ (a : Addr) (oe : Obj) (cls : Value) (d : Option Addr) (pn : List (Addr × Obj)), Zc cls d oe → (∃ vs, oe.data = .fields vs) →
      PSs (X.suite a ((a, oe) :: pn)) [.Assign [.Name y py] (.List [.Constant (.str (mkS s)) j1 p1, .Call (.Name "isinstance" p2) [.Name nn p3, .Name x2 p4] [] p5] p6) p7] (tsC L c' nm i s b a cls d) := by
  intro a oe cls d pn hz hf
  by_cases he : cls = .ref (L.ca c') ∧ d = none
  · obtain ⟨rfl, rfl⟩ := he
    obtain ⟨c2, m2, k2⟩ := h.two
    have hvis : Vis X.env.scope nn := .inl h.hl
    have e1 : PE (X.suite a ((a, oe) :: pn)) (.Name nn p3) (tVar nm) := pe_var h.hn hvis h.hd h.hcd
    have e2 : PE (X.suite a ((a, oe) :: pn)) (.Name x2 p4) (tC (.ref (L.ca c2))) := pe_glob (X := X.suite a ((a, oe) :: pn)) (v := .ref (L.ca c2)) h.g2 m2 rfl h.d2
    have e3 := pe_callB (X := X.suite a ((a, oe) :: pn)) (x := "isinstance") (p := p2) (pos := p5) (call_isE (X := X) (a := a) (D := L.ca c') (pn := pn) h.cl.ec hz hf) h.gi h.mi boot_isinstance (pa_cons e1 (pa_cons e2 pa_nil rfl) rfl) (by decide) (by decide) rfl rfl
    have e4 := pe_lst (pos := p6) (pa_cons (pe_str (X := X.suite a ((a, oe) :: pn)) (x := mkS s) (j := j1) (pos := p1)) (pa_cons e3 pa_nil rfl) rfl)
    refine (pss_one (ps_set (X := X.suite a ((a, oe) :: pn)) (pos' := py) (pos := p7) hN h.hi (.inl h.hy) e4 rfl (.inr h.hy))).imp fun D σ H q => ?_
    obtain ⟨_, _, hs, q⟩ := q
    refine ⟨.ref a, hs, .ref (L.ca c2), .ref (L.ca c2), b, rfl, fun u r => r, k2, ?_, fun p hp => q p hp⟩
    show 2 ≤ sizeLine
    rw [sizeLine_eq]; decide
  · exact pss_never.imp fun D σ H q => he ⟨q.1, q.2.1⟩
def clOf (L : Lk) : IH → List Clause
  | .nil => []
  | .cons _ c nm i s b h => (.ref (L.ca c), nm, tsC L c nm i s b) :: clOf L h
/-- exceptions' classes are apart -/
def Apart (X : Cx) (L : Lk) (n : Nat) : Prop := ∀ c c', c < n → c' < n → PySem.W.exmOne X.K (.ref (L.ca c)) (.ref (L.ca c')) = some (Nat.beq c c')
inductive HOk (X : Cx) (L : Lk) (n : Nat) : IH → List ExceptHandler → Prop
  | nil : HOk X L n .nil []
  | cons {c nm i : Nat} {s : List Nat} {b : Bool} {h : IH} {hds : List ExceptHandler} {x nn y x2 : PySem.Str} {np py p1 p2 p3 p4 p5 p6 p7 p8 : Pos} {j1 : Nat} (k : HdOk X L n c nm i b x nn y x2) (r : HOk X L n h hds) :
      HOk X L n (.cons n c nm i s b h) (.ExceptHandler (some (.Name x np)) (some nn) [.Assign [.Name y py] (.List [.Constant (.str (mkS s)) j1 p1, .Call (.Name "isinstance" p2) [.Name nn p3, .Name x2 p4] [] p5] p6) p7] p8 :: hds)
theorem clauses_of (hN : X.N.Nodup) {n : Nat} : ∀ {h : IH} {hds : List ExceptHandler}, HOk X L n h hds → Clauses X hds (clOf L h)
  | _, _, .nil => .nil
  | _, _, .cons k r => .cons k.hc k.hn k.hl (suite_s hN k) (clauses_of hN r)
theorem wAll_s {n : Nat} (hA : Apart X L n) {gv : Nat → D} : ∀ {h : IH} {hds : List ExceptHandler}, HOk X L n h hds → ∀ {μ : Mu} {H : Hp} {σ : Mini.St} {τ : L2.St} {g : G} {c : Nat} {p : D} {x : Option Addr} {D : Ends} {W : WX},
    RepS L μ H σ τ → RepH L μ g H → RepX L μ H p x → PostS L μ H (denH gv h Γ c p σ g) D W → wAll X.K W D (clOf L h) (.ref (L.ca c)) x τ H
  | _, _, .nil, μ, H, σ, τ, g, c, p, x, D, W, rs, rh, rx, q => q μ H τ x Ext.refl rs rh rx
  | _, _, @HOk.cons _ _ _ c' nm i s b h hds _ _ _ _ _ _ _ _ _ _ _ _ _ _ _ k r, μ, H, σ, τ, g, c, p, x, D, W, rs, rh, rx, q => by
    replace q : PostS L μ H (hCons n c' nm i s b (denH gv h) Γ c p σ g) D W := q
    unfold hCons at q
    cases e1 : Nat.blt c n with
    | false => rw [e1] at q; exact q.elim
    | true =>
      rw [e1] at q
      simp only at q
      refine ⟨Nat.beq c c', hA c c' (Nat.le_of_ble_eq_true e1) k.lt, fun e2 => ?_, fun e2 => ?_⟩
      · rw [e2] at q
        simp only at q
        have ec : c = c' := Nat.eq_of_beq_eq_true e2
        subst ec
        cases rx
        intro a ha
        have q2 := st_s (Q' := fun v H1 => ∃ μ1 d g1, Ext μ H μ1 H1 ∧ RepV L μ1 H1 d v ∧ RepH L μ1 g1 H1 ∧ PostS L μ1 H1 (lset σ i d fun σ1 => lget σ1 nm .stuck fun _ => lset σ1 nm .und fun σ2 => .nx σ2 g1) D W) rs q fun v H1 μ1 d g1 e ra rh1 rs1 h1 => ⟨μ1, d, g1, e, ra, rh1, h1⟩
        obtain ⟨hl, q3⟩ := post_list (vs := [.str (mkS s), .bl b]) q2 rh (.cons (.str s) (.cons (.bl b) .nil))
        have hlen : nm < τ.length := by
          have hq : ∃ p, H p = none := ⟨a, ha⟩
          obtain ⟨μ1, d, g1, e, ra, rh1, h1⟩ := q3 a ha
          simp only [lset_eq, lget_eq] at h1
          cases e5 : (σ.set i d)[nm]? with
          | none => rw [e5] at h1; exact h1.elim
          | some z =>
            have := (List.getElem?_eq_some_iff.mp e5).1
            rw [List.length_set, rs.len] at this
            exact this
        refine ⟨rfl, rfl, by rw [List.getElem?_set_self hlen], fun p hp => ?_⟩
        obtain ⟨μ1, d, g1, e, ra, rh1, h1⟩ := q3 p hp
        simp only [lset_eq, lget_eq] at h1
        cases e5 : (σ.set i d)[nm]? with
        | none => rw [e5] at h1; exact h1.elim
        | some z =>
          rw [e5] at h1
          have rs2 := ((rs.mono e).set i ra).unset nm
          have e6 : ((τ.set nm (some (V.ref a))).set i (some (V.ref p))).set nm none = (τ.set i (some (V.ref p))).set nm none := by
            rw [List.set_comm _ _ (Ne.symm k.ne), List.set_set]
          show D.nx (((τ.set nm (some (V.ref a))).set i (some (V.ref p))).set nm none) _
          rw [e6]
          exact h1 μ1 _ _ Ext.refl rs2 rh1
      · rw [e2] at q
        exact wAll_s hA r rs rh rx q
theorem ps_trS {n : Nat} {gv : Nat → D} {h : IH} {h₀ : ExceptHandler} {hds : List ExceptHandler} {body : List PySem.Stmt} {mb : SK} (hN : X.N.Nodup) (hs : X.stack = X.env :: X.outer) (hf : X.env.frame = some X.env.locals) (tk : Takes X W) (hA : Apart X L n)
    (hb : ∀ (W : WX) (pn : List (Addr × Obj)) (xe : Value → Shared → Prop), Takes (X.tr pn xe) W → PassesOwn (model X.prog X.w) X.A X.env xe → PSs (X.tr pn xe) body (RSt L Γ W mb)) (hh : HOk X L n h (h₀ :: hds)) :
    PS X (.Try body (h₀ :: hds) [] [] pos) (RSt L Γ W (sTr mb (denH gv h))) :=
  (ps_try_all hN hs hf tk hb (clauses_of hN hh)).imp fun D τ H ⟨μ, σ, g, rs, rh, q⟩ => ⟨μ, σ, g, rs, rh, by
    unfold sTr at q
    cases e : mb Γ σ g with
    | exc c p s g1 =>
      rw [e] at q
      exact fun μ' H' τ' x ex rs' rh' rx => wAll_s hA hh rs' rh' rx (PostS.mono ex q)
    | nx s g1 => rw [e] at q; exact q
    | rt d g1 => rw [e] at q; exact q
    | bk s g1 => rw [e] at q; exact q
    | ct s g1 => rw [e] at q; exact q
    | stuck => rw [e] at q; exact q⟩
end Mini
/-! MiniQ: the code of the evaluator beside the program's own. -/
namespace Mini
open PySem PySem.Spec PyProof.Rows L2

noncomputable section
/-! names -/
def seq (x y : PySem.Str) : Bool := neqs x.cps.toList y.cps.toList
theorem seq_eq {x y : PySem.Str} (h : seq x y = true) : x = y := by
  unfold seq at h
  rw [neqs_eq, decide_eq_true_eq] at h
  obtain ⟨⟨x⟩⟩ := x
  obtain ⟨⟨y⟩⟩ := y
  simp at h
  rw [h]
def lkS {α : Type} (x : List Nat) (l : List (List Nat × α)) : Option α := List.rec (motive := fun _ => Option α) none (fun p _ r => match neqs x p.1 with
  | true => some p.2
  | false => r) l
def kindIn (x : PySem.Str) (l : List (PySem.Str × NameKind)) : Option NameKind := List.rec (motive := fun _ => Option NameKind) none (fun p _ r => match seq x p.1 with
  | true => some p.2
  | false => r) l
theorem seq_self (x : PySem.Str) : seq x x = true := by unfold seq; rw [neqs_eq]; simp
theorem kindIn_eq (x : PySem.Str) : ∀ l : List (PySem.Str × NameKind), kindIn x l = l.lookup x
  | [] => rfl
  | (y, k) :: r => by
    show (match seq x y with | true => some k | false => kindIn x r) = _
    rw [List.lookup_cons]
    cases h : seq x y with
    | true => rw [seq_eq h]; simp
    | false =>
      have hne : (x == y) = false := by
        cases e : x == y with
        | false => rfl
        | true =>
          have : x = y := by simpa using e
          subst this
          rw [seq_self] at h; cases h
      rw [hne, ← kindIn_eq x r]
def dbg : List Nat := [95, 95, 100, 101, 98, 117, 103, 95, 95]
def cdt : List Nat := [95, 95, 99, 108, 97, 115, 115, 100, 105, 99, 116, 95, 95]
theorem dbg_is : ("__debug__" : PySem.Str) = mkS dbg := by decide +kernel
theorem cdt_is : ("__classdict__" : PySem.Str) = mkS cdt := by decide +kernel
def notDbg (x : PySem.Str) : Bool := match neqs x.cps.toList dbg with
  | true => false
  | false => (match neqs x.cps.toList cdt with
    | true => false
    | false => true)
theorem ne_of {x : PySem.Str} {l : List Nat} (h : neqs x.cps.toList l = false) : (x == mkS l) = false := by
  rw [beq_eq_false_iff_ne]
  rintro rfl
  rw [mkS_cps, neqs_eq] at h
  simp at h
theorem notDbg_s {x : PySem.Str} (h : notDbg x = true) : (x == ("__debug__" : PySem.Str)) = false ∧ (x == ("__classdict__" : PySem.Str)) = false := by
  unfold notDbg at h
  cases e : neqs x.cps.toList dbg with
  | true => rw [e] at h; cases h
  | false =>
    rw [e] at h
    simp only at h
    cases e2 : neqs x.cps.toList cdt with
    | true => rw [e2] at h; cases h
    | false => exact ⟨by rw [dbg_is]; exact ne_of e, by rw [cdt_is]; exact ne_of e2⟩
def isL (k : Option NameKind) : Bool := match k with
  | some .local => true
  | _ => false
def isVis (k : Option NameKind) : Bool := match k with
  | some .local => true
  | some .cell => true
  | some .free => true
  | _ => false
def isLoc (k : Option NameKind) : Bool := match k with
  | some .local => true
  | some .cell => true
  | _ => false
def isGl (k : Option NameKind) : Bool := match k with
  | some .globalImplicit => true
  | _ => false
/-- slot i holds x -/
def atN (N : List PySem.Str) (i : Nat) (x : PySem.Str) : Bool := lget N i false fun y => seq y x
theorem atN_s {N : List PySem.Str} {i : Nat} {x : PySem.Str} (h : atN N i x = true) : N[i]? = some x := by
  unfold atN at h
  rw [lget_eq] at h
  cases e : N[i]? with
  | none => rw [e] at h; cases h
  | some y => rw [e] at h; rw [seq_eq h]

structure Cf where
  N : List PySem.Str
  fn : List (List Nat × Nat)
  gl : List (List Nat × Nat)
  cl : List (List Nat × Nat)
  nC : Nat
def biN : Bi → List Nat
  | .len => [108, 101, 110] | .abs => [97, 98, 115] | .all => [97, 108, 108] | .any => [97, 110, 121] | .tuple => [116, 117, 112, 108, 101] | .list => [108, 105, 115, 116] | .dict => [100, 105, 99, 116]
  | .sorted => [115, 111, 114, 116, 101, 100] | .str => [115, 116, 114] | .int => [105, 110, 116] | .sum => [115, 117, 109]
theorem biN_is (b : Bi) : biName b = mkS (biN b) := by cases b <;> decide +kernel
def tyN : Ty → List Nat
  | .int => [105, 110, 116] | .bool => [98, 111, 111, 108] | .str => [115, 116, 114] | .tuple => [116, 117, 112, 108, 101] | .list => [108, 105, 115, 116]
theorem tyN_is (t : Ty) : PySem.Str.ofString (tyV' t) = mkS (tyN t) := by cases t <;> decide +kernel
def isiN : List Nat := [105, 115, 105, 110, 115, 116, 97, 110, 99, 101]
theorem isiN_is : ("isinstance" : PySem.Str) = mkS isiN := by decide +kernel
def rngN : List Nat := [114, 97, 110, 103, 101]
theorem rngN_is : ("range" : PySem.Str) = mkS rngN := by decide +kernel
def enumN : List Nat := [101, 110, 117, 109, 101, 114, 97, 116, 101]
theorem enumN_is : ("enumerate" : PySem.Str) = mkS enumN := by decide +kernel
def zipN : List Nat := [122, 105, 112]
theorem zipN_is : ("zip" : PySem.Str) = mkS zipN := by decide +kernel
def appN : List Nat := [97, 112, 112, 101, 110, 100]
theorem appN_is : ("append" : PySem.Str) = mkS appN := by decide +kernel
def popN : List Nat := [112, 111, 112]
theorem popN_is : ("pop" : PySem.Str) = mkS popN := by decide +kernel
def extN : List Nat := [101, 120, 116, 101, 110, 100]
theorem extN_is : ("extend" : PySem.Str) = mkS extN := by decide +kernel
def getN : List Nat := [103, 101, 116]
theorem getN_is : ("get" : PySem.Str) = mkS getN := by decide +kernel
/-- x is this name -/
def isN (x : PySem.Str) (l : List Nat) : Bool := neqs x.cps.toList l
theorem isN_s {x : PySem.Str} {l : List Nat} (h : isN x l = true) : x = mkS l := by
  unfold isN at h
  rw [neqs_eq, decide_eq_true_eq] at h
  obtain ⟨⟨x⟩⟩ := x
  simp at h
  rw [h]; rfl

/-! operators -/
def opIs : BOp → Operator → Bool
  | .add, .Add => true | .sub, .Sub => true | .mul, .Mult => true | .div, .FloorDiv => true | .mod, .Mod => true | .pow, .Pow => true
  | _, _ => false
theorem opIs_s {o : BOp} {p : Operator} (h : opIs o p = true) : p = opOf o := by cases o <;> cases p <;> first | rfl | cases h
def cmpIs : COp → CmpOp → Bool
  | .eq, .Eq => true | .ne, .NotEq => true | .lt, .Lt => true | .le, .LtE => true | .gt, .Gt => true | .ge, .GtE => true | .is_, .Is => true | .isn, .IsNot => true | .in_, .In => true | .nin, .NotIn => true
  | _, _ => false
theorem cmpIs_s {o : COp} {p : CmpOp} (h : cmpIs o p = true) : p = cmpOf o := by cases o <;> cases p <;> first | rfl | cases h
def notSet : PySem.Expr → Bool
  | .Set _ _ _ => false
  | _ => true
theorem marks_s {op : CmpOp} {e : PySem.Expr} (h : notSet e = true) : behindInMarks op e = false := by cases e <;> first | rfl | cases h
theorem folded_s {e : PySem.Expr} {env : Env} (h : notSet e = true) : ∀ x, foldedSetIterable e env x = pure x := by intro x; cases e <;> first | rfl | cases h
def constIs : D → Const → Bool
  | .non, .none => true
  | .bl b, .bool c => (match b with
    | true => c
    | false => !c)
  | .int i, .int j => ieq i j
  | .str s, .str t => neqs s t.cps.toList
  | _, _ => false

theorem constIs_s {L : Lk} {d : D} {k : Const} (h : constIs d k = true) : ∃ v : V, (∀ (X : Cx) (j : Nat) (p : Pos), PE X (.Constant k j p) (tC v)) ∧ ∀ (μ : Mu) (H : Hp), RepV L μ H d v := by
  cases d with
  | non => cases k <;> first | exact ⟨.non, fun X j p => pe_non, fun _ _ => .non⟩ | cases h
  | bl b =>
    cases k with
    | bool c =>
      have e : b = c := by
        cases b <;> cases c <;> first | rfl | cases h
      subst e
      exact ⟨.bl b, fun X j p => pe_bl, fun _ _ => .bl b⟩
    | _ => cases h
  | int i =>
    cases k with
    | int j =>
      have h' : ieq i j = true := h
      rw [ieq_eq, decide_eq_true_eq] at h'
      subst h'
      exact ⟨.int i, fun X j p => pe_int, fun _ _ => .int i⟩
    | _ => cases h
  | str s =>
    cases k with
    | str t =>
      have h' : t = mkS s := by
        have h' : neqs s t.cps.toList = true := h
        rw [neqs_eq, decide_eq_true_eq] at h'
        rw [h']
        obtain ⟨⟨t⟩⟩ := t
        rfl
      subst h'
      exact ⟨.str (mkS s), fun X j p => pe_str, fun _ _ => .str s⟩
    | _ => cases h
  | _ => cases h

/-! the checker -/
def gvars : IG → List Nat
  | .v i => [i]
  | .tup l => gvarss l
  | .sub _ _ => []
where gvarss : IGs → List Nat
  | .nil => []
  | .cons t l => gvars t ++ gvarss l
def isB (l : List Nat) (x : PySem.Str) (k : Option NameKind) : Bool := isN x l && isGl k
def lnEq (a c : Pos) : Bool := a.endLine == c.line
def anyIn (i : Nat) (l : List Nat) : Bool := List.rec (motive := fun _ => Bool) false (fun j _ r => match Nat.beq i j with
  | true => true
  | false => r) l
def subL (l m : List Nat) : Bool := List.rec (motive := fun _ => Bool) true (fun j _ r => match anyIn j m with
  | true => r
  | false => false) l
def nameAt (N : List PySem.Str) (i : Nat) : PySem.Str := lget N i ⟨#[]⟩ id
def ownN (N : List PySem.Str) (own : List Nat) : List (PySem.Str × Nat) := own.map fun i => (nameAt N i, i)
def plainT (e : PySem.Expr) : Bool := match e with
  | .UnaryOp p _ _ => (match p with
    | .Not => false
    | _ => true)
  | .BoolOp _ _ _ => false
  | .IfExp _ _ _ _ => false
  | .Compare _ _ _ _ => false
  | _ => true
def isYes (t : IT) : Bool := match t with
  | .yes => true
  | _ => false
mutual
def ckE (C : Cf) (ns : List (PySem.Str × NameKind)) : IE → PySem.Expr → Bool
  | .c d, e => (match e with
    | .Constant k _ _ => constIs d k
    | _ => false)
  | .v i, e => (match e with
    | .Name x _ => atN C.N i x && (isVis (kindIn x ns) && notDbg x)
    | _ => false)
  | .g n, e => (match e with
    | .Name x _ => isGl (kindIn x ns) && (notDbg x && (match lkS x.cps.toList C.gl with
      | some m => Nat.beq m n
      | none => false))
    | _ => false)
  | .bin o a b, e => (match e with
    | .BinOp x p y _ => opIs o p && (ckE C ns a x && ckE C ns b y)
    | _ => false)
  | .neg a, e => (match e with
    | .UnaryOp p x _ => (match p with
      | .USub => ckE C ns a x
      | _ => false)
    | _ => false)
  | .cmp o a b, e => (match e with
    | .Compare x [p] [y] _ => cmpIs o p && (notSet y && (ckE C ns a x && ckE C ns b y))
    | _ => false)
  | .chain o p a b c, e => (match e with
    | .Compare x [q, r] [y, z] _ => (cmpIs o q && cmpIs p r) && (notSet z && (ckE C ns a x && (ckE C ns b y && ckE C ns c z)))
    | _ => false)
  | .an l, e => (match e with
    | .BoolOp .And es _ => ckB C ns l es
    | _ => false)
  | .orr l, e => (match e with
    | .BoolOp .Or es _ => ckB C ns l es
    | _ => false)
  | .nt a, e => (match e with
    | .UnaryOp p x _ => (match p with
      | .Not => ckE C ns a x
      | _ => false)
    | _ => false)
  | .ife t a b, e => (match e with
    | .IfExp c x y _ => ckT C ns t c && (ckE C ns a x && ckE C ns b y)
    | _ => false)
  | .call f l, e => (match e with
    | .Call (.Name x _) es [] _ => (isGl (kindIn x ns) && (notDbg x && (match lkS x.cps.toList C.fn with
      | some m => Nat.beq m f
      | none => false))) && (ckA C ns l es && es.all notStar)
    | _ => false)
  | .callv i l, e => (match e with
    | .Call (.Name x _) (e1 :: es) [] _ => (atN C.N i x && (isVis (kindIn x ns) && notDbg x)) && (ckA C ns l (e1 :: es) && (e1 :: es).all notStar)
    | _ => false)
  | .bi b a, e => (match e with
    | .Call (.Name x _) [y] [] _ => isB (biN b) x (kindIn x ns) && (ckE C ns a y && notStar y)
    | _ => false)
  | .isi a t, e => (match e with
    | .Call (.Name x _) [y, .Name z _] [] _ => isB isiN x (kindIn x ns) && (isB (tyN t) z (kindIn z ns) && (ckE C ns a y && notStar y))
    | _ => false)
  | .isi2 a t u, e => (match e with
    | .Call (.Name x _) [y, .Tuple [.Name z _, .Name w _] _ _] [] _ => isB isiN x (kindIn x ns) && (isB (tyN t) z (kindIn z ns) && (isB (tyN u) w (kindIn w ns) && (ckE C ns a y && notStar y)))
    | _ => false)
  | .mtA o a, e => (match e with
    | .Call (.Attribute x nm ap) [y] [] cp => isN nm appN && ((ckE C ns o x && (baseOk x && lnEq ap cp)) && (ckE C ns a y && notStar y))
    | _ => false)
  | .mtX o a, e => (match e with
    | .Call (.Attribute x nm ap) [y] [] cp => isN nm extN && ((ckE C ns o x && (baseOk x && lnEq ap cp)) && (ckE C ns a y && notStar y))
    | _ => false)
  | .mtP o, e => (match e with
    | .Call (.Attribute x nm ap) [] [] cp => isN nm popN && (ckE C ns o x && (baseOk x && lnEq ap cp))
    | _ => false)
  | .mtG o a, e => (match e with
    | .Call (.Attribute x nm ap) [y] [] cp => isN nm getN && ((ckE C ns o x && (baseOk x && lnEq ap cp)) && (ckE C ns a y && notStar y))
    | _ => false)
  | .mtH o a b, e => (match e with
    | .Call (.Attribute x nm ap) [y, z] [] cp => isN nm getN && ((ckE C ns o x && (baseOk x && lnEq ap cp)) && ((ckE C ns a y && notStar y) && (ckE C ns b z && notStar z)))
    | _ => false)
  | .ix a b, e => (match e with
    | .Subscript x y _ => notSlice y && (ckE C ns a x && ckE C ns b y)
    | _ => false)
  | .sl a lo hi, e => (match e with
    | .Subscript x (.Slice l h none _) _ => ckE C ns a x && (ckO C ns lo l && ckO C ns hi h)
    | _ => false)
  | .tup l, e => (match e with
    | .Tuple es _ _ => ckA C ns l es && es.all notStar
    | _ => false)
  | .lst l, e => (match e with
    | .List es _ => ckA C ns l es && es.all notStar
    | _ => false)
  | .dnew, e => (match e with
    | .Dict [] [] _ => true
    | _ => false)
  | .lc a own tg it t, e => (match e with
    | .ListComp x [⟨tg', iter, ifs, 0⟩] sc _ => (blkC C.N ⟨.function, ns, false, false, []⟩ sc (ownN C.N own) && (subL (gvars tg) own && notSet iter)) && ((ckI C ns it tg' iter && ckG C sc.names tg tg') && ((match isYes t with
      | true => ifs.isEmpty
      | false => (match ifs with
        | [y] => ckT C sc.names t y
        | _ => false)) && ckE C sc.names a x))
    | _ => false)
def ckA (C : Cf) (ns : List (PySem.Str × NameKind)) : IA → List PySem.Expr → Bool
  | .nil, es => (match es with
    | [] => true
    | _ => false)
  | .cons a l, es => (match es with
    | e :: r => ckE C ns a e && ckA C ns l r
    | [] => false)
/-- the parts of an and, an or -/
def ckB (C : Cf) (ns : List (PySem.Str × NameKind)) : IA → List PySem.Expr → Bool
  | .nil, _ => false
  | .cons a l, es => (match es with
    | e :: r => ckE C ns a e && ckB1 C ns l r
    | [] => false)
def ckB1 (C : Cf) (ns : List (PySem.Str × NameKind)) : IA → List PySem.Expr → Bool
  | .nil, es => (match es with
    | [] => true
    | _ => false)
  | .cons a l, es => (match es with
    | e :: r => ckE C ns a e && ckB1 C ns l r
    | [] => false)
def ckO (C : Cf) (ns : List (PySem.Str × NameKind)) : IO → Option PySem.Expr → Bool
  | .no, e => (match e with
    | none => true
    | some _ => false)
  | .some a, e => (match e with
    | some x => ckE C ns a x
    | none => false)
def ckT (C : Cf) (ns : List (PySem.Str × NameKind)) : IT → PySem.Expr → Bool
  | .yes, _ => false
  | .no t, e => (match e with
    | .UnaryOp p x _ => (match p with
      | .Not => ckT C ns t x
      | _ => false)
    | _ => false)
  | .an l, e => (match e with
    | .BoolOp .And es _ => ckL C ns l es
    | _ => false)
  | .orr l, e => (match e with
    | .BoolOp .Or es _ => ckL C ns l es
    | _ => false)
  | .ife t u v, e => (match e with
    | .IfExp x y z _ => ckT C ns t x && (ckT C ns u y && ckT C ns v z)
    | _ => false)
  | .cmp o a b, e => (match e with
    | .Compare x [p] [y] _ => cmpIs o p && (notSet y && (ckE C ns a x && ckE C ns b y))
    | _ => false)
  | .chain o p a b c, e => (match e with
    | .Compare x [q, r] [y, z] _ => (cmpIs o q && cmpIs p r) && (notSet z && (ckE C ns a x && (ckE C ns b y && ckE C ns c z)))
    | _ => false)
  | .val a, e => plainT e && ckE C ns a e
def ckL (C : Cf) (ns : List (PySem.Str × NameKind)) : ITs → List PySem.Expr → Bool
  | .nil, _ => false
  | .cons a l, es => (match es with
    | e :: r => ckT C ns a e && ckL1 C ns l r
    | [] => false)
def ckL1 (C : Cf) (ns : List (PySem.Str × NameKind)) : ITs → List PySem.Expr → Bool
  | .nil, es => (match es with
    | [] => true
    | _ => false)
  | .cons a l, es => (match es with
    | e :: r => ckT C ns a e && ckL1 C ns l r
    | [] => false)
def ckI (C : Cf) (ns : List (PySem.Str × NameKind)) : II → PySem.Expr → PySem.Expr → Bool
  | .val a, _, e => ckE C ns a e
  | .rng1 a, _, e => (match e with
    | .Call (.Name x _) [y] [] _ => isB rngN x (kindIn x ns) && (ckE C ns a y && notStar y)
    | _ => false)
  | .rng2 a b, _, e => (match e with
    | .Call (.Name x _) [y, z] [] _ => isB rngN x (kindIn x ns) && ((ckE C ns a y && notStar y) && (ckE C ns b z && notStar z))
    | _ => false)
  | .enum a, tg, e => (match tg with
    | .Tuple _ _ _ => (match e with
      | .Call (.Name x _) [y] [] _ => isB enumN x (kindIn x ns) && (ckE C ns a y && notStar y)
      | _ => false)
    | _ => false)
  | .zip a b, tg, e => (match tg with
    | .Tuple _ _ _ => (match e with
      | .Call (.Name x _) [y, z] [] _ => isB zipN x (kindIn x ns) && ((ckE C ns a y && notStar y) && (ckE C ns b z && notStar z))
      | _ => false)
    | _ => false)
def ckG (C : Cf) (ns : List (PySem.Str × NameKind)) : IG → PySem.Expr → Bool
  | .v i, e => (match e with
    | .Name x _ => atN C.N i x && isLoc (kindIn x ns)
    | _ => false)
  | .tup l, e => (match e with
    | .Tuple es _ _ => ckGs C ns l es && es.all notStar
    | _ => false)
  | .sub o i, e => (match e with
    | .Subscript x y _ => notSlice y && (ckE C ns o x && ckE C ns i y)
    | _ => false)
def ckGs (C : Cf) (ns : List (PySem.Str × NameKind)) : IGs → List PySem.Expr → Bool
  | .nil, es => (match es with
    | [] => true
    | _ => false)
  | .cons t l, es => (match es with
    | e :: r => ckG C ns t e && ckGs C ns l r
    | [] => false)
end
end
end Mini
/-! MiniR: the code that stands beside the program's own reads it: expressions. -/
namespace Mini
open PySem PySem.Spec PyProof.Rows L2
variable {L : Lk} {Γ : CF} {gv : Nat → D}

structure Cxt (X : Cx) (L : Lk) (Γ : CF) (C : Cf) (gv : Nat → D) : Prop where
  hK : X.K = L.K
  hu : X.A.units + 65 < cLine
  calm : X.calm = true
  nd : X.N.Nodup
  hN : X.N = C.N
  fns : ∀ f, FnF X L Γ f
  fm : ∀ x n, lkS x C.fn = some n → X.mg (mkS x) = some (.ref (L.fa n))
  gm : ∀ x n, lkS x C.gl = some n → ∃ u v, X.mg (mkS x) = some u ∧ RelV v u ∧ ∀ μ H, RepV L μ H (gv n) v
  bm : ∀ b : Bi, X.mg (biName b) = none
  tm : ∀ t : Ty, X.mg (PySem.Str.ofString (tyV' t)) = none
  im : X.mg "isinstance" = none
  rm : X.mg "range" = none
  em : X.mg "enumerate" = none
  zm : X.mg "zip" = none
abbrev Nm := List (PySem.Str × NameKind)
structure Sc (X : Cx) (ns : Nm) : Prop where
  loc : ∀ x, ns.lookup x = some .local → X.env.scope.names.lookup x = some .local
  cel : ∀ x, ns.lookup x = some .cell → X.env.scope.names.lookup x = some .cell ∧ X.fn x = true
  fre : ∀ x, ns.lookup x = some .free → X.env.scope.names.lookup x = some .free ∨ X.env.scope.names.lookup x = some .cell
  glo : ∀ x, ns.lookup x = some .globalImplicit → X.env.scope.names.lookup x = some .globalImplicit
theorem mkS_of (x : PySem.Str) : mkS x.cps.toList = x := by
  obtain ⟨⟨x⟩⟩ := x
  rfl
theorem lookup_relabel {env : Env} (x : PySem.Str) : ∀ (names : Nm),
    (names.map fun (n, k) => if (k == NameKind.free && env.scope.kind == .function && env.kindOf n == some .cell) then (n, NameKind.cell) else (n, k)).lookup x =
      (names.lookup x).map fun k => if (k == NameKind.free && env.scope.kind == .function && env.kindOf x == some .cell) then NameKind.cell else k
  | [] => rfl
  | (n, k) :: r => by
    have ih := @lookup_relabel env x r
    show List.lookup x ((if (k == NameKind.free && env.scope.kind == .function && env.kindOf n == some .cell) = true then (n, NameKind.cell) else (n, k)) :: _) = _
    by_cases hx : x = n
    · subst hx
      by_cases hc : (k == NameKind.free && env.scope.kind == .function && env.kindOf x == some .cell) = true
      · rw [if_pos hc, List.lookup_cons, List.lookup_cons, beq_self_eq_true]
        exact (congrArg some (if_pos hc)).symm
      · rw [if_neg hc, List.lookup_cons, List.lookup_cons, beq_self_eq_true]
        exact (congrArg some (if_neg hc)).symm
    · have hx' : (x == n) = false := beq_eq_false_iff_ne.mpr hx
      split <;> rw [List.lookup_cons, hx', List.lookup_cons, hx', ← ih]
theorem Sc.blk {X : Cx} {ns : Nm} (s : Shared) (H : Hp) (scope : Scope) (cl : List (PySem.Str × Addr)) (C : Addr) (fp : List Addr) : Sc (X.blk s H scope (compEnvC scope cl C X.env) fp) scope.names := by
  have e : ∀ x, (X.blk s H scope (compEnvC scope cl C X.env) fp).env.scope.names.lookup x = (scope.names.lookup x).map fun k => if (k == NameKind.free && X.env.scope.kind == .function && X.env.kindOf x == some .cell) then NameKind.cell else k := fun x => lookup_relabel x scope.names
  refine ⟨fun x h => ?_, fun x h => ⟨?_, ?_⟩, fun x h => ?_, fun x h => ?_⟩
  · rw [e, h]; rfl
  · rw [e, h]; rfl
  · show (scope.names.lookup x == some .cell) = true
    rw [h]; rfl
  · rw [e, h]
    simp only [Option.map_some]
    split
    · exact .inr rfl
    · exact .inl rfl
  · rw [e, h]; rfl
theorem Sc.blkOk {X : Cx} {ns : Nm} (S : Sc X ns) {N : List PySem.Str} {scope : Scope} {own : List (PySem.Str × Nat)} (h : BlkOk N ⟨.function, ns, false, false, []⟩ scope own) : BlkOk N X.env.scope scope own :=
  ⟨h.kind, h.uniq, h.ix, fun y hy e => by
    rcases h.free y hy e with z | z
    · exact .inl (S.cel _ z).1
    · rcases S.fre _ z with z | z
      · exact .inr z
      · exact .inl z, h.own⟩
theorem Cxt.blk {X : Cx} {C : Cf} (c : Cxt X L Γ C gv) (s : Shared) (H : Hp) (scope : Scope) (ce : Env) (fp : List Addr) : Cxt (X.blk s H scope ce fp) L Γ C gv :=
  ⟨c.hK, c.hu, c.calm, c.nd, c.hN, fun f => ⟨(c.fns f).ex⟩, c.fm, c.gm, c.bm, c.tm, c.im, c.rm, c.em, c.zm⟩
section
variable {X : Cx} {ns : Nm}
theorem Sc.vis (S : Sc X ns) {x : PySem.Str} (h : isVis (kindIn x ns) = true) : Vis X.env.scope x := by
  rw [kindIn_eq] at h
  cases e : ns.lookup x with
  | none => rw [e] at h; cases h
  | some k =>
    rw [e] at h
    cases k with
    | «local» => exact .inl (S.loc x e)
    | cell => exact .inr (.inl (S.cel x e).1)
    | free => exact .inr ((S.fre x e).symm)
    | _ => cases h
theorem Sc.lc (S : Sc X ns) {x : PySem.Str} (h : isLoc (kindIn x ns) = true) : Loc X.env.scope x ∧ (X.fn x = true ∨ X.env.scope.names.lookup x = some .local) := by
  rw [kindIn_eq] at h
  cases e : ns.lookup x with
  | none => rw [e] at h; cases h
  | some k =>
    rw [e] at h
    cases k with
    | «local» => exact ⟨.inl (S.loc x e), .inr (S.loc x e)⟩
    | cell => exact ⟨.inr (S.cel x e).1, .inl (S.cel x e).2⟩
    | _ => cases h
theorem Sc.gl (S : Sc X ns) {x : PySem.Str} (h : isGl (kindIn x ns) = true) : Gl X x := by
  rw [kindIn_eq] at h
  cases e : ns.lookup x with
  | none => rw [e] at h; cases h
  | some k =>
    rw [e] at h
    cases k with
    | globalImplicit => exact S.glo x e
    | _ => cases h
theorem Sc.isB (S : Sc X ns) {x : PySem.Str} {l : List Nat} (h : isB l x (kindIn x ns) = true) : x = mkS l ∧ Gl X x := by
  unfold Mini.isB at h
  rw [Bool.and_eq_true] at h
  exact ⟨isN_s h.1, S.gl h.2⟩
theorem lk_of {x : PySem.Str} {l : List (List Nat × Nat)} {n : Nat} (h : (match lkS x.cps.toList l with | some m => Nat.beq m n | none => false) = true) : lkS x.cps.toList l = some n := by
  cases e : lkS x.cps.toList l with
  | none => rw [e] at h; cases h
  | some m => rw [e] at h; rw [Nat.eq_of_beq_eq_true h]
end
theorem anyIn_s {i : Nat} : ∀ {l : List Nat}, anyIn i l = true → i ∈ l
  | [], h => by cases h
  | j :: r, h => by
    replace h : (match Nat.beq i j with | true => true | false => anyIn i r) = true := h
    cases e : Nat.beq i j with
    | true => rw [Nat.eq_of_beq_eq_true e]; exact List.mem_cons_self
    | false => rw [e] at h; exact List.mem_cons_of_mem _ (anyIn_s h)
theorem subL_s {m : List Nat} : ∀ {l : List Nat}, subL l m = true → ∀ i ∈ l, i ∈ m
  | [], h, i, hi => by cases hi
  | j :: r, h, i, hi => by
    replace h : (match anyIn j m with | true => subL r m | false => false) = true := h
    cases e : anyIn j m with
    | false => rw [e] at h; cases h
    | true =>
      rw [e] at h
      rcases List.mem_cons.mp hi with z | z
      · rw [z]; exact anyIn_s e
      · exact subL_s h i z
theorem ownN_s (N : List PySem.Str) (own : List Nat) : (ownN N own).map (·.2) = own := by
  unfold ownN
  rw [List.map_map]
  show own.map id = own
  simp
theorem plainT_s {e : PySem.Expr} {env : Env} (h : plainT e = true) : ∀ whole, isTrue e env whole = (do let v ← whole; standAt e.pos; holding [v] (truthy v)) := by
  intro whole
  cases e <;> first | rfl | cases h | skip
  rename_i p _ _
  cases p <;> first | rfl | cases h
theorem plainIx_s {e : PySem.Expr} (h : notSlice e = true) : PlainIx e := by intro o i; cases e <;> first | rfl | cases h

theorem lenG_s {C : Cf} {ns : Nm} : ∀ (l : IGs) (es : List PySem.Expr), ckGs C ns l es = true → lenG l = es.length
  | .nil, es, h => by
    unfold ckGs at h; split at h
    · rfl
    · cases h
  | .cons t l, es, h => by
    unfold ckGs at h; split at h
    · rw [Bool.and_eq_true] at h
      show lenG l + 1 = _
      rw [lenG_s l _ h.2]; rfl
    · cases h
theorem yes_s {X : Cx} {W : WX} {t : IT} {es : List PySem.Expr} (hy : isYes t = true) (h : es.isEmpty = true) : PTs X es (RT L Γ W (denT gv t)) := by
  cases t <;> first | cases hy | skip
  cases es with
  | nil => exact ⟨fun pins s σ H Q I q => pts_nil.run pins s σ H Q I (let ⟨_, _, _, _, rh, z⟩ := q; z.val rfl rh)⟩
  | cons _ _ => cases h
mutual
theorem sE {C : Cf} {X : Cx} {W : WX} (c : Cxt X L Γ C gv) (tk : Takes X W) {ns : Nm} (S : Sc X ns) : ∀ (i : IE) (e : PySem.Expr), ckE C ns i e = true → PE X e (RD L Γ W (denE gv i))
  | .c d, e, h => by
    unfold ckE at h; split at h
    · obtain ⟨v, hv, r⟩ := constIs_s (L := L) h
      exact (hv X _ _).imp (c_s r)
    · cases h
  | .v i, e, h => by
    unfold ckE at h; split at h
    · simp only [Bool.and_eq_true] at h
      obtain ⟨h1, h2, h3⟩ := h
      have h1 := atN_s h1
      rw [← c.hN] at h1
      exact pe_varS h1 (S.vis h2) (notDbg_s h3).1 (notDbg_s h3).2
    · cases h
  | .g n, e, h => by
    unfold ckE at h; split at h
    · rename_i x p
      simp only [Bool.and_eq_true] at h
      obtain ⟨h1, h2, h3⟩ := h
      obtain ⟨u, v, hm, r, k⟩ := c.gm _ _ (lk_of h3)
      rw [mkS_of] at hm
      exact (pe_glob (S.gl h1) hm r (notDbg_s h2).1).imp (c_s k)
    · cases h
  | .bin o a b, e, h => by
    unfold ckE at h; split at h
    · simp only [Bool.and_eq_true] at h
      obtain ⟨h1, h2, h3⟩ := h
      rw [opIs_s h1]
      exact pe_binS c.hK (sE c tk S a _ h2) (sE c tk S b _ h3)
    · cases h
  | .neg a, e, h => by
    unfold ckE at h; split at h
    · split at h
      · exact pe_negS (sE c tk S a _ h)
      · cases h
    · cases h
  | .cmp o a b, e, h => by
    unfold ckE at h; split at h
    · simp only [Bool.and_eq_true] at h
      obtain ⟨h1, h2, h3, h4⟩ := h
      rw [cmpIs_s h1]
      exact pe_cmpS c.hK c.hu (sE c tk S a _ h3) (sE c tk S b _ h4) (marks_s h2)
    · cases h
  | .chain o p a b d, e, h => by
    unfold ckE at h; split at h
    · simp only [Bool.and_eq_true] at h
      obtain ⟨⟨h1, h1'⟩, h2, h3, h4, h5⟩ := h
      rw [cmpIs_s h1, cmpIs_s h1']
      exact pe_chainS c.hK c.hu (sE c tk S a _ h3) (sE c tk S b _ h4) (sE c tk S d _ h5) (marks_s h2)
    · cases h
  | .an l, e, h => by
    unfold ckE at h; split at h
    · exact sAn c tk S l _ h
    · cases h
  | .orr l, e, h => by
    unfold ckE at h; split at h
    · exact sOr c tk S l _ h
    · cases h
  | .nt a, e, h => by
    unfold ckE at h; split at h
    · split at h
      · exact pe_notS c.hK (sE c tk S a _ h)
      · cases h
    · cases h
  | .ife t a b, e, h => by
    unfold ckE at h; split at h
    · simp only [Bool.and_eq_true] at h
      obtain ⟨h1, h2, h3⟩ := h
      exact pe_ifS (sT c tk S t _ h1) (sE c tk S a _ h2) (sE c tk S b _ h3)
    · cases h
  | .call f l, e, h => by
    unfold ckE at h; split at h
    · rename_i x p es pos
      simp only [Bool.and_eq_true] at h
      obtain ⟨⟨h1, h2, h3⟩, h4, h5⟩ := h
      have hm := c.fm _ _ (lk_of h3)
      rw [mkS_of] at hm
      cases es with
      | nil =>
        cases l with
        | nil => exact pe_callF0 (c.fns f) tk (S.gl h1) hm (notDbg_s h2).1
        | cons _ _ => unfold ckA at h4; cases h4
      | cons e1 es => exact pe_callF (c.fns f) tk (S.gl h1) hm (sA c tk S l _ h4 h5) (notDbg_s h2).1 h5
    · cases h
  | .callv i l, e, h => by
    unfold ckE at h; split at h
    · simp only [Bool.and_eq_true] at h
      obtain ⟨⟨h1, h2, h3⟩, h4, h5⟩ := h
      have h1 := atN_s h1
      rw [← c.hN] at h1
      exact pe_callvF c.fns tk h1 (S.vis h2) (sA c tk S l _ h4 h5) (notDbg_s h3).1 (notDbg_s h3).2 h5
    · cases h
  | .bi b a, e, h => by
    unfold ckE at h; split at h
    · simp only [Bool.and_eq_true] at h
      obtain ⟨h1, h2, h3⟩ := h
      obtain ⟨ex, hg⟩ := S.isB h1
      subst ex
      rw [← biN_is] at hg ⊢
      exact pe_biS c.hK c.calm b hg (c.bm b) (sE c tk S a _ h2) h3
    · cases h
  | .isi a t, e, h => by
    unfold ckE at h; split at h
    · simp only [Bool.and_eq_true] at h
      obtain ⟨h1, h2, h3, h4⟩ := h
      obtain ⟨ex, hg⟩ := S.isB h1
      obtain ⟨ex2, hg2⟩ := S.isB h2
      subst ex ex2
      rw [← isiN_is] at hg ⊢
      rw [← tyN_is] at hg2 ⊢
      exact pe_isiS c.hK t hg c.im hg2 (c.tm t) (sE c tk S a _ h3) h4
    · cases h
  | .isi2 a t u, e, h => by
    unfold ckE at h; split at h
    · simp only [Bool.and_eq_true] at h
      obtain ⟨h1, h2, h2', h3, h4⟩ := h
      obtain ⟨ex, hg⟩ := S.isB h1
      obtain ⟨ex2, hg2⟩ := S.isB h2
      obtain ⟨ex3, hg3⟩ := S.isB h2'
      subst ex ex2 ex3
      rw [← isiN_is] at hg ⊢
      rw [← tyN_is] at hg2 hg3 ⊢
      rw [← tyN_is]
      exact pe_isi2S c.hK t u hg c.im hg2 (c.tm t) hg3 (c.tm u) (sE c tk S a _ h3) h4
    · cases h
  | .mtA o a, e, h => by
    unfold ckE at h; split at h
    · simp only [Bool.and_eq_true] at h
      obtain ⟨h1, ⟨h2, h3, h4⟩, h5, h6⟩ := h
      rw [isN_s h1, ← appN_is]
      exact pe_appendS c.hK (sE c tk S o _ h2) (sE c tk S a _ h5) h3 h4 h6
    · cases h
  | .mtX o a, e, h => by
    unfold ckE at h; split at h
    · simp only [Bool.and_eq_true] at h
      obtain ⟨h1, ⟨h2, h3, h4⟩, h5, h6⟩ := h
      rw [isN_s h1, ← extN_is]
      exact pe_extendS c.hK (sE c tk S o _ h2) (sE c tk S a _ h5) h3 h4 h6
    · cases h
  | .mtP o, e, h => by
    unfold ckE at h; split at h
    · simp only [Bool.and_eq_true] at h
      obtain ⟨h1, h2, h3, h4⟩ := h
      rw [isN_s h1, ← popN_is]
      exact pe_popS c.hK (sE c tk S o _ h2) h3 h4
    · cases h
  | .mtG o a, e, h => by
    unfold ckE at h; split at h
    · simp only [Bool.and_eq_true] at h
      obtain ⟨h1, ⟨h2, h3, h4⟩, h5, h6⟩ := h
      rw [isN_s h1, ← getN_is]
      exact pe_get1S c.hK c.hu (sE c tk S o _ h2) (sE c tk S a _ h5) h3 h4 h6
    · cases h
  | .mtH o a b, e, h => by
    unfold ckE at h; split at h
    · simp only [Bool.and_eq_true] at h
      obtain ⟨h1, ⟨h2, h3, h4⟩, ⟨h5, h6⟩, h7, h8⟩ := h
      rw [isN_s h1, ← getN_is]
      exact pe_get2S c.hK c.hu (sE c tk S o _ h2) (sE c tk S a _ h5) (sE c tk S b _ h7) h3 h4 h6 h8
    · cases h
  | .ix a b, e, h => by
    unfold ckE at h; split at h
    · simp only [Bool.and_eq_true] at h
      obtain ⟨h1, h2, h3⟩ := h
      exact pe_ixS c.hK c.hu (sE c tk S a _ h2) (sE c tk S b _ h3) (plainIx_s h1)
    · cases h
  | .sl a lo hi, e, h => by
    unfold ckE at h; split at h
    · simp only [Bool.and_eq_true] at h
      obtain ⟨h1, h2, h3⟩ := h
      exact pe_slS c.hK (sE c tk S a _ h1) (sO c tk S lo _ h2) (sO c tk S hi _ h3)
    · cases h
  | .tup l, e, h => by
    unfold ckE at h; split at h
    · simp only [Bool.and_eq_true] at h
      exact pe_tupS (sA c tk S l _ h.1 h.2)
    · cases h
  | .lst l, e, h => by
    unfold ckE at h; split at h
    · simp only [Bool.and_eq_true] at h
      exact pe_lstS (sA c tk S l _ h.1 h.2)
    · cases h
  | .dnew, e, h => by
    unfold ckE at h; split at h
    · exact pe_dnewS
    · cases h
  | .lc a own tg it t, e, h => by
    unfold ckE at h; split at h
    · rename_i x tg' iter ifs sc pos
      simp only [Bool.and_eq_true] at h
      obtain ⟨⟨h1, h2, h3⟩, ⟨h4, h5⟩, h6, h7⟩ := h
      have ok := S.blkOk (blkOk_by h1)
      rw [← c.hN] at ok
      have e1 := ownN_s X.N own
      have pg : ∀ (s : Shared) (H : Hp) (A : Addr) (cl : List (PySem.Str × Addr)) (fp : List Addr), PG (X.blk s H sc (compEnvC sc cl A X.env) fp) tg' (RG L Γ ((ownN X.N own).map (·.2)) (denG gv tg)) := fun s H A cl fp => by
        rw [e1]
        exact sG (c.blk s H sc _ fp) (Sc.blk s H sc cl A fp (ns := ns)) tg (subL_s h2) tg' h5
      have r := pe_lcS (L := L) (Γ := Γ) (W := W) (pos := pos) c.calm c.nd (sI c tk S it tg' iter h4) ok pg
        (fun s H A cl fp => by
          split at h6
          · rename_i hy
            exact yes_s (gv := gv) hy h6
          · split at h6
            · exact pts_one (sT (c.blk s H sc _ fp) takesF (Sc.blk s H sc cl A fp (ns := ns)) t _ h6)
            · cases h6)
        (fun s H A cl fp => sE (c.blk s H sc _ fp) takesF (Sc.blk s H sc cl A fp (ns := ns)) a x h7) (folded_s h3)
      rw [e1] at r
      exact r
    · cases h
theorem sA {C : Cf} {X : Cx} {W : WX} (c : Cxt X L Γ C gv) (tk : Takes X W) {ns : Nm} (S : Sc X ns) : ∀ (l : IA) (es : List PySem.Expr), ckA C ns l es = true → es.all notStar = true → PA X es (RA L Γ W (denA gv l))
  | .nil, es, h, hs => by
    unfold ckA at h; split at h
    · exact pa_nilS
    · cases h
  | .cons a l, es, h, hs => by
    unfold ckA at h; split at h
    · rw [Bool.and_eq_true] at h
      rw [List.all_cons, Bool.and_eq_true] at hs
      exact pa_consS (sE c tk S a _ h.1) (sA c tk S l _ h.2 hs.2) (star_cons hs.1)
    · cases h
theorem sAn {C : Cf} {X : Cx} {W : WX} (c : Cxt X L Γ C gv) (tk : Takes X W) {ns : Nm} (S : Sc X ns) {pos : Pos} : ∀ (l : IA) (es : List PySem.Expr), ckB C ns l es = true → PE X (.BoolOp .And es pos) (RD L Γ W (denAn gv l))
  | .nil, es, h => by unfold ckB at h; cases h
  | .cons a l, es, h => by
    unfold ckB at h; split at h
    · rw [Bool.and_eq_true] at h
      exact sAn1 c tk S l _ _ _ (sE c tk S a _ h.1) h.2
    · cases h
theorem sAn1 {C : Cf} {X : Cx} {W : WX} (c : Cxt X L Γ C gv) (tk : Takes X W) {ns : Nm} (S : Sc X ns) {pos : Pos} : ∀ (l : IA) (es : List PySem.Expr) (e : PySem.Expr) (m : EK), PE X e (RD L Γ W m) → ckB1 C ns l es = true → PE X (.BoolOp .And (e :: es) pos) (RD L Γ W (denAn1 gv m l))
  | .nil, es, e, m, he, h => by
    unfold ckB1 at h; split at h
    · exact pe_one he
    · cases h
  | .cons a l, es, e, m, he, h => by
    unfold ckB1 at h; split at h
    · rw [Bool.and_eq_true] at h
      exact pe_andS c.hK he (sAn1 c tk S l _ _ _ (sE c tk S a _ h.1) h.2)
    · cases h
theorem sOr {C : Cf} {X : Cx} {W : WX} (c : Cxt X L Γ C gv) (tk : Takes X W) {ns : Nm} (S : Sc X ns) {pos : Pos} : ∀ (l : IA) (es : List PySem.Expr), ckB C ns l es = true → PE X (.BoolOp .Or es pos) (RD L Γ W (denOr gv l))
  | .nil, es, h => by unfold ckB at h; cases h
  | .cons a l, es, h => by
    unfold ckB at h; split at h
    · rw [Bool.and_eq_true] at h
      exact sOr1 c tk S l _ _ _ (sE c tk S a _ h.1) h.2
    · cases h
theorem sOr1 {C : Cf} {X : Cx} {W : WX} (c : Cxt X L Γ C gv) (tk : Takes X W) {ns : Nm} (S : Sc X ns) {pos : Pos} : ∀ (l : IA) (es : List PySem.Expr) (e : PySem.Expr) (m : EK), PE X e (RD L Γ W m) → ckB1 C ns l es = true → PE X (.BoolOp .Or (e :: es) pos) (RD L Γ W (denOr1 gv m l))
  | .nil, es, e, m, he, h => by
    unfold ckB1 at h; split at h
    · exact pe_one he
    · cases h
  | .cons a l, es, e, m, he, h => by
    unfold ckB1 at h; split at h
    · rw [Bool.and_eq_true] at h
      exact pe_orS c.hK he (sOr1 c tk S l _ _ _ (sE c tk S a _ h.1) h.2)
    · cases h
theorem sO {C : Cf} {X : Cx} {W : WX} (c : Cxt X L Γ C gv) (tk : Takes X W) {ns : Nm} (S : Sc X ns) : ∀ (o : IO) (e : Option PySem.Expr), ckO C ns o e = true → PO X e (RO L Γ W (denO gv o))
  | .no, e, h => by
    unfold ckO at h; split at h
    · exact po_noneS
    · cases h
  | .some a, e, h => by
    unfold ckO at h; split at h
    · exact po_someS (sE c tk S a _ h)
    · cases h
theorem sT {C : Cf} {X : Cx} {W : WX} (c : Cxt X L Γ C gv) (tk : Takes X W) {ns : Nm} (S : Sc X ns) : ∀ (t : IT) (e : PySem.Expr), ckT C ns t e = true → PT X e (RT L Γ W (denT gv t))
  | .yes, e, h => by unfold ckT at h; cases h
  | .no t, e, h => by
    unfold ckT at h; split at h
    · split at h
      · exact pt_notS (sT c tk S t _ h)
      · cases h
    · cases h
  | .an l, e, h => by
    unfold ckT at h; split at h
    · exact (sTan c tk S l _ h).pt
    · cases h
  | .orr l, e, h => by
    unfold ckT at h; split at h
    · exact (sTor c tk S l _ h).pt
    · cases h
  | .ife t u v, e, h => by
    unfold ckT at h; split at h
    · simp only [Bool.and_eq_true] at h
      exact pt_ifS (sT c tk S t _ h.1) (sT c tk S u _ h.2.1) (sT c tk S v _ h.2.2)
    · cases h
  | .cmp o a b, e, h => by
    unfold ckT at h; split at h
    · simp only [Bool.and_eq_true] at h
      obtain ⟨h1, h2, h3, h4⟩ := h
      rw [cmpIs_s h1]
      exact pt_cmpS c.hK c.hu (sE c tk S a _ h3) (sE c tk S b _ h4) (marks_s h2)
    · cases h
  | .chain o p a b d, e, h => by
    unfold ckT at h; split at h
    · simp only [Bool.and_eq_true] at h
      obtain ⟨⟨h1, h1'⟩, h2, h3, h4, h5⟩ := h
      rw [cmpIs_s h1, cmpIs_s h1']
      exact pt_chainS c.hK c.hu (sE c tk S a _ h3) (sE c tk S b _ h4) (sE c tk S d _ h5) (marks_s h2)
    · cases h
  | .val a, e, h => by
    unfold ckT at h
    rw [Bool.and_eq_true] at h
    exact pt_valS c.hK (sE c tk S a _ h.2) (plainT_s h.1)
theorem sTan {C : Cf} {X : Cx} {W : WX} (c : Cxt X L Γ C gv) (tk : Takes X W) {ns : Nm} (S : Sc X ns) {pos : Pos} : ∀ (l : ITs) (es : List PySem.Expr), ckL C ns l es = true → PW X (.BoolOp .And es pos) (RT L Γ W (denTan gv l))
  | .nil, es, h => by unfold ckL at h; cases h
  | .cons a l, es, h => by
    unfold ckL at h; split at h
    · rw [Bool.and_eq_true] at h
      exact sTan1 c tk S l _ _ _ (sT c tk S a _ h.1) h.2
    · cases h
theorem sTan1 {C : Cf} {X : Cx} {W : WX} (c : Cxt X L Γ C gv) (tk : Takes X W) {ns : Nm} (S : Sc X ns) {pos : Pos} : ∀ (l : ITs) (es : List PySem.Expr) (e : PySem.Expr) (m : TK), PT X e (RT L Γ W m) → ckL1 C ns l es = true → PW X (.BoolOp .And (e :: es) pos) (RT L Γ W (denTan1 gv m l))
  | .nil, es, e, m, he, h => by
    unfold ckL1 at h; split at h
    · exact pw_and1S he
    · cases h
  | .cons a l, es, e, m, he, h => by
    unfold ckL1 at h; split at h
    · rw [Bool.and_eq_true] at h
      exact pw_andS he (sTan1 c tk S l _ _ _ (sT c tk S a _ h.1) h.2)
    · cases h
theorem sTor {C : Cf} {X : Cx} {W : WX} (c : Cxt X L Γ C gv) (tk : Takes X W) {ns : Nm} (S : Sc X ns) {pos : Pos} : ∀ (l : ITs) (es : List PySem.Expr), ckL C ns l es = true → PW X (.BoolOp .Or es pos) (RT L Γ W (denTor gv l))
  | .nil, es, h => by unfold ckL at h; cases h
  | .cons a l, es, h => by
    unfold ckL at h; split at h
    · rw [Bool.and_eq_true] at h
      exact sTor1 c tk S l _ _ _ (sT c tk S a _ h.1) h.2
    · cases h
theorem sTor1 {C : Cf} {X : Cx} {W : WX} (c : Cxt X L Γ C gv) (tk : Takes X W) {ns : Nm} (S : Sc X ns) {pos : Pos} : ∀ (l : ITs) (es : List PySem.Expr) (e : PySem.Expr) (m : TK), PT X e (RT L Γ W m) → ckL1 C ns l es = true → PW X (.BoolOp .Or (e :: es) pos) (RT L Γ W (denTor1 gv m l))
  | .nil, es, e, m, he, h => by
    unfold ckL1 at h; split at h
    · exact pw_or1S he
    · cases h
  | .cons a l, es, e, m, he, h => by
    unfold ckL1 at h; split at h
    · rw [Bool.and_eq_true] at h
      exact pw_orS he (sTor1 c tk S l _ _ _ (sT c tk S a _ h.1) h.2)
    · cases h
theorem sI {C : Cf} {X : Cx} {W : WX} (c : Cxt X L Γ C gv) (tk : Takes X W) {ns : Nm} (S : Sc X ns) : ∀ (i : II) (tg e : PySem.Expr), ckI C ns i tg e = true → PI X tg e (RI L Γ W (denI gv i))
  | .val a, tg, e, h => by
    unfold ckI at h
    exact pi_valS c.hK (sE c tk S a _ h)
  | .rng1 a, tg, e, h => by
    unfold ckI at h; split at h
    · simp only [Bool.and_eq_true] at h
      obtain ⟨h1, h2, h3⟩ := h
      obtain ⟨ex, hg⟩ := S.isB h1
      subst ex
      rw [← rngN_is] at hg ⊢
      exact pi_rng1S hg c.rm (sE c tk S a _ h2) h3
    · cases h
  | .rng2 a b, tg, e, h => by
    unfold ckI at h; split at h
    · simp only [Bool.and_eq_true] at h
      obtain ⟨h1, ⟨h2, h3⟩, h4, h5⟩ := h
      obtain ⟨ex, hg⟩ := S.isB h1
      subst ex
      rw [← rngN_is] at hg ⊢
      exact pi_rng2S hg c.rm (sE c tk S a _ h2) (sE c tk S b _ h4) h3 h5
    · cases h
  | .enum a, tg, e, h => by
    unfold ckI at h; split at h
    · split at h
      · simp only [Bool.and_eq_true] at h
        obtain ⟨h1, h2, h3⟩ := h
        obtain ⟨ex, hg⟩ := S.isB h1
        subst ex
        rw [← enumN_is] at hg ⊢
        exact pi_enumS c.hK hg c.em (sE c tk S a _ h2) h3
      · cases h
    · cases h
  | .zip a b, tg, e, h => by
    unfold ckI at h; split at h
    · split at h
      · simp only [Bool.and_eq_true] at h
        obtain ⟨h1, ⟨h2, h3⟩, h4, h5⟩ := h
        obtain ⟨ex, hg⟩ := S.isB h1
        subst ex
        rw [← zipN_is] at hg ⊢
        exact pi_zipS c.hK hg c.zm (sE c tk S a _ h2) (sE c tk S b _ h4) h3 h5
      · cases h
    · cases h
theorem sG {C : Cf} {X : Cx} (c : Cxt X L Γ C gv) {ns : Nm} (S : Sc X ns) {vs : List Nat} : (t : IG) → (∀ i : Nat, i ∈ gvars t → i ∈ vs) → ∀ (e : PySem.Expr), ckG C ns t e = true → PG X e (RG L Γ vs (denG gv t))
  | .v i, hv, e, h => by
    unfold ckG at h; split at h
    · rw [Bool.and_eq_true] at h
      have h1 := atN_s h.1
      rw [← c.hN] at h1
      obtain ⟨hl, hf⟩ := S.lc h.2
      exact pg_vS c.nd h1 hl hf (hv i (by simp [gvars]))
    · cases h
  | .tup l, hv, e, h => by
    unfold ckG at h; split at h
    · rw [Bool.and_eq_true] at h
      have hl := lenG_s l _ h.1
      have r := fun p k => pg_tupS c.hK c.calm (pos := p) (k := k) (sGs c S l (fun i hi => hv i (by simpa [gvars] using hi)) _ h.1 h.2) h.2
      rw [← hl] at r
      exact r _ _
    · cases h
  | .sub o i, hv, e, h => by
    unfold ckG at h; split at h
    · simp only [Bool.and_eq_true] at h
      obtain ⟨h1, h2, h3⟩ := h
      exact pg_subS (W := WF) c.hu (sE c takesF S o _ h2) (sE c takesF S i _ h3) h1
    · cases h
theorem sGs {C : Cf} {X : Cx} (c : Cxt X L Γ C gv) {ns : Nm} (S : Sc X ns) {vs : List Nat} : (l : IGs) → (∀ i : Nat, i ∈ gvars.gvarss l → i ∈ vs) → ∀ (es : List PySem.Expr), ckGs C ns l es = true → es.all notStar = true → PGs X es (RGs L Γ vs (denGs gv l))
  | .nil, hv, es, h, hs => by
    unfold ckGs at h; split at h
    · exact pgs_nilS
    · cases h
  | .cons t l, hv, es, h, hs => by
    unfold ckGs at h; split at h
    · rw [Bool.and_eq_true] at h
      rw [List.all_cons, Bool.and_eq_true] at hs
      exact pgs_consS (sG c S t (fun i hi => hv i (by simp [gvars.gvarss, hi])) _ h.1) (sGs c S l (fun i hi => hv i (by simp [gvars.gvarss, hi])) _ h.2 hs.2) hs.1
    · cases h
end
end Mini
/-! MiniS: the code that stands beside the program's own reads it: statements. -/
namespace Mini
open PySem PySem.Spec PyProof.Rows L2
variable {L : Lk} {Γ : CF} {gv : Nat → D}

noncomputable section
/-! comprehensions that swap with the stored name -/
def hasNm (t : PySem.Str) (l : List (PySem.Str × NameKind)) : Bool := l.any fun (n, k) => n == t && (k == .local || k == .cell)
def swp (ns : Nm) (a : PySem.Expr) (t : PySem.Str) (p : Pos) : Bool := match a with
  | .ListComp _ _ s q => isL (kindIn t ns) && (p.line == q.line && !hasNm t s.names)
  | _ => false
def notComp : PySem.Expr → Bool
  | .ListComp _ _ _ _ => false
  | .SetComp _ _ _ _ => false
  | .DictComp _ _ _ _ _ => false
  | _ => true
def okComp : PySem.Expr → Bool
  | .SetComp _ _ _ _ => false
  | .DictComp _ _ _ _ _ => false
  | _ => true
def notName : PySem.Expr → Bool
  | .Name _ _ => false
  | _ => true
theorem isL_s {ns : Nm} {x : PySem.Str} : isL (kindIn x ns) = (ns.lookup x == some .local) := by
  rw [kindIn_eq]
  cases ns.lookup x with
  | none => rfl
  | some k => cases k <;> rfl
theorem swp_s {env : Env} {ns : Nm} (hk : env.scope.kind = .function) (hn : env.scope.names = ns) {a : PySem.Expr} {t : PySem.Str} {p : Pos} {line : Nat} (ha : okComp a = true) : swapsWith a (some (.Name t p)) line env = pure (swp ns a t p) := by
  have hb : env.blockKind = .function := by unfold Env.blockKind; rw [hk]; rfl
  cases a <;> first | rfl | cases ha | skip
  rename_i e gs s q
  show (pure (env.blockKind == .function && env.kindOf t == some .local && p.line == (PySem.Expr.ListComp e gs s q).pos.line && !(s.names.any fun (n, k) => n == t && (k == .local || k == .cell))) : Sem Bool) = _
  rw [hb]
  unfold Env.kindOf
  rw [hn]
  unfold swp hasNm
  rw [isL_s]
  show (pure (true && (ns.lookup t == some .local) && (p.line == q.line) && !_) : Sem Bool) = _
  rw [Bool.true_and, Bool.and_assoc]
theorem swS_s {env : Env} {a tg : PySem.Expr} {line : Nat} (ha : okComp a = true) (ht : notName tg = true) : swapsWithSole [tg] a line env = pure false := by
  show swapsWith a (some tg) line env = pure false
  cases a <;> first | rfl | (cases tg <;> first | rfl | (cases ht; done)) | (cases ha; done)
theorem swE_s {env : Env} {a : PySem.Expr} {line : Nat} (ha : notComp a = true) : swapsWith a none line env = pure false := by cases a <;> first | rfl | cases ha
/-! pairs stored -/
def pairOk (ns : Nm) (x y : PySem.Str) (px py : Pos) (a b : PySem.Expr) : Bool := (isL (kindIn x ns) && isL (kindIn y ns)) && ((py.line == px.line && !(seq x y)) && (!((foldedForSure 8 a && foldedForSure 8 b)) && !((constantsAlone 8 a && constantsAlone 8 b))))
theorem pair_s {env : Env} {ns : Nm} (hk : env.scope.kind = .function) (hn : env.scope.names = ns) {x y : PySem.Str} {px py pt pt2 : Pos} {kt k2 : Nat} {a b : PySem.Expr} (h : pairOk ns x y px py a b = true) (ha : notStar a = true) (hb : notStar b = true) :
    swappedStores [.Tuple [.Name x px, .Name y py] kt pt] (.Tuple [a, b] k2 pt2) env = pure (some [x, y]) := by
  have hbk : env.blockKind = .function := by unfold Env.blockKind; rw [hk]; rfl
  unfold pairOk at h
  simp only [Bool.and_eq_true, Bool.not_eq_true'] at h
  obtain ⟨⟨h1, h2⟩, ⟨h3, h4⟩, h5, h6⟩ := h
  rw [isL_s] at h1 h2
  have hne : (x == y) = false := by
    cases e : x == y with
    | false => rfl
    | true =>
      have : x = y := by simpa using e
      subst this
      rw [seq_self] at h4; cases h4
  have hxk : env.kindOf x = some NameKind.local := by unfold Env.kindOf; rw [hn]; exact eq_of_beq h1
  have hyk : env.kindOf y = some NameKind.local := by unfold Env.kindOf; rw [hn]; exact eq_of_beq h2
  have h3' : py.line = px.line := eq_of_beq h3
  have hyx : (y == x) = false := by
    rw [beq_eq_false_iff_ne] at hne ⊢
    exact fun e => hne e.symm
  unfold swappedStores
  simp only [List.length_cons, List.length_nil, hbk]
  rw [if_neg (by decide), if_neg, if_neg, if_neg, if_neg]
  · simp [List.filterMap_cons, hxk, hyk, h3', PySem.Expr.pos]
  · simp [h6]
  · simp [h5]
  · simp [List.filterMap_cons, hxk, hyk, h3', PySem.Expr.pos, List.eraseDups_cons, hne, hyx]
  · intro hh
    simp only [List.any_cons, List.any_nil, Bool.or_false, Bool.or_eq_true] at hh
    rcases hh with hh | hh
    · cases a <;> first | (cases hh; done) | (cases ha; done)
    · cases b <;> first | (cases hh; done) | (cases hb; done)
def notPlain (ns : Nm) : PySem.Expr → Bool
  | .Name x _ => !isL (kindIn x ns)
  | _ => true
def noSw (ns : Nm) (tg a : PySem.Expr) : Bool := match tg with
  | .Tuple ts _ _ => (match a with
    | .Tuple vs _ _ => ts.any (notPlain ns) || vs.all (foldedForSure 8)
    | _ => true)
  | .List _ _ => false
  | _ => true
theorem fm_len {α β : Type} {f : α → Option β} : ∀ {l : List α} {t : α}, t ∈ l → f t = none → (l.filterMap f).length < l.length
  | a :: r, t, h, e => by
    rw [List.filterMap_cons]
    rcases List.mem_cons.mp h with z | z
    · subst z
      rw [e]
      exact Nat.lt_succ_of_le (List.length_filterMap_le f r)
    · have ih := fm_len z e
      cases f a with
      | none => exact Nat.lt_succ_of_lt ih
      | some b => exact Nat.succ_lt_succ ih
theorem noSw_s {env : Env} {ns : Nm} (hn : env.scope.names = ns) {tg a : PySem.Expr} (h : noSw ns tg a = true) : swappedStores [tg] a env = pure none := by
  cases tg <;> first | rfl | (cases h; done) | skip
  rename_i ts kt pt
  cases a <;> first | rfl | skip
  rename_i vs kv pv
  have h' : ts.any (notPlain ns) = true ∨ vs.all (foldedForSure 8) = true := by
    rw [← Bool.or_eq_true]; exact h
  unfold swappedStores
  simp only
  split
  · rfl
  · split
    · rfl
    · split
      · rfl
      · split
        · rfl
        · exfalso
          rename_i h3 h4
          rcases h' with h' | h'
          · obtain ⟨t, ht, hp⟩ := List.any_eq_true.mp h'
            apply h3
            rw [Bool.or_eq_true]
            left
            rw [bne_iff_ne]
            refine Nat.ne_of_lt (fm_len ht ?_)
            cases t <;> first | rfl | skip
            rename_i x px
            have hp' : isL (kindIn x ns) = false := by simpa [notPlain] using hp
            rw [isL_s] at hp'
            simp only
            rw [if_neg]
            intro z
            rw [Bool.and_eq_true] at z
            have z1 := z.1
            unfold Env.kindOf at z1
            rw [hn] at z1
            rw [hp'] at z1
            cases z1
          · exact h4 h'

/-! the checker -/
def nilSt : List PySem.Stmt → Bool
  | [] => true
  | _ => false
mutual
def ckS (C : Cf) (ns : Nm) : IS → PySem.Stmt → Bool
  | .set i a, s => (match s with
    | .Assign [.Name x p] e _ => (atN C.N i x && isLoc (kindIn x ns)) && (okComp e && ckE C ns a e)
    | _ => false)
  | .par i j a b, s => (match s with
    | .Assign [.Tuple [.Name x px, .Name y py] _ _] (.Tuple [e, f] _ _) _ => (atN C.N i x && (atN C.N j y && !(Nat.beq i j))) && ((notStar e && notStar f) && (pairOk ns x y px py e f && (ckE C ns a e && ckE C ns b f)))
    | _ => false)
  | .asg tg a, s => (match s with
    | .Assign [t] e _ => (notName t && (notStar t && okComp e)) && (noSw ns t e && (ckG C ns tg t && ckE C ns a e))
    | _ => false)
  | .ex a, s => (match s with
    | .Expr e _ => notComp e && ckE C ns a e
    | _ => false)
  | .ret a, s => (match s with
    | .Return (some e) _ => ckE C ns a e
    | _ => false)
  | .retN, s => (match s with
    | .Return none _ => true
    | _ => false)
  | .ife t p q, s => (match s with
    | .If c a b _ => ckT C ns t c && (ckSs C ns p a && ckSs C ns q b)
    | _ => false)
  | .whl t p, s => (match s with
    | .While c a [] _ => ckT C ns t c && ckSs C ns p a
    | _ => false)
  | .fr tg it p, s => (match s with
    | .For t e a [] _ => (notSet e && ckI C ns it t e) && (ckG C ns tg t && ckSs C ns p a)
    | _ => false)
  | .rse n, s => (match s with
    | .Raise (some (.Call (.Name x _) [] [] _)) none _ => isGl (kindIn x ns) && (notDbg x && (match lkS x.cps.toList C.cl with
      | some m => Nat.beq m n
      | none => false))
    | _ => false)
  | .tr p h, s => (match s with
    | .Try a (h0 :: hs) [] [] _ => ckSs C ns p a && ckH C ns h (h0 :: hs)
    | _ => false)
  | .pass, s => (match s with
    | .Pass _ => true
    | _ => false)
  | .brk, s => (match s with
    | .Break _ => true
    | _ => false)
  | .cont, s => (match s with
    | .Continue _ => true
    | _ => false)
def ckSs (C : Cf) (ns : Nm) : IB → List PySem.Stmt → Bool
  | .nil, l => nilSt l
  | .cons a b, l => (match l with
    | s :: r => ckS C ns a s && ckSs C ns b r
    | [] => false)
def ckH (C : Cf) (ns : Nm) : IH → List ExceptHandler → Bool
  | .nil, l => l.isEmpty
  | .cons n c nm i t b h, l => (match l with
    | .ExceptHandler (some (.Name x _)) (some nn) [.Assign [.Name y _] (.List [.Constant (.str u) _ _, .Call (.Name f _) [.Name n2 _, .Name x2 _] [] _] _) _] _ :: r =>
      ((Nat.beq n C.nC && (isGl (kindIn x ns) && (notDbg x && (match lkS x.cps.toList C.cl with
        | some m => Nat.beq m c
        | none => false)))) && ((atN C.N nm nn && (isL (kindIn nn ns) && notDbg nn)) && ((atN C.N i y && (isL (kindIn y ns) && !(Nat.beq i nm))) && ((neqs t u.cps.toList && (isB isiN f (kindIn f ns) && seq n2 nn)) &&
          ((isGl (kindIn x2 ns) && (notDbg x2 && (match lkS x2.cps.toList C.cl with
            | some m => !(Nat.beq m c)
            | none => false))) && !b))))) && ckH C ns h r
    | _ => false)
end
end
/-- what stands around a statement -/
structure Sx (X : Cx) (W : WX) (L : Lk) (Γ : CF) (C : Cf) (gv : Nat → D) (ns : Nm) : Prop where
  c : Cxt X L Γ C gv
  tk : Takes X W
  sc : X.env.scope.names = ns
  kd : X.env.scope.kind = .function
  fnA : ∀ x, X.fn x = true
  po : PassesOwn (model X.prog X.w) X.A X.env X.xe
  stk : X.stack = X.env :: X.outer
  frm : X.env.frame = some X.env.locals
  cm : ∀ x n, lkS x C.cl = some n → X.mg (mkS x) = some (.ref (L.ca n)) ∧ n < C.nC
  cls : ∀ n, n < C.nC → ClF X L n
  ap : Apart X L C.nC
  kit : ∀ n m, n < C.nC → m < C.nC → n ≠ m → PySem.W.kitOne X.K (.ref (L.ca n)) (.ref (L.ca m)) = some false
theorem Sx.scp {X : Cx} {W : WX} {C : Cf} {ns : Nm} (x : Sx X W L Γ C gv ns) : Sc X ns :=
  ⟨fun y h => by rw [x.sc]; exact h, fun y h => ⟨by rw [x.sc]; exact h, x.fnA y⟩, fun y h => by rw [x.sc]; exact .inl h, fun y h => by rw [x.sc]; exact h⟩
theorem Sx.tr {X : Cx} {W W' : WX} {C : Cf} {ns : Nm} (x : Sx X W L Γ C gv ns) {pn : List (Addr × Obj)} {xe : Value → Shared → Prop} (tk : Takes (X.tr pn xe) W') (po : PassesOwn (model X.prog X.w) X.A X.env xe) : Sx (X.tr pn xe) W' L Γ C gv ns :=
  ⟨⟨x.c.hK, x.c.hu, x.c.calm, x.c.nd, x.c.hN, fun f => ⟨(x.c.fns f).ex⟩, x.c.fm, x.c.gm, x.c.bm, x.c.tm, x.c.im, x.c.rm, x.c.em, x.c.zm⟩, tk, x.sc, x.kd, x.fnA, po, x.stk, x.frm, x.cm,
    fun n hn => let k := x.cls n hn; ⟨k.ex, k.kp, k.sb, k.ty, k.ec⟩, x.ap, x.kit⟩
theorem isL_of {ns : Nm} {x : PySem.Str} (h : isL (kindIn x ns) = true) : ns.lookup x = some .local := by
  rw [isL_s] at h
  exact eq_of_beq h
theorem sH {C : Cf} {X : Cx} {W : WX} {ns : Nm} (x : Sx X W L Γ C gv ns) : ∀ (h : IH) (l : List ExceptHandler), ckH C ns h l = true → HOk X L C.nC h l
  | .nil, l, h => by
    unfold ckH at h
    cases l with
    | nil => exact .nil
    | cons _ _ => cases h
  | .cons n c nm i t b hh, l, h => by
    unfold ckH at h; split at h
    · rename_i x1 np nn y py u j1 p1 f p2 n2 p3 x2 p4 p5 p6 p7 p8 r
      simp only [Bool.and_eq_true, Bool.not_eq_true'] at h
      obtain ⟨⟨⟨g1, g2, g3, g4⟩, ⟨g5, g6, g7⟩, ⟨g8, g9, g10⟩, ⟨g11, g12, g13⟩, ⟨g14, g15, g16⟩, g17⟩, g18⟩ := h
      subst g17
      have e1 : n = C.nC := Nat.eq_of_beq_eq_true g1
      subst e1
      obtain ⟨m4, l4⟩ := x.cm _ _ (lk_of g4)
      rw [mkS_of] at m4
      have e2 := seq_eq g13
      subst e2
      obtain ⟨ef, gf⟩ := x.scp.isB g12
      subst ef
      have eu : u = mkS t := by
        rw [neqs_eq, decide_eq_true_eq] at g11
        rw [g11, mkS_of]
      subst eu
      have g5 := atN_s g5
      have g8 := atN_s g8
      rw [← x.c.hN] at g5 g8
      rw [← isiN_is] at gf ⊢
      have hne : i ≠ nm := fun e => by subst e; rw [Nat.beq_refl] at g10; cases g10
      have two : ∃ c2, X.mg x2 = some (.ref (L.ca c2)) ∧ PySem.W.kitOne X.K (.ref (L.ca c)) (.ref (L.ca c2)) = some false := by
        cases e : lkS x2.cps.toList C.cl with
        | none => rw [e] at g16; cases g16
        | some m =>
          rw [e] at g16
          obtain ⟨m5, l5⟩ := x.cm _ _ e
          rw [mkS_of] at m5
          refine ⟨m, m5, x.kit c m l4 l5 fun z => ?_⟩
          subst z
          have g16' : (!(Nat.beq c c)) = true := g16
          rw [Nat.beq_refl] at g16'; cases g16'
      exact .cons ⟨⟨x.scp.gl g2, (notDbg_s g3).1, .inl m4⟩, g5, by unfold Env.kindOf; rw [x.sc]; exact isL_of g6, (notDbg_s g7).1, (notDbg_s g7).2, g8, by rw [x.sc]; exact isL_of g9, hne, l4, gf, x.c.im, x.scp.gl g14, (notDbg_s g15).1, x.cls c l4, two⟩ (sH x hh r g18)
    · cases h
end Mini
/-! MiniT: statements read; defs. -/
namespace Mini
open PySem PySem.Spec PyProof.Rows L2
variable {L : Lk} {Γ : CF} {gv : Nat → D}

theorem sLcSet {C : Cf} {X : Cx} {W : WX} {ns : Nm} (x : Sx X W L Γ C gv ns) {i : Nat} {y : PySem.Str} {py spos : Pos} {e : PySem.Expr} (hy : X.N[i]? = some y) (hyl : X.env.scope.names.lookup y = some .local)
    (hsw : swapsWith e (some (.Name y py)) spos.line X.env = pure true) : ∀ (a : IE), (∃ x gs sc p, e = .ListComp x gs sc p) → ckE C ns a e = true → PS X (.Assign [.Name y py] e spos) (RSt L Γ W (sSet i (denE gv a)))
  | .lc a own tg it t, he, h => by
    have c := x.c
    have S := x.scp
    unfold ckE at h; split at h
    · rename_i xx tg' iter ifs sc pos
      simp only [Bool.and_eq_true] at h
      obtain ⟨⟨h1, h2, h3⟩, ⟨h4, h5⟩, h6, h7⟩ := h
      have ok := S.blkOk (blkOk_by h1)
      rw [← c.hN] at ok
      have e1 := ownN_s X.N own
      have pg : ∀ (s : Shared) (H : Hp) (A : Addr) (cl : List (PySem.Str × Addr)) (fp : List Addr), PG (X.blk s H sc (compEnvC sc cl A X.env) fp) tg' (RG L Γ ((ownN X.N own).map (·.2)) (denG gv tg)) := fun s H A cl fp => by
        rw [e1]
        exact sG (c.blk s H sc _ fp) (Sc.blk s H sc cl A fp (ns := ns)) tg (subL_s h2) tg' h5
      have r := ps_setLcS (L := L) (Γ := Γ) (W := W) (pos := pos) (spos := spos) c.calm c.nd hy hyl hsw (sI c x.tk S it tg' iter h4) ok pg
        (fun s H A cl fp => by
          split at h6
          · rename_i hy
            exact yes_s (gv := gv) hy h6
          · split at h6
            · exact pts_one (sT (c.blk s H sc _ fp) takesF (Sc.blk s H sc cl A fp (ns := ns)) t _ h6)
            · cases h6)
        (fun s H A cl fp => sE (c.blk s H sc _ fp) takesF (Sc.blk s H sc cl A fp (ns := ns)) a xx h7) (folded_s h3)
      rw [e1] at r
      exact r
    · cases h
  | .c _, ⟨_, _, _, _, he⟩, h => by subst he; unfold ckE at h; cases h
  | .v _, ⟨_, _, _, _, he⟩, h => by subst he; unfold ckE at h; cases h
  | .g _, ⟨_, _, _, _, he⟩, h => by subst he; unfold ckE at h; cases h
  | .bin _ _ _, ⟨_, _, _, _, he⟩, h => by subst he; unfold ckE at h; cases h
  | .neg _, ⟨_, _, _, _, he⟩, h => by subst he; unfold ckE at h; cases h
  | .cmp _ _ _, ⟨_, _, _, _, he⟩, h => by subst he; unfold ckE at h; cases h
  | .chain _ _ _ _ _, ⟨_, _, _, _, he⟩, h => by subst he; unfold ckE at h; cases h
  | .an _, ⟨_, _, _, _, he⟩, h => by subst he; unfold ckE at h; cases h
  | .orr _, ⟨_, _, _, _, he⟩, h => by subst he; unfold ckE at h; cases h
  | .nt _, ⟨_, _, _, _, he⟩, h => by subst he; unfold ckE at h; cases h
  | .ife _ _ _, ⟨_, _, _, _, he⟩, h => by subst he; unfold ckE at h; cases h
  | .call _ _, ⟨_, _, _, _, he⟩, h => by subst he; unfold ckE at h; cases h
  | .callv _ _, ⟨_, _, _, _, he⟩, h => by subst he; unfold ckE at h; cases h
  | .bi _ _, ⟨_, _, _, _, he⟩, h => by subst he; unfold ckE at h; cases h
  | .isi _ _, ⟨_, _, _, _, he⟩, h => by subst he; unfold ckE at h; cases h
  | .isi2 _ _ _, ⟨_, _, _, _, he⟩, h => by subst he; unfold ckE at h; cases h
  | .mtA _ _, ⟨_, _, _, _, he⟩, h => by subst he; unfold ckE at h; cases h
  | .mtX _ _, ⟨_, _, _, _, he⟩, h => by subst he; unfold ckE at h; cases h
  | .mtP _, ⟨_, _, _, _, he⟩, h => by subst he; unfold ckE at h; cases h
  | .mtG _ _, ⟨_, _, _, _, he⟩, h => by subst he; unfold ckE at h; cases h
  | .mtH _ _ _, ⟨_, _, _, _, he⟩, h => by subst he; unfold ckE at h; cases h
  | .ix _ _, ⟨_, _, _, _, he⟩, h => by subst he; unfold ckE at h; cases h
  | .sl _ _ _, ⟨_, _, _, _, he⟩, h => by subst he; unfold ckE at h; cases h
  | .tup _, ⟨_, _, _, _, he⟩, h => by subst he; unfold ckE at h; cases h
  | .lst _, ⟨_, _, _, _, he⟩, h => by subst he; unfold ckE at h; cases h
  | .dnew, ⟨_, _, _, _, he⟩, h => by subst he; unfold ckE at h; cases h
mutual
theorem sS {C : Cf} {X : Cx} {W : WX} {ns : Nm} (x : Sx X W L Γ C gv ns) : ∀ (i : IS) (s : PySem.Stmt), ckS C ns i s = true → PS X s (RSt L Γ W (denS gv i))
  | .set i a, s, h => by
    unfold ckS at h; split at h
    · rename_i y py e spos
      simp only [Bool.and_eq_true] at h
      obtain ⟨⟨h1, h2⟩, h3, h4⟩ := h
      have h1 := atN_s h1
      rw [← x.c.hN] at h1
      obtain ⟨hl, hf⟩ := x.scp.lc h2
      have sw := swp_s (env := X.env) (line := spos.line) x.kd x.sc (a := e) (t := y) (p := py) h3
      cases hs : swp ns e y py with
      | false =>
        rw [hs] at sw
        exact ps_setS x.c.nd h1 hl (sE x.c x.tk x.scp a e h4) sw hf
      | true =>
        rw [hs] at sw
        have he : ∃ x gs sc p, e = .ListComp x gs sc p := by cases e <;> first | exact ⟨_, _, _, _, rfl⟩ | cases hs
        have hyl : X.env.scope.names.lookup y = some .local := by
          obtain ⟨x', gs, sc, p, rfl⟩ := he
          unfold swp at hs
          rw [Bool.and_eq_true] at hs
          rw [x.sc]
          exact isL_of hs.1
        exact sLcSet x h1 hyl sw a he h4
    · cases h
  | .par i j a b, s, h => by
    unfold ckS at h; split at h
    · simp only [Bool.and_eq_true, Bool.not_eq_true'] at h
      obtain ⟨⟨h1, h2, h3⟩, ⟨h4, h5⟩, h6, h7, h8⟩ := h
      have h1 := atN_s h1
      have h2 := atN_s h2
      rw [← x.c.hN] at h1 h2
      have hne : i ≠ j := fun e => by subst e; rw [Nat.beq_refl] at h3; cases h3
      have hp := h6
      unfold pairOk at hp
      simp only [Bool.and_eq_true] at hp
      exact ps_parS x.c.calm x.c.nd h1 h2 hne (by rw [x.sc]; exact isL_of hp.1.1) (by rw [x.sc]; exact isL_of hp.1.2) (sE x.c x.tk x.scp a _ h7) (sE x.c x.tk x.scp b _ h8) h4 h5 (pair_s x.kd x.sc h6 h4 h5)
    · cases h
  | .asg tg a, s, h => by
    unfold ckS at h; split at h
    · simp only [Bool.and_eq_true] at h
      obtain ⟨⟨h1, h2, h3⟩, h4, h5, h6⟩ := h
      exact ps_asgS (vs := gvars tg) (sE x.c x.tk x.scp a _ h6) (sG x.c x.scp tg (fun i hi => hi) _ h5) (swS_s h3 h1) (noSw_s x.sc h4) h2
    · cases h
  | .ex a, s, h => by
    unfold ckS at h; split at h
    · rw [Bool.and_eq_true] at h
      exact ps_exS (sE x.c x.tk x.scp a _ h.2) (swE_s h.1)
    · cases h
  | .ret a, s, h => by
    unfold ckS at h; split at h
    · exact ps_retS (sE x.c x.tk x.scp a _ h)
    · cases h
  | .retN, s, h => by
    unfold ckS at h; split at h
    · exact ps_retNS
    · cases h
  | .ife t p q, s, h => by
    unfold ckS at h; split at h
    · simp only [Bool.and_eq_true] at h
      exact ps_ifS (sT x.c x.tk x.scp t _ h.1) (sSs x p _ h.2.1) (sSs x q _ h.2.2)
    · cases h
  | .whl t p, s, h => by
    unfold ckS at h; split at h
    · rw [Bool.and_eq_true] at h
      exact ps_whlS x.po (sT x.c x.tk x.scp t _ h.1) (sSs x p _ h.2)
    · cases h
  | .fr tg it p, s, h => by
    unfold ckS at h; split at h
    · simp only [Bool.and_eq_true] at h
      obtain ⟨⟨h1, h2⟩, h3, h4⟩ := h
      exact ps_forS (vs := gvars tg) x.po x.c.calm (sI x.c x.tk x.scp it _ _ h2) (sG x.c x.scp tg (fun i hi => hi) _ h3) (sSs x p _ h4) (folded_s h1)
    · cases h
  | .rse n, s, h => by
    unfold ckS at h; split at h
    · simp only [Bool.and_eq_true] at h
      obtain ⟨h1, h2, h3⟩ := h
      obtain ⟨hm, hl⟩ := x.cm _ _ (lk_of h3)
      rw [mkS_of] at hm
      exact ps_rseS x.c.calm x.tk (x.cls n hl) (x.scp.gl h1) hm (notDbg_s h2).1
    · cases h
  | .tr p hh, s, h => by
    unfold ckS at h; split at h
    · rw [Bool.and_eq_true] at h
      exact ps_trS x.c.nd x.stk x.frm x.tk x.ap (fun W' pn xe tk' po => sSs (x.tr tk' po) p _ h.1) (sH x hh _ h.2)
    · cases h
  | .pass, s, h => by
    unfold ckS at h; split at h
    · exact ps_passS
    · cases h
  | .brk, s, h => by
    unfold ckS at h; split at h
    · exact ps_brkS
    · cases h
  | .cont, s, h => by
    unfold ckS at h; split at h
    · exact ps_contS
    · cases h
theorem sSs {C : Cf} {X : Cx} {W : WX} {ns : Nm} (x : Sx X W L Γ C gv ns) : ∀ (b : IB) (l : List PySem.Stmt), ckSs C ns b l = true → PSs X l (RSt L Γ W (denB gv b))
  | .nil, l, h => by
    unfold ckSs at h
    cases l with
    | nil => exact pss_nilS
    | cons _ _ => cases h
  | .cons a b, l, h => by
    unfold ckSs at h; split at h
    · rw [Bool.and_eq_true] at h
      exact pss_consS (sS x a _ h.1) (sSs x b _ h.2)
    · cases h
end
end Mini
/-! MiniU: defs by the depth of calls; the law's end. -/
namespace Mini
open PySem PySem.Spec PyProof.Rows L2
variable {L : Lk} {gv : Nat → D}

/-! binding -/
def BindOk (a : Arguments) (ps : List PySem.Str) : Prop := ∀ (x qual : PySem.Str) (body : List PySem.Stmt) (scope : Scope) (kV doc pm : Value) (an : Option Addr) (cdv ct : Value) (us : List Value), us.length = ps.length →
  bindArgs (PySem.W.fnOf x qual a body scope .none kV doc pm an cdv ct) ⟨us, []⟩ = pure (ps.zip us)
/-- a def of the text and the evaluator's code of it -/
structure DefR where
  name : PySem.Str
  args : Arguments
  body : List PySem.Stmt
  scope : Scope
  N : List PySem.Str
  ps : List PySem.Str
  ir : IB
def DefR.dd (d : DefR) : He.DefD := ⟨(d.name, none), d.name, d.name, d.args, d.body, d.scope, [], []⟩
structure DefR.Ok (d : DefR) (C : Cf) : Prop where
  sc : FnScope d.N d.ps d.scope
  ck : ckSs { C with N := d.N } d.scope.names d.ir d.body = true
  bn : BindOk d.args d.ps
structure Prg (K : PySem.W.Frag) (mg : PySem.Str → Option Value) (L : Lk) (T : FT) (gv : Nat → D) (C : Cf) : Prop where
  hL : L.K = K
  fd : ∀ f, ∃ (d : DefR) (fd : FuncData), FunD K d.name d.name d.args d.body d.scope [] [] (L.fa f) fd ∧ d.Ok C ∧ (T.at? f = none ∨ ∃ pu, T.at? f = some ⟨d.ps.length, d.N.length, pu, denB gv d.ir⟩)
  fm : ∀ x n, lkS x C.fn = some n → mg (mkS x) = some (.ref (L.fa n))
  gm : ∀ x n, lkS x C.gl = some n → ∃ u v, mg (mkS x) = some u ∧ RelV v u ∧ ∀ μ H, RepV L μ H (gv n) v
  bm : ∀ b : Bi, mg (biName b) = none
  tm : ∀ t : Ty, mg (PySem.Str.ofString (tyV' t)) = none
  im : mg "isinstance" = none
  rm : mg "range" = none
  em : mg "enumerate" = none
  zm : mg "zip" = none
  cm : ∀ x n, lkS x C.cl = some n → mg (mkS x) = some (.ref (L.ca n)) ∧ n < C.nC
  cls : ∀ X : Cx, X.K = K → ∀ n, n < C.nC → ClF X L n
  ap : ∀ X : Cx, X.K = K → Apart X L C.nC
  kit : ∀ n m, n < C.nC → m < C.nC → n ≠ m → PySem.W.kitOne K (.ref (L.ca n)) (.ref (L.ca m)) = some false
theorem lapp_st {vs : List D} {n : Nat} : lapp vs (reps n [D.und]) id = vs ++ List.replicate n D.und := by
  rw [lapp_eq, reps_eq]
  show vs ++ (List.replicate n [D.und]).flatten = _
  congr 1
  induction n with
  | zero => rfl
  | succ n ih => rw [List.replicate_succ, List.flatten_cons, ih]; rfl
theorem start_s {μ : Mu} {H : Hp} {ds : List D} {vs : List V} {N : List PySem.Str} {n : Nat} (r : RepVs L μ H ds vs) (hn : n = N.length - vs.length) (hle : vs.length ≤ N.length) : RepS L μ H (ds ++ List.replicate n .und) (start N vs) := by
  have hl := r.length
  refine ⟨?_, fun i d h nd => ?_⟩
  · unfold L2.start
    simp only [List.length_append, List.length_replicate, List.length_map]
    omega
  · by_cases hi : i < ds.length
    · rw [List.getElem?_append_left hi] at h
      obtain ⟨v, hv, rv⟩ := r.get h
      refine ⟨v, ?_, rv⟩
      unfold L2.start
      rw [List.getElem?_append_left (by rw [List.length_map, ← hl]; exact hi), List.getElem?_map, hv]
      rfl
    · rw [List.getElem?_append_right (by omega), List.getElem?_replicate] at h
      split at h
      · exact absurd (Option.some.inj h).symm nd
      · cases h
theorem end_s {μ : Mu} {H : Hp} {r : RS} {Q : VK} {E : XK} (h : Post L (RepV L) μ H [] (endD r) Q (fun cls d _ H' => E cls d H')) : PostS L μ H r { nx := fun _ H' => Q .non H', rt := Q } (fun cls d _ H => E cls d H) := by
  cases r with
  | nx s g => exact fun μ' H' t e rs rh => h μ' H' .non e .non rh
  | rt d g => exact fun μ' H' v e rv rh => h μ' H' v e rv rh
  | exc c p s g => exact fun μ' H' t x e rs rh rx => h μ' H' x e rh rx
  | bk s g => exact h.elim
  | ct s g => exact h.elim
  | stuck => exact h.elim
section
variable {P : Program} {w : World} {K : PySem.W.Frag} {mg : PySem.Str → Option Value} {base : Heap} {T : FT} {C : Cf}
theorem vac {k f : Nat} {Γ : CF} {fd : FuncData} {ps : List PySem.Str} (h : ∀ ds g, Γ f ds g = .stuck) : FnOk P w K mg base (L2.CX P w) k (L.fa f) fd ps (spOf L Γ f) := by
  have hx : ∀ vs H Q E, ¬ spOf L Γ f vs H Q E := fun vs H Q E ⟨F, μ, ds, g, _, _, p⟩ => by rw [h] at p; exact p
  exact ⟨fun vs H Q E q => (hx _ _ _ _ q).elim, fun A outer s H args us vs Q E _ _ _ _ q => (hx _ _ _ _ q).elim⟩
theorem ClF.fr {X : Cx} {n : Nat} {F : Hp} (h : ClF X L n) : ClF X (L.fr F) n := ⟨h.ex, h.kp, h.sb, h.ty, h.ec⟩
theorem Prg.fr (p : Prg K mg L T gv C) (F : Hp) : Prg K mg (L.fr F) T gv C := ⟨p.hL, p.fd, p.fm, fun x n h => by
    obtain ⟨u, v, h1, h2, h3⟩ := p.gm x n h
    exact ⟨u, v, h1, h2, fun μ H => RepV.frm (L := L) (F := L.F) (h3 μ H)⟩, p.bm, p.tm, p.im, p.rm, p.em, p.zm, p.cm, fun X hX n hn => (p.cls X hX n hn).fr, p.ap, p.kit⟩
/-- by itself: the whole heap is the frame -/
theorem by_self {μ : Mu} {H : Hp} {g : G} {F : Hp} {pf : Nat → Bool} {r : R D} {Q : VK} {E : XK} (rh : RepH (L.fr F) μ g H)
    (q : Post (L.fr F) (RepV (L.fr F)) μ H [] (dropR pf r g) Q (fun cls d _ H' => E cls d H')) : Post (L.fr H) (RepV (L.fr H)) (fun _ => none) H [] r Q (fun cls d _ H' => E cls d H') := by
  have back : ∀ μ' H' g', Ext (fun _ => none) H μ' H' → RepH (L.fr H) μ' g' H' → Ext μ H μ H' ∧ RepH (L.fr F) μ g H' := fun μ' H' g' e r' => by
    have ex : Ext μ H μ H' := ⟨fun _ _ h => h, e.tup, e.frz⟩
    exact ⟨ex, ⟨fun n c h => by
      obtain ⟨a, ha, rc⟩ := rh.cell n c h
      exact ⟨a, ha, rc.keep ex fun u hu => r'.fr a u hu⟩, rh.inj, rh.dom, rh.lt, fun a u h => r'.fr a u (rh.fr a u h), rh.sep⟩⟩
  cases r with
  | ok d g' =>
    intro μ' H' b e ra r'
    obtain ⟨ex, rh'⟩ := back μ' H' g' e r'
    have q' : Post (L.fr F) (RepV (L.fr F)) μ H [] (Bool.rec (motive := fun _ => R D) .stuck (.ok d g) (purD pf d)) Q (fun cls d _ H' => E cls d H') := q
    cases hd : purD pf d with
    | false => rw [hd] at q'; exact q'.elim
    | true =>
      rw [hd] at q'
      exact q' μ H' b ex (RepV.pure (L := L) (F := H) (F' := F) (fun _ _ h => h) (fun _ _ _ h => h) hd ra) rh'
  | exc c p g' =>
    intro μ' H' x e r' rx
    obtain ⟨ex, rh'⟩ := back μ' H' g' e r'
    exact q μ H' x ex rh' (by cases rx; exact .non)
  | stuck => exact q.elim
theorem repH_none {H : Hp} : RepH (L.fr H) (fun _ => none) ⟨0, .nil⟩ H := ⟨fun n c h => (nomatch h), fun _ _ _ _ _ h => (nomatch h), fun _ _ h => (nomatch h), fun _ _ h => (nomatch h), fun _ _ h => h, fun _ _ _ h => (nomatch h)⟩
theorem prg_ok (p : Prg K mg L T gv C) : ∀ k f, ∃ fd ps, FnOk P w K mg base (L2.CX P w) k (L.fa f) fd ps (spOf L (callN T k) f) ∧ PySem.W.keepIn K (.ref (L.fa f)) = true ∧ Binds K fd ps []
  | 0, f => by
    obtain ⟨d, fd, F, ok, _⟩ := p.fd f
    exact ⟨fd, d.ps, vac fun ds g => rfl, F.kp, FunD.bindsN F fun kV doc pm an cdv ct us hu => ok.bn _ _ _ _ _ _ _ _ _ _ us hu⟩
  | k + 1, f => by
    obtain ⟨d, fd, F, ok, hT⟩ := p.fd f
    refine ⟨fd, d.ps, ?_, F.kp, FunD.bindsN F fun kV doc pm an cdv ct us hu => ok.bn _ _ _ _ _ _ _ _ _ _ us hu⟩
    have hcall : ∀ ds g, callN T (k + 1) f ds g = Option.rec (motive := fun _ => R D) .stuck (fun fn => callFn (pfOf T) fn (callN T k) ds g) (T.at? f) := fun ds g => rfl
    rcases hT with hT | ⟨pu, hT⟩
    · exact vac fun ds g => by rw [hcall, hT]
    · -- in either mode: a frame, and the body's run
      have hsp : ∀ vs H Q E, spOf L (callN T (k + 1)) f vs H Q E → ∃ F μ ds g, RepVs (L.fr F) μ H ds vs ∧ RepH (L.fr F) μ g H ∧
          Post (L.fr F) (RepV (L.fr F)) μ H [] (runFn ⟨d.ps.length, d.N.length, pu, denB gv d.ir⟩ (callN T k) ds g) Q (fun cls d _ H' => E cls d H') := by
        intro vs H Q E ⟨F, μ, ds, g, rv, rh, q⟩
        rw [hcall, hT] at q
        have q' : Post (L.fr F) (RepV (L.fr F)) μ H [] (callFn (pfOf T) ⟨d.ps.length, d.N.length, pu, denB gv d.ir⟩ (callN T k) ds g) Q (fun cls d _ H' => E cls d H') := q
        unfold callFn at q'
        cases pu with
        | false => exact ⟨F, μ, ds, g, rv, rh, q'⟩
        | true =>
          cases hp : purL (pfOf T) ds with
          | false => rw [hp] at q'; exact ⟨F, μ, ds, g, rv, rh, q'⟩
          | true =>
            rw [hp] at q'
            exact ⟨H, fun _ => none, ds, ⟨0, .nil⟩, RepVs.pure (L := L) (F := F) (F' := H) (fun _ _ h => h) (fun _ _ _ h => h) hp rv, repH_none, by_self rh q'⟩
      have hlen : ∀ vs H Q E, spOf L (callN T (k + 1)) f vs H Q E → vs.length = d.ps.length := fun vs H Q E h => by
        obtain ⟨F, μ, ds, g, rv, rh, q⟩ := hsp vs H Q E h
        unfold runFn at q
        rw [llen_eq] at q
        cases e : Nat.beq ds.length d.ps.length with
        | false => simp only [e] at q; exact q.elim
        | true => rw [← rv.length]; exact Nat.eq_of_beq_eq_true e
      refine F.ok ok.sc hlen fun cdv A outer s H vs Q E hr hs0 => ?_
      have hl := hlen _ _ _ _ hs0
      obtain ⟨F2, μ, ds, g, rv, rh, q⟩ := hsp _ _ _ _ hs0
      unfold runFn at q
      rw [llen_eq] at q
      cases e : Nat.beq ds.length d.ps.length with
      | false => simp only [e] at q; exact q.elim
      | true =>
        simp only [e] at q
        have p2 := p.fr F2
        have hpl : d.ps.length ≤ d.N.length := by have := congrArg List.length ok.sc.pre; rw [List.length_take] at this; omega
        refine ⟨RSt (L.fr F2) (callN T k) (fun cls d _ H => E cls d H) (denB gv d.ir), ?_, μ, startD ⟨d.ps.length, d.N.length, pu, denB gv d.ir⟩ ds, g, ?_, rh, end_s q⟩
        · have hu : (A.deeper (envOfC d.name d.scope s.heap.objs.size (L.fa f) cdv)).units + 65 < cLine := by have := hr.un; omega
          have x : Sx (cxOf (L2.CX P w) P w K mg base d.N d.name d.scope (L.fa f) cdv A outer s H E) (fun cls d _ H => E cls d H) (L.fr F2) (callN T k) { C with N := d.N } gv d.scope.names :=
            ⟨⟨p.hL.symm, hu, rfl, ok.sc.nd, rfl, fun n => by
                obtain ⟨fd', ps', F', kp', b'⟩ := prg_ok p k n
                exact ⟨k, fd', ps', F', hr, kp', b'⟩, p2.fm, p2.gm, p2.bm, p2.tm, p2.im, p2.rm, p2.em, p2.zm⟩,
              takes_of rfl rfl rfl rfl, rfl, ok.sc.kind, fun _ => rfl, passes_of rfl, rfl, rfl, p2.cm, p2.cls _ rfl, p2.ap _ rfl, p2.kit⟩
          exact sSs x d.ir d.body ok.ck
        · have hs : startD ⟨d.ps.length, d.N.length, pu, denB gv d.ir⟩ ds = ds ++ List.replicate (d.N.length - d.ps.length) .und := lapp_st
          rw [hs]
          exact start_s rv (by rw [hl]) (by rw [hl]; exact hpl)
end
end Mini
/-! MiniY: what the head tells, turned into Prg. -/
namespace Mini
open PySem PySem.Spec PyProof.Rows L2
/-! ### values of the top -/
mutual
def repB (K : PySem.W.Frag) (fa : Nat → Addr) : D → Value → Bool
  | .non, .none => true
  | .bl b, .bool c => b == c
  | .int i, .int j _ => decide (i = j)
  | .str s, .str y _ => decide (mkS s = y)
  | .fn n, .ref a => decide (fa n = a)
  | .tup _ xs, .ref a => (match K.lookup a with
    | some ⟨.type c, none, .seq its _, sl⟩ => decide (c = "tuple") && (decide (sl = #[]) && (decide (its.size ≤ sizeLine) && repBs K fa xs its.toList))
    | _ => false)
  | _, _ => false
def repBs (K : PySem.W.Frag) (fa : Nat → Addr) : List D → List Value → Bool
  | [], [] => true
  | d :: ds, u :: us => repB K fa d u && repBs K fa ds us
  | _, _ => false
end
mutual
theorem repB_ok {L : Lk} : ∀ {d : D} {u : Value}, repB L.K L.fa d u = true → ∃ v, RelV v u ∧ ∀ μ H, RepV L μ H d v
  | .non, u, h => by
    cases u with
    | none => exact ⟨.non, rfl, fun _ _ => .non⟩
    | _ => cases h
  | .bl b, u, h => by
    cases u with
    | bool c =>
      have e : b = c := eq_of_beq (show (b == c) = true from h)
      subst e
      exact ⟨.bl b, rfl, fun _ _ => .bl b⟩
    | _ => cases h
  | .int i, u, h => by
    cases u with
    | int j t =>
      have e : i = j := of_decide_eq_true h
      subst e
      exact ⟨.int i, ⟨t, rfl⟩, fun _ _ => .int i⟩
    | _ => cases h
  | .str s, u, h => by
    cases u with
    | str y t =>
      have e : mkS s = y := of_decide_eq_true h
      subst e
      exact ⟨.str (mkS s), ⟨t, rfl⟩, fun _ _ => .str s⟩
    | _ => cases h
  | .fn n, u, h => by
    cases u with
    | ref a =>
      have e : L.fa n = a := of_decide_eq_true h
      subst e
      exact ⟨.ref (L.fa n), rfl, fun _ _ => .fn n⟩
    | _ => cases h
  | .tup p xs, u, h => by
    cases u with
    | ref a =>
      have h1 : (match L.K.lookup a with
        | some ⟨.type c, none, .seq its _, sl⟩ => decide (c = "tuple") && (decide (sl = #[]) && (decide (its.size ≤ sizeLine) && repBs L.K L.fa xs its.toList))
        | _ => false) = true := h
      cases q : L.K.lookup a with
      | none => rw [q] at h1; cases h1
      | some o =>
        rw [q] at h1
        obtain ⟨oc, od, dt, sl⟩ := o
        cases oc with
        | type c =>
          cases od with
          | none =>
            cases dt with
            | seq its n =>
              obtain ⟨h2, h3⟩ := He.ba h1
              obtain ⟨h4, h5⟩ := He.ba h3
              obtain ⟨h6, h7⟩ := He.ba h5
              obtain ⟨vs, hv, hr⟩ := repBs_ok h7
              refine ⟨.ref a, rfl, fun μ H => .tup (vs := vs) (.inr ⟨_, its, n, q, congrArg Value.type (of_decide_eq_true h2), rfl, of_decide_eq_true h6, hv⟩) (fun _ => .inr ⟨_, q, rfl, of_decide_eq_true h4⟩) (hr μ H)⟩
            | _ => cases h1
          | some z => cases dt <;> cases h1
        | _ => cases od <;> cases dt <;> cases h1
    | _ => cases h
  | .und, u, h => by cases u <;> cases h
  | .ref n, u, h => by cases u <;> cases h
  | .cl n, u, h => by cases u <;> cases h
theorem repBs_ok {L : Lk} : ∀ {ds : List D} {us : List Value}, repBs L.K L.fa ds us = true → ∃ vs, Vals vs us ∧ ∀ μ H, RepVs L μ H ds vs
  | [], [], _ => ⟨[], .nil, fun _ _ => .nil⟩
  | [], _ :: _, h => by cases h
  | _ :: _, [], h => by cases h
  | d :: ds, u :: us, h => by
    obtain ⟨h1, h2⟩ := He.ba (show (repB L.K L.fa d u && repBs L.K L.fa ds us) = true from h)
    obtain ⟨v, hv, hr⟩ := repB_ok h1
    obtain ⟨vs, hvs, hrs⟩ := repBs_ok h2
    exact ⟨v :: vs, .cons hv hvs, fun μ H => .cons (hr μ H) (hrs μ H)⟩
end
/-! ### the table -/
def FT.depth : FT → Nat
  | .nil => 0
  | .node l _ r => Nat.succ (Nat.max l.depth r.depth)
theorem FT.at_none : ∀ (n : Nat) (t : FT) (f : Nat), t.depth ≤ n → 2 ^ n ≤ f + 1 → t.at? f = none
  | n, .nil, f, _, _ => rfl
  | 0, .node l v r, f, h, _ => by exact absurd h (Nat.not_succ_le_zero _)
  | n + 1, .node l v r, 0, h, h2 => by
    have : 2 ^ (n + 1) = 2 ^ n * 2 := Nat.pow_succ ..
    have h3 : 0 < 2 ^ n := Nat.pow_pos (by decide)
    omega
  | n + 1, .node l v r, j + 1, h, h2 => by
    have hm : Nat.max l.depth r.depth ≤ n := Nat.le_of_succ_le_succ h
    have e : 2 ^ (n + 1) = 2 ^ n * 2 := Nat.pow_succ ..
    have hj : 2 ^ n ≤ Nat.div j 2 + 1 := by
      show 2 ^ n ≤ j / 2 + 1
      omega
    show (match Nat.beq (Nat.mod j 2) 0 with
      | true => l.get (Nat.div j 2) none some
      | false => r.get (Nat.div j 2) none some) = none
    cases Nat.beq (Nat.mod j 2) 0
    · exact FT.at_none n r _ (Nat.le_trans (Nat.le_max_right _ _) hm) hj
    · exact FT.at_none n l _ (Nat.le_trans (Nat.le_max_left _ _) hm) hj
theorem far_of {t : FT} {n m : Nat} (hd : Nat.ble t.depth n = true) (hb : ((List.range (2 ^ n)).all fun f => Nat.blt f m || (t.at? f).isNone) = true) : ∀ f, m ≤ f → t.at? f = none := fun f hf => by
  by_cases h : 2 ^ n ≤ f
  · exact FT.at_none n t f (Nat.ble_eq.mp hd) (by omega)
  · have q := List.all_eq_true.mp hb f (List.mem_range.mpr (by omega))
    rcases Bool.or_eq_true_iff.mp q with q | q
    · have : f < m := Nat.ble_eq.mp q
      omega
    · exact Option.isNone_iff_eq_none.mp q
/-! ### the facts -/
structure Cd where
  defs : List DefR
  cls : List PySem.Str
  T : FT
  gv : Nat → D
  cf : Cf
def dumD : DefR := ⟨"", defArgs (.Pass ⟨0, 0, 0, 0⟩), [], defScope (.Pass ⟨0, 0, 0, 0⟩), [], [], .nil⟩
def Cd.dn (c : Cd) (n : Nat) : DefR := (c.defs[n]?).getD (c.defs.headD dumD)
def Cd.lk (c : Cd) (K : PySem.W.Frag) : Lk := ⟨K, fun n => He.ga K (c.dn n).name, fun n => He.ga K (c.cls.getD n ""), fun _ => none⟩
def allBi : List Bi := [.len, .abs, .all, .any, .tuple, .list, .dict, .sorted, .str, .int, .sum]
def allTy : List Ty := [.int, .bool, .str, .tuple, .list]
def freeB (K : PySem.W.Frag) (x : PySem.Str) : Bool := He.eqO (PySem.W.nsIn K mainGlobals x) (some none)
def gloB (K : PySem.W.Frag) (x : PySem.Str) (a : Addr) : Bool := He.eqO (PySem.W.nsIn K mainGlobals x) (some (some (.ref a)))
def clB (K : PySem.W.Frag) (a : Addr) : Bool := PySem.W.excIn K a He.veBase "ValueError.__new__" && (PySem.W.keepIn K (.ref a) && (decide (PySem.W.subIn K (.ref a) (.type "BaseException") = some true) && (decide (PySem.W.typeIn K (.ref a) = some (.type "type")) &&
  (He.eqO (PySem.W.findIn K (.ref a) "__getattribute__") (some (some (.builtin "BaseException.__getattribute__"))) && (He.eqO (PySem.W.findIn K (.ref a) "__getattr__") (some none) && (PySem.W.hasDictIn K a && (He.eqO (PySem.W.findIn K (.ref a) "__class__") (some (some (.builtin "object.__class__"))) &&
  (He.eqO (PySem.W.specialIn K (.builtin "object.__class__") "__get__") (some (some (.builtin "getset_descriptor.__get__"))) && (decide (PySem.W.takesIn K (.builtin "object.__class__") = some true) && decide (PySem.W.mroIn K a (.type "object") = some true))))))))))
theorem clB_ok {X : Cx} {L : Lk} {n : Nat} (h : clB X.K (L.ca n) = true) : ClF X L n := by
  obtain ⟨h1, h⟩ := He.ba h
  obtain ⟨h2, h⟩ := He.ba h
  obtain ⟨h3, h⟩ := He.ba h
  obtain ⟨h4, h⟩ := He.ba h
  obtain ⟨h5, h⟩ := He.ba h
  obtain ⟨h6, h⟩ := He.ba h
  obtain ⟨h7, h⟩ := He.ba h
  obtain ⟨h8, h⟩ := He.ba h
  obtain ⟨h9, h⟩ := He.ba h
  obtain ⟨h10, h11⟩ := He.ba h
  exact ⟨⟨_, _, _, _, PySem.F.excBase_ValueError, h1⟩, h2, of_decide_eq_true h3, of_decide_eq_true h4, ⟨He.eqO_ok h5, He.eqO_ok h6, of_decide_eq_true h3, h7, He.eqO_ok h8, He.eqO_ok h9, of_decide_eq_true h10, of_decide_eq_true h11⟩⟩
def pairB (K : PySem.W.Frag) (a b : Addr) (n m : Nat) : Bool := decide (PySem.W.exmOne K (.ref a) (.ref b) = some (Nat.beq n m)) && (Nat.beq n m || decide (PySem.W.kitOne K (.ref a) (.ref b) = some false))
/-- what the heap must say -/
def Cd.exB (c : Cd) (K : PySem.W.Frag) : Bool :=
  (c.cf.fn.all fun p => gloB K (mkS p.1) ((c.lk K).fa p.2)) && ((c.cf.gl.all fun p => match PySem.W.nsIn K mainGlobals (mkS p.1) with
    | some (some u) => repB K (c.lk K).fa (c.gv p.2) u
    | _ => false) && ((allBi.all fun b => freeB K (biName b)) && ((allTy.all fun t => freeB K (PySem.Str.ofString (tyV' t))) && ((["isinstance", "range", "enumerate", "zip"] : List PySem.Str).all (freeB K) &&
  ((c.cf.cl.all fun p => gloB K (mkS p.1) ((c.lk K).ca p.2) && Nat.blt p.2 c.cf.nC) && ((List.range c.cf.nC).all fun n => clB K ((c.lk K).ca n) && (List.range c.cf.nC).all fun m => pairB K ((c.lk K).ca n) ((c.lk K).ca m) n m))))))
def AllD (C : Cf) (gv : Nat → D) (T : FT) : Nat → List DefR → Prop
  | _, [] => True
  | i, d :: r => (d.Ok C ∧ ∃ pu, T.at? i = some ⟨d.ps.length, d.N.length, pu, denB gv d.ir⟩) ∧ AllD C gv T (i + 1) r
theorem AllD.get {C : Cf} {gv : Nat → D} {T : FT} : ∀ {l : List DefR} {i j : Nat} {d : DefR}, AllD C gv T i l → l[j]? = some d → d.Ok C ∧ ∃ pu, T.at? (i + j) = some ⟨d.ps.length, d.N.length, pu, denB gv d.ir⟩
  | [], _, _, _, _, h => by simp at h
  | d :: r, i, 0, _, a, h => by
    simp at h; subst h
    exact a.1
  | _ :: r, i, j + 1, d, a, h => by
    have := AllD.get (j := j) a.2 (by simpa using h)
    rw [Nat.add_right_comm] at this
    exact this
theorem lkS_mem {α : Type} {x : List Nat} : ∀ {l : List (List Nat × α)} {n : α}, lkS x l = some n → (x, n) ∈ l
  | [], n, h => by cases h
  | p :: r, n, h => by
    have h1 : (match neqs x p.1 with
      | true => some p.2
      | false => lkS x r) = some n := h
    cases e : neqs x p.1 with
    | true =>
      rw [e] at h1
      rw [neqs_eq] at e
      have e2 := of_decide_eq_true e
      have e3 := Option.some.inj h1
      rw [e2, ← e3]
      exact List.mem_cons_self
    | false =>
      rw [e] at h1
      exact List.mem_cons_of_mem _ (lkS_mem h1)
theorem prg_of {c : Cd} {K : PySem.W.Frag} {h : Heap} {mg : PySem.Str → Option Value} (X : K.In h) (G : h.Ns mainGlobals mg) (ex : c.exB K = true)
    (fd : ∀ d ∈ c.defs, ∃ fd, FunD K d.name d.name d.args d.body d.scope [] [] (He.ga K d.name) fd)
    (all : AllD c.cf c.gv c.T 0 c.defs) (hne : c.defs ≠ []) (far : ∀ f, c.defs.length ≤ f → c.T.at? f = none) : Prg K mg (c.lk K) c.T c.gv c.cf := by
  obtain ⟨h1, ex⟩ := He.ba ex
  obtain ⟨h2, ex⟩ := He.ba ex
  obtain ⟨h3, ex⟩ := He.ba ex
  obtain ⟨h4, ex⟩ := He.ba ex
  obtain ⟨h5, ex⟩ := He.ba ex
  obtain ⟨h6, h7⟩ := He.ba ex
  have free : ∀ {x : PySem.Str}, freeB K x = true → mg x = none := fun q => PySem.W.mg_none_of X G (He.eqO_ok q)
  have glo : ∀ {x : PySem.Str} {a : Addr}, gloB K x a = true → mg x = some (.ref a) := fun q => PySem.W.mg_of X G (He.eqO_ok q)
  have nm : ∀ x ∈ (["isinstance", "range", "enumerate", "zip"] : List PySem.Str), mg x = none := fun x hx => free (List.all_eq_true.mp h5 x hx)
  have cls : ∀ n, n < c.cf.nC → clB K ((c.lk K).ca n) = true ∧ ∀ m, m < c.cf.nC → pairB K ((c.lk K).ca n) ((c.lk K).ca m) n m = true := fun n hn => by
    obtain ⟨q1, q2⟩ := He.ba (List.all_eq_true.mp h7 n (List.mem_range.mpr hn))
    exact ⟨q1, fun m hm => List.all_eq_true.mp q2 m (List.mem_range.mpr hm)⟩
  refine ⟨rfl, fun f => ?_, fun x n q => glo (List.all_eq_true.mp h1 _ (lkS_mem q)), fun x n q => ?_, fun b => free (List.all_eq_true.mp h3 b (by unfold allBi; cases b <;> simp)), fun t => free (List.all_eq_true.mp h4 t (by unfold allTy; cases t <;> simp)),
    nm _ (by decide), nm _ (by decide), nm _ (by decide), nm _ (by decide), fun x n q => ?_, fun Z hZ n hn => clB_ok (by rw [hZ]; exact (cls n hn).1), fun Z hZ a b ha hb => ?_, fun n m hn hm ne => ?_⟩
  · by_cases hf : f < c.defs.length
    · obtain ⟨d, hd⟩ : ∃ d, c.defs[f]? = some d := ⟨_, List.getElem?_eq_getElem hf⟩
      have hdn : c.dn f = d := by unfold Cd.dn; rw [hd]; rfl
      obtain ⟨fd, F⟩ := fd d (List.mem_of_getElem? hd)
      obtain ⟨ok, pu, hT⟩ := all.get hd
      rw [Nat.zero_add] at hT
      exact ⟨d, fd, by show FunD K d.name d.name d.args d.body d.scope [] [] (He.ga K (c.dn f).name) fd; rw [hdn]; exact F, ok, .inr ⟨pu, hT⟩⟩
    · have hdn : c.dn f = c.defs.headD dumD := by unfold Cd.dn; rw [List.getElem?_eq_none (Nat.le_of_not_lt hf)]; rfl
      obtain ⟨d, hd⟩ : ∃ d, c.defs[0]? = some d := by
        cases q : c.defs with
        | nil => exact absurd q hne
        | cons d r => exact ⟨d, rfl⟩
      have hh : c.defs.headD dumD = d := by
        cases q : c.defs with
        | nil => exact absurd q hne
        | cons d' r => rw [q] at hd; simpa using hd
      obtain ⟨fd, F⟩ := fd d (List.mem_of_getElem? hd)
      obtain ⟨ok, _⟩ := all.get hd
      exact ⟨d, fd, by show FunD K d.name d.name d.args d.body d.scope [] [] (He.ga K (c.dn f).name) fd; rw [hdn, hh]; exact F, ok, .inl (far f (Nat.le_of_not_lt hf))⟩
  · have q2 := List.all_eq_true.mp h2 _ (lkS_mem q)
    have q3 : (match PySem.W.nsIn K mainGlobals (mkS x) with
      | some (some u) => repB K (c.lk K).fa (c.gv n) u
      | _ => false) = true := q2
    cases e : PySem.W.nsIn K mainGlobals (mkS x) with
    | none => rw [e] at q3; cases q3
    | some o =>
      rw [e] at q3
      cases o with
      | none => cases q3
      | some u =>
        obtain ⟨v, hv, hr⟩ := repB_ok (L := c.lk K) q3
        exact ⟨u, v, PySem.W.mg_of X G e, hv, hr⟩
  · obtain ⟨q1, q2⟩ := He.ba (List.all_eq_true.mp h6 _ (lkS_mem q))
    exact ⟨glo q1, by have := Nat.le_of_ble_eq_true q2; exact this⟩
  · obtain ⟨q1, _⟩ := He.ba ((cls a ha).2 b hb)
    rw [hZ]
    exact of_decide_eq_true q1
  · obtain ⟨_, q2⟩ := He.ba ((cls n hn).2 m hm)
    rcases Bool.or_eq_true_iff.mp q2 with q2 | q2
    · exact absurd (Nat.eq_of_beq_eq_true q2) ne
    · exact of_decide_eq_true q2
end Mini
/-! MiniZ: the meaning of code at numbers that are not known: steps, whole heaps. -/
namespace Mini
noncomputable section
/-! whole heaps -/
def Full (t : Tr) (n : Nat) : Prop := ∀ i, i < n → ∃ c, t.at? i = some c
theorem even_mod (i : Nat) : Nat.beq (Nat.mod (2 * i) 2) 0 = true := by
  have : Nat.mod (2 * i) 2 = 0 := Nat.mul_mod_right 2 i
  rw [this]; rfl
theorem odd_mod (i : Nat) : Nat.beq (Nat.mod (2 * i + 1) 2) 0 = false := by
  have : Nat.mod (2 * i + 1) 2 = 1 := by show (2 * i + 1) % 2 = 1; omega
  rw [this]; rfl
theorem at_l (l : Tr) (v : Cell) (r : Tr) (i : Nat) : (Tr.node l v r).at? (2 * i + 1) = l.at? i := by
  show sel (Nat.beq (Nat.mod (2 * i) 2) 0) (l.at? (Nat.div (2 * i) 2)) (r.at? (Nat.div (2 * i) 2)) = _
  rw [even_mod]
  have : Nat.div (2 * i) 2 = i := by show 2 * i / 2 = i; omega
  rw [this]
theorem at_r (l : Tr) (v : Cell) (r : Tr) (i : Nat) : (Tr.node l v r).at? (2 * i + 2) = r.at? i := by
  show sel (Nat.beq (Nat.mod (2 * i + 1) 2) 0) (l.at? (Nat.div (2 * i + 1) 2)) (r.at? (Nat.div (2 * i + 1) 2)) = _
  rw [odd_mod]
  have : Nat.div (2 * i + 1) 2 = i := by show (2 * i + 1) / 2 = i; omega
  rw [this]
theorem put_ok {c : Cell} : ∀ (t : Tr) (n i : Nat), Full t n → i ≤ n → ∃ t', t.put? i c = some t'
  | .nil, n, i, f, h => by
    have : n = 0 := by
      rcases Nat.eq_zero_or_pos n with h | h
      · exact h
      · obtain ⟨c, q⟩ := f 0 h; cases q
    have : i = 0 := by omega
    subst this
    exact ⟨_, rfl⟩
  | .node l v r, n, 0, f, h => ⟨_, rfl⟩
  | .node l v r, n, j + 1, f, h => by
    show ∃ t', sel (Nat.beq (Nat.mod j 2) 0) (l.put (Nat.div j 2) c (none : Option Tr) fun l' => some (.node l' v r)) (r.put (Nat.div j 2) c none fun r' => some (.node l v r')) = some t'
    cases e : Nat.beq (Nat.mod j 2) 0 with
    | true =>
      have e2 : j % 2 = 0 := Nat.eq_of_beq_eq_true e
      obtain ⟨l', hl⟩ := put_ok l (j / 2) (j / 2) (fun i hi => by
        obtain ⟨c, q⟩ := f (2 * i + 1) (by omega)
        rw [at_l] at q
        exact ⟨c, q⟩) (Nat.le_refl _)
      have hl' : l.put? (Nat.div j 2) c = some l' := hl
      refine ⟨.node l' v r, ?_⟩
      show l.put (Nat.div j 2) c (none : Option Tr) (fun l' => some (.node l' v r)) = _
      rw [Tr.put_eq, hl']
    | false =>
      have e2 : j % 2 ≠ 0 := fun q => by
        have : Nat.mod j 2 = 0 := q
        rw [this] at e; cases e
      obtain ⟨r', hr⟩ := put_ok r (j / 2) (j / 2) (fun i hi => by
        obtain ⟨c, q⟩ := f (2 * i + 2) (by omega)
        rw [at_r] at q
        exact ⟨c, q⟩) (Nat.le_refl _)
      have hr' : r.put? (Nat.div j 2) c = some r' := hr
      refine ⟨.node l v r', ?_⟩
      show r.put (Nat.div j 2) c (none : Option Tr) (fun r' => some (.node l v r')) = _
      rw [Tr.put_eq, hr']
def Whole (g : G) : Prop := Full g.t g.n
variable {g g1 g2 : G}
theorem new_ok (w : Whole g) (c : Cell) : ∃ g', Whole g' ∧ g'.n = g.n + 1 ∧ g'.at? g.n = some c ∧ (∀ b, b ≠ g.n → g'.at? b = g.at? b) ∧ ∀ {α : Type} (e : α) (k : Nat → G → α), g.new c e k = k g.n g' := by
  obtain ⟨t', ht⟩ := put_ok (c := c) g.t g.n g.n w (Nat.le_refl _)
  have at_ := Tr.put_at ht
  have new : (⟨g.n + 1, t'⟩ : G).at? g.n = some c := (at_ g.n).trans (if_pos rfl)
  have old : ∀ b, b ≠ g.n → (⟨g.n + 1, t'⟩ : G).at? b = g.at? b := fun b hb => (at_ b).trans (if_neg hb)
  refine ⟨⟨g.n + 1, t'⟩, fun i hi => ?_, rfl, new, old, fun e k => by rw [G.new_eq, ht]⟩
  by_cases q : i = g.n
  · subst q; exact ⟨c, new⟩
  · obtain ⟨d, hd⟩ := w i (by have : i < g.n + 1 := hi; omega)
    exact ⟨d, (old i q).trans hd⟩
theorem upd_ok (w : Whole g) {a : Nat} (ha : a < g.n) (c : Cell) : ∃ g', Whole g' ∧ g'.n = g.n ∧ g'.at? a = some c ∧ (∀ b, b ≠ a → g'.at? b = g.at? b) ∧ ∀ {α : Type} (e : α) (k : G → α), g.upd a c e k = k g' := by
  obtain ⟨t', ht⟩ := put_ok (c := c) g.t g.n a w (Nat.le_of_lt ha)
  have at_ := Tr.put_at ht
  have new : (⟨g.n, t'⟩ : G).at? a = some c := (at_ a).trans (if_pos rfl)
  have old : ∀ b, b ≠ a → (⟨g.n, t'⟩ : G).at? b = g.at? b := fun b hb => (at_ b).trans (if_neg hb)
  refine ⟨⟨g.n, t'⟩, fun i hi => ?_, rfl, new, old, fun e k => by rw [G.upd_eq, ht]⟩
  by_cases q : i = a
  · subst q; exact ⟨c, new⟩
  · obtain ⟨d, hd⟩ := w i hi
    exact ⟨d, (old i q).trans hd⟩
/-! steps of expressions -/
variable {Γ : CF} {σ σ' : St} {a b c : EK} {l m : AK} {d d' : D} {i j : Int} {gv : Nat → D}
theorem evV {n : Nat} (h : σ[n]? = some d) (nd : d ≠ .und) : eV n Γ σ g = .ok d g := by
  unfold eV sget
  rw [lget_eq, h]
  cases d with
  | und => exact absurd rfl nd
  | _ => rfl
theorem rInt_eq : rInt i g = .ok (.int i) g := by unfold rInt; rw [fInt_eq]
theorem evBin {o : BOp} {r : R D} (ha : a Γ σ g = .ok d g1) (hb : b Γ σ g1 = .ok d' g2) (h : oBin o d d' g2 = r) : eBin o a b Γ σ g = r := by
  unfold eBin
  rw [ha]
  show (b Γ σ g1).bind _ = _
  rw [hb]
  exact h
theorem evAdd (ha : a Γ σ g = .ok (.int i) g1) (hb : b Γ σ g1 = .ok (.int j) g2) : eBin .add a b Γ σ g = .ok (.int (i + j)) g2 := evBin ha hb rInt_eq
theorem evMul (ha : a Γ σ g = .ok (.int i) g1) (hb : b Γ σ g1 = .ok (.int j) g2) (hs : small i = true ∨ small j = true) : eBin .mul a b Γ σ g = .ok (.int (i * j)) g2 := evBin ha hb (by
  show (match small i with
    | true => rInt (Int.mul i j) g2
    | false => (match small j with
      | true => rInt (Int.mul i j) g2
      | false => R.stuck)) = _
  cases h : small i with
  | true => exact rInt_eq
  | false =>
    rcases hs with h2 | h2
    · rw [h] at h2; cases h2
    · rw [h2]; exact rInt_eq)
theorem ieq_zero (h : j ≠ 0) : ieq j 0 = false := by rw [ieq_eq]; exact decide_eq_false h
theorem evMod (ha : a Γ σ g = .ok (.int i) g1) (hb : b Γ σ g1 = .ok (.int j) g2) (hj : j ≠ 0) : eBin .mod a b Γ σ g = .ok (.int (Int.fmod i j)) g2 := evBin ha hb (by
  show (match ieq j 0 with
    | true => R.stuck
    | false => rInt (Int.fmod i j) g2) = _
  rw [ieq_zero hj]; exact rInt_eq)
theorem evDiv (ha : a Γ σ g = .ok (.int i) g1) (hb : b Γ σ g1 = .ok (.int j) g2) (hj : okDiv j = true) : eBin .div a b Γ σ g = .ok (.int (Int.fdiv i j)) g2 := evBin ha hb (by
  show (match okDiv j with
    | true => rInt (Int.fdiv i j) g2
    | false => R.stuck) = _
  rw [hj]; exact rInt_eq)
theorem evBi {o : Bi} {r : R D} (ha : a Γ σ g = .ok d g1) (h : bi1 o d g1 = r) : eBi o a Γ σ g = r := by
  unfold eBi
  rw [ha]
  exact h
theorem evInt (ha : a Γ σ g = .ok (.int i) g1) : eBi .int a Γ σ g = .ok (.int i) g1 := evBi ha rfl
theorem evIntB {t : Bool} (ha : a Γ σ g = .ok (.bl t) g1) : eBi .int a Γ σ g = .ok (.int (if t then 1 else 0)) g1 := evBi ha (by cases t <;> rfl)
theorem evAbs (ha : a Γ σ g = .ok (.int i) g1) : eBi .abs a Γ σ g = .ok (.int (Int.natAbs i)) g1 := evBi ha (by cases i <;> rfl)
theorem evCmp {o : COp} {r : R D} (ha : a Γ σ g = .ok d g1) (hb : b Γ σ g1 = .ok d' g2) (h : oCmp o d d' g2 = r) : eCmp o a b Γ σ g = r := by
  unfold eCmp
  rw [ha]
  show (b Γ σ g1).bind _ = _
  rw [hb]
  exact h
theorem oLt_int : oLt (.int i) (.int j) g = .ok (.bl (decide (i < j))) g := by
  show fBool (ilt i j) (fun b => R.ok (D.bl b) g) = _
  rw [fBool_eq, ilt_eq]
theorem oLe_int : oLe (.int i) (.int j) g = .ok (.bl (decide (i ≤ j))) g := by
  show (match ilt j i with
    | true => R.ok (D.bl false) g
    | false => R.ok (D.bl true) g) = _
  rw [ilt_eq]
  by_cases h : j < i
  · rw [decide_eq_true h, decide_eq_false (by omega)]
  · rw [decide_eq_false h, decide_eq_true (by omega)]
theorem evTCmp {o : COp} {t : Bool} (h : eCmp o a b Γ σ g = .ok (.bl t) g1) : tCmp o a b Γ σ g = .ok t g1 := by
  unfold tCmp asBl
  rw [h]; rfl
theorem evIfe {t : TK} {u : Bool} {r : R D} (ht : t Γ σ g = .ok u g1) (h : (if u then a Γ σ g1 else b Γ σ g1) = r) : eIf t a b Γ σ g = r := by
  unfold eIf
  rw [ht]
  cases u <;> exact h
/-- a list's item -/
theorem evIx {p n k : Nat} {xs : List D} (ha : a Γ σ g = .ok (.ref p) g1) (hb : b Γ σ g1 = .ok (.int (.ofNat k)) g2) (hc : g2.at? p = some (.lst n xs)) (hk : k < n) (hd : xs[Nat.sub (Nat.pred n) k]? = some d) : eIx a b Γ σ g = .ok d g2 := by
  unfold eIx
  rw [ha]
  show (b Γ σ g1).bind _ = _
  rw [hb]
  show g2.look p R.stuck _ = _
  rw [G.look_eq, hc]
  show place n (.ofNat k) R.stuck _ = _
  have hb : Nat.blt k n = true := Nat.ble_eq.mpr hk
  show (match Nat.blt k n with
    | true => lget xs (Nat.sub (Nat.pred n) k) R.stuck fun d => R.ok d g2
    | false => R.stuck) = _
  rw [hb]
  show lget xs _ _ _ = _
  rw [lget_eq, hd]
theorem evLenL {p n : Nat} {xs : List D} (ha : a Γ σ g = .ok (.ref p) g1) (hc : g1.at? p = some (.lst n xs)) : eBi .len a Γ σ g = .ok (.int n) g1 := evBi ha (by
  show g1.look p R.stuck _ = _
  rw [G.look_eq, hc]; rfl)
theorem evNil : aNil Γ σ g = .ok [] g := rfl
theorem evCons {ds : List D} (ha : a Γ σ g = .ok d g1) (hl : l Γ σ g1 = .ok ds g2) : aCons a l Γ σ g = .ok (d :: ds) g2 := by
  unfold aCons
  rw [ha]
  show (l Γ σ g1).bind _ = _
  rw [hl]; rfl
theorem rList_ok (w : Whole g) {xs : List D} (h : xs.length ≤ lim) : ∃ g', Whole g' ∧ g'.n = g.n + 1 ∧ g'.at? g.n = some (.lst xs.length xs.reverse) ∧ (∀ b, b ≠ g.n → g'.at? b = g.at? b) ∧ rList xs g = .ok (.ref g.n) g' := by
  obtain ⟨g', w', hn, hc, ho, he⟩ := new_ok w (.lst xs.length xs.reverse)
  refine ⟨g', w', hn, hc, ho, ?_⟩
  unfold rList
  rw [llen_eq, Nat.ble_eq.mpr h]
  show lrev xs [] _ = _
  rw [lrev_eq, List.append_nil]
  exact he _ _
theorem evLst (w : Whole g1) {xs : List D} (hl : l Γ σ g = .ok xs g1) (h : xs.length ≤ lim) : ∃ g', Whole g' ∧ g'.n = g1.n + 1 ∧ g'.at? g1.n = some (.lst xs.length xs.reverse) ∧ (∀ b, b ≠ g1.n → g'.at? b = g1.at? b) ∧ eLst l Γ σ g = .ok (.ref g1.n) g' := by
  obtain ⟨g', w', hn, hc, ho, he⟩ := rList_ok w h
  refine ⟨g', w', hn, hc, ho, ?_⟩
  unfold eLst
  rw [hl]
  exact he
theorem evCall {f : Nat} {ds : List D} {r : R D} (hl : l Γ σ g = .ok ds g1) (h : Γ f ds g1 = r) : eCall f l Γ σ g = r := by
  unfold eCall
  rw [hl]
  exact h
/-! statements -/
theorem svSet {n : Nat} (h : a Γ σ g = .ok d g1) : sSet n a Γ σ g = .nx (σ.set n d) g1 := by
  unfold sSet
  rw [h]
  show lset σ n d _ = _
  rw [lset_eq]
theorem svRet (h : a Γ σ g = .ok d g1) : sRet a Γ σ g = .rt d g1 := by
  unfold sRet
  rw [h]; rfl
theorem svIf {t : TK} {u : Bool} {s s' : SK} {r : RS} (ht : t Γ σ g = .ok u g1) (h : (if u then s Γ σ g1 else s' Γ σ g1) = r) : sIf t s s' Γ σ g = r := by
  unfold sIf
  rw [ht]
  cases u <;> exact h
theorem bvCons {s s' : SK} {r : RS} (h : s Γ σ g = .nx σ' g1) (h' : s' Γ σ' g1 = r) : bCons s s' Γ σ g = r := by
  unfold bCons
  rw [h]
  exact h'
theorem bvRet {s s' : SK} (h : s Γ σ g = .rt d g1) : bCons s s' Γ σ g = .rt d g1 := by
  unfold bCons
  rw [h]; rfl
/-- o[k] = v -/
theorem svSub {p n k : Nat} {xs : List D} {e : EK} (he : e Γ σ g = .ok d g1) (ha : a Γ σ g1 = .ok (.ref p) g1) (hb : b Γ σ g1 = .ok (.int (.ofNat k)) g1) (w : Whole g1) (hp : p < g1.n) (hc : g1.at? p = some (.lst n xs)) (hk : k < n) :
    ∃ g', Whole g' ∧ g'.n = g1.n ∧ g'.at? p = some (.lst n (xs.set (Nat.sub (Nat.pred n) k) d)) ∧ (∀ b, b ≠ p → g'.at? b = g1.at? b) ∧ sAsg (gSub a b) e Γ σ g = .nx σ g' := by
  obtain ⟨g', w', hn, hc', ho, hu⟩ := upd_ok w hp (.lst n (xs.set (Nat.sub (Nat.pred n) k) d))
  refine ⟨g', w', hn, hc', ho, ?_⟩
  unfold sAsg
  rw [he]
  show ((gSub a b Γ d σ g1).stG _) = _
  have : gSub a b Γ d σ g1 = .ok σ g' := by
    unfold gSub
    rw [ha]
    show (b Γ σ g1).bind _ = _
    rw [hb]
    show g1.look p R.stuck _ = _
    rw [G.look_eq, hc]
    have hb' : Nat.blt k n = true := Nat.ble_eq.mpr hk
    show (match Nat.blt k n with
      | true => lset xs (Nat.sub (Nat.pred n) k) d fun ys => g1.upd p (.lst n ys) R.stuck fun g => R.ok σ g
      | false => R.stuck) = _
    rw [hb']
    show lset xs _ d _ = _
    rw [lset_eq]
    exact hu _ _
  rw [this]; rfl
theorem callN_of {T : FT} {k f p n : Nat} {bd : SK} {ds : List D} (h : T.at? f = some ⟨p, n, false, bd⟩) (hl : ds.length = p) : callN T (k + 1) f ds g = endD (bd (callN T k) (ds ++ List.replicate (n - p) .und) g) := by
  show Option.rec (motive := fun _ => R D) .stuck (fun fn => callFn (pfOf T) fn (callN T k) ds g) (T.at? f) = _
  rw [h]
  show runFn ⟨p, n, false, bd⟩ (callN T k) ds g = _
  unfold runFn
  rw [llen_eq]
  have : Nat.beq ds.length p = true := by rw [hl]; exact Nat.beq_refl p
  show (match Nat.beq ds.length p with
    | true => endD (bd (callN T k) (startD ⟨p, n, false, bd⟩ ds) g)
    | false => R.stuck) = _
  rw [this]
  have e : startD ⟨p, n, false, bd⟩ ds = ds ++ List.replicate (n - p) .und := by
    unfold startD
    rw [lapp_eq, reps_eq]
    show ds ++ (List.replicate (n - p) [D.und]).flatten = _
    congr 1
    generalize n - p = q
    induction q with
    | zero => rfl
    | succ q ih => rw [List.replicate_succ, List.flatten_cons, ih]; rfl
  rw [e]
end
end Mini
/-! MiniZF: the laws' front: _law_cells(script, 1), _law_box(.., 0), _law_take. -/
namespace Mini
noncomputable section
def irBox (c : Nat) : IB := (.cons (.set 2 (.ife (.cmp .lt (.v 1) (.bi .len (.v 0))) (.ix (.v 0) (.v 1)) (.c (.int (.ofNat 0))))) (.cons (.ret (.lst (.cons (.bin .mul (.bi .abs (.v 2)) (.bi .int (.cmp .ge (.bi .abs (.v 2)) (.bin .pow (.c (.int (.ofNat 10))) (.c (.int (.ofNat 18))))))) (.cons (.bin .add (.bin .add (.bin .mod (.bi .int (.v 2)) (.c (.int (.ofNat 2305843009213693951)))) (.bin .mul (.c (.int (.ofNat 39373))) (.v 1))) (.c (.int (.ofNat c)))) (.cons (.c (.int (.ofNat 0))) .nil))))) .nil))
def irTake : IB := (.cons (.ife (.cmp .gt (.ix (.v 0) (.c (.int (.ofNat 0)))) (.c (.int (.ofNat 0)))) (.cons (.set 2 (.bin .mod (.bi .int (.ix (.v 0) (.c (.int (.ofNat 0))))) (.v 1))) (.cons (.asg (.sub (.v 0) (.c (.int (.ofNat 0)))) (.bin .div (.ix (.v 0) (.c (.int (.ofNat 0)))) (.v 1))) (.cons (.ret (.v 2)) .nil))) .nil) (.cons (.asg (.sub (.v 0) (.c (.int (.ofNat 2)))) (.bin .add (.ix (.v 0) (.c (.int (.ofNat 2)))) (.c (.int (.ofNat 1))))) (.cons (.set 3 (.bin .mod (.bi .int (.bin .mul (.bin .add (.ix (.v 0) (.c (.int (.ofNat 1)))) (.bin .mul (.c (.int (.ofNat 48271))) (.ix (.v 0) (.c (.int (.ofNat 2)))))) (.bin .add (.c (.int (.ofNat 39373))) (.ix (.v 0) (.c (.int (.ofNat 2))))))) (.c (.int (.ofNat 2147483647))))) (.cons (.set 4 (.bin .add (.bin .mod (.bi .int (.v 3)) (.c (.int (.ofNat 40009)))) (.c (.int (.ofNat 7))))) (.cons (.set 5 (.bin .mod (.bi .int (.bin .mul (.bin .add (.bin .add (.v 3) (.ix (.v 0) (.c (.int (.ofNat 2))))) (.bin .div (.ix (.v 0) (.c (.int (.ofNat 1)))) (.c (.int (.ofNat 1000003))))) (.v 4))) (.c (.int (.ofNat 2147483629))))) (.cons (.ret (.bin .mod (.bi .int (.bin .div (.bin .mod (.bi .int (.bin .add (.bin .mul (.v 5) (.c (.int (.ofNat 48271)))) (.v 3))) (.c (.int (.ofNat 2147483587)))) (.c (.int (.ofNat 64))))) (.v 1))) .nil))))))
def irCells : IB := (.cons (.set 2 (.orr (.cons (.bi .list (.sl (.v 0) .no (.some (.v 1)))) (.cons (.lst (.cons (.c (.int (.ofNat 0))) .nil)) .nil)))) (.cons (.fr (.tup (.cons (.v 3) (.cons (.v 4) .nil))) (.enum (.sl (.v 0) (.some (.v 1)) (.some (.c (.int (.ofNat 63)))))) (.cons (.set 5 (.bin .mod (.bi .int (.v 3)) (.v 1))) (.cons (.asg (.sub (.v 2) (.v 5)) (.bin .add (.ix (.v 2) (.v 5)) (.bin .mul (.v 4) (.bin .add (.v 3) (.c (.int (.ofNat 2))))))) .nil))) (.cons (.ret (.v 2)) .nil)))
variable {Γ : CF} {g : G} {gv : Nat → D}
theorem small_of {i : Int} (h : 0 ≤ i) (h2 : i < 18446744073709551616) : small i = true := by
  obtain ⟨n, rfl⟩ := Int.eq_ofNat_of_zero_le h
  show Nat.blt n 18446744073709551616 = true
  exact Nat.ble_eq.mpr (by omega)
theorem okDiv_of {m : Nat} (h : 0 < m) (h2 : m < 1073741824) : okDiv (.ofNat m) = true := by
  show (match Nat.beq m 0 with
    | true => false
    | false => Nat.blt m 1073741824) = true
  have : Nat.beq m 0 = false := by cases m with
    | zero => exact absurd h (by decide)
    | succ m => rfl
  rw [this]
  exact Nat.ble_eq.mpr h2
/-- what a draw leaves -/
def TinOk (g : G) (t : Nat) (n : Nat) : Prop := ∃ c0 c1 c2 : Int, g.at? t = some (.lst 3 [.int c2, .int c1, .int c0]) ∧ 0 ≤ c2 ∧ c2 ≤ n
theorem take_ok (w : Whole g) {t : Nat} (ht : t < g.n) {n : Nat} (ti : TinOk g t n) (hn : n < 1000000000) {m : Nat} (hm : 0 < m) (hm2 : m < 1073741824) :
    ∃ r g', denB gv irTake Γ [.ref t, .int (.ofNat m), .und, .und, .und, .und] g = .rt (.int r) g' ∧ 0 ≤ r ∧ r < m ∧ Whole g' ∧ g'.n = g.n ∧ TinOk g' t (n + 1) ∧ ∀ b, b ≠ t → g'.at? b = g.at? b := by
  obtain ⟨c0, c1, c2, hc, h2, h3⟩ := ti
  have hm0 : (0 : Int) < (m : Int) := by omega
  have hmz : (Int.ofNat m) ≠ 0 := by show (m : Int) ≠ 0; omega
  simp only [irTake, denB, denS, denE, denT, denA, denG, denO]
  by_cases h0 : Int.ofNat 0 < c0
  · -- from the box
    have x0 : ∀ {σ : St}, σ[0]? = some (.ref t) → eIx (eV 0) (eC (.int (.ofNat 0))) Γ σ g = .ok (.int c0) g := fun h => evIx (evV h nofun) rfl hc (by decide) rfl
    obtain ⟨g', w', hn', hc', ho, hs⟩ := svSub (Γ := Γ) (σ := [.ref t, .int (.ofNat m), .int (Int.fmod c0 m), .und, .und, .und]) (a := eV 0) (b := eC (.int (.ofNat 0))) (evDiv (x0 rfl) (evV (n := 1) (d := .int (.ofNat m)) rfl nofun) (okDiv_of hm hm2)) (evV rfl nofun) rfl w ht hc (by decide)
    refine ⟨Int.fmod c0 m, g', bvRet (svIf (u := true) (evTCmp (evCmp (x0 rfl) rfl (oLt_int.trans (by rw [decide_eq_true h0])))) ?_), Int.fmod_nonneg_of_pos _ hm0, Int.fmod_lt_of_pos _ hm0, w', hn', ?_, ho⟩
    · exact bvCons (svSet (evMod (evInt (x0 rfl)) (evV (n := 1) (d := .int (.ofNat m)) rfl nofun) hmz)) (bvCons hs (bvRet (svRet (evV rfl nofun))))
    · exact ⟨_, c1, c2, hc', h2, by omega⟩
  · obtain ⟨g', w', hn', hc', ho, hs⟩ := svSub (Γ := Γ) (σ := [.ref t, .int (.ofNat m), .und, .und, .und, .und]) (a := eV 0) (b := eC (.int (.ofNat 2))) (d := .int (c2 + 1)) (evAdd (evIx (evV (n := 0) (d := .ref t) rfl nofun) (rfl : eC (.int (.ofNat 2)) Γ _ g = _) hc (by decide) rfl) (rfl : eC (.int (.ofNat 1)) Γ _ g = _)) (evV rfl nofun) rfl w ht hc (by decide)
    have x0 : ∀ {σ : St}, σ[0]? = some (.ref t) → eIx (eV 0) (eC (.int (.ofNat 0))) Γ σ g = .ok (.int c0) g := fun h => evIx (evV h nofun) rfl hc (by decide) rfl
    have x1 : ∀ {σ : St}, σ[0]? = some (.ref t) → eIx (eV 0) (eC (.int (.ofNat 1))) Γ σ g' = .ok (.int c1) g' := fun h => evIx (evV h nofun) rfl hc' (by decide) rfl
    have x2 : ∀ {σ : St}, σ[0]? = some (.ref t) → eIx (eV 0) (eC (.int (.ofNat 2))) Γ σ g' = .ok (.int (c2 + 1)) g' := fun h => evIx (evV h nofun) rfl hc' (by decide) rfl
    have once := fun (σ : St) (h : σ[0]? = some (.ref t)) => evMod (Γ := Γ) (evInt (evMul (evAdd (x1 h) (evMul (rfl : eC (.int (.ofNat 48271)) Γ σ g' = _) (x2 h) (.inl (by decide +kernel)))) (evAdd (rfl : eC (.int (.ofNat 39373)) Γ σ g' = _) (x2 h)) (.inr (small_of (by show 0 ≤ (39373 : Int) + (c2 + 1); omega) (by show (39373 : Int) + (c2 + 1) < _; omega))))) (rfl : eC (.int (.ofNat 2147483647)) Γ σ g' = _) (by decide)
    generalize ho1 : Int.fmod ((c1 + Int.ofNat 48271 * (c2 + 1)) * (Int.ofNat 39373 + (c2 + 1))) (Int.ofNat 2147483647) = o1 at once
    have wide : 0 ≤ Int.fmod o1 (Int.ofNat 40009) ∧ Int.fmod o1 (Int.ofNat 40009) < 40009 := ⟨Int.fmod_nonneg_of_pos _ (by decide), Int.fmod_lt_of_pos _ (by decide)⟩
    refine ⟨_, g', bvCons (svIf (u := false) (evTCmp (evCmp (x0 rfl) rfl (oLt_int.trans (by rw [decide_eq_false h0])))) (rfl : bNil Γ _ g = .nx _ g)) (bvCons hs (bvCons (svSet (once _ rfl)) (bvCons (svSet (evAdd (evMod (evInt (evV (n := 3) (d := .int o1) rfl nofun)) (rfl : eC (.int (.ofNat 40009)) Γ _ g' = _) (by decide)) (rfl : eC (.int (.ofNat 7)) Γ _ g' = _)))
      (bvCons (svSet (evMod (evInt (evMul (evAdd (evAdd (evV (n := 3) (d := .int o1) rfl nofun) (x2 rfl)) (evDiv (x1 rfl) (rfl : eC (.int (.ofNat 1000003)) Γ _ g' = _) (by decide +kernel))) (evV (n := 4) (d := .int (Int.fmod o1 (Int.ofNat 40009) + Int.ofNat 7)) rfl nofun) (.inr (small_of (by show 0 ≤ Int.fmod o1 (Int.ofNat 40009) + (7 : Int); omega) (by show Int.fmod o1 (Int.ofNat 40009) + (7 : Int) < _; omega))))) (rfl : eC (.int (.ofNat 2147483629)) Γ _ g' = _) (by decide)))
      (bvRet (svRet (evMod (evInt (evDiv (evMod (evInt (evAdd (evMul (evV (n := 5) rfl nofun) (rfl : eC (.int (.ofNat 48271)) Γ _ g' = _) (.inr (by decide +kernel))) (evV (n := 3) (d := .int o1) rfl nofun))) (rfl : eC (.int (.ofNat 2147483587)) Γ _ g' = _) (by decide)) (rfl : eC (.int (.ofNat 64)) Γ _ g' = _) (by decide +kernel))) (evV (n := 1) (d := .int (.ofNat m)) rfl nofun) hmz))))))),
      Int.fmod_nonneg_of_pos _ hm0, Int.fmod_lt_of_pos _ hm0, w', hn', ⟨c0, c1, c2 + 1, hc', by omega, by omega⟩, ho⟩
theorem evPow18 {σ : St} : eBin .pow (eC (.int (.ofNat 10))) (eC (.int (.ofNat 18))) Γ σ g = .ok (.int (.ofNat 1000000000000000000)) g := evBin rfl rfl (show rInt (.ofNat (Nat.pow 10 18)) g = .ok (.int (.ofNat 1000000000000000000)) g from rInt_eq)
theorem box_ok (w : Whole g) {p : Nat} {z : Int} (hc : g.at? p = some (.lst 1 [.int z])) (c : Nat) :
    ∃ t g', denB gv (irBox c) Γ [.ref p, .int (.ofNat 0), .und] g = .rt (.ref t) g' ∧ Whole g' ∧ t < g'.n ∧ TinOk g' t 0 := by
  simp only [irBox, denB, denS, denE, denT, denA, denG, denO]
  have v2 : eV 2 Γ [.ref p, .int (.ofNat 0), .int z] g = .ok (.int z) g := evV rfl nofun
  have A := evMul (evAbs v2) (evIntB (evCmp (o := .ge) (evAbs v2) (evPow18 (Γ := Γ) (g := g)) oLe_int)) (.inr (by
    by_cases h : Int.ofNat 1000000000000000000 ≤ (Int.natAbs z : Int)
    · rw [decide_eq_true h]; rfl
    · rw [decide_eq_false h]; rfl))
  have B := evAdd (evAdd (evMod (evInt v2) (rfl : eC (.int (.ofNat 2305843009213693951)) Γ _ g = _) (by decide)) (evMul (rfl : eC (.int (.ofNat 39373)) Γ _ g = _) (evV (n := 1) (d := .int (.ofNat 0)) rfl nofun) (.inl (by decide +kernel)))) (rfl : eC (.int (.ofNat c)) Γ _ g = _)
  have hlt : oCmp .lt (.int (Int.ofNat 0)) (.int ((1 : Nat) : Int)) g = .ok (.bl true) g := oLt_int (i := Int.ofNat 0) (j := ((1 : Nat) : Int))
  obtain ⟨g', w', hn, hc', ho, hs⟩ := evLst w (evCons A (evCons B (evCons (rfl : eC (.int (.ofNat 0)) Γ _ g = _) evNil))) (show 3 ≤ lim by decide)
  refine ⟨g.n, g', bvCons (svSet (evIfe (u := true) (evTCmp (evCmp (evV (n := 1) rfl nofun) (evLenL (evV (n := 0) rfl nofun) hc) hlt)) (evIx (evV (n := 0) rfl nofun) (evV (n := 1) (d := .int (.ofNat 0)) rfl nofun) hc (by decide) rfl))) (bvRet (svRet hs)), w', by omega, ⟨_, _, _, hc', by decide, by decide⟩⟩
/-! the cells -/
variable {σ : St}
theorem cutL_len {xs : List D} {lo hi : Option Int} : (cutL xs lo hi).length ≤ xs.length := by
  unfold cutL
  rw [List.length_take, List.length_drop]
  omega
theorem sl_ok (w : Whole g) {a : Nat} {xs : List D} (hc : g.at? a = some (.rol xs.length xs)) {e : EK} {lo hi : OK} {l h : Option Int} (he : e Γ σ g = .ok (.ref a) g) (hlo : lo Γ σ g = .ok l g) (hhi : hi Γ σ g = .ok h g) (hlen : xs.length ≤ lim) :
    ∃ g', Whole g' ∧ g'.n = g.n + 1 ∧ g'.at? g.n = some (.lst (cutL xs l h).length (cutL xs l h).reverse) ∧ (∀ b, b ≠ g.n → g'.at? b = g.at? b) ∧ eSl e lo hi Γ σ g = .ok (.ref g.n) g' := by
  obtain ⟨g', w', hn, hc', ho, hs⟩ := rList_ok w (xs := cutL xs l h) (Nat.le_trans cutL_len hlen)
  refine ⟨g', w', hn, hc', ho, ?_⟩
  unfold eSl
  rw [he]
  show (lo Γ σ g).bind _ = _
  rw [hlo]
  show (hi Γ σ g).bind _ = _
  rw [hhi]
  show g.list a R.stuck _ = _
  unfold G.list
  rw [G.look_eq, hc]
  show cut xs xs.length l h _ = _
  rw [cut_eq]
  exact hs
theorem list_ok {g1 : G} (w : Whole g1) {p : Nat} {ys : List D} {e : EK} (he : e Γ σ g = .ok (.ref p) g1) (hc : g1.at? p = some (.lst ys.length ys.reverse)) (h : ys.length ≤ lim) :
    ∃ g', Whole g' ∧ g'.n = g1.n + 1 ∧ g'.at? g1.n = some (.lst ys.length ys.reverse) ∧ (∀ b, b ≠ g1.n → g'.at? b = g1.at? b) ∧ eBi .list e Γ σ g = .ok (.ref g1.n) g' := by
  obtain ⟨g', w', hn, hc', ho, hs⟩ := rList_ok w (xs := ys) h
  refine ⟨g', w', hn, hc', ho, evBi he ?_⟩
  show g1.list p R.stuck _ = _
  unfold G.list
  rw [G.look_eq, hc]
  show lrev ys.reverse [] _ = _
  rw [lrev_eq, List.reverse_reverse, List.append_nil]
  exact hs
theorem evOr_t {a b : EK} {p n : Nat} {x : D} {xs : List D} {g1 : G} (ha : a Γ σ g = .ok (.ref p) g1) (hc : g1.at? p = some (.lst n (x :: xs))) : eOr a b Γ σ g = .ok (.ref p) g1 := by
  unfold eOr
  rw [ha]
  show g1.look p R.stuck _ = _
  rw [G.look_eq, hc]
theorem evOr_f {a b : EK} {p n : Nat} {g1 : G} {r : R D} (ha : a Γ σ g = .ok (.ref p) g1) (hc : g1.at? p = some (.lst n [])) (hb : b Γ σ g1 = r) : eOr a b Γ σ g = r := by
  unfold eOr
  rw [ha]
  show g1.look p R.stuck _ = _
  rw [G.look_eq, hc]
  exact hb
theorem nth_lst {α : Type} {e i : Nat} {ys : List D} {x nn : α} {k : D → α} (hc : g.at? e = some (.lst ys.length ys.reverse)) : g.nth e i x nn k = match ys[i]? with | some d => k d | none => nn := by
  unfold G.nth
  rw [G.look_eq, hc]
  show (match Nat.blt i ys.length with
    | true => lget ys.reverse (Nat.sub (Nat.pred ys.length) i) x k
    | false => nn) = _
  by_cases h : i < ys.length
  · have hb : Nat.blt i ys.length = true := Nat.ble_eq.mpr h
    rw [hb]
    show lget _ _ _ _ = _
    rw [lget_eq]
    have e2 : ys.length = ys.reverse.length := List.length_reverse.symm
    rw [e2, rev_at (by rw [List.length_reverse]; exact h), List.reverse_reverse, List.getElem?_eq_getElem h]
  · have hb : Nat.blt i ys.length = false := by
      cases q : Nat.blt i ys.length with
      | false => rfl
      | true => exact absurd (Nat.ble_eq.mp q) h
    rw [hb, List.getElem?_eq_none (by omega)]
theorem svFor {tg : GK} {it : IK} {b : SK} {w : Wk} {g2 : G} (h : it Γ σ g = .ok w g2) : sFor tg it b Γ σ g = forLoop w tg b Γ turns 0 σ g2 := by
  unfold sFor
  rw [h]
  generalize forLoop = f
  rfl
def cTg : GK := gTup 2 (gCons (gV 3) (gCons (gV 4) gNil))
def cBd : SK := bCons (sSet 5 (eBin .mod (eBi .int (eV 3)) (eV 1))) (bCons (sAsg (gSub (eV 2) (eV 5)) (eBin .add (eIx (eV 2) (eV 5)) (eBin .mul (eV 4) (eBin .add (eV 3) (eC (.int (.ofNat 2))))))) bNil)
theorem cells_loop {c e : Nat} {zs : List Int} (hce : c ≠ e) (hz : zs.length ≤ 63) : ∀ (m i : Nat) (g : G) (z : Int) (a k b t : D), zs.length - i < m → Whole g → c < g.n → g.at? c = some (.lst 1 [.int z]) → g.at? e = some (.lst (zs.map D.int).length (zs.map D.int).reverse) →
    ∃ σ' g' z', forLoop (wEnum e) cTg cBd Γ m i [a, .int (.ofNat 1), .ref c, k, b, t] g = .nx σ' g' ∧ σ'[2]? = some (.ref c) ∧ Whole g' ∧ c < g'.n ∧ g'.at? c = some (.lst 1 [.int z'])
  | 0, i, g, z, a, k, b, t, h, _, _, _, _ => absurd h (Nat.not_lt_zero _)
  | m + 1, i, g, z, a, k, b, t, h, w, hcn, hc, he => by
    have hw : wEnum e i g = match (zs.map D.int)[i]? with | some d => .ok (some (.tup false [.int (.ofNat i), d])) g | none => .ok none g := nth_lst he
    by_cases hi : i < zs.length
    · have hy : (zs.map D.int)[i]? = some (.int zs[i]) := by rw [List.getElem?_map, List.getElem?_eq_getElem hi]; rfl
      rw [hy] at hw
      have hf0 : Int.fmod (Int.ofNat i) (Int.ofNat 1) = Int.ofNat 0 := by
        have h1 := Int.fmod_nonneg_of_pos (Int.ofNat i) (b := 1) (by decide)
        have h2 := Int.fmod_lt_of_pos (Int.ofNat i) (b := 1) (by decide)
        show Int.fmod (Int.ofNat i) 1 = 0
        omega
      have S5 : sSet 5 (eBin .mod (eBi .int (eV 3)) (eV 1)) Γ [a, .int (.ofNat 1), .ref c, .int (.ofNat i), .int zs[i], t] g = .nx [a, .int (.ofNat 1), .ref c, .int (.ofNat i), .int zs[i], .int (.ofNat 0)] g := by
        have q := svSet (n := 5) (evMod (evInt (evV (Γ := Γ) (σ := [a, .int (.ofNat 1), .ref c, .int (.ofNat i), .int zs[i], t]) (g := g) (n := 3) (d := .int (.ofNat i)) rfl nofun)) (evV (n := 1) (d := .int (.ofNat 1)) rfl nofun) (by decide))
        rw [hf0] at q
        exact q
      have v : ∀ n d, ([a, .int (.ofNat 1), .ref c, .int (.ofNat i), .int zs[i], .int (.ofNat 0)] : St)[n]? = some d → d ≠ .und → eV n Γ [a, .int (.ofNat 1), .ref c, .int (.ofNat i), .int zs[i], .int (.ofNat 0)] g = .ok d g := fun n d h nd => evV h nd
      obtain ⟨g', w', hn', hc', ho, hs⟩ := svSub (evAdd (evIx (v 2 (.ref c) rfl nofun) (v 5 (.int (.ofNat 0)) rfl nofun) hc (by decide) rfl) (evMul (v 4 (.int zs[i]) rfl nofun) (evAdd (v 3 (.int (.ofNat i)) rfl nofun) (rfl : eC (.int (.ofNat 2)) Γ _ g = _)) (.inr (small_of (by show 0 ≤ (i : Int) + 2; omega) (by show (i : Int) + 2 < _; omega)))))
        (v 2 (.ref c) rfl nofun) (v 5 (.int (.ofNat 0)) rfl nofun) w hcn hc (by decide)
      have hb : cBd Γ [a, .int (.ofNat 1), .ref c, .int (.ofNat i), .int zs[i], t] g = .nx [a, .int (.ofNat 1), .ref c, .int (.ofNat i), .int zs[i], .int (.ofNat 0)] g' := bvCons S5 (bvCons hs rfl)
      obtain ⟨σ', g2, z', q1, q2⟩ := cells_loop hce hz m (i + 1) g' _ a (.int (.ofNat i)) (.int zs[i]) (.int (.ofNat 0)) (by omega) w' (by omega) hc' ((ho e (fun q => hce q.symm)).trans he)
      refine ⟨σ', g2, z', ?_, q2⟩
      show (R.stO (wEnum e i g) _) = _
      rw [hw]
      show RS.lap (cBd Γ [a, .int (.ofNat 1), .ref c, .int (.ofNat i), .int zs[i], t] g) _ = _
      rw [hb]
      show fNat (Nat.succ i) _ = _
      rw [fNat_eq]
      exact q1
    · have hy : (zs.map D.int)[i]? = none := by rw [List.getElem?_eq_none]; rw [List.length_map]; omega
      rw [hy] at hw
      refine ⟨[a, .int (.ofNat 1), .ref c, k, b, t], g, z, ?_, rfl, w, hcn, hc⟩
      show (R.stO (wEnum e i g) _) = _
      rw [hw]; rfl
theorem cells_ok (w : Whole g) {a : Nat} {ns : List Int} (ha : g.at? a = some (.rol ns.length (ns.map D.int))) (han : a < g.n) (hl : ns.length ≤ 63) :
    ∃ c z g', denB gv irCells Γ [.ref a, .int (.ofNat 1), .und, .und, .und, .und] g = .rt (.ref c) g' ∧ Whole g' ∧ c < g'.n ∧ g'.at? c = some (.lst 1 [.int z]) := by
  have ha' : g.at? a = some (.rol (ns.map D.int).length (ns.map D.int)) := by rw [List.length_map]; exact ha
  have hlm : (ns.map D.int).length ≤ lim := by rw [List.length_map]; exact Nat.le_trans hl (by decide)
  simp only [irCells, denB, denS, denE, denT, denA, denG, denGs, denO, denI, denOr, denOr1, lenG]
  -- the first cell
  have first : ∃ c z g1, eOr (eBi .list (eSl (eV 0) oNo (oSome (eV 1)))) (eLst (aCons (eC (.int (.ofNat 0))) aNil)) Γ [.ref a, .int (.ofNat 1), .und, .und, .und, .und] g = .ok (.ref c) g1 ∧ Whole g1 ∧ c < g1.n ∧ g.n ≤ c ∧ g1.at? c = some (.lst 1 [.int z]) ∧ g1.at? a = g.at? a := by
    obtain ⟨g1, w1, n1, c1, o1, s1⟩ := sl_ok (Γ := Γ) (σ := [.ref a, .int (.ofNat 1), .und, .und, .und, .und]) w ha' (e := eV 0) (lo := oNo) (hi := oSome (eV 1)) (l := none) (h := some (.ofNat 1)) (evV rfl nofun) rfl rfl hlm
    obtain ⟨g2, w2, n2, c2, o2, s2⟩ := list_ok w1 s1 c1 (Nat.le_trans cutL_len hlm)
    have ka : g2.at? a = g.at? a := (o2 a (by omega)).trans (o1 a (by omega))
    cases ns with
    | nil =>
      obtain ⟨g3, w3, n3, c3, o3, s3⟩ := evLst (Γ := Γ) (σ := [.ref a, .int (.ofNat 1), .und, .und, .und, .und]) w2 (evCons (rfl : eC (.int (.ofNat 0)) Γ _ g2 = _) evNil) (by decide)
      exact ⟨g2.n, .ofNat 0, g3, evOr_f s2 c2 s3, w3, by omega, by omega, c3, (o3 a (by omega)).trans ka⟩
    | cons x r =>
      have e : cutL ((x :: r).map D.int) none (some (.ofNat 1)) = [.int x] := by
        unfold cutL
        have : HT.sIx ((x :: r).map D.int).length ((x :: r).map D.int).length (some (.ofNat 1)) = 1 := (HT.sIx_nat _ _ 1).trans (by rw [List.length_map, List.length_cons]; omega)
        rw [this]; rfl
      rw [e] at c2
      exact ⟨g1.n, x, g2, evOr_t s2 c2, w2, by omega, by omega, c2, ka⟩
  obtain ⟨c, z, g1, s1, w1, hcn, hcg, hc, ka⟩ := first
  -- the slice
  obtain ⟨g2, w2, n2, c2, o2, s2⟩ := sl_ok (Γ := Γ) (σ := [.ref a, .int (.ofNat 1), .ref c, .und, .und, .und]) w1 (ka.trans ha') (e := eV 0) (lo := oSome (eV 1)) (hi := oSome (eC (.int (.ofNat 63)))) (l := some (.ofNat 1)) (h := some (.ofNat 63)) (evV rfl nofun) rfl rfl hlm
  obtain ⟨zs, hzs⟩ : ∃ zs : List Int, cutL (ns.map D.int) (some (.ofNat 1)) (some (.ofNat 63)) = zs.map D.int := by
    unfold cutL
    rw [← List.map_drop, ← List.map_take]
    exact ⟨_, rfl⟩
  have hzl : zs.length ≤ 63 := by
    have := cutL_len (xs := ns.map D.int) (lo := some (.ofNat 1)) (hi := some (.ofNat 63))
    rw [hzs, List.length_map, List.length_map] at this
    omega
  rw [hzs] at c2
  obtain ⟨σ', g3, z', q1, q2, w3, hcn3, hc3⟩ := cells_loop (Γ := Γ) (c := c) (e := g1.n) (zs := zs) (by omega) hzl turns 0 g2 z (.ref a) .und .und .und (Nat.lt_of_le_of_lt (Nat.sub_le _ _) (Nat.lt_of_le_of_lt hzl (by decide))) w2 (by omega) ((o2 c (by omega)).trans hc) c2
  refine ⟨c, z', g3, bvCons (svSet s1) (bvCons (g1 := g3) (σ' := σ') ?_ (bvRet (svRet (evV q2 nofun)))), w3, hcn3, hc3⟩
  have hI : iEnum (eSl (eV 0) (oSome (eV 1)) (oSome (eC (.int (.ofNat 63))))) Γ [.ref a, .int (.ofNat 1), .ref c, .und, .und, .und] g1 = .ok (wEnum g1.n) g2 := by
    unfold iEnum
    rw [s2]
    show g2.list g1.n R.stuck _ = _
    unfold G.list
    rw [G.look_eq, c2]
    show lrev _ [] _ = _
    rw [lrev_eq]
  have q := svFor (tg := gTup 2 (gCons (gV 3) (gCons (gV 4) gNil))) (b := cBd) hI
  exact q.trans q1
end
end Mini
/-! MiniZJ: a law's def: its front at unknown numbers, the rest by the kernel, the rest's heap of its own. -/
namespace Mini
open PySem PySem.Spec PyProof.Rows L2
noncomputable def isTrueS (r : RS) : Bool := RS.rec (motive := fun _ => Bool) (fun _ _ => false) (fun d _ => D.rec (motive_1 := fun _ => Bool) (motive_2 := fun _ => Bool) false false (fun b => b) (fun _ => false) (fun _ => false) (fun _ _ _ => false) (fun _ => false) (fun _ => false) (fun _ => false) false (fun _ _ _ _ => false) d) (fun _ _ => false) (fun _ _ => false) (fun _ _ _ _ => false) false r
theorem isTrueS_eq {r : RS} (h : isTrueS r = true) : ∃ g, r = .rt (.bl true) g := by
  cases r with
  | rt d g => cases d with
    | bl b => have e : b = true := h; subst e; exact ⟨g, rfl⟩
    | _ => cases h
  | _ => cases h
noncomputable def g0 (ns : List Int) : G := ⟨1, .node .nil (.rol ns.length (ns.map D.int)) .nil⟩
theorem g0_wf (ns : List Int) : Whole (g0 ns) := fun i hi => by
  have : i = 0 := by have : i < 1 := hi; omega
  subst this; exact ⟨_, rfl⟩
noncomputable def denL (gv : Nat → D) : List IS → SK
  | [] => bNil
  | s :: l => bCons (denS gv s) (denL gv l)
noncomputable def ckFr (C : Cf) (ns : Nm) : List IS → List PySem.Stmt → Bool
  | [], [] => true
  | i :: l, s :: r => ckS C ns i s && ckFr C ns l r
  | _, _ => false
/-- slots and what is known of them -/
def SubS (σ' σ : Mini.St) : Prop := σ'.length = σ.length ∧ ∀ (i : Nat) (d : D), σ'[i]? = some d → d ≠ .und → σ[i]? = some d ∧ purD (fun _ => true) d = true
def tFr (L : Lk) (Γ : CF) (W : WX) (gv : Nat → D) : List IS → TS → TS
  | [], u => u
  | s :: l, u => tSeq (RSt L Γ W (denS gv s)) (tFr L Γ W gv l u)
section
variable {L : Lk} {Γ : CF} {gv : Nat → D} {X : Cx} {W : WX} {C : Cf} {ns : Nm}
theorem pss_fr (x : Sx X W L Γ C gv ns) {u : TS} {SR : List PySem.Stmt} (hu : PSs X SR u) : ∀ (l : List IS) (SF : List PySem.Stmt), ckFr C ns l SF = true → PSs X (SF ++ SR) (tFr L Γ W gv l u)
  | [], [], _ => hu
  | [], _ :: _, h => by cases h
  | _ :: _, [], h => by cases h
  | i :: l, s :: r, h => by
    obtain ⟨h1, h2⟩ := He.ba (show (ckS C ns i s && ckFr C ns l r) = true from h)
    exact pss_cons (sS x i s h1) (pss_fr x hu l r h2)
theorem fr_run {u : TS} {D : Ends} : ∀ (l : List IS) {μ : Mu} {H : Hp} {σ σ2 : Mini.St} {g g2 : G} {τ : L2.St}, RepS L μ H σ τ → RepH L μ g H → denL gv l Γ σ g = .nx σ2 g2 →
    (∀ μ' H' τ', RepS L μ' H' σ2 τ' → RepH L μ' g2 H' → u D τ' H') → tFr L Γ W gv l u D τ H
  | [], μ, H, σ, σ2, g, g2, τ, rs, rh, e, k => by
    have e' : RS.nx σ g = RS.nx σ2 g2 := e
    cases e'
    exact k μ H τ rs rh
  | s :: l, μ, H, σ, σ2, g, g2, τ, rs, rh, e, k => by
    refine ⟨μ, σ, g, rs, rh, ?_⟩
    have e' : (denS gv s Γ σ g).seq (fun σ g => denL gv l Γ σ g) = .nx σ2 g2 := e
    cases q : denS gv s Γ σ g with
    | nx σ1 g1 =>
      rw [q] at e'
      exact fun μ' H' τ' _ rs' rh' => fr_run l rs' rh' e' k
    | rt d g1 => rw [q] at e'; cases e'
    | bk s1 g1 => rw [q] at e'; cases e'
    | ct s1 g1 => rw [q] at e'; cases e'
    | exc c p s1 g1 => rw [q] at e'; cases e'
    | stuck => rw [q] at e'; cases e'
/-- the rest, at whatever frame -/
def tRest (L : Lk) (Γ : CF) (W : WX) (m : SK) : TS := fun D τ H => ∃ F, RSt (L.fr F) Γ W m D τ H
end
/-- a law's promise: True -/
def spLaw (K : PySem.W.Frag) : Sp := fun vs H Q _ => ∃ (a : Addr) (ns : List Int), vs = [.ref a] ∧ ns.length ≤ 63 ∧ Only H ∧ SqL K H a (ns.map V.int) ∧ ∀ H', Q (.bl true) H'
theorem ints_rep {L : Lk} {μ : Mu} {H : Hp} : ∀ ns : List Int, RepVs L μ H (ns.map D.int) (ns.map V.int)
  | [] => .nil
  | n :: r => .cons (.int n) (ints_rep r)
theorem rest_s {L : Lk} {μ : Mu} {H F : Hp} {σ' σ : Mini.St} {τ : L2.St} (s : SubS σ' σ) (r : RepS L μ H σ τ) : RepS (L.fr F) (fun _ => none) H σ' τ := ⟨s.1.trans r.len, fun i d h nd => by
  obtain ⟨h1, h2⟩ := s.2 i d h nd
  obtain ⟨v, hv, rv⟩ := r.at_ i d h1 nd
  exact ⟨v, hv, RepV.pure (L := L) (F := L.F) (F' := F) (fun _ _ h => h) (fun _ _ _ h => h) h2 rv⟩⟩
section
variable {P : Program} {w : World} {K : PySem.W.Frag} {mg : PySem.Str → Option Value} {base : Heap} {T : FT} {C : Cf} {L : Lk} {gv : Nat → D}
theorem law_fn (p : Prg K mg L T gv C) (hF0 : L.F = fun _ => none) {d : DefR} {f : Addr} {fd : FuncData} (F : FunD K d.name d.name d.args d.body d.scope [] [] f fd) (ok : d.Ok C) {x : PySem.Str} (hps : d.ps = [x])
    {l : List IS} {r : IB} {SF SR : List PySem.Stmt} (hb : d.body = SF ++ SR) (c1 : ckFr { C with N := d.N } d.scope.names l SF = true) (c2 : ckSs { C with N := d.N } d.scope.names r SR = true) {k : Nat}
    (ev : ∀ ns : List Int, ns.length ≤ 63 → ∃ σ2 g2 σ', denL gv l (callN T k) (.ref 0 :: List.replicate (d.N.length - 1) .und) (g0 ns) = .nx σ2 g2 ∧ SubS σ' σ2 ∧ isTrueS (denB gv r (callN T k) σ' ⟨0, .nil⟩) = true) :
    FnOk P w K mg base (L2.CX P w) (k + 1) f fd d.ps (spLaw K) := by
  have hlen : ∀ vs H Q E, spLaw K vs H Q E → vs.length = d.ps.length := fun vs H Q E ⟨a, ns, h, _⟩ => by rw [h, hps]; rfl
  refine F.ok ok.sc hlen fun cdv A outer s H vs Q E hr hs0 => ?_
  obtain ⟨a, ns, rfl, hn, hO, hS, hQ⟩ := hs0
  have hu : (A.deeper (envOfC d.name d.scope s.heap.objs.size f cdv)).units + 65 < cLine := by have := hr.un; omega
  have sx : ∀ F2 : Hp, Sx (cxOf (L2.CX P w) P w K mg base d.N d.name d.scope f cdv A outer s H E) (fun cls d _ H => E cls d H) (L.fr F2) (callN T k) { C with N := d.N } gv d.scope.names := fun F2 => by
    have p2 := p.fr F2
    exact ⟨⟨p.hL.symm, hu, rfl, ok.sc.nd, rfl, fun n => by
        obtain ⟨fd', ps', F', kp', b'⟩ := prg_ok p k n
        exact ⟨k, fd', ps', F', hr, kp', b'⟩, p2.fm, p2.gm, p2.bm, p2.tm, p2.im, p2.rm, p2.em, p2.zm⟩,
      takes_of rfl rfl rfl rfl, rfl, ok.sc.kind, fun _ => rfl, passes_of rfl, rfl, rfl, p2.cm, p2.cls _ rfl, p2.ap _ rfl, p2.kit⟩
  have hsq : SqR L.K H a (ns.map V.int) := by
    rw [p.hL]
    rcases hS with hS | hS
    · rcases hS with hS | ⟨o, hS⟩
      · rcases hO a with q | ⟨o, xs, q⟩
        · rw [q] at hS; cases hS
        · rw [q] at hS; cases hS
      · exact .inl ⟨o, hS⟩
    · exact .inr hS
  obtain ⟨σ2, g2, σ', e1, sb, e2⟩ := ev ns hn
  obtain ⟨g3, e3⟩ := isTrueS_eq e2
  have hsc : SF ++ SR = d.body := hb.symm
  rw [hsc.symm]
  refine ⟨tFr (L.fr fun _ => none) (callN T k) (fun cls d _ H => E cls d H) gv l (tRest L (callN T k) (fun cls d _ H => E cls d H) (denB gv r)), pss_fr (sx _) ⟨fun pins s τ H D I ⟨F2, h⟩ => (sSs (sx F2) r SR c2).run pins s τ H D I h⟩ l SF c1, ?_⟩
  have hpl : 1 ≤ d.N.length := by
    have := congrArg List.length ok.sc.pre
    rw [List.length_take, hps] at this
    have h1 : ([x] : List PySem.Str).length = 1 := rfl
    omega
  have rv : RepVs (L.fr fun _ => none) (fun n => if n = 0 then some a else none) H [.ref 0] [.ref a] := .cons (.ref rfl) .nil
  refine fr_run l (μ := fun n => if n = 0 then some a else none) (g := g0 ns) (σ := .ref 0 :: List.replicate (d.N.length - 1) .und) (start_s rv rfl hpl) ?_ e1 fun μ' H' τ' rs rh => ?_
  · have hat : ∀ n c, (g0 ns).at? n = some c → n = 0 ∧ c = .rol ns.length (ns.map D.int) := fun n c h => by
      cases n with
      | zero => exact ⟨rfl, (Option.some.inj h).symm⟩
      | succ n =>
        have h' : sel (Nat.beq (Nat.mod n 2) 0) (none : Option Cell) none = some c := h
        cases e : Nat.beq (Nat.mod n 2) 0 <;> (rw [e] at h'; cases h')
    refine ⟨fun n c h => ?_, fun n m b c d' h h' m1 m2 _ _ => ?_, fun n b h => ?_, fun n c h => ?_, fun _ _ h => (nomatch h), fun _ _ _ _ _ _ => rfl⟩
    · obtain ⟨rfl, rfl⟩ := hat n c h
      refine ⟨a, rfl, ?_⟩
      have := RepC.rol (L := L.fr fun _ => none) (μ := fun n => if n = 0 then some a else none) (xs := ns.map D.int) hsq (ints_rep ns)
      rw [List.length_map] at this
      exact this
    · obtain ⟨_, rfl⟩ := hat n _ h
      cases m1
    · have h' : (if n = 0 then some a else none) = some b := h
      by_cases e : n = 0
      · subst e; exact Nat.zero_lt_one
      · rw [if_neg e] at h'; cases h'
    · obtain ⟨rfl, _⟩ := hat n c h
      exact Nat.zero_lt_one
  · refine ⟨H', fun _ => none, σ', ⟨0, .nil⟩, rest_s (L := L.fr fun _ => none) (F := H') sb rs, repH_none, ?_⟩
    rw [e3]
    intro μ2 H2 v _ rv2 _
    cases rv2
    exact hQ H2
end
end Mini
/-! MiniZK: the front's statements; the law's end. -/
namespace Mini
open PySem PySem.Spec PyProof.Rows L2
noncomputable def irTin (fB fC : Nat) : IS := .set 1 (.call fB (.cons (.call fC (.cons (.v 0) (.cons (.c (.int (.ofNat 1))) .nil))) (.cons (.c (.int (.ofNat 0))) .nil)))
theorem front_tin {T : FT} {gv : Nat → D} {k fC fB cc n : Nat} (hC : T.at? fC = some ⟨2, 6, false, denB gv irCells⟩) (hB : T.at? fB = some ⟨2, 3, false, denB gv (irBox cc)⟩) {ns : List Int} (hl : ns.length ≤ 63) :
    ∃ t g1, denS gv (irTin fB fC) (callN T (k + 1)) (.ref 0 :: List.replicate n .und) (g0 ns) = .nx ((.ref 0 :: List.replicate n .und).set 1 (.ref t)) g1 ∧ Whole g1 ∧ t < g1.n ∧ TinOk g1 t 0 := by
  obtain ⟨c, z, g1, e1, w1, hc, h1⟩ := cells_ok (Γ := callN T k) (gv := gv) (g0_wf ns) (a := 0) (ns := ns) rfl Nat.zero_lt_one hl
  obtain ⟨t, g2, e2, w2, ht, h2⟩ := box_ok (Γ := callN T k) (gv := gv) w1 h1 cc
  refine ⟨t, g2, ?_, w2, ht, h2⟩
  simp only [irTin, denS, denE, denA]
  have q1 : callN T (k + 1) fC [.ref 0, .int (.ofNat 1)] (g0 ns) = .ok (.ref c) g1 := (callN_of hC rfl).trans (by
    show endD (denB gv irCells (callN T k) [.ref 0, .int (.ofNat 1), .und, .und, .und, .und] (g0 ns)) = _
    rw [e1]; rfl)
  have q2 : callN T (k + 1) fB [.ref c, .int (.ofNat 0)] g1 = .ok (.ref t) g2 := (callN_of hB rfl).trans (by
    show endD (denB gv (irBox cc) (callN T k) [.ref c, .int (.ofNat 0), .und] g1) = _
    rw [e2]; rfl)
  exact svSet (evCall (evCons (evCall (evCons (evV rfl nofun) (evCons (rfl : eC (.int (.ofNat 1)) _ _ _ = .ok _ _) evNil)) q1) (evCons (rfl : eC (.int (.ofNat 0)) _ _ g1 = .ok _ g1) evNil)) q2)
theorem front_take {T : FT} {gv : Nat → D} {k fT t n m : Nat} {σ : Mini.St} {g : G} (hT : T.at? fT = some ⟨2, 6, false, denB gv irTake⟩) (h1 : σ[1]? = some (.ref t)) (w : Whole g) (ht : t < g.n) (ti : TinOk g t n) (hn : n < 1000000000) (hm : 0 < m) (hm2 : m < 1073741824) :
    ∃ r g', eCall fT (aCons (eV 1) (aCons (eC (.int (.ofNat m))) aNil)) (callN T (k + 1)) σ g = .ok (.int r) g' ∧ 0 ≤ r ∧ r < m ∧ Whole g' ∧ g'.n = g.n ∧ TinOk g' t (n + 1) := by
  obtain ⟨r, g', e, h0, h2, w', hn', ti', _⟩ := take_ok (Γ := callN T k) (gv := gv) w ht ti hn hm hm2
  refine ⟨r, g', ?_, h0, h2, w', hn', ti'⟩
  refine evCall (evCons (evV h1 nofun) (evCons (rfl : eC (.int (.ofNat m)) _ _ g = .ok _ g) evNil)) ((callN_of hT rfl).trans ?_)
  show endD (denB gv irTake (callN T k) [.ref t, .int (.ofNat m), .und, .und, .und, .und] g) = _
  rw [e]; rfl
theorem subS_one {N j : Nat} {d : D} {σ : Mini.St} (hl : σ.length = N) (hj : σ[j]? = some d) (hp : purD (fun _ => true) d = true) : SubS ((List.replicate N .und).set j d) σ := by
  refine ⟨by simp [hl], fun i x h nd => ?_⟩
  by_cases e : j = i
  · subst e
    rw [List.getElem?_set] at h
    simp only [if_true] at h
    split at h
    · have := Option.some.inj h
      subst this
      exact ⟨hj, hp⟩
    · cases h
  · rw [List.getElem?_set_ne e, List.getElem?_replicate] at h
    split at h
    · exact absurd (Option.some.inj h).symm nd
    · cases h
theorem denL_cons {gv : Nat → D} {s : IS} {l : List IS} {Γ : CF} {σ σ1 : Mini.St} {g g1 : G} {r : RS} (h : denS gv s Γ σ g = .nx σ1 g1) (h2 : denL gv l Γ σ1 g1 = r) : denL gv (s :: l) Γ σ g = r := bvCons h h2
/-- the law's end: a head by a Hook, exceptions raised and caught within -/
theorem walk_ofW {l : PySem.W.OpenLaw} {n k : Nat} {q : Program} {loose : List PySem.Str} {XP : (PySem.Str → Option Value) → Heap → Prop} {YP : World → Heap → Prop} {d : DefRec} {x : PySem.Str}
    (hn : l.most = some n) (hn2 : n ≤ sizeLine) (hdf : d.params.defaults = []) (hr : Room k callerA)
    (F : ∀ (wd : World) (mg : PySem.Str → Option Value) (fn : Addr) (hp : Heap), YP wd hp → hp.Ns mainGlobals mg → mg d.name = some (.ref fn) →
      ∃ (K : PySem.W.Frag) (fd : FuncData) (sp : Sp), K.In hp ∧ (∀ (t : Shared) (v : Value), BindsTo t fd ⟨[v], []⟩ [(x, v)]) ∧
        (∀ (H : Hp) (sa : Addr) (ks : List Int), ks.length ≤ n → Only H → SqL K H sa (ks.map V.int) → sp [.ref sa] H (fun v _ => v = .bl true) fun _ _ _ => False) ∧
        ∀ base : Heap, K.In base → base.Ns mainGlobals mg → FnOk l.prog wd K mg base (L2.CX l.prog wd) k fn fd [x] sp) :
    PySem.W.WalkO q loose XP YP l.row.toRowW d [] (fun f vs => PySem.call f vs) := by
  refine Att.attach_call hn hdf fun wd t0 t1 mg mb fn ob pm cd doc sa us ks W Y q1 q2 q3 hm hob hin hle hgen => ?_
  obtain ⟨K, fd, sp, hK, hbind, hspec, hfn⟩ := F wd mg fn _ Y W.T.g hm
  refine law_call hK W.T.g W.T.b W.T.builtins W.T.nolimit hgen hob hin (Nat.le_trans hle hn2) hr hfn hbind (fun H h1 h2 => hspec H sa ks hle h1 h2) ?_
  exact fun H e s' ⟨_, _, _, _, _, _, _, _, _, _, _, _, no⟩ => no
/-- the head's facts -/
theorem prg_head {c : Cd} {w : World} {h : Heap} {K : PySem.W.Frag} {mg : PySem.Str → Option Value} (X : K.In h) (G : h.Ns mainGlobals mg) (s : He.SaysX [] (c.defs.map DefR.dd) [] [] c.exB w h K)
    (all : AllD c.cf c.gv c.T 0 c.defs) (hne : c.defs ≠ []) (far : ∀ f, c.defs.length ≤ f → c.T.at? f = none) :
    Prg K mg (c.lk K) c.T c.gv c.cf ∧ ∀ d ∈ c.defs, ∃ fd, FunD K d.name d.name d.args d.body d.scope [] [] (He.ga K d.name) fd := by
  have fd : ∀ d ∈ c.defs, ∃ fd, FunD K d.name d.name d.args d.body d.scope [] [] (He.ga K d.name) fd := fun d hd => He.SaysD.defs (s.t.d) (d := d.dd) (List.mem_map_of_mem hd)
  exact ⟨prg_of X G s.more fd all hne far, fd⟩
end Mini
/-! the code of the law's text for the evaluator; printed by gen.py -/
namespace K01
open PySem PySem.Spec PyProof.Rows L2 Mini
noncomputable section
def top (i : Nat) : PySem.Stmt := PySem.Challenge.pw_promisepieces_k01_sums_and_formulas_refu.main.body.getD i (.Pass ⟨0, 0, 0, 0⟩)
def fnL : List (List Nat × Nat) := [([105, 115, 95, 110, 117, 109, 98, 101, 114], 0), ([105, 115, 95, 102, 114, 111, 109], 1), ([105, 115, 95, 108, 111, 110, 103], 2), ([116, 117, 112, 108, 101, 100], 3), ([105, 115, 95, 112, 97, 105, 114], 4), ([99, 111, 109, 109, 111, 110, 95, 111, 102], 5), ([105, 115, 95, 115, 121, 109, 98, 111, 108], 6), ([97, 114, 101, 95, 115, 121, 109, 98, 111, 108, 95, 112, 97, 105, 114, 115], 7), ([105, 115, 95, 115, 117, 109, 95, 105, 110], 8), ([115, 117, 114, 101, 95, 115, 117, 109], 9), ([115, 117, 114, 101, 95, 118, 97, 108, 117, 101, 115], 10), ([115, 117, 114, 101, 95, 115, 121, 109, 98, 111, 108], 11), ([115, 117, 114, 101, 95, 110, 117, 109, 98, 101, 114], 12), ([109, 97, 100, 101, 95, 115, 117, 109], 13), ([112, 108, 97, 105, 110, 95, 111, 102], 14), ([115, 121, 109, 98, 111, 108, 95, 111, 102], 15), ([109, 105, 120, 101, 100], 16), ([97, 100, 100, 95, 111, 102], 17), ([108, 101, 115, 115, 95, 111, 102], 18), ([116, 105, 109, 101, 115, 95, 111, 102], 19), ([115, 121, 109, 98, 111, 108, 115, 95, 105, 110], 20), ([116, 105, 109, 101, 115, 95, 105, 110], 21), ([112, 117, 116, 95, 105, 110], 22), ([99, 111, 110, 116, 101, 110, 116, 95, 111, 102], 23), ([114, 111, 117, 110, 100, 101, 100, 95, 98, 121], 24), ([119, 111, 114, 116, 104, 95, 111, 102], 25), ([116, 111, 108, 100, 95, 119, 111, 114, 116, 104], 26), ([112, 97, 114, 116, 95, 116, 101, 120, 116], 27), ([112, 108, 97, 105, 110, 95, 115, 117, 109], 28), ([115, 121, 109, 98, 111, 108, 95, 115, 117, 109], 29), ([115, 117, 109, 95, 97, 100, 100, 101, 100], 30), ([115, 117, 109, 95, 108, 101, 115, 115], 31), ([115, 117, 109, 95, 116, 105, 109, 101, 115], 32), ([115, 117, 109, 95, 115, 121, 109, 98, 111, 108, 115], 33), ([116, 105, 109, 101, 115, 95, 111, 102, 95, 115, 121, 109, 98, 111, 108], 34), ([115, 117, 109, 95, 112, 117, 116], 35), ([115, 117, 109, 95, 119, 111, 114, 116, 104], 36), ([115, 117, 109, 95, 99, 111, 110, 116, 101, 110, 116], 37), ([115, 117, 109, 95, 114, 111, 117, 110, 100, 101, 100], 38), ([115, 117, 109, 95, 116, 101, 120, 116], 39), ([105, 115, 95, 102, 111, 114, 109, 117, 108, 97, 95, 105, 110], 40), ([103, 111, 110, 101, 95, 117, 112], 41), ([115, 117, 114, 101, 95, 102, 111, 114, 109, 117, 108, 97], 42), ([98, 101, 108, 111, 119, 95, 110, 111, 117, 103, 104, 116], 43), ([97, 98, 111, 118, 101, 95, 110, 111, 117, 103, 104, 116], 44), ([111, 116, 104, 101, 114, 95, 116, 104, 97, 110, 95, 110, 111, 117, 103, 104, 116], 45), ([116, 117, 114, 110, 101, 100, 95, 97, 116, 111, 109], 46), ([116, 117, 114, 110, 101, 100, 95, 112, 97, 114, 116, 115], 47), ([116, 117, 114, 110, 101, 100], 48), ([115, 121, 109, 98, 111, 108, 115, 95, 111, 102, 95, 102, 111, 114, 109, 117, 108, 97], 49), ([109, 101, 116, 95, 97, 116, 111, 109], 50), ([109, 101, 116, 95, 112, 97, 114, 116, 115], 51), ([109, 101, 116, 95, 98, 121], 52), ([112, 117, 116, 95, 97, 116, 111, 109], 53), ([115, 97, 109, 101, 95, 112, 97, 114, 116, 115], 54), ([112, 117, 116, 95, 116, 104, 114, 111, 117, 103, 104], 55), ([116, 105, 100, 121, 95, 97, 116, 111, 109], 56), ([116, 105, 100, 121, 95, 112, 97, 114, 116, 115], 57), ([116, 105, 100, 105, 101, 100], 58), ([111, 110, 101, 95, 119, 97, 121], 59), ([109, 97, 110, 121, 95, 112, 97, 114, 116, 115], 60), ([109, 97, 110, 121, 95, 119, 97, 121, 115], 61), ([97, 116, 111, 109, 95, 119, 97, 121, 115], 62), ([112, 97, 114, 116, 95, 119, 97, 121, 115], 63), ([115, 97, 109, 101, 95, 97, 116, 111, 109], 64), ([116, 104, 105, 110, 110, 101, 100, 95, 112, 97, 114, 116, 115], 65), ([119, 97, 121, 115, 95, 111, 102], 66), ([105, 115, 95, 102, 111, 114, 109, 117, 108, 97], 67), ([102, 111, 114, 109, 117, 108, 97, 95, 115, 121, 109, 98, 111, 108, 115], 68), ([105, 115, 95, 109, 101, 116], 69), ([111, 112, 112, 111, 115, 105, 116, 101], 70), ([98, 111, 116, 104, 95, 102, 111, 114, 109, 117, 108, 97, 115], 71), ([102, 111, 114, 109, 117, 108, 97, 95, 112, 117, 116], 72), ([116, 105, 100, 121], 73), ([115, 112, 114, 101, 97, 100], 74), ([95, 108, 97, 119, 95, 98, 111, 120], 75), ([95, 108, 97, 119, 95, 116, 97, 107, 101], 76), ([95, 108, 97, 119, 95, 99, 101, 108, 108, 115], 77), ([95, 108, 97, 119, 95, 115, 97, 109, 101], 78), ([95, 108, 97, 119, 95, 117, 110, 109, 97, 114, 107, 101, 100], 79), ([95, 108, 97, 119, 95, 104, 101, 97, 114, 100], 80), ([108, 97, 119], 81)]
def clL : List (List Nat × Nat) := [([67, 97, 110, 78, 111, 116], 0), ([84, 111, 111, 77, 97, 110, 121], 1), ([85, 110, 102, 105, 116], 2)]
def glL : List (List Nat × Nat) := [([76, 79, 78, 71, 69, 83, 84], 0), ([78, 79, 85, 71, 72, 84], 1), ([116, 117, 114, 110, 101, 100, 95, 97, 116, 111, 109], 2), ([116, 117, 114, 110, 101, 100, 95, 112, 97, 114, 116, 115], 3), ([109, 101, 116, 95, 97, 116, 111, 109], 4), ([109, 101, 116, 95, 112, 97, 114, 116, 115], 5), ([112, 117, 116, 95, 97, 116, 111, 109], 6), ([115, 97, 109, 101, 95, 112, 97, 114, 116, 115], 7), ([89, 69, 83], 8), ([78, 79], 9), ([116, 105, 100, 121, 95, 97, 116, 111, 109], 10), ([116, 105, 100, 121, 95, 112, 97, 114, 116, 115], 11), ([111, 110, 101, 95, 119, 97, 121], 12), ([109, 97, 110, 121, 95, 112, 97, 114, 116, 115], 13), ([115, 97, 109, 101, 95, 97, 116, 111, 109], 14), ([116, 104, 105, 110, 110, 101, 100, 95, 112, 97, 114, 116, 115], 15), ([97, 116, 111, 109, 95, 119, 97, 121, 115], 16), ([112, 97, 114, 116, 95, 119, 97, 121, 115], 17), ([77, 79, 83, 84, 95, 87, 65, 89, 83], 18), ([115, 117, 109, 95, 115, 121, 109, 98, 111, 108, 115], 19), ([115, 117, 109, 95, 99, 111, 110, 116, 101, 110, 116], 20), ([115, 117, 109, 95, 116, 101, 120, 116], 21), ([115, 117, 109, 95, 97, 100, 100, 101, 100], 22), ([115, 117, 109, 95, 108, 101, 115, 115], 23), ([115, 117, 109, 95, 116, 105, 109, 101, 115], 24), ([116, 105, 109, 101, 115, 95, 111, 102, 95, 115, 121, 109, 98, 111, 108], 25), ([115, 117, 109, 95, 112, 117, 116], 26), ([115, 117, 109, 95, 119, 111, 114, 116, 104], 27), ([115, 117, 109, 95, 114, 111, 117, 110, 100, 101, 100], 28), ([102, 111, 114, 109, 117, 108, 97, 95, 112, 117, 116], 29), ([111, 112, 112, 111, 115, 105, 116, 101], 30), ([116, 105, 100, 121], 31), ([112, 108, 97, 105, 110, 95, 115, 117, 109], 32), ([115, 121, 109, 98, 111, 108, 95, 115, 117, 109], 33), ([105, 115, 95, 109, 101, 116], 34), ([102, 111, 114, 109, 117, 108, 97, 95, 115, 121, 109, 98, 111, 108, 115], 35), ([115, 112, 114, 101, 97, 100], 36), ([98, 111, 116, 104, 95, 102, 111, 114, 109, 117, 108, 97, 115], 37)]
def glD : List D := [.int (.ofNat 40), .tup true [.int (.ofNat 0), .tup true []], .fn 46, .fn 47, .fn 50, .fn 51, .fn 53, .fn 54, .tup true [.str [97, 108, 108], .tup true []], .tup true [.str [97, 110, 121], .tup true []], .fn 56, .fn 57, .fn 59, .fn 60, .fn 64, .fn 65, .fn 62, .fn 63, .int (.ofNat 2000), .fn 33, .fn 37, .fn 39, .fn 30, .fn 31, .fn 32, .fn 34, .fn 35, .fn 36, .fn 38, .fn 72, .fn 70, .fn 73, .fn 28, .fn 29, .fn 69, .fn 68, .fn 74, .fn 71]
def gv (n : Nat) : D := lget glD n .non id
def cf : Cf := ⟨[], fnL, glL, clL, 3⟩
-- is_number
def ir0 : IB := (.cons (.ret (.an (.cons (.isi (.v 0) .int) (.cons (.nt (.isi (.v 0) .bool)) .nil)))) .nil)
def v0 : VS := (vbCons (vsRet (vAnd (vIsi (vV 0) .int) (vNot (vIsi (vV 0) .bool)))) vbNil)
def b0 : SK := vBody v0
theorem e0 : b0 = denB gv ir0 := (congrArg vBody (show v0 = vdB gv ir0 by kernel_rfl)).trans (vBody_eq (vdB_ok ir0))
def d0 : DefR := ⟨"is_number", defArgs (top 5), defBody (top 5), defScope (top 5), ["thing"], ["thing"], ir0⟩
theorem ck0 : ckSs { cf with N := d0.N } d0.scope.names d0.ir d0.body = true := by decide +kernel
theorem ok0 : d0.Ok cf := ⟨⟨rfl, rfl, rfl, by decide +kernel, rfl, by decide +kernel, by decide +kernel⟩, ck0, fun _ _ _ _ _ _ _ _ _ _ us hl => match us, hl with | [_], _ => rfl⟩
-- is_from
def ir1 : IB := (.cons (.ret (.an (.cons (.call 0 (.cons (.v 0) .nil)) (.cons (.cmp .ge (.v 0) (.v 1)) .nil)))) .nil)
def v1 : VS := (vbCons (vsRet (vAnd (vCall 0 (vCons (vV 0) vNil)) (vCmp .ge (vV 0) (vV 1)))) vbNil)
def b1 : SK := vBody v1
theorem e1 : b1 = denB gv ir1 := (congrArg vBody (show v1 = vdB gv ir1 by kernel_rfl)).trans (vBody_eq (vdB_ok ir1))
def d1 : DefR := ⟨"is_from", defArgs (top 6), defBody (top 6), defScope (top 6), ["thing", "least"], ["thing", "least"], ir1⟩
theorem ck1 : ckSs { cf with N := d1.N } d1.scope.names d1.ir d1.body = true := by decide +kernel
theorem ok1 : d1.Ok cf := ⟨⟨rfl, rfl, rfl, by decide +kernel, rfl, by decide +kernel, by decide +kernel⟩, ck1, fun _ _ _ _ _ _ _ _ _ _ us hl => match us, hl with | [_, _], _ => rfl⟩
-- is_long
def ir2 : IB := (.cons (.ret (.an (.cons (.isi (.v 0) .tuple) (.cons (.cmp .eq (.bi .len (.v 0)) (.v 1)) .nil)))) .nil)
def v2 : VS := (vbCons (vsRet (vAnd (vIsi (vV 0) .tuple) (vCmp .eq (vBi .len (vV 0)) (vV 1)))) vbNil)
def b2 : SK := vBody v2
theorem e2 : b2 = denB gv ir2 := (congrArg vBody (show v2 = vdB gv ir2 by kernel_rfl)).trans (vBody_eq (vdB_ok ir2))
def d2 : DefR := ⟨"is_long", defArgs (top 7), defBody (top 7), defScope (top 7), ["thing", "length"], ["thing", "length"], ir2⟩
theorem ck2 : ckSs { cf with N := d2.N } d2.scope.names d2.ir d2.body = true := by decide +kernel
theorem ok2 : d2.Ok cf := ⟨⟨rfl, rfl, rfl, by decide +kernel, rfl, by decide +kernel, by decide +kernel⟩, ck2, fun _ _ _ _ _ _ _ _ _ _ us hl => match us, hl with | [_, _], _ => rfl⟩
-- tupled
def ir3 : IB := (.cons (.ife (.no (.val (.isi2 (.v 0) .list .tuple))) (.cons (.ret (.v 0)) .nil) .nil) (.cons (.set 1 (.lst (.cons (.tup (.cons (.v 0) (.cons (.lst .nil) .nil))) .nil))) (.cons (.whl (.val (.c (.bl true))) (.cons (.asg (.tup (.cons (.v 2) (.cons (.v 3) .nil))) (.ix (.v 1) (.neg (.c (.int (.ofNat 1)))))) (.cons (.ife (.cmp .lt (.bi .len (.v 3)) (.bi .len (.v 2))) (.cons (.set 4 (.ix (.v 2) (.bi .len (.v 3)))) (.cons (.ife (.val (.isi2 (.v 4) .list .tuple)) (.cons (.ex (.mtA (.v 1) (.tup (.cons (.v 4) (.cons (.lst .nil) .nil))))) .nil) (.cons (.ex (.mtA (.v 3) (.v 4))) .nil)) (.cons .cont .nil))) .nil) (.cons (.ex (.mtP (.v 1))) (.cons (.ife (.cmp .eq (.v 1) (.lst .nil)) (.cons (.ret (.bi .tuple (.v 3))) .nil) .nil) (.cons (.ex (.mtA (.ix (.ix (.v 1) (.neg (.c (.int (.ofNat 1))))) (.c (.int (.ofNat 1)))) (.bi .tuple (.v 3)))) .nil)))))) .nil)))
def v3 : VS := (vbCons (vsIf (vNo (vTVal (vIsi2 (vV 0) .list .tuple))) (vbCons (vsRet (vV 0)) vbNil) vbNil) (vbCons (vsSet 1 (vLst (vCons (vTup (vCons (vV 0) (vCons (vLst vNil) vNil))) vNil))) (vbCons (vsWhl (vTVal (vC (.bl true))) (vbCons (vsAsg (vGTup 2 (vGCons (vGV 2) (vGCons (vGV 3) vGNil))) (vIx (vV 1) (vNeg (vC (.int (.ofNat 1)))))) (vbCons (vsIf (vTCmp .lt (vBi .len (vV 3)) (vBi .len (vV 2))) (vbCons (vsSet 4 (vIx (vV 2) (vBi .len (vV 3)))) (vbCons (vsIf (vTVal (vIsi2 (vV 4) .list .tuple)) (vbCons (vsEx (vMt .append (vV 1) (vCons (vTup (vCons (vV 4) (vCons (vLst vNil) vNil))) vNil))) vbNil) (vbCons (vsEx (vMt .append (vV 3) (vCons (vV 4) vNil))) vbNil)) (vbCons vsCont vbNil))) vbNil) (vbCons (vsEx (vMt .pop (vV 1) vNil)) (vbCons (vsIf (vTCmp .eq (vV 1) (vLst vNil)) (vbCons (vsRet (vBi .tuple (vV 3))) vbNil) vbNil) (vbCons (vsEx (vMt .append (vIx (vIx (vV 1) (vNeg (vC (.int (.ofNat 1))))) (vC (.int (.ofNat 1)))) (vCons (vBi .tuple (vV 3)) vNil))) vbNil)))))) vbNil)))
def b3 : SK := vBody v3
theorem e3 : b3 = denB gv ir3 := (congrArg vBody (show v3 = vdB gv ir3 by kernel_rfl)).trans (vBody_eq (vdB_ok ir3))
def d3 : DefR := ⟨"tupled", defArgs (top 8), defBody (top 8), defScope (top 8), ["value", "frames", "own", "found", "part"], ["value"], ir3⟩
theorem ck3 : ckSs { cf with N := d3.N } d3.scope.names d3.ir d3.body = true := by decide +kernel
theorem ok3 : d3.Ok cf := ⟨⟨rfl, rfl, rfl, by decide +kernel, rfl, by decide +kernel, by decide +kernel⟩, ck3, fun _ _ _ _ _ _ _ _ _ _ us hl => match us, hl with | [_], _ => rfl⟩
-- is_pair
def ir4 : IB := (.cons (.ret (.call 2 (.cons (.v 0) (.cons (.c (.int (.ofNat 2))) .nil)))) .nil)
def v4 : VS := (vbCons (vsRet (vCall 2 (vCons (vV 0) (vCons (vC (.int (.ofNat 2))) vNil)))) vbNil)
def b4 : SK := vBody v4
theorem e4 : b4 = denB gv ir4 := (congrArg vBody (show v4 = vdB gv ir4 by kernel_rfl)).trans (vBody_eq (vdB_ok ir4))
def d4 : DefR := ⟨"is_pair", defArgs (top 9), defBody (top 9), defScope (top 9), ["thing"], ["thing"], ir4⟩
theorem ck4 : ckSs { cf with N := d4.N } d4.scope.names d4.ir d4.body = true := by decide +kernel
theorem ok4 : d4.Ok cf := ⟨⟨rfl, rfl, rfl, by decide +kernel, rfl, by decide +kernel, by decide +kernel⟩, ck4, fun _ _ _ _ _ _ _ _ _ _ us hl => match us, hl with | [_], _ => rfl⟩
-- common_of
def ir5 : IB := (.cons (.set 1 (.c (.int (.ofNat 0)))) (.cons (.fr (.v 2) (.val (.v 0)) (.cons (.par 3 4 (.v 1) (.bi .abs (.v 2))) (.cons (.whl (.cmp .ne (.v 4) (.c (.int (.ofNat 0)))) (.cons (.par 3 4 (.v 4) (.bin .mod (.v 3) (.v 4))) .nil)) (.cons (.set 1 (.v 3)) .nil)))) (.cons (.ret (.v 1)) .nil)))
def v5 : VS := (vbCons (vsSet 1 (vC (.int (.ofNat 0)))) (vbCons (vsFor (vGV 2) (vIVal (vV 0)) (vbCons (vsPar 3 4 (vV 1) (vBi .abs (vV 2))) (vbCons (vsWhl (vTCmp .ne (vV 4) (vC (.int (.ofNat 0)))) (vbCons (vsPar 3 4 (vV 4) (vBin .mod (vV 3) (vV 4))) vbNil)) (vbCons (vsSet 1 (vV 3)) vbNil)))) (vbCons (vsRet (vV 1)) vbNil)))
def b5 : SK := vBody v5
theorem e5 : b5 = denB gv ir5 := (congrArg vBody (show v5 = vdB gv ir5 by kernel_rfl)).trans (vBody_eq (vdB_ok ir5))
def d5 : DefR := ⟨"common_of", defArgs (top 10), defBody (top 10), defScope (top 10), ["row", "found", "own", "near", "far"], ["row"], ir5⟩
theorem ck5 : ckSs { cf with N := d5.N } d5.scope.names d5.ir d5.body = true := by decide +kernel
theorem ok5 : d5.Ok cf := ⟨⟨rfl, rfl, rfl, by decide +kernel, rfl, by decide +kernel, by decide +kernel⟩, ck5, fun _ _ _ _ _ _ _ _ _ _ us hl => match us, hl with | [_], _ => rfl⟩
-- is_symbol
def ir6 : IB := (.cons (.ife (.orr (.cons (.no (.val (.isi (.v 0) .str))) (.cons (.no (.chain .le .le (.c (.int (.ofNat 1))) (.bi .len (.v 0)) (.g 0))) .nil))) (.cons (.ret (.c (.bl false))) .nil) .nil) (.cons (.ret (.bi .all (.lc (.an (.cons (.chain .le .le (.c (.str [33])) (.v 1) (.c (.str [126]))) (.cons (.cmp .ne (.v 1) (.c (.str [35]))) .nil))) [1] (.v 1) (.val (.v 0)) .yes))) .nil))
def v6 : VS := (vbCons (vsIf (vTOr (vNo (vTVal (vIsi (vV 0) .str))) (vNo (vTChain .le .le (vC (.int (.ofNat 1))) (vBi .len (vV 0)) (vC (.int (.ofNat 40)))))) (vbCons (vsRet (vC (.bl false))) vbNil) vbNil) (vbCons (vsRet (vBi .all (vLc (vAnd (vChain .le .le (vC (.str [33])) (vV 1) (vC (.str [126]))) (vCmp .ne (vV 1) (vC (.str [35])))) [1] (vGV 1) (vIVal (vV 0)) vYes))) vbNil))
def b6 : SK := vBody v6
theorem e6 : b6 = denB gv ir6 := (congrArg vBody (show v6 = vdB gv ir6 by kernel_rfl)).trans (vBody_eq (vdB_ok ir6))
def d6 : DefR := ⟨"is_symbol", defArgs (top 14), defBody (top 14), defScope (top 14), ["thing", "sign"], ["thing"], ir6⟩
theorem ck6 : ckSs { cf with N := d6.N } d6.scope.names d6.ir d6.body = true := by decide +kernel
theorem ok6 : d6.Ok cf := ⟨⟨rfl, rfl, rfl, by decide +kernel, rfl, by decide +kernel, by decide +kernel⟩, ck6, fun _ _ _ _ _ _ _ _ _ _ us hl => match us, hl with | [_], _ => rfl⟩
-- are_symbol_pairs
def ir7 : IB := (.cons (.ife (.orr (.cons (.no (.val (.isi (.v 0) .tuple))) (.cons (.no (.val (.bi .all (.lc (.call 4 (.cons (.v 2) .nil)) [2] (.v 2) (.val (.v 0)) .yes)))) .nil))) (.cons (.ret (.c (.bl false))) .nil) .nil) (.cons (.ife (.no (.val (.bi .all (.lc (.an (.cons (.call 6 (.cons (.ix (.v 2) (.c (.int (.ofNat 0)))) .nil)) (.cons (.call 0 (.cons (.ix (.v 2) (.c (.int (.ofNat 1)))) .nil)) .nil))) [2] (.v 2) (.val (.v 0)) .yes)))) (.cons (.ret (.c (.bl false))) .nil) .nil) (.cons (.ret (.bi .all (.lc (.cmp .lt (.ix (.ix (.v 0) (.v 1)) (.c (.int (.ofNat 0)))) (.ix (.ix (.v 0) (.bin .add (.v 1) (.c (.int (.ofNat 1))))) (.c (.int (.ofNat 0))))) [1] (.v 1) (.rng1 (.bin .sub (.bi .len (.v 0)) (.c (.int (.ofNat 1))))) .yes))) .nil)))
def v7 : VS := (vbCons (vsIf (vTOr (vNo (vTVal (vIsi (vV 0) .tuple))) (vNo (vTVal (vBi .all (vLc (vCall 4 (vCons (vV 2) vNil)) [2] (vGV 2) (vIVal (vV 0)) vYes))))) (vbCons (vsRet (vC (.bl false))) vbNil) vbNil) (vbCons (vsIf (vNo (vTVal (vBi .all (vLc (vAnd (vCall 6 (vCons (vIx (vV 2) (vC (.int (.ofNat 0)))) vNil)) (vCall 0 (vCons (vIx (vV 2) (vC (.int (.ofNat 1)))) vNil))) [2] (vGV 2) (vIVal (vV 0)) vYes)))) (vbCons (vsRet (vC (.bl false))) vbNil) vbNil) (vbCons (vsRet (vBi .all (vLc (vCmp .lt (vIx (vIx (vV 0) (vV 1)) (vC (.int (.ofNat 0)))) (vIx (vIx (vV 0) (vBin .add (vV 1) (vC (.int (.ofNat 1))))) (vC (.int (.ofNat 0))))) [1] (vGV 1) (vIGen fRng1 (vBin .sub (vBi .len (vV 0)) (vC (.int (.ofNat 1))))) vYes))) vbNil)))
def b7 : SK := vBody v7
theorem e7 : b7 = denB gv ir7 := (congrArg vBody (show v7 = vdB gv ir7 by kernel_rfl)).trans (vBody_eq (vdB_ok ir7))
def d7 : DefR := ⟨"are_symbol_pairs", defArgs (top 15), defBody (top 15), defScope (top 15), ["thing", "place", "own"], ["thing"], ir7⟩
theorem ck7 : ckSs { cf with N := d7.N } d7.scope.names d7.ir d7.body = true := by decide +kernel
theorem ok7 : d7.Ok cf := ⟨⟨rfl, rfl, rfl, by decide +kernel, rfl, by decide +kernel, by decide +kernel⟩, ck7, fun _ _ _ _ _ _ _ _ _ _ us hl => match us, hl with | [_], _ => rfl⟩
-- is_sum_in
def ir8 : IB := (.cons (.ife (.orr (.cons (.no (.val (.call 2 (.cons (.v 0) (.cons (.c (.int (.ofNat 2))) .nil))))) (.cons (.no (.val (.call 0 (.cons (.ix (.v 0) (.c (.int (.ofNat 0)))) .nil)))) (.cons (.no (.val (.call 7 (.cons (.ix (.v 0) (.c (.int (.ofNat 1)))) .nil)))) .nil)))) (.cons (.ret (.c (.bl false))) .nil) .nil) (.cons (.ret (.bi .all (.lc (.cmp .ne (.ix (.v 1) (.c (.int (.ofNat 1)))) (.c (.int (.ofNat 0)))) [1] (.v 1) (.val (.ix (.v 0) (.c (.int (.ofNat 1))))) .yes))) .nil))
def v8 : VS := (vbCons (vsIf (vTOr (vNo (vTVal (vCall 2 (vCons (vV 0) (vCons (vC (.int (.ofNat 2))) vNil))))) (vTOr (vNo (vTVal (vCall 0 (vCons (vIx (vV 0) (vC (.int (.ofNat 0)))) vNil)))) (vNo (vTVal (vCall 7 (vCons (vIx (vV 0) (vC (.int (.ofNat 1)))) vNil)))))) (vbCons (vsRet (vC (.bl false))) vbNil) vbNil) (vbCons (vsRet (vBi .all (vLc (vCmp .ne (vIx (vV 1) (vC (.int (.ofNat 1)))) (vC (.int (.ofNat 0)))) [1] (vGV 1) (vIVal (vIx (vV 0) (vC (.int (.ofNat 1))))) vYes))) vbNil))
def b8 : SK := vBody v8
theorem e8 : b8 = denB gv ir8 := (congrArg vBody (show v8 = vdB gv ir8 by kernel_rfl)).trans (vBody_eq (vdB_ok ir8))
def d8 : DefR := ⟨"is_sum_in", defArgs (top 16), defBody (top 16), defScope (top 16), ["thing", "own"], ["thing"], ir8⟩
theorem ck8 : ckSs { cf with N := d8.N } d8.scope.names d8.ir d8.body = true := by decide +kernel
theorem ok8 : d8.Ok cf := ⟨⟨rfl, rfl, rfl, by decide +kernel, rfl, by decide +kernel, by decide +kernel⟩, ck8, fun _ _ _ _ _ _ _ _ _ _ us hl => match us, hl with | [_], _ => rfl⟩
-- sure_sum
def ir9 : IB := (.cons (.set 1 (.call 3 (.cons (.v 0) .nil))) (.cons (.ife (.no (.val (.call 8 (.cons (.v 1) .nil)))) (.cons (.rse 2) .nil) .nil) (.cons (.ret (.v 1)) .nil)))
def v9 : VS := (vbCons (vsSet 1 (vCall 3 (vCons (vV 0) vNil))) (vbCons (vsIf (vNo (vTVal (vCall 8 (vCons (vV 1) vNil)))) (vbCons (vsRse 2) vbNil) vbNil) (vbCons (vsRet (vV 1)) vbNil)))
def b9 : SK := vBody v9
theorem e9 : b9 = denB gv ir9 := (congrArg vBody (show v9 = vdB gv ir9 by kernel_rfl)).trans (vBody_eq (vdB_ok ir9))
def d9 : DefR := ⟨"sure_sum", defArgs (top 17), defBody (top 17), defScope (top 17), ["value", "own"], ["value"], ir9⟩
theorem ck9 : ckSs { cf with N := d9.N } d9.scope.names d9.ir d9.body = true := by decide +kernel
theorem ok9 : d9.Ok cf := ⟨⟨rfl, rfl, rfl, by decide +kernel, rfl, by decide +kernel, by decide +kernel⟩, ck9, fun _ _ _ _ _ _ _ _ _ _ us hl => match us, hl with | [_], _ => rfl⟩
-- sure_values
def ir10 : IB := (.cons (.set 1 (.call 3 (.cons (.v 0) .nil))) (.cons (.ife (.no (.val (.call 7 (.cons (.v 1) .nil)))) (.cons (.rse 2) .nil) .nil) (.cons (.ret (.v 1)) .nil)))
def v10 : VS := (vbCons (vsSet 1 (vCall 3 (vCons (vV 0) vNil))) (vbCons (vsIf (vNo (vTVal (vCall 7 (vCons (vV 1) vNil)))) (vbCons (vsRse 2) vbNil) vbNil) (vbCons (vsRet (vV 1)) vbNil)))
def b10 : SK := vBody v10
theorem e10 : b10 = denB gv ir10 := (congrArg vBody (show v10 = vdB gv ir10 by kernel_rfl)).trans (vBody_eq (vdB_ok ir10))
def d10 : DefR := ⟨"sure_values", defArgs (top 18), defBody (top 18), defScope (top 18), ["value", "own"], ["value"], ir10⟩
theorem ck10 : ckSs { cf with N := d10.N } d10.scope.names d10.ir d10.body = true := by decide +kernel
theorem ok10 : d10.Ok cf := ⟨⟨rfl, rfl, rfl, by decide +kernel, rfl, by decide +kernel, by decide +kernel⟩, ck10, fun _ _ _ _ _ _ _ _ _ _ us hl => match us, hl with | [_], _ => rfl⟩
-- sure_symbol
def ir11 : IB := (.cons (.ife (.no (.val (.call 6 (.cons (.v 0) .nil)))) (.cons (.rse 2) .nil) .nil) (.cons (.ret (.v 0)) .nil))
def v11 : VS := (vbCons (vsIf (vNo (vTVal (vCall 6 (vCons (vV 0) vNil)))) (vbCons (vsRse 2) vbNil) vbNil) (vbCons (vsRet (vV 0)) vbNil))
def b11 : SK := vBody v11
theorem e11 : b11 = denB gv ir11 := (congrArg vBody (show v11 = vdB gv ir11 by kernel_rfl)).trans (vBody_eq (vdB_ok ir11))
def d11 : DefR := ⟨"sure_symbol", defArgs (top 19), defBody (top 19), defScope (top 19), ["value"], ["value"], ir11⟩
theorem ck11 : ckSs { cf with N := d11.N } d11.scope.names d11.ir d11.body = true := by decide +kernel
theorem ok11 : d11.Ok cf := ⟨⟨rfl, rfl, rfl, by decide +kernel, rfl, by decide +kernel, by decide +kernel⟩, ck11, fun _ _ _ _ _ _ _ _ _ _ us hl => match us, hl with | [_], _ => rfl⟩
-- sure_number
def ir12 : IB := (.cons (.ife (.no (.val (.call 0 (.cons (.v 0) .nil)))) (.cons (.rse 2) .nil) .nil) (.cons (.ret (.v 0)) .nil))
def v12 : VS := (vbCons (vsIf (vNo (vTVal (vCall 0 (vCons (vV 0) vNil)))) (vbCons (vsRse 2) vbNil) vbNil) (vbCons (vsRet (vV 0)) vbNil))
def b12 : SK := vBody v12
theorem e12 : b12 = denB gv ir12 := (congrArg vBody (show v12 = vdB gv ir12 by kernel_rfl)).trans (vBody_eq (vdB_ok ir12))
def d12 : DefR := ⟨"sure_number", defArgs (top 20), defBody (top 20), defScope (top 20), ["value"], ["value"], ir12⟩
theorem ck12 : ckSs { cf with N := d12.N } d12.scope.names d12.ir d12.body = true := by decide +kernel
theorem ok12 : d12.Ok cf := ⟨⟨rfl, rfl, rfl, by decide +kernel, rfl, by decide +kernel, by decide +kernel⟩, ck12, fun _ _ _ _ _ _ _ _ _ _ us hl => match us, hl with | [_], _ => rfl⟩
-- made_sum
def ir13 : IB := (.cons (.ret (.tup (.cons (.v 0) (.cons (.bi .tuple (.lc (.tup (.cons (.v 2) (.cons (.ix (.v 1) (.v 2)) .nil))) [2] (.v 2) (.val (.bi .sorted (.v 1))) (.cmp .ne (.ix (.v 1) (.v 2)) (.c (.int (.ofNat 0)))))) .nil)))) .nil)
def v13 : VS := (vbCons (vsRet (vTup (vCons (vV 0) (vCons (vBi .tuple (vLc (vTup (vCons (vV 2) (vCons (vIx (vV 1) (vV 2)) vNil))) [2] (vGV 2) (vIVal (vBi .sorted (vV 1))) (vTCmp .ne (vIx (vV 1) (vV 2)) (vC (.int (.ofNat 0)))))) vNil)))) vbNil)
def b13 : SK := vBody v13
theorem e13 : b13 = denB gv ir13 := (congrArg vBody (show v13 = vdB gv ir13 by kernel_rfl)).trans (vBody_eq (vdB_ok ir13))
def d13 : DefR := ⟨"made_sum", defArgs (top 21), defBody (top 21), defScope (top 21), ["plain", "times", "symbol"], ["plain", "times"], ir13⟩
theorem ck13 : ckSs { cf with N := d13.N } d13.scope.names d13.ir d13.body = true := by decide +kernel
theorem ok13 : d13.Ok cf := ⟨⟨rfl, rfl, rfl, by decide +kernel, rfl, by decide +kernel, by decide +kernel⟩, ck13, fun _ _ _ _ _ _ _ _ _ _ us hl => match us, hl with | [_, _], _ => rfl⟩
-- plain_of
def ir14 : IB := (.cons (.ret (.tup (.cons (.v 0) (.cons (.tup .nil) .nil)))) .nil)
def v14 : VS := (vbCons (vsRet (vTup (vCons (vV 0) (vCons (vTup vNil) vNil)))) vbNil)
def b14 : SK := vBody v14
theorem e14 : b14 = denB gv ir14 := (congrArg vBody (show v14 = vdB gv ir14 by kernel_rfl)).trans (vBody_eq (vdB_ok ir14))
def d14 : DefR := ⟨"plain_of", defArgs (top 22), defBody (top 22), defScope (top 22), ["number"], ["number"], ir14⟩
theorem ck14 : ckSs { cf with N := d14.N } d14.scope.names d14.ir d14.body = true := by decide +kernel
theorem ok14 : d14.Ok cf := ⟨⟨rfl, rfl, rfl, by decide +kernel, rfl, by decide +kernel, by decide +kernel⟩, ck14, fun _ _ _ _ _ _ _ _ _ _ us hl => match us, hl with | [_], _ => rfl⟩
-- symbol_of
def ir15 : IB := (.cons (.ret (.tup (.cons (.c (.int (.ofNat 0))) (.cons (.tup (.cons (.tup (.cons (.v 0) (.cons (.c (.int (.ofNat 1))) .nil))) .nil)) .nil)))) .nil)
def v15 : VS := (vbCons (vsRet (vTup (vCons (vC (.int (.ofNat 0))) (vCons (vTup (vCons (vTup (vCons (vV 0) (vCons (vC (.int (.ofNat 1))) vNil))) vNil)) vNil)))) vbNil)
def b15 : SK := vBody v15
theorem e15 : b15 = denB gv ir15 := (congrArg vBody (show v15 = vdB gv ir15 by kernel_rfl)).trans (vBody_eq (vdB_ok ir15))
def d15 : DefR := ⟨"symbol_of", defArgs (top 23), defBody (top 23), defScope (top 23), ["symbol"], ["symbol"], ir15⟩
theorem ck15 : ckSs { cf with N := d15.N } d15.scope.names d15.ir d15.body = true := by decide +kernel
theorem ok15 : d15.Ok cf := ⟨⟨rfl, rfl, rfl, by decide +kernel, rfl, by decide +kernel, by decide +kernel⟩, ck15, fun _ _ _ _ _ _ _ _ _ _ us hl => match us, hl with | [_], _ => rfl⟩
-- mixed
def ir16 : IB := (.cons (.set 3 (.bi .dict (.ix (.v 0) (.c (.int (.ofNat 1)))))) (.cons (.fr (.tup (.cons (.v 4) (.cons (.v 5) .nil))) (.val (.ix (.v 2) (.c (.int (.ofNat 1))))) (.cons (.asg (.sub (.v 3) (.v 4)) (.bin .add (.mtH (.v 3) (.v 4) (.c (.int (.ofNat 0)))) (.bin .mul (.v 1) (.v 5)))) .nil)) (.cons (.ret (.call 13 (.cons (.bin .add (.ix (.v 0) (.c (.int (.ofNat 0)))) (.bin .mul (.v 1) (.ix (.v 2) (.c (.int (.ofNat 0)))))) (.cons (.v 3) .nil)))) .nil)))
def v16 : VS := (vbCons (vsSet 3 (vBi .dict (vIx (vV 0) (vC (.int (.ofNat 1)))))) (vbCons (vsFor (vGTup 2 (vGCons (vGV 4) (vGCons (vGV 5) vGNil))) (vIVal (vIx (vV 2) (vC (.int (.ofNat 1))))) (vbCons (vsAsg (vGSub (vV 3) (vV 4)) (vBin .add (vMt .get2 (vV 3) (vCons (vV 4) (vCons (vC (.int (.ofNat 0))) vNil))) (vBin .mul (vV 1) (vV 5)))) vbNil)) (vbCons (vsRet (vCall 13 (vCons (vBin .add (vIx (vV 0) (vC (.int (.ofNat 0)))) (vBin .mul (vV 1) (vIx (vV 2) (vC (.int (.ofNat 0)))))) (vCons (vV 3) vNil)))) vbNil)))
def b16 : SK := vBody v16
theorem e16 : b16 = denB gv ir16 := (congrArg vBody (show v16 = vdB gv ir16 by kernel_rfl)).trans (vBody_eq (vdB_ok ir16))
def d16 : DefR := ⟨"mixed", defArgs (top 24), defBody (top 24), defScope (top 24), ["one", "times", "other", "found", "symbol", "number"], ["one", "times", "other"], ir16⟩
theorem ck16 : ckSs { cf with N := d16.N } d16.scope.names d16.ir d16.body = true := by decide +kernel
theorem ok16 : d16.Ok cf := ⟨⟨rfl, rfl, rfl, by decide +kernel, rfl, by decide +kernel, by decide +kernel⟩, ck16, fun _ _ _ _ _ _ _ _ _ _ us hl => match us, hl with | [_, _, _], _ => rfl⟩
-- add_of
def ir17 : IB := (.cons (.ret (.call 16 (.cons (.v 0) (.cons (.c (.int (.ofNat 1))) (.cons (.v 1) .nil))))) .nil)
def v17 : VS := (vbCons (vsRet (vCall 16 (vCons (vV 0) (vCons (vC (.int (.ofNat 1))) (vCons (vV 1) vNil))))) vbNil)
def b17 : SK := vBody v17
theorem e17 : b17 = denB gv ir17 := (congrArg vBody (show v17 = vdB gv ir17 by kernel_rfl)).trans (vBody_eq (vdB_ok ir17))
def d17 : DefR := ⟨"add_of", defArgs (top 25), defBody (top 25), defScope (top 25), ["one", "other"], ["one", "other"], ir17⟩
theorem ck17 : ckSs { cf with N := d17.N } d17.scope.names d17.ir d17.body = true := by decide +kernel
theorem ok17 : d17.Ok cf := ⟨⟨rfl, rfl, rfl, by decide +kernel, rfl, by decide +kernel, by decide +kernel⟩, ck17, fun _ _ _ _ _ _ _ _ _ _ us hl => match us, hl with | [_, _], _ => rfl⟩
-- less_of
def ir18 : IB := (.cons (.ret (.call 16 (.cons (.v 0) (.cons (.neg (.c (.int (.ofNat 1)))) (.cons (.v 1) .nil))))) .nil)
def v18 : VS := (vbCons (vsRet (vCall 16 (vCons (vV 0) (vCons (vNeg (vC (.int (.ofNat 1)))) (vCons (vV 1) vNil))))) vbNil)
def b18 : SK := vBody v18
theorem e18 : b18 = denB gv ir18 := (congrArg vBody (show v18 = vdB gv ir18 by kernel_rfl)).trans (vBody_eq (vdB_ok ir18))
def d18 : DefR := ⟨"less_of", defArgs (top 26), defBody (top 26), defScope (top 26), ["one", "other"], ["one", "other"], ir18⟩
theorem ck18 : ckSs { cf with N := d18.N } d18.scope.names d18.ir d18.body = true := by decide +kernel
theorem ok18 : d18.Ok cf := ⟨⟨rfl, rfl, rfl, by decide +kernel, rfl, by decide +kernel, by decide +kernel⟩, ck18, fun _ _ _ _ _ _ _ _ _ _ us hl => match us, hl with | [_, _], _ => rfl⟩
-- times_of
def ir19 : IB := (.cons (.ife (.cmp .eq (.v 1) (.c (.int (.ofNat 0)))) (.cons (.ret (.g 1)) .nil) .nil) (.cons (.ret (.tup (.cons (.bin .mul (.ix (.v 0) (.c (.int (.ofNat 0)))) (.v 1)) (.cons (.bi .tuple (.lc (.tup (.cons (.v 2) (.cons (.bin .mul (.v 3) (.v 1)) .nil))) [2, 3] (.tup (.cons (.v 2) (.cons (.v 3) .nil))) (.val (.ix (.v 0) (.c (.int (.ofNat 1))))) .yes)) .nil)))) .nil))
def v19 : VS := (vbCons (vsIf (vTCmp .eq (vV 1) (vC (.int (.ofNat 0)))) (vbCons (vsRet (vC (.tup true [.int (.ofNat 0), .tup true []]))) vbNil) vbNil) (vbCons (vsRet (vTup (vCons (vBin .mul (vIx (vV 0) (vC (.int (.ofNat 0)))) (vV 1)) (vCons (vBi .tuple (vLc (vTup (vCons (vV 2) (vCons (vBin .mul (vV 3) (vV 1)) vNil))) [2, 3] (vGTup 2 (vGCons (vGV 2) (vGCons (vGV 3) vGNil))) (vIVal (vIx (vV 0) (vC (.int (.ofNat 1))))) vYes)) vNil)))) vbNil))
def b19 : SK := vBody v19
theorem e19 : b19 = denB gv ir19 := (congrArg vBody (show v19 = vdB gv ir19 by kernel_rfl)).trans (vBody_eq (vdB_ok ir19))
def d19 : DefR := ⟨"times_of", defArgs (top 27), defBody (top 27), defScope (top 27), ["one", "number", "symbol", "own"], ["one", "number"], ir19⟩
theorem ck19 : ckSs { cf with N := d19.N } d19.scope.names d19.ir d19.body = true := by decide +kernel
theorem ok19 : d19.Ok cf := ⟨⟨rfl, rfl, rfl, by decide +kernel, rfl, by decide +kernel, by decide +kernel⟩, ck19, fun _ _ _ _ _ _ _ _ _ _ us hl => match us, hl with | [_, _], _ => rfl⟩
-- symbols_in
def ir20 : IB := (.cons (.ret (.bi .tuple (.lc (.v 1) [1, 2] (.tup (.cons (.v 1) (.cons (.v 2) .nil))) (.val (.ix (.v 0) (.c (.int (.ofNat 1))))) .yes))) .nil)
def v20 : VS := (vbCons (vsRet (vBi .tuple (vLc (vV 1) [1, 2] (vGTup 2 (vGCons (vGV 1) (vGCons (vGV 2) vGNil))) (vIVal (vIx (vV 0) (vC (.int (.ofNat 1))))) vYes))) vbNil)
def b20 : SK := vBody v20
theorem e20 : b20 = denB gv ir20 := (congrArg vBody (show v20 = vdB gv ir20 by kernel_rfl)).trans (vBody_eq (vdB_ok ir20))
def d20 : DefR := ⟨"symbols_in", defArgs (top 28), defBody (top 28), defScope (top 28), ["one", "symbol", "number"], ["one"], ir20⟩
theorem ck20 : ckSs { cf with N := d20.N } d20.scope.names d20.ir d20.body = true := by decide +kernel
theorem ok20 : d20.Ok cf := ⟨⟨rfl, rfl, rfl, by decide +kernel, rfl, by decide +kernel, by decide +kernel⟩, ck20, fun _ _ _ _ _ _ _ _ _ _ us hl => match us, hl with | [_], _ => rfl⟩
-- times_in
def ir21 : IB := (.cons (.fr (.tup (.cons (.v 2) (.cons (.v 3) .nil))) (.val (.ix (.v 0) (.c (.int (.ofNat 1))))) (.cons (.ife (.cmp .eq (.v 2) (.v 1)) (.cons (.ret (.v 3)) .nil) .nil) .nil)) (.cons (.ret (.c (.int (.ofNat 0)))) .nil))
def v21 : VS := (vbCons (vsFor (vGTup 2 (vGCons (vGV 2) (vGCons (vGV 3) vGNil))) (vIVal (vIx (vV 0) (vC (.int (.ofNat 1))))) (vbCons (vsIf (vTCmp .eq (vV 2) (vV 1)) (vbCons (vsRet (vV 3)) vbNil) vbNil) vbNil)) (vbCons (vsRet (vC (.int (.ofNat 0)))) vbNil))
def b21 : SK := vBody v21
theorem e21 : b21 = denB gv ir21 := (congrArg vBody (show v21 = vdB gv ir21 by kernel_rfl)).trans (vBody_eq (vdB_ok ir21))
def d21 : DefR := ⟨"times_in", defArgs (top 29), defBody (top 29), defScope (top 29), ["one", "symbol", "own", "number"], ["one", "symbol"], ir21⟩
theorem ck21 : ckSs { cf with N := d21.N } d21.scope.names d21.ir d21.body = true := by decide +kernel
theorem ok21 : d21.Ok cf := ⟨⟨rfl, rfl, rfl, by decide +kernel, rfl, by decide +kernel, by decide +kernel⟩, ck21, fun _ _ _ _ _ _ _ _ _ _ us hl => match us, hl with | [_, _], _ => rfl⟩
-- put_in
def ir22 : IB := (.cons (.set 3 (.call 21 (.cons (.v 0) (.cons (.v 1) .nil)))) (.cons (.ife (.cmp .eq (.v 3) (.c (.int (.ofNat 0)))) (.cons (.ret (.v 0)) .nil) .nil) (.cons (.set 4 (.tup (.cons (.ix (.v 0) (.c (.int (.ofNat 0)))) (.cons (.bi .tuple (.lc (.v 5) [5] (.v 5) (.val (.ix (.v 0) (.c (.int (.ofNat 1))))) (.cmp .ne (.ix (.v 5) (.c (.int (.ofNat 0)))) (.v 1)))) .nil)))) (.cons (.ret (.call 16 (.cons (.v 4) (.cons (.v 3) (.cons (.v 2) .nil))))) .nil))))
def v22 : VS := (vbCons (vsSet 3 (vCall 21 (vCons (vV 0) (vCons (vV 1) vNil)))) (vbCons (vsIf (vTCmp .eq (vV 3) (vC (.int (.ofNat 0)))) (vbCons (vsRet (vV 0)) vbNil) vbNil) (vbCons (vsSet 4 (vTup (vCons (vIx (vV 0) (vC (.int (.ofNat 0)))) (vCons (vBi .tuple (vLc (vV 5) [5] (vGV 5) (vIVal (vIx (vV 0) (vC (.int (.ofNat 1))))) (vTCmp .ne (vIx (vV 5) (vC (.int (.ofNat 0)))) (vV 1)))) vNil)))) (vbCons (vsRet (vCall 16 (vCons (vV 4) (vCons (vV 3) (vCons (vV 2) vNil))))) vbNil))))
def b22 : SK := vBody v22
theorem e22 : b22 = denB gv ir22 := (congrArg vBody (show v22 = vdB gv ir22 by kernel_rfl)).trans (vBody_eq (vdB_ok ir22))
def d22 : DefR := ⟨"put_in", defArgs (top 30), defBody (top 30), defScope (top 30), ["one", "symbol", "other", "times", "rest", "own"], ["one", "symbol", "other"], ir22⟩
theorem ck22 : ckSs { cf with N := d22.N } d22.scope.names d22.ir d22.body = true := by decide +kernel
theorem ok22 : d22.Ok cf := ⟨⟨rfl, rfl, rfl, by decide +kernel, rfl, by decide +kernel, by decide +kernel⟩, ck22, fun _ _ _ _ _ _ _ _ _ _ us hl => match us, hl with | [_, _, _], _ => rfl⟩
-- content_of
def ir23 : IB := (.cons (.ret (.call 5 (.cons (.lc (.v 2) [1, 2] (.tup (.cons (.v 1) (.cons (.v 2) .nil))) (.val (.ix (.v 0) (.c (.int (.ofNat 1))))) .yes) .nil))) .nil)
def v23 : VS := (vbCons (vsRet (vCall 5 (vCons (vLc (vV 2) [1, 2] (vGTup 2 (vGCons (vGV 1) (vGCons (vGV 2) vGNil))) (vIVal (vIx (vV 0) (vC (.int (.ofNat 1))))) vYes) vNil))) vbNil)
def b23 : SK := vBody v23
theorem e23 : b23 = denB gv ir23 := (congrArg vBody (show v23 = vdB gv ir23 by kernel_rfl)).trans (vBody_eq (vdB_ok ir23))
def d23 : DefR := ⟨"content_of", defArgs (top 31), defBody (top 31), defScope (top 31), ["one", "symbol", "number"], ["one"], ir23⟩
theorem ck23 : ckSs { cf with N := d23.N } d23.scope.names d23.ir d23.body = true := by decide +kernel
theorem ok23 : d23.Ok cf := ⟨⟨rfl, rfl, rfl, by decide +kernel, rfl, by decide +kernel, by decide +kernel⟩, ck23, fun _ _ _ _ _ _ _ _ _ _ us hl => match us, hl with | [_], _ => rfl⟩
-- rounded_by
def ir24 : IB := (.cons (.ret (.tup (.cons (.bin .div (.ix (.v 0) (.c (.int (.ofNat 0)))) (.v 1)) (.cons (.bi .tuple (.lc (.tup (.cons (.v 2) (.cons (.bin .div (.v 3) (.v 1)) .nil))) [2, 3] (.tup (.cons (.v 2) (.cons (.v 3) .nil))) (.val (.ix (.v 0) (.c (.int (.ofNat 1))))) .yes)) .nil)))) .nil)
def v24 : VS := (vbCons (vsRet (vTup (vCons (vBin .div (vIx (vV 0) (vC (.int (.ofNat 0)))) (vV 1)) (vCons (vBi .tuple (vLc (vTup (vCons (vV 2) (vCons (vBin .div (vV 3) (vV 1)) vNil))) [2, 3] (vGTup 2 (vGCons (vGV 2) (vGCons (vGV 3) vGNil))) (vIVal (vIx (vV 0) (vC (.int (.ofNat 1))))) vYes)) vNil)))) vbNil)
def b24 : SK := vBody v24
theorem e24 : b24 = denB gv ir24 := (congrArg vBody (show v24 = vdB gv ir24 by kernel_rfl)).trans (vBody_eq (vdB_ok ir24))
def d24 : DefR := ⟨"rounded_by", defArgs (top 32), defBody (top 32), defScope (top 32), ["one", "by", "symbol", "number"], ["one", "by"], ir24⟩
theorem ck24 : ckSs { cf with N := d24.N } d24.scope.names d24.ir d24.body = true := by decide +kernel
theorem ok24 : d24.Ok cf := ⟨⟨rfl, rfl, rfl, by decide +kernel, rfl, by decide +kernel, by decide +kernel⟩, ck24, fun _ _ _ _ _ _ _ _ _ _ us hl => match us, hl with | [_, _], _ => rfl⟩
-- worth_of
def ir25 : IB := (.cons (.set 2 (.ix (.v 0) (.c (.int (.ofNat 0))))) (.cons (.fr (.tup (.cons (.v 3) (.cons (.v 4) .nil))) (.val (.ix (.v 0) (.c (.int (.ofNat 1))))) (.cons (.ife (.cmp .nin (.v 3) (.v 1)) (.cons (.ret (.c (.non))) .nil) .nil) (.cons (.set 2 (.bin .add (.v 2) (.bin .mul (.v 4) (.ix (.v 1) (.v 3))))) .nil))) (.cons (.ret (.v 2)) .nil)))
def v25 : VS := (vbCons (vsSet 2 (vIx (vV 0) (vC (.int (.ofNat 0))))) (vbCons (vsFor (vGTup 2 (vGCons (vGV 3) (vGCons (vGV 4) vGNil))) (vIVal (vIx (vV 0) (vC (.int (.ofNat 1))))) (vbCons (vsIf (vTCmp .nin (vV 3) (vV 1)) (vbCons (vsRet (vC (.non))) vbNil) vbNil) (vbCons (vsSet 2 (vBin .add (vV 2) (vBin .mul (vV 4) (vIx (vV 1) (vV 3))))) vbNil))) (vbCons (vsRet (vV 2)) vbNil)))
def b25 : SK := vBody v25
theorem e25 : b25 = denB gv ir25 := (congrArg vBody (show v25 = vdB gv ir25 by kernel_rfl)).trans (vBody_eq (vdB_ok ir25))
def d25 : DefR := ⟨"worth_of", defArgs (top 33), defBody (top 33), defScope (top 33), ["one", "table", "found", "symbol", "number"], ["one", "table"], ir25⟩
theorem ck25 : ckSs { cf with N := d25.N } d25.scope.names d25.ir d25.body = true := by decide +kernel
theorem ok25 : d25.Ok cf := ⟨⟨rfl, rfl, rfl, by decide +kernel, rfl, by decide +kernel, by decide +kernel⟩, ck25, fun _ _ _ _ _ _ _ _ _ _ us hl => match us, hl with | [_, _], _ => rfl⟩
-- told_worth
def ir26 : IB := (.cons (.set 2 (.call 25 (.cons (.v 0) (.cons (.v 1) .nil)))) (.cons (.ife (.cmp .is_ (.v 2) (.c (.non))) (.cons (.rse 0) .nil) .nil) (.cons (.ret (.v 2)) .nil)))
def v26 : VS := (vbCons (vsSet 2 (vCall 25 (vCons (vV 0) (vCons (vV 1) vNil)))) (vbCons (vsIf (vTCmp .is_ (vV 2) (vC (.non))) (vbCons (vsRse 0) vbNil) vbNil) (vbCons (vsRet (vV 2)) vbNil)))
def b26 : SK := vBody v26
theorem e26 : b26 = denB gv ir26 := (congrArg vBody (show v26 = vdB gv ir26 by kernel_rfl)).trans (vBody_eq (vdB_ok ir26))
def d26 : DefR := ⟨"told_worth", defArgs (top 34), defBody (top 34), defScope (top 34), ["one", "table", "found"], ["one", "table"], ir26⟩
theorem ck26 : ckSs { cf with N := d26.N } d26.scope.names d26.ir d26.body = true := by decide +kernel
theorem ok26 : d26.Ok cf := ⟨⟨rfl, rfl, rfl, by decide +kernel, rfl, by decide +kernel, by decide +kernel⟩, ck26, fun _ _ _ _ _ _ _ _ _ _ us hl => match us, hl with | [_, _], _ => rfl⟩
-- part_text
def ir27 : IB := (.cons (.set 3 (.ife (.val (.v 2)) (.ife (.cmp .lt (.v 0) (.c (.int (.ofNat 0)))) (.c (.str [45])) (.c (.str []))) (.ife (.cmp .lt (.v 0) (.c (.int (.ofNat 0)))) (.c (.str [32, 45, 32])) (.c (.str [32, 43, 32]))))) (.cons (.set 4 (.bi .abs (.v 0))) (.cons (.ret (.bin .add (.v 3) (.ife (.cmp .eq (.v 4) (.c (.int (.ofNat 1)))) (.v 1) (.bin .add (.bin .add (.bi .str (.v 4)) (.c (.str [32]))) (.v 1))))) .nil)))
def v27 : VS := (vbCons (vsSet 3 (vIf (vTVal (vV 2)) (vIf (vTCmp .lt (vV 0) (vC (.int (.ofNat 0)))) (vC (.str [45])) (vC (.str []))) (vIf (vTCmp .lt (vV 0) (vC (.int (.ofNat 0)))) (vC (.str [32, 45, 32])) (vC (.str [32, 43, 32]))))) (vbCons (vsSet 4 (vBi .abs (vV 0))) (vbCons (vsRet (vBin .add (vV 3) (vIf (vTCmp .eq (vV 4) (vC (.int (.ofNat 1)))) (vV 1) (vBin .add (vBin .add (vBi .str (vV 4)) (vC (.str [32]))) (vV 1))))) vbNil)))
def b27 : SK := vBody v27
theorem e27 : b27 = denB gv ir27 := (congrArg vBody (show v27 = vdB gv ir27 by kernel_rfl)).trans (vBody_eq (vdB_ok ir27))
def d27 : DefR := ⟨"part_text", defArgs (top 35), defBody (top 35), defScope (top 35), ["number", "symbol", "first", "sign", "size"], ["number", "symbol", "first"], ir27⟩
theorem ck27 : ckSs { cf with N := d27.N } d27.scope.names d27.ir d27.body = true := by decide +kernel
theorem ok27 : d27.Ok cf := ⟨⟨rfl, rfl, rfl, by decide +kernel, rfl, by decide +kernel, by decide +kernel⟩, ck27, fun _ _ _ _ _ _ _ _ _ _ us hl => match us, hl with | [_, _, _], _ => rfl⟩
-- plain_sum
def ir28 : IB := (.cons (.ret (.call 14 (.cons (.call 12 (.cons (.v 0) .nil)) .nil))) .nil)
def v28 : VS := (vbCons (vsRet (vCall 14 (vCons (vCall 12 (vCons (vV 0) vNil)) vNil))) vbNil)
def b28 : SK := vBody v28
theorem e28 : b28 = denB gv ir28 := (congrArg vBody (show v28 = vdB gv ir28 by kernel_rfl)).trans (vBody_eq (vdB_ok ir28))
def d28 : DefR := ⟨"plain_sum", defArgs (top 36), defBody (top 36), defScope (top 36), ["number"], ["number"], ir28⟩
theorem ck28 : ckSs { cf with N := d28.N } d28.scope.names d28.ir d28.body = true := by decide +kernel
theorem ok28 : d28.Ok cf := ⟨⟨rfl, rfl, rfl, by decide +kernel, rfl, by decide +kernel, by decide +kernel⟩, ck28, fun _ _ _ _ _ _ _ _ _ _ us hl => match us, hl with | [_], _ => rfl⟩
-- symbol_sum
def ir29 : IB := (.cons (.ret (.call 15 (.cons (.call 11 (.cons (.v 0) .nil)) .nil))) .nil)
def v29 : VS := (vbCons (vsRet (vCall 15 (vCons (vCall 11 (vCons (vV 0) vNil)) vNil))) vbNil)
def b29 : SK := vBody v29
theorem e29 : b29 = denB gv ir29 := (congrArg vBody (show v29 = vdB gv ir29 by kernel_rfl)).trans (vBody_eq (vdB_ok ir29))
def d29 : DefR := ⟨"symbol_sum", defArgs (top 37), defBody (top 37), defScope (top 37), ["symbol"], ["symbol"], ir29⟩
theorem ck29 : ckSs { cf with N := d29.N } d29.scope.names d29.ir d29.body = true := by decide +kernel
theorem ok29 : d29.Ok cf := ⟨⟨rfl, rfl, rfl, by decide +kernel, rfl, by decide +kernel, by decide +kernel⟩, ck29, fun _ _ _ _ _ _ _ _ _ _ us hl => match us, hl with | [_], _ => rfl⟩
-- sum_added
def ir30 : IB := (.cons (.set 2 (.call 9 (.cons (.v 0) .nil))) (.cons (.ret (.call 17 (.cons (.v 2) (.cons (.call 9 (.cons (.v 1) .nil)) .nil)))) .nil))
def v30 : VS := (vbCons (vsSet 2 (vCall 9 (vCons (vV 0) vNil))) (vbCons (vsRet (vCall 17 (vCons (vV 2) (vCons (vCall 9 (vCons (vV 1) vNil)) vNil)))) vbNil))
def b30 : SK := vBody v30
theorem e30 : b30 = denB gv ir30 := (congrArg vBody (show v30 = vdB gv ir30 by kernel_rfl)).trans (vBody_eq (vdB_ok ir30))
def d30 : DefR := ⟨"sum_added", defArgs (top 38), defBody (top 38), defScope (top 38), ["one", "other", "near"], ["one", "other"], ir30⟩
theorem ck30 : ckSs { cf with N := d30.N } d30.scope.names d30.ir d30.body = true := by decide +kernel
theorem ok30 : d30.Ok cf := ⟨⟨rfl, rfl, rfl, by decide +kernel, rfl, by decide +kernel, by decide +kernel⟩, ck30, fun _ _ _ _ _ _ _ _ _ _ us hl => match us, hl with | [_, _], _ => rfl⟩
-- sum_less
def ir31 : IB := (.cons (.set 2 (.call 9 (.cons (.v 0) .nil))) (.cons (.ret (.call 18 (.cons (.v 2) (.cons (.call 9 (.cons (.v 1) .nil)) .nil)))) .nil))
def v31 : VS := (vbCons (vsSet 2 (vCall 9 (vCons (vV 0) vNil))) (vbCons (vsRet (vCall 18 (vCons (vV 2) (vCons (vCall 9 (vCons (vV 1) vNil)) vNil)))) vbNil))
def b31 : SK := vBody v31
theorem e31 : b31 = denB gv ir31 := (congrArg vBody (show v31 = vdB gv ir31 by kernel_rfl)).trans (vBody_eq (vdB_ok ir31))
def d31 : DefR := ⟨"sum_less", defArgs (top 39), defBody (top 39), defScope (top 39), ["one", "other", "near"], ["one", "other"], ir31⟩
theorem ck31 : ckSs { cf with N := d31.N } d31.scope.names d31.ir d31.body = true := by decide +kernel
theorem ok31 : d31.Ok cf := ⟨⟨rfl, rfl, rfl, by decide +kernel, rfl, by decide +kernel, by decide +kernel⟩, ck31, fun _ _ _ _ _ _ _ _ _ _ us hl => match us, hl with | [_, _], _ => rfl⟩
-- sum_times
def ir32 : IB := (.cons (.set 2 (.call 9 (.cons (.v 0) .nil))) (.cons (.ret (.call 19 (.cons (.v 2) (.cons (.call 12 (.cons (.v 1) .nil)) .nil)))) .nil))
def v32 : VS := (vbCons (vsSet 2 (vCall 9 (vCons (vV 0) vNil))) (vbCons (vsRet (vCall 19 (vCons (vV 2) (vCons (vCall 12 (vCons (vV 1) vNil)) vNil)))) vbNil))
def b32 : SK := vBody v32
theorem e32 : b32 = denB gv ir32 := (congrArg vBody (show v32 = vdB gv ir32 by kernel_rfl)).trans (vBody_eq (vdB_ok ir32))
def d32 : DefR := ⟨"sum_times", defArgs (top 40), defBody (top 40), defScope (top 40), ["one", "number", "own"], ["one", "number"], ir32⟩
theorem ck32 : ckSs { cf with N := d32.N } d32.scope.names d32.ir d32.body = true := by decide +kernel
theorem ok32 : d32.Ok cf := ⟨⟨rfl, rfl, rfl, by decide +kernel, rfl, by decide +kernel, by decide +kernel⟩, ck32, fun _ _ _ _ _ _ _ _ _ _ us hl => match us, hl with | [_, _], _ => rfl⟩
-- sum_symbols
def ir33 : IB := (.cons (.ret (.call 20 (.cons (.call 9 (.cons (.v 0) .nil)) .nil))) .nil)
def v33 : VS := (vbCons (vsRet (vCall 20 (vCons (vCall 9 (vCons (vV 0) vNil)) vNil))) vbNil)
def b33 : SK := vBody v33
theorem e33 : b33 = denB gv ir33 := (congrArg vBody (show v33 = vdB gv ir33 by kernel_rfl)).trans (vBody_eq (vdB_ok ir33))
def d33 : DefR := ⟨"sum_symbols", defArgs (top 41), defBody (top 41), defScope (top 41), ["one"], ["one"], ir33⟩
theorem ck33 : ckSs { cf with N := d33.N } d33.scope.names d33.ir d33.body = true := by decide +kernel
theorem ok33 : d33.Ok cf := ⟨⟨rfl, rfl, rfl, by decide +kernel, rfl, by decide +kernel, by decide +kernel⟩, ck33, fun _ _ _ _ _ _ _ _ _ _ us hl => match us, hl with | [_], _ => rfl⟩
-- times_of_symbol
def ir34 : IB := (.cons (.set 2 (.call 9 (.cons (.v 0) .nil))) (.cons (.ret (.call 21 (.cons (.v 2) (.cons (.call 11 (.cons (.v 1) .nil)) .nil)))) .nil))
def v34 : VS := (vbCons (vsSet 2 (vCall 9 (vCons (vV 0) vNil))) (vbCons (vsRet (vCall 21 (vCons (vV 2) (vCons (vCall 11 (vCons (vV 1) vNil)) vNil)))) vbNil))
def b34 : SK := vBody v34
theorem e34 : b34 = denB gv ir34 := (congrArg vBody (show v34 = vdB gv ir34 by kernel_rfl)).trans (vBody_eq (vdB_ok ir34))
def d34 : DefR := ⟨"times_of_symbol", defArgs (top 42), defBody (top 42), defScope (top 42), ["one", "symbol", "own"], ["one", "symbol"], ir34⟩
theorem ck34 : ckSs { cf with N := d34.N } d34.scope.names d34.ir d34.body = true := by decide +kernel
theorem ok34 : d34.Ok cf := ⟨⟨rfl, rfl, rfl, by decide +kernel, rfl, by decide +kernel, by decide +kernel⟩, ck34, fun _ _ _ _ _ _ _ _ _ _ us hl => match us, hl with | [_, _], _ => rfl⟩
-- sum_put
def ir35 : IB := (.cons (.set 3 (.call 9 (.cons (.v 0) .nil))) (.cons (.set 4 (.call 11 (.cons (.v 1) .nil))) (.cons (.ret (.call 22 (.cons (.v 3) (.cons (.v 4) (.cons (.call 9 (.cons (.v 2) .nil)) .nil))))) .nil)))
def v35 : VS := (vbCons (vsSet 3 (vCall 9 (vCons (vV 0) vNil))) (vbCons (vsSet 4 (vCall 11 (vCons (vV 1) vNil))) (vbCons (vsRet (vCall 22 (vCons (vV 3) (vCons (vV 4) (vCons (vCall 9 (vCons (vV 2) vNil)) vNil))))) vbNil)))
def b35 : SK := vBody v35
theorem e35 : b35 = denB gv ir35 := (congrArg vBody (show v35 = vdB gv ir35 by kernel_rfl)).trans (vBody_eq (vdB_ok ir35))
def d35 : DefR := ⟨"sum_put", defArgs (top 43), defBody (top 43), defScope (top 43), ["one", "symbol", "other", "own", "told"], ["one", "symbol", "other"], ir35⟩
theorem ck35 : ckSs { cf with N := d35.N } d35.scope.names d35.ir d35.body = true := by decide +kernel
theorem ok35 : d35.Ok cf := ⟨⟨rfl, rfl, rfl, by decide +kernel, rfl, by decide +kernel, by decide +kernel⟩, ck35, fun _ _ _ _ _ _ _ _ _ _ us hl => match us, hl with | [_, _, _], _ => rfl⟩
-- sum_worth
def ir36 : IB := (.cons (.set 2 (.call 9 (.cons (.v 0) .nil))) (.cons (.ret (.call 26 (.cons (.v 2) (.cons (.bi .dict (.call 10 (.cons (.v 1) .nil))) .nil)))) .nil))
def v36 : VS := (vbCons (vsSet 2 (vCall 9 (vCons (vV 0) vNil))) (vbCons (vsRet (vCall 26 (vCons (vV 2) (vCons (vBi .dict (vCall 10 (vCons (vV 1) vNil))) vNil)))) vbNil))
def b36 : SK := vBody v36
theorem e36 : b36 = denB gv ir36 := (congrArg vBody (show v36 = vdB gv ir36 by kernel_rfl)).trans (vBody_eq (vdB_ok ir36))
def d36 : DefR := ⟨"sum_worth", defArgs (top 44), defBody (top 44), defScope (top 44), ["one", "values", "own"], ["one", "values"], ir36⟩
theorem ck36 : ckSs { cf with N := d36.N } d36.scope.names d36.ir d36.body = true := by decide +kernel
theorem ok36 : d36.Ok cf := ⟨⟨rfl, rfl, rfl, by decide +kernel, rfl, by decide +kernel, by decide +kernel⟩, ck36, fun _ _ _ _ _ _ _ _ _ _ us hl => match us, hl with | [_, _], _ => rfl⟩
-- sum_content
def ir37 : IB := (.cons (.ret (.call 23 (.cons (.call 9 (.cons (.v 0) .nil)) .nil))) .nil)
def v37 : VS := (vbCons (vsRet (vCall 23 (vCons (vCall 9 (vCons (vV 0) vNil)) vNil))) vbNil)
def b37 : SK := vBody v37
theorem e37 : b37 = denB gv ir37 := (congrArg vBody (show v37 = vdB gv ir37 by kernel_rfl)).trans (vBody_eq (vdB_ok ir37))
def d37 : DefR := ⟨"sum_content", defArgs (top 45), defBody (top 45), defScope (top 45), ["one"], ["one"], ir37⟩
theorem ck37 : ckSs { cf with N := d37.N } d37.scope.names d37.ir d37.body = true := by decide +kernel
theorem ok37 : d37.Ok cf := ⟨⟨rfl, rfl, rfl, by decide +kernel, rfl, by decide +kernel, by decide +kernel⟩, ck37, fun _ _ _ _ _ _ _ _ _ _ us hl => match us, hl with | [_], _ => rfl⟩
-- sum_rounded
def ir38 : IB := (.cons (.set 2 (.call 9 (.cons (.v 0) .nil))) (.cons (.ife (.no (.val (.call 1 (.cons (.v 1) (.cons (.c (.int (.ofNat 1))) .nil))))) (.cons (.rse 2) .nil) .nil) (.cons (.ife (.cmp .ne (.bin .mod (.call 23 (.cons (.v 2) .nil)) (.v 1)) (.c (.int (.ofNat 0)))) (.cons (.rse 0) .nil) .nil) (.cons (.ret (.call 24 (.cons (.v 2) (.cons (.v 1) .nil)))) .nil))))
def v38 : VS := (vbCons (vsSet 2 (vCall 9 (vCons (vV 0) vNil))) (vbCons (vsIf (vNo (vTVal (vCall 1 (vCons (vV 1) (vCons (vC (.int (.ofNat 1))) vNil))))) (vbCons (vsRse 2) vbNil) vbNil) (vbCons (vsIf (vTCmp .ne (vBin .mod (vCall 23 (vCons (vV 2) vNil)) (vV 1)) (vC (.int (.ofNat 0)))) (vbCons (vsRse 0) vbNil) vbNil) (vbCons (vsRet (vCall 24 (vCons (vV 2) (vCons (vV 1) vNil)))) vbNil))))
def b38 : SK := vBody v38
theorem e38 : b38 = denB gv ir38 := (congrArg vBody (show v38 = vdB gv ir38 by kernel_rfl)).trans (vBody_eq (vdB_ok ir38))
def d38 : DefR := ⟨"sum_rounded", defArgs (top 46), defBody (top 46), defScope (top 46), ["one", "by", "own"], ["one", "by"], ir38⟩
theorem ck38 : ckSs { cf with N := d38.N } d38.scope.names d38.ir d38.body = true := by decide +kernel
theorem ok38 : d38.Ok cf := ⟨⟨rfl, rfl, rfl, by decide +kernel, rfl, by decide +kernel, by decide +kernel⟩, ck38, fun _ _ _ _ _ _ _ _ _ _ us hl => match us, hl with | [_, _], _ => rfl⟩
-- sum_text
def ir39 : IB := (.cons (.set 1 (.call 9 (.cons (.v 0) .nil))) (.cons (.set 2 (.c (.str []))) (.cons (.fr (.tup (.cons (.v 3) (.cons (.v 4) .nil))) (.val (.ix (.v 1) (.c (.int (.ofNat 1))))) (.cons (.set 2 (.bin .add (.v 2) (.call 27 (.cons (.v 4) (.cons (.v 3) (.cons (.cmp .eq (.v 2) (.c (.str []))) .nil)))))) .nil)) (.cons (.ife (.cmp .eq (.v 2) (.c (.str []))) (.cons (.ret (.bi .str (.ix (.v 1) (.c (.int (.ofNat 0)))))) .nil) .nil) (.cons (.ife (.cmp .eq (.ix (.v 1) (.c (.int (.ofNat 0)))) (.c (.int (.ofNat 0)))) (.cons (.ret (.v 2)) .nil) .nil) (.cons (.ret (.bin .add (.bin .add (.v 2) (.ife (.cmp .lt (.ix (.v 1) (.c (.int (.ofNat 0)))) (.c (.int (.ofNat 0)))) (.c (.str [32, 45, 32])) (.c (.str [32, 43, 32])))) (.bi .str (.bi .abs (.ix (.v 1) (.c (.int (.ofNat 0)))))))) .nil))))))
def v39 : VS := (vbCons (vsSet 1 (vCall 9 (vCons (vV 0) vNil))) (vbCons (vsSet 2 (vC (.str []))) (vbCons (vsFor (vGTup 2 (vGCons (vGV 3) (vGCons (vGV 4) vGNil))) (vIVal (vIx (vV 1) (vC (.int (.ofNat 1))))) (vbCons (vsSet 2 (vBin .add (vV 2) (vCall 27 (vCons (vV 4) (vCons (vV 3) (vCons (vCmp .eq (vV 2) (vC (.str []))) vNil)))))) vbNil)) (vbCons (vsIf (vTCmp .eq (vV 2) (vC (.str []))) (vbCons (vsRet (vBi .str (vIx (vV 1) (vC (.int (.ofNat 0)))))) vbNil) vbNil) (vbCons (vsIf (vTCmp .eq (vIx (vV 1) (vC (.int (.ofNat 0)))) (vC (.int (.ofNat 0)))) (vbCons (vsRet (vV 2)) vbNil) vbNil) (vbCons (vsRet (vBin .add (vBin .add (vV 2) (vIf (vTCmp .lt (vIx (vV 1) (vC (.int (.ofNat 0)))) (vC (.int (.ofNat 0)))) (vC (.str [32, 45, 32])) (vC (.str [32, 43, 32])))) (vBi .str (vBi .abs (vIx (vV 1) (vC (.int (.ofNat 0)))))))) vbNil))))))
def b39 : SK := vBody v39
theorem e39 : b39 = denB gv ir39 := (congrArg vBody (show v39 = vdB gv ir39 by kernel_rfl)).trans (vBody_eq (vdB_ok ir39))
def d39 : DefR := ⟨"sum_text", defArgs (top 47), defBody (top 47), defScope (top 47), ["one", "own", "found", "symbol", "number"], ["one"], ir39⟩
theorem ck39 : ckSs { cf with N := d39.N } d39.scope.names d39.ir d39.body = true := by decide +kernel
theorem ok39 : d39.Ok cf := ⟨⟨rfl, rfl, rfl, by decide +kernel, rfl, by decide +kernel, by decide +kernel⟩, ck39, fun _ _ _ _ _ _ _ _ _ _ us hl => match us, hl with | [_], _ => rfl⟩
-- is_formula_in
def ir40 : IB := (.cons (.set 1 (.lst (.cons (.v 0) .nil))) (.cons (.whl (.cmp .ne (.v 1) (.lst .nil)) (.cons (.set 2 (.mtP (.v 1))) (.cons (.ife (.orr (.cons (.no (.val (.call 2 (.cons (.v 2) (.cons (.c (.int (.ofNat 2))) .nil))))) (.cons (.no (.val (.isi (.ix (.v 2) (.c (.int (.ofNat 0)))) .str))) .nil))) (.cons (.ret (.c (.bl false))) .nil) .nil) (.cons (.ife (.cmp .in_ (.ix (.v 2) (.c (.int (.ofNat 0)))) (.tup (.cons (.c (.str [114, 111, 119])) (.cons (.c (.str [122, 101, 114, 111])) .nil)))) (.cons (.ife (.no (.val (.call 8 (.cons (.ix (.v 2) (.c (.int (.ofNat 1)))) .nil)))) (.cons (.ret (.c (.bl false))) .nil) .nil) .nil) (.cons (.ife (.orr (.cons (.cmp .nin (.ix (.v 2) (.c (.int (.ofNat 0)))) (.tup (.cons (.c (.str [97, 108, 108])) (.cons (.c (.str [97, 110, 121])) .nil)))) (.cons (.no (.val (.isi (.ix (.v 2) (.c (.int (.ofNat 1)))) .tuple))) .nil))) (.cons (.ret (.c (.bl false))) .nil) (.cons (.ex (.mtX (.v 1) (.ix (.v 2) (.c (.int (.ofNat 1)))))) .nil)) .nil)) .nil)))) (.cons (.ret (.c (.bl true))) .nil)))
def v40 : VS := (vbCons (vsSet 1 (vLst (vCons (vV 0) vNil))) (vbCons (vsWhl (vTCmp .ne (vV 1) (vLst vNil)) (vbCons (vsSet 2 (vMt .pop (vV 1) vNil)) (vbCons (vsIf (vTOr (vNo (vTVal (vCall 2 (vCons (vV 2) (vCons (vC (.int (.ofNat 2))) vNil))))) (vNo (vTVal (vIsi (vIx (vV 2) (vC (.int (.ofNat 0)))) .str)))) (vbCons (vsRet (vC (.bl false))) vbNil) vbNil) (vbCons (vsIf (vTCmp .in_ (vIx (vV 2) (vC (.int (.ofNat 0)))) (vTup (vCons (vC (.str [114, 111, 119])) (vCons (vC (.str [122, 101, 114, 111])) vNil)))) (vbCons (vsIf (vNo (vTVal (vCall 8 (vCons (vIx (vV 2) (vC (.int (.ofNat 1)))) vNil)))) (vbCons (vsRet (vC (.bl false))) vbNil) vbNil) vbNil) (vbCons (vsIf (vTOr (vTCmp .nin (vIx (vV 2) (vC (.int (.ofNat 0)))) (vTup (vCons (vC (.str [97, 108, 108])) (vCons (vC (.str [97, 110, 121])) vNil)))) (vNo (vTVal (vIsi (vIx (vV 2) (vC (.int (.ofNat 1)))) .tuple)))) (vbCons (vsRet (vC (.bl false))) vbNil) (vbCons (vsEx (vMt .extend (vV 1) (vCons (vIx (vV 2) (vC (.int (.ofNat 1)))) vNil))) vbNil)) vbNil)) vbNil)))) (vbCons (vsRet (vC (.bl true))) vbNil)))
def b40 : SK := vBody v40
theorem e40 : b40 = denB gv ir40 := (congrArg vBody (show v40 = vdB gv ir40 by kernel_rfl)).trans (vBody_eq (vdB_ok ir40))
def d40 : DefR := ⟨"is_formula_in", defArgs (top 52), defBody (top 52), defScope (top 52), ["thing", "left", "own"], ["thing"], ir40⟩
theorem ck40 : ckSs { cf with N := d40.N } d40.scope.names d40.ir d40.body = true := by decide +kernel
theorem ok40 : d40.Ok cf := ⟨⟨rfl, rfl, rfl, by decide +kernel, rfl, by decide +kernel, by decide +kernel⟩, ck40, fun _ _ _ _ _ _ _ _ _ _ us hl => match us, hl with | [_], _ => rfl⟩
-- gone_up
def ir41 : IB := (.cons (.set 4 (.lst (.cons (.tup (.cons (.v 0) (.cons (.lst .nil) .nil))) .nil))) (.cons (.whl (.val (.c (.bl true))) (.cons (.asg (.tup (.cons (.v 5) (.cons (.v 6) .nil))) (.ix (.v 4) (.neg (.c (.int (.ofNat 1)))))) (.cons (.ife (.cmp .in_ (.ix (.v 5) (.c (.int (.ofNat 0)))) (.tup (.cons (.c (.str [114, 111, 119])) (.cons (.c (.str [122, 101, 114, 111])) .nil)))) (.cons (.set 7 (.callv 1 (.cons (.v 5) (.cons (.v 3) .nil)))) .nil) (.cons (.ife (.cmp .lt (.bi .len (.v 6)) (.bi .len (.ix (.v 5) (.c (.int (.ofNat 1)))))) (.cons (.ex (.mtA (.v 4) (.tup (.cons (.ix (.ix (.v 5) (.c (.int (.ofNat 1)))) (.bi .len (.v 6))) (.cons (.lst .nil) .nil))))) (.cons .cont .nil)) (.cons (.set 7 (.callv 2 (.cons (.ix (.v 5) (.c (.int (.ofNat 0)))) (.cons (.v 6) .nil)))) .nil)) .nil)) (.cons (.ex (.mtP (.v 4))) (.cons (.ife (.cmp .eq (.v 4) (.lst .nil)) (.cons (.ret (.v 7)) .nil) .nil) (.cons (.ex (.mtA (.ix (.ix (.v 4) (.neg (.c (.int (.ofNat 1))))) (.c (.int (.ofNat 1)))) (.v 7))) .nil)))))) .nil))
def v41 : VS := (vbCons (vsSet 4 (vLst (vCons (vTup (vCons (vV 0) (vCons (vLst vNil) vNil))) vNil))) (vbCons (vsWhl (vTVal (vC (.bl true))) (vbCons (vsAsg (vGTup 2 (vGCons (vGV 5) (vGCons (vGV 6) vGNil))) (vIx (vV 4) (vNeg (vC (.int (.ofNat 1)))))) (vbCons (vsIf (vTCmp .in_ (vIx (vV 5) (vC (.int (.ofNat 0)))) (vTup (vCons (vC (.str [114, 111, 119])) (vCons (vC (.str [122, 101, 114, 111])) vNil)))) (vbCons (vsSet 7 (vCallv 1 (vCons (vV 5) (vCons (vV 3) vNil)))) vbNil) (vbCons (vsIf (vTCmp .lt (vBi .len (vV 6)) (vBi .len (vIx (vV 5) (vC (.int (.ofNat 1)))))) (vbCons (vsEx (vMt .append (vV 4) (vCons (vTup (vCons (vIx (vIx (vV 5) (vC (.int (.ofNat 1)))) (vBi .len (vV 6))) (vCons (vLst vNil) vNil))) vNil))) (vbCons vsCont vbNil)) (vbCons (vsSet 7 (vCallv 2 (vCons (vIx (vV 5) (vC (.int (.ofNat 0)))) (vCons (vV 6) vNil)))) vbNil)) vbNil)) (vbCons (vsEx (vMt .pop (vV 4) vNil)) (vbCons (vsIf (vTCmp .eq (vV 4) (vLst vNil)) (vbCons (vsRet (vV 7)) vbNil) vbNil) (vbCons (vsEx (vMt .append (vIx (vIx (vV 4) (vNeg (vC (.int (.ofNat 1))))) (vC (.int (.ofNat 1)))) (vCons (vV 7) vNil))) vbNil)))))) vbNil))
def b41 : SK := vBody v41
theorem e41 : b41 = denB gv ir41 := (congrArg vBody (show v41 = vdB gv ir41 by kernel_rfl)).trans (vBody_eq (vdB_ok ir41))
def d41 : DefR := ⟨"gone_up", defArgs (top 53), defBody (top 53), defScope (top 53), ["formula", "at_atom", "at_parts", "told", "frames", "own", "made", "found"], ["formula", "at_atom", "at_parts", "told"], ir41⟩
theorem ck41 : ckSs { cf with N := d41.N } d41.scope.names d41.ir d41.body = true := by decide +kernel
theorem ok41 : d41.Ok cf := ⟨⟨rfl, rfl, rfl, by decide +kernel, rfl, by decide +kernel, by decide +kernel⟩, ck41, fun _ _ _ _ _ _ _ _ _ _ us hl => match us, hl with | [_, _, _, _], _ => rfl⟩
-- sure_formula
def ir42 : IB := (.cons (.set 1 (.call 3 (.cons (.v 0) .nil))) (.cons (.ife (.no (.val (.call 40 (.cons (.v 1) .nil)))) (.cons (.rse 2) .nil) .nil) (.cons (.ret (.v 1)) .nil)))
def v42 : VS := (vbCons (vsSet 1 (vCall 3 (vCons (vV 0) vNil))) (vbCons (vsIf (vNo (vTVal (vCall 40 (vCons (vV 1) vNil)))) (vbCons (vsRse 2) vbNil) vbNil) (vbCons (vsRet (vV 1)) vbNil)))
def b42 : SK := vBody v42
theorem e42 : b42 = denB gv ir42 := (congrArg vBody (show v42 = vdB gv ir42 by kernel_rfl)).trans (vBody_eq (vdB_ok ir42))
def d42 : DefR := ⟨"sure_formula", defArgs (top 54), defBody (top 54), defScope (top 54), ["value", "own"], ["value"], ir42⟩
theorem ck42 : ckSs { cf with N := d42.N } d42.scope.names d42.ir d42.body = true := by decide +kernel
theorem ok42 : d42.Ok cf := ⟨⟨rfl, rfl, rfl, by decide +kernel, rfl, by decide +kernel, by decide +kernel⟩, ck42, fun _ _ _ _ _ _ _ _ _ _ us hl => match us, hl with | [_], _ => rfl⟩
-- below_nought
def ir43 : IB := (.cons (.ret (.tup (.cons (.c (.str [114, 111, 119])) (.cons (.call 16 (.cons (.call 14 (.cons (.neg (.c (.int (.ofNat 1)))) .nil)) (.cons (.neg (.c (.int (.ofNat 1)))) (.cons (.v 0) .nil)))) .nil)))) .nil)
def v43 : VS := (vbCons (vsRet (vTup (vCons (vC (.str [114, 111, 119])) (vCons (vCall 16 (vCons (vCall 14 (vCons (vNeg (vC (.int (.ofNat 1)))) vNil)) (vCons (vNeg (vC (.int (.ofNat 1)))) (vCons (vV 0) vNil)))) vNil)))) vbNil)
def b43 : SK := vBody v43
theorem e43 : b43 = denB gv ir43 := (congrArg vBody (show v43 = vdB gv ir43 by kernel_rfl)).trans (vBody_eq (vdB_ok ir43))
def d43 : DefR := ⟨"below_nought", defArgs (top 55), defBody (top 55), defScope (top 55), ["one"], ["one"], ir43⟩
theorem ck43 : ckSs { cf with N := d43.N } d43.scope.names d43.ir d43.body = true := by decide +kernel
theorem ok43 : d43.Ok cf := ⟨⟨rfl, rfl, rfl, by decide +kernel, rfl, by decide +kernel, by decide +kernel⟩, ck43, fun _ _ _ _ _ _ _ _ _ _ us hl => match us, hl with | [_], _ => rfl⟩
-- above_nought
def ir44 : IB := (.cons (.ret (.tup (.cons (.c (.str [114, 111, 119])) (.cons (.tup (.cons (.bin .sub (.ix (.v 0) (.c (.int (.ofNat 0)))) (.c (.int (.ofNat 1)))) (.cons (.ix (.v 0) (.c (.int (.ofNat 1)))) .nil))) .nil)))) .nil)
def v44 : VS := (vbCons (vsRet (vTup (vCons (vC (.str [114, 111, 119])) (vCons (vTup (vCons (vBin .sub (vIx (vV 0) (vC (.int (.ofNat 0)))) (vC (.int (.ofNat 1)))) (vCons (vIx (vV 0) (vC (.int (.ofNat 1)))) vNil))) vNil)))) vbNil)
def b44 : SK := vBody v44
theorem e44 : b44 = denB gv ir44 := (congrArg vBody (show v44 = vdB gv ir44 by kernel_rfl)).trans (vBody_eq (vdB_ok ir44))
def d44 : DefR := ⟨"above_nought", defArgs (top 56), defBody (top 56), defScope (top 56), ["one"], ["one"], ir44⟩
theorem ck44 : ckSs { cf with N := d44.N } d44.scope.names d44.ir d44.body = true := by decide +kernel
theorem ok44 : d44.Ok cf := ⟨⟨rfl, rfl, rfl, by decide +kernel, rfl, by decide +kernel, by decide +kernel⟩, ck44, fun _ _ _ _ _ _ _ _ _ _ us hl => match us, hl with | [_], _ => rfl⟩
-- other_than_nought
def ir45 : IB := (.cons (.ret (.tup (.cons (.c (.str [97, 110, 121])) (.cons (.tup (.cons (.call 44 (.cons (.v 0) .nil)) (.cons (.call 43 (.cons (.v 0) .nil)) .nil))) .nil)))) .nil)
def v45 : VS := (vbCons (vsRet (vTup (vCons (vC (.str [97, 110, 121])) (vCons (vTup (vCons (vCall 44 (vCons (vV 0) vNil)) (vCons (vCall 43 (vCons (vV 0) vNil)) vNil))) vNil)))) vbNil)
def b45 : SK := vBody v45
theorem e45 : b45 = denB gv ir45 := (congrArg vBody (show v45 = vdB gv ir45 by kernel_rfl)).trans (vBody_eq (vdB_ok ir45))
def d45 : DefR := ⟨"other_than_nought", defArgs (top 57), defBody (top 57), defScope (top 57), ["one"], ["one"], ir45⟩
theorem ck45 : ckSs { cf with N := d45.N } d45.scope.names d45.ir d45.body = true := by decide +kernel
theorem ok45 : d45.Ok cf := ⟨⟨rfl, rfl, rfl, by decide +kernel, rfl, by decide +kernel, by decide +kernel⟩, ck45, fun _ _ _ _ _ _ _ _ _ _ us hl => match us, hl with | [_], _ => rfl⟩
-- turned_atom
def ir46 : IB := (.cons (.ret (.ife (.cmp .eq (.ix (.v 0) (.c (.int (.ofNat 0)))) (.c (.str [114, 111, 119]))) (.call 43 (.cons (.ix (.v 0) (.c (.int (.ofNat 1)))) .nil)) (.call 45 (.cons (.ix (.v 0) (.c (.int (.ofNat 1)))) .nil)))) .nil)
def v46 : VS := (vbCons (vsRet (vIf (vTCmp .eq (vIx (vV 0) (vC (.int (.ofNat 0)))) (vC (.str [114, 111, 119]))) (vCall 43 (vCons (vIx (vV 0) (vC (.int (.ofNat 1)))) vNil)) (vCall 45 (vCons (vIx (vV 0) (vC (.int (.ofNat 1)))) vNil)))) vbNil)
def b46 : SK := vBody v46
theorem e46 : b46 = denB gv ir46 := (congrArg vBody (show v46 = vdB gv ir46 by kernel_rfl)).trans (vBody_eq (vdB_ok ir46))
def d46 : DefR := ⟨"turned_atom", defArgs (top 58), defBody (top 58), defScope (top 58), ["atom", "told"], ["atom", "told"], ir46⟩
theorem ck46 : ckSs { cf with N := d46.N } d46.scope.names d46.ir d46.body = true := by decide +kernel
theorem ok46 : d46.Ok cf := ⟨⟨rfl, rfl, rfl, by decide +kernel, rfl, by decide +kernel, by decide +kernel⟩, ck46, fun _ _ _ _ _ _ _ _ _ _ us hl => match us, hl with | [_, _], _ => rfl⟩
-- turned_parts
def ir47 : IB := (.cons (.ret (.tup (.cons (.ife (.cmp .eq (.v 0) (.c (.str [97, 108, 108]))) (.c (.str [97, 110, 121])) (.c (.str [97, 108, 108]))) (.cons (.bi .tuple (.v 1)) .nil)))) .nil)
def v47 : VS := (vbCons (vsRet (vTup (vCons (vIf (vTCmp .eq (vV 0) (vC (.str [97, 108, 108]))) (vC (.str [97, 110, 121])) (vC (.str [97, 108, 108]))) (vCons (vBi .tuple (vV 1)) vNil)))) vbNil)
def b47 : SK := vBody v47
theorem e47 : b47 = denB gv ir47 := (congrArg vBody (show v47 = vdB gv ir47 by kernel_rfl)).trans (vBody_eq (vdB_ok ir47))
def d47 : DefR := ⟨"turned_parts", defArgs (top 59), defBody (top 59), defScope (top 59), ["kind", "made"], ["kind", "made"], ir47⟩
theorem ck47 : ckSs { cf with N := d47.N } d47.scope.names d47.ir d47.body = true := by decide +kernel
theorem ok47 : d47.Ok cf := ⟨⟨rfl, rfl, rfl, by decide +kernel, rfl, by decide +kernel, by decide +kernel⟩, ck47, fun _ _ _ _ _ _ _ _ _ _ us hl => match us, hl with | [_, _], _ => rfl⟩
-- turned
def ir48 : IB := (.cons (.ret (.call 41 (.cons (.v 0) (.cons (.g 2) (.cons (.g 3) (.cons (.c (.non)) .nil)))))) .nil)
def v48 : VS := (vbCons (vsRet (vCall 41 (vCons (vV 0) (vCons (vC (.fn 46)) (vCons (vC (.fn 47)) (vCons (vC (.non)) vNil)))))) vbNil)
def b48 : SK := vBody v48
theorem e48 : b48 = denB gv ir48 := (congrArg vBody (show v48 = vdB gv ir48 by kernel_rfl)).trans (vBody_eq (vdB_ok ir48))
def d48 : DefR := ⟨"turned", defArgs (top 60), defBody (top 60), defScope (top 60), ["formula"], ["formula"], ir48⟩
theorem ck48 : ckSs { cf with N := d48.N } d48.scope.names d48.ir d48.body = true := by decide +kernel
theorem ok48 : d48.Ok cf := ⟨⟨rfl, rfl, rfl, by decide +kernel, rfl, by decide +kernel, by decide +kernel⟩, ck48, fun _ _ _ _ _ _ _ _ _ _ us hl => match us, hl with | [_], _ => rfl⟩
-- symbols_of_formula
def ir49 : IB := (.cons (.par 1 2 .dnew (.lst (.cons (.v 0) .nil))) (.cons (.whl (.cmp .ne (.v 2) (.lst .nil)) (.cons (.asg (.tup (.cons (.v 3) (.cons (.v 4) .nil))) (.mtP (.v 2))) (.cons (.ife (.cmp .in_ (.v 3) (.tup (.cons (.c (.str [114, 111, 119])) (.cons (.c (.str [122, 101, 114, 111])) .nil)))) (.cons (.fr (.v 5) (.val (.call 20 (.cons (.v 4) .nil))) (.cons (.asg (.sub (.v 1) (.v 5)) (.c (.bl true))) .nil)) .nil) (.cons (.ex (.mtX (.v 2) (.v 4))) .nil)) .nil))) (.cons (.ret (.bi .tuple (.bi .sorted (.v 1)))) .nil)))
def v49 : VS := (vbCons (vsPar 1 2 vDnew (vLst (vCons (vV 0) vNil))) (vbCons (vsWhl (vTCmp .ne (vV 2) (vLst vNil)) (vbCons (vsAsg (vGTup 2 (vGCons (vGV 3) (vGCons (vGV 4) vGNil))) (vMt .pop (vV 2) vNil)) (vbCons (vsIf (vTCmp .in_ (vV 3) (vTup (vCons (vC (.str [114, 111, 119])) (vCons (vC (.str [122, 101, 114, 111])) vNil)))) (vbCons (vsFor (vGV 5) (vIVal (vCall 20 (vCons (vV 4) vNil))) (vbCons (vsAsg (vGSub (vV 1) (vV 5)) (vC (.bl true))) vbNil)) vbNil) (vbCons (vsEx (vMt .extend (vV 2) (vCons (vV 4) vNil))) vbNil)) vbNil))) (vbCons (vsRet (vBi .tuple (vBi .sorted (vV 1)))) vbNil)))
def b49 : SK := vBody v49
theorem e49 : b49 = denB gv ir49 := (congrArg vBody (show v49 = vdB gv ir49 by kernel_rfl)).trans (vBody_eq (vdB_ok ir49))
def d49 : DefR := ⟨"symbols_of_formula", defArgs (top 61), defBody (top 61), defScope (top 61), ["formula", "found", "left", "kind", "own", "symbol"], ["formula"], ir49⟩
theorem ck49 : ckSs { cf with N := d49.N } d49.scope.names d49.ir d49.body = true := by decide +kernel
theorem ok49 : d49.Ok cf := ⟨⟨rfl, rfl, rfl, by decide +kernel, rfl, by decide +kernel, by decide +kernel⟩, ck49, fun _ _ _ _ _ _ _ _ _ _ us hl => match us, hl with | [_], _ => rfl⟩
-- met_atom
def ir50 : IB := (.cons (.set 2 (.call 26 (.cons (.ix (.v 0) (.c (.int (.ofNat 1)))) (.cons (.v 1) .nil)))) (.cons (.ret (.ife (.cmp .eq (.ix (.v 0) (.c (.int (.ofNat 0)))) (.c (.str [114, 111, 119]))) (.cmp .ge (.v 2) (.c (.int (.ofNat 0)))) (.cmp .eq (.v 2) (.c (.int (.ofNat 0)))))) .nil))
def v50 : VS := (vbCons (vsSet 2 (vCall 26 (vCons (vIx (vV 0) (vC (.int (.ofNat 1)))) (vCons (vV 1) vNil)))) (vbCons (vsRet (vIf (vTCmp .eq (vIx (vV 0) (vC (.int (.ofNat 0)))) (vC (.str [114, 111, 119]))) (vCmp .ge (vV 2) (vC (.int (.ofNat 0)))) (vCmp .eq (vV 2) (vC (.int (.ofNat 0)))))) vbNil))
def b50 : SK := vBody v50
theorem e50 : b50 = denB gv ir50 := (congrArg vBody (show v50 = vdB gv ir50 by kernel_rfl)).trans (vBody_eq (vdB_ok ir50))
def d50 : DefR := ⟨"met_atom", defArgs (top 62), defBody (top 62), defScope (top 62), ["atom", "table", "worth"], ["atom", "table"], ir50⟩
theorem ck50 : ckSs { cf with N := d50.N } d50.scope.names d50.ir d50.body = true := by decide +kernel
theorem ok50 : d50.Ok cf := ⟨⟨rfl, rfl, rfl, by decide +kernel, rfl, by decide +kernel, by decide +kernel⟩, ck50, fun _ _ _ _ _ _ _ _ _ _ us hl => match us, hl with | [_, _], _ => rfl⟩
-- met_parts
def ir51 : IB := (.cons (.ret (.ife (.cmp .eq (.v 0) (.c (.str [97, 108, 108]))) (.bi .all (.v 1)) (.bi .any (.v 1)))) .nil)
def v51 : VS := (vbCons (vsRet (vIf (vTCmp .eq (vV 0) (vC (.str [97, 108, 108]))) (vBi .all (vV 1)) (vBi .any (vV 1)))) vbNil)
def b51 : SK := vBody v51
theorem e51 : b51 = denB gv ir51 := (congrArg vBody (show v51 = vdB gv ir51 by kernel_rfl)).trans (vBody_eq (vdB_ok ir51))
def d51 : DefR := ⟨"met_parts", defArgs (top 63), defBody (top 63), defScope (top 63), ["kind", "made"], ["kind", "made"], ir51⟩
theorem ck51 : ckSs { cf with N := d51.N } d51.scope.names d51.ir d51.body = true := by decide +kernel
theorem ok51 : d51.Ok cf := ⟨⟨rfl, rfl, rfl, by decide +kernel, rfl, by decide +kernel, by decide +kernel⟩, ck51, fun _ _ _ _ _ _ _ _ _ _ us hl => match us, hl with | [_, _], _ => rfl⟩
-- met_by
def ir52 : IB := (.cons (.ret (.call 41 (.cons (.v 0) (.cons (.g 4) (.cons (.g 5) (.cons (.v 1) .nil)))))) .nil)
def v52 : VS := (vbCons (vsRet (vCall 41 (vCons (vV 0) (vCons (vC (.fn 50)) (vCons (vC (.fn 51)) (vCons (vV 1) vNil)))))) vbNil)
def b52 : SK := vBody v52
theorem e52 : b52 = denB gv ir52 := (congrArg vBody (show v52 = vdB gv ir52 by kernel_rfl)).trans (vBody_eq (vdB_ok ir52))
def d52 : DefR := ⟨"met_by", defArgs (top 64), defBody (top 64), defScope (top 64), ["formula", "table"], ["formula", "table"], ir52⟩
theorem ck52 : ckSs { cf with N := d52.N } d52.scope.names d52.ir d52.body = true := by decide +kernel
theorem ok52 : d52.Ok cf := ⟨⟨rfl, rfl, rfl, by decide +kernel, rfl, by decide +kernel, by decide +kernel⟩, ck52, fun _ _ _ _ _ _ _ _ _ _ us hl => match us, hl with | [_, _], _ => rfl⟩
-- put_atom
def ir53 : IB := (.cons (.ret (.tup (.cons (.ix (.v 0) (.c (.int (.ofNat 0)))) (.cons (.call 22 (.cons (.ix (.v 0) (.c (.int (.ofNat 1)))) (.cons (.ix (.v 1) (.c (.int (.ofNat 0)))) (.cons (.ix (.v 1) (.c (.int (.ofNat 1)))) .nil)))) .nil)))) .nil)
def v53 : VS := (vbCons (vsRet (vTup (vCons (vIx (vV 0) (vC (.int (.ofNat 0)))) (vCons (vCall 22 (vCons (vIx (vV 0) (vC (.int (.ofNat 1)))) (vCons (vIx (vV 1) (vC (.int (.ofNat 0)))) (vCons (vIx (vV 1) (vC (.int (.ofNat 1)))) vNil)))) vNil)))) vbNil)
def b53 : SK := vBody v53
theorem e53 : b53 = denB gv ir53 := (congrArg vBody (show v53 = vdB gv ir53 by kernel_rfl)).trans (vBody_eq (vdB_ok ir53))
def d53 : DefR := ⟨"put_atom", defArgs (top 65), defBody (top 65), defScope (top 65), ["atom", "told"], ["atom", "told"], ir53⟩
theorem ck53 : ckSs { cf with N := d53.N } d53.scope.names d53.ir d53.body = true := by decide +kernel
theorem ok53 : d53.Ok cf := ⟨⟨rfl, rfl, rfl, by decide +kernel, rfl, by decide +kernel, by decide +kernel⟩, ck53, fun _ _ _ _ _ _ _ _ _ _ us hl => match us, hl with | [_, _], _ => rfl⟩
-- same_parts
def ir54 : IB := (.cons (.ret (.tup (.cons (.v 0) (.cons (.bi .tuple (.v 1)) .nil)))) .nil)
def v54 : VS := (vbCons (vsRet (vTup (vCons (vV 0) (vCons (vBi .tuple (vV 1)) vNil)))) vbNil)
def b54 : SK := vBody v54
theorem e54 : b54 = denB gv ir54 := (congrArg vBody (show v54 = vdB gv ir54 by kernel_rfl)).trans (vBody_eq (vdB_ok ir54))
def d54 : DefR := ⟨"same_parts", defArgs (top 66), defBody (top 66), defScope (top 66), ["kind", "made"], ["kind", "made"], ir54⟩
theorem ck54 : ckSs { cf with N := d54.N } d54.scope.names d54.ir d54.body = true := by decide +kernel
theorem ok54 : d54.Ok cf := ⟨⟨rfl, rfl, rfl, by decide +kernel, rfl, by decide +kernel, by decide +kernel⟩, ck54, fun _ _ _ _ _ _ _ _ _ _ us hl => match us, hl with | [_, _], _ => rfl⟩
-- put_through
def ir55 : IB := (.cons (.ret (.call 41 (.cons (.v 0) (.cons (.g 6) (.cons (.g 7) (.cons (.tup (.cons (.v 1) (.cons (.v 2) .nil))) .nil)))))) .nil)
def v55 : VS := (vbCons (vsRet (vCall 41 (vCons (vV 0) (vCons (vC (.fn 53)) (vCons (vC (.fn 54)) (vCons (vTup (vCons (vV 1) (vCons (vV 2) vNil))) vNil)))))) vbNil)
def b55 : SK := vBody v55
theorem e55 : b55 = denB gv ir55 := (congrArg vBody (show v55 = vdB gv ir55 by kernel_rfl)).trans (vBody_eq (vdB_ok ir55))
def d55 : DefR := ⟨"put_through", defArgs (top 67), defBody (top 67), defScope (top 67), ["formula", "symbol", "other"], ["formula", "symbol", "other"], ir55⟩
theorem ck55 : ckSs { cf with N := d55.N } d55.scope.names d55.ir d55.body = true := by decide +kernel
theorem ok55 : d55.Ok cf := ⟨⟨rfl, rfl, rfl, by decide +kernel, rfl, by decide +kernel, by decide +kernel⟩, ck55, fun _ _ _ _ _ _ _ _ _ _ us hl => match us, hl with | [_, _, _], _ => rfl⟩
-- tidy_atom
def ir56 : IB := (.cons (.asg (.tup (.cons (.v 2) (.cons (.v 3) .nil))) (.v 0)) (.cons (.set 4 (.call 23 (.cons (.v 3) .nil))) (.cons (.ife (.cmp .eq (.v 4) (.c (.int (.ofNat 0)))) (.cons (.ret (.ife (.ife (.cmp .eq (.v 2) (.c (.str [114, 111, 119]))) (.cmp .ge (.ix (.v 3) (.c (.int (.ofNat 0)))) (.c (.int (.ofNat 0)))) (.cmp .eq (.ix (.v 3) (.c (.int (.ofNat 0)))) (.c (.int (.ofNat 0))))) (.g 8) (.g 9))) .nil) .nil) (.cons (.ife (.cmp .eq (.v 2) (.c (.str [114, 111, 119]))) (.cons (.ret (.tup (.cons (.c (.str [114, 111, 119])) (.cons (.call 24 (.cons (.v 3) (.cons (.v 4) .nil))) .nil)))) .nil) .nil) (.cons (.ife (.cmp .ne (.bin .mod (.ix (.v 3) (.c (.int (.ofNat 0)))) (.v 4)) (.c (.int (.ofNat 0)))) (.cons (.ret (.g 9)) .nil) .nil) (.cons (.set 5 (.call 24 (.cons (.v 3) (.cons (.v 4) .nil)))) (.cons (.ret (.tup (.cons (.c (.str [122, 101, 114, 111])) (.cons (.ife (.cmp .gt (.ix (.ix (.ix (.v 5) (.c (.int (.ofNat 1)))) (.c (.int (.ofNat 0)))) (.c (.int (.ofNat 1)))) (.c (.int (.ofNat 0)))) (.v 5) (.call 19 (.cons (.v 5) (.cons (.neg (.c (.int (.ofNat 1)))) .nil)))) .nil)))) .nil)))))))
def v56 : VS := (vbCons (vsAsg (vGTup 2 (vGCons (vGV 2) (vGCons (vGV 3) vGNil))) (vV 0)) (vbCons (vsSet 4 (vCall 23 (vCons (vV 3) vNil))) (vbCons (vsIf (vTCmp .eq (vV 4) (vC (.int (.ofNat 0)))) (vbCons (vsRet (vIf (vTIf (vTCmp .eq (vV 2) (vC (.str [114, 111, 119]))) (vTCmp .ge (vIx (vV 3) (vC (.int (.ofNat 0)))) (vC (.int (.ofNat 0)))) (vTCmp .eq (vIx (vV 3) (vC (.int (.ofNat 0)))) (vC (.int (.ofNat 0))))) (vC (.tup true [.str [97, 108, 108], .tup true []])) (vC (.tup true [.str [97, 110, 121], .tup true []])))) vbNil) vbNil) (vbCons (vsIf (vTCmp .eq (vV 2) (vC (.str [114, 111, 119]))) (vbCons (vsRet (vTup (vCons (vC (.str [114, 111, 119])) (vCons (vCall 24 (vCons (vV 3) (vCons (vV 4) vNil))) vNil)))) vbNil) vbNil) (vbCons (vsIf (vTCmp .ne (vBin .mod (vIx (vV 3) (vC (.int (.ofNat 0)))) (vV 4)) (vC (.int (.ofNat 0)))) (vbCons (vsRet (vC (.tup true [.str [97, 110, 121], .tup true []]))) vbNil) vbNil) (vbCons (vsSet 5 (vCall 24 (vCons (vV 3) (vCons (vV 4) vNil)))) (vbCons (vsRet (vTup (vCons (vC (.str [122, 101, 114, 111])) (vCons (vIf (vTCmp .gt (vIx (vIx (vIx (vV 5) (vC (.int (.ofNat 1)))) (vC (.int (.ofNat 0)))) (vC (.int (.ofNat 1)))) (vC (.int (.ofNat 0)))) (vV 5) (vCall 19 (vCons (vV 5) (vCons (vNeg (vC (.int (.ofNat 1)))) vNil)))) vNil)))) vbNil)))))))
def b56 : SK := vBody v56
theorem e56 : b56 = denB gv ir56 := (congrArg vBody (show v56 = vdB gv ir56 by kernel_rfl)).trans (vBody_eq (vdB_ok ir56))
def d56 : DefR := ⟨"tidy_atom", defArgs (top 68), defBody (top 68), defScope (top 68), ["atom", "told", "kind", "own", "by", "found"], ["atom", "told"], ir56⟩
theorem ck56 : ckSs { cf with N := d56.N } d56.scope.names d56.ir d56.body = true := by decide +kernel
theorem ok56 : d56.Ok cf := ⟨⟨rfl, rfl, rfl, by decide +kernel, rfl, by decide +kernel, by decide +kernel⟩, ck56, fun _ _ _ _ _ _ _ _ _ _ us hl => match us, hl with | [_, _], _ => rfl⟩
-- tidy_parts
def ir57 : IB := (.cons (.asg (.tup (.cons (.v 2) (.cons (.v 3) .nil))) (.ife (.cmp .eq (.v 0) (.c (.str [97, 108, 108]))) (.tup (.cons (.g 9) (.cons (.g 8) .nil))) (.tup (.cons (.g 8) (.cons (.g 9) .nil))))) (.cons (.set 4 (.lst .nil)) (.cons (.fr (.v 5) (.val (.v 1)) (.cons (.ife (.cmp .eq (.v 5) (.v 2)) (.cons (.ret (.v 2)) .nil) .nil) (.cons (.fr (.v 6) (.val (.ife (.cmp .eq (.ix (.v 5) (.c (.int (.ofNat 0)))) (.v 0)) (.ix (.v 5) (.c (.int (.ofNat 1)))) (.lst (.cons (.v 5) .nil)))) (.cons (.ife (.an (.cons (.cmp .nin (.v 6) (.v 4)) (.cons (.cmp .ne (.v 6) (.v 3)) .nil))) (.cons (.ex (.mtA (.v 4) (.v 6))) .nil) .nil) .nil)) .nil))) (.cons (.ret (.ife (.cmp .eq (.bi .len (.v 4)) (.c (.int (.ofNat 1)))) (.ix (.v 4) (.c (.int (.ofNat 0)))) (.tup (.cons (.v 0) (.cons (.bi .tuple (.v 4)) .nil))))) .nil))))
def v57 : VS := (vbCons (vsAsg (vGTup 2 (vGCons (vGV 2) (vGCons (vGV 3) vGNil))) (vIf (vTCmp .eq (vV 0) (vC (.str [97, 108, 108]))) (vTup (vCons (vC (.tup true [.str [97, 110, 121], .tup true []])) (vCons (vC (.tup true [.str [97, 108, 108], .tup true []])) vNil))) (vTup (vCons (vC (.tup true [.str [97, 108, 108], .tup true []])) (vCons (vC (.tup true [.str [97, 110, 121], .tup true []])) vNil))))) (vbCons (vsSet 4 (vLst vNil)) (vbCons (vsFor (vGV 5) (vIVal (vV 1)) (vbCons (vsIf (vTCmp .eq (vV 5) (vV 2)) (vbCons (vsRet (vV 2)) vbNil) vbNil) (vbCons (vsFor (vGV 6) (vIVal (vIf (vTCmp .eq (vIx (vV 5) (vC (.int (.ofNat 0)))) (vV 0)) (vIx (vV 5) (vC (.int (.ofNat 1)))) (vLst (vCons (vV 5) vNil)))) (vbCons (vsIf (vTAn (vTCmp .nin (vV 6) (vV 4)) (vTCmp .ne (vV 6) (vV 3))) (vbCons (vsEx (vMt .append (vV 4) (vCons (vV 6) vNil))) vbNil) vbNil) vbNil)) vbNil))) (vbCons (vsRet (vIf (vTCmp .eq (vBi .len (vV 4)) (vC (.int (.ofNat 1)))) (vIx (vV 4) (vC (.int (.ofNat 0)))) (vTup (vCons (vV 0) (vCons (vBi .tuple (vV 4)) vNil))))) vbNil))))
def b57 : SK := vBody v57
theorem e57 : b57 = denB gv ir57 := (congrArg vBody (show v57 = vdB gv ir57 by kernel_rfl)).trans (vBody_eq (vdB_ok ir57))
def d57 : DefR := ⟨"tidy_parts", defArgs (top 69), defBody (top 69), defScope (top 69), ["kind", "made", "ends", "drops", "found", "part", "its"], ["kind", "made"], ir57⟩
theorem ck57 : ckSs { cf with N := d57.N } d57.scope.names d57.ir d57.body = true := by decide +kernel
theorem ok57 : d57.Ok cf := ⟨⟨rfl, rfl, rfl, by decide +kernel, rfl, by decide +kernel, by decide +kernel⟩, ck57, fun _ _ _ _ _ _ _ _ _ _ us hl => match us, hl with | [_, _], _ => rfl⟩
-- tidied
def ir58 : IB := (.cons (.ret (.call 41 (.cons (.v 0) (.cons (.g 10) (.cons (.g 11) (.cons (.c (.non)) .nil)))))) .nil)
def v58 : VS := (vbCons (vsRet (vCall 41 (vCons (vV 0) (vCons (vC (.fn 56)) (vCons (vC (.fn 57)) (vCons (vC (.non)) vNil)))))) vbNil)
def b58 : SK := vBody v58
theorem e58 : b58 = denB gv ir58 := (congrArg vBody (show v58 = vdB gv ir58 by kernel_rfl)).trans (vBody_eq (vdB_ok ir58))
def d58 : DefR := ⟨"tidied", defArgs (top 70), defBody (top 70), defScope (top 70), ["formula"], ["formula"], ir58⟩
theorem ck58 : ckSs { cf with N := d58.N } d58.scope.names d58.ir d58.body = true := by decide +kernel
theorem ok58 : d58.Ok cf := ⟨⟨rfl, rfl, rfl, by decide +kernel, rfl, by decide +kernel, by decide +kernel⟩, ck58, fun _ _ _ _ _ _ _ _ _ _ us hl => match us, hl with | [_], _ => rfl⟩
-- one_way
def ir59 : IB := (.cons (.ret (.c (.int (.ofNat 1)))) .nil)
def v59 : VS := (vbCons (vsRet (vC (.int (.ofNat 1)))) vbNil)
def b59 : SK := vBody v59
theorem e59 : b59 = denB gv ir59 := (congrArg vBody (show v59 = vdB gv ir59 by kernel_rfl)).trans (vBody_eq (vdB_ok ir59))
def d59 : DefR := ⟨"one_way", defArgs (top 71), defBody (top 71), defScope (top 71), ["atom", "told"], ["atom", "told"], ir59⟩
theorem ck59 : ckSs { cf with N := d59.N } d59.scope.names d59.ir d59.body = true := by decide +kernel
theorem ok59 : d59.Ok cf := ⟨⟨rfl, rfl, rfl, by decide +kernel, rfl, by decide +kernel, by decide +kernel⟩, ck59, fun _ _ _ _ _ _ _ _ _ _ us hl => match us, hl with | [_, _], _ => rfl⟩
-- many_parts
def ir60 : IB := (.cons (.ife (.cmp .eq (.v 0) (.c (.str [97, 110, 121]))) (.cons (.ret (.bi .sum (.v 1))) .nil) .nil) (.cons (.set 2 (.c (.int (.ofNat 1)))) (.cons (.fr (.v 3) (.val (.v 1)) (.cons (.set 2 (.bin .mul (.v 2) (.v 3))) .nil)) (.cons (.ret (.v 2)) .nil))))
def v60 : VS := (vbCons (vsIf (vTCmp .eq (vV 0) (vC (.str [97, 110, 121]))) (vbCons (vsRet (vBi .sum (vV 1))) vbNil) vbNil) (vbCons (vsSet 2 (vC (.int (.ofNat 1)))) (vbCons (vsFor (vGV 3) (vIVal (vV 1)) (vbCons (vsSet 2 (vBin .mul (vV 2) (vV 3))) vbNil)) (vbCons (vsRet (vV 2)) vbNil))))
def b60 : SK := vBody v60
theorem e60 : b60 = denB gv ir60 := (congrArg vBody (show v60 = vdB gv ir60 by kernel_rfl)).trans (vBody_eq (vdB_ok ir60))
def d60 : DefR := ⟨"many_parts", defArgs (top 72), defBody (top 72), defScope (top 72), ["kind", "made", "found", "number"], ["kind", "made"], ir60⟩
theorem ck60 : ckSs { cf with N := d60.N } d60.scope.names d60.ir d60.body = true := by decide +kernel
theorem ok60 : d60.Ok cf := ⟨⟨rfl, rfl, rfl, by decide +kernel, rfl, by decide +kernel, by decide +kernel⟩, ck60, fun _ _ _ _ _ _ _ _ _ _ us hl => match us, hl with | [_, _], _ => rfl⟩
-- many_ways
def ir61 : IB := (.cons (.ret (.call 41 (.cons (.v 0) (.cons (.g 12) (.cons (.g 13) (.cons (.c (.non)) .nil)))))) .nil)
def v61 : VS := (vbCons (vsRet (vCall 41 (vCons (vV 0) (vCons (vC (.fn 59)) (vCons (vC (.fn 60)) (vCons (vC (.non)) vNil)))))) vbNil)
def b61 : SK := vBody v61
theorem e61 : b61 = denB gv ir61 := (congrArg vBody (show v61 = vdB gv ir61 by kernel_rfl)).trans (vBody_eq (vdB_ok ir61))
def d61 : DefR := ⟨"many_ways", defArgs (top 73), defBody (top 73), defScope (top 73), ["formula"], ["formula"], ir61⟩
theorem ck61 : ckSs { cf with N := d61.N } d61.scope.names d61.ir d61.body = true := by decide +kernel
theorem ok61 : d61.Ok cf := ⟨⟨rfl, rfl, rfl, by decide +kernel, rfl, by decide +kernel, by decide +kernel⟩, ck61, fun _ _ _ _ _ _ _ _ _ _ us hl => match us, hl with | [_], _ => rfl⟩
-- atom_ways
def ir62 : IB := (.cons (.ret (.lst (.cons (.tup (.cons (.v 0) .nil)) .nil))) .nil)
def v62 : VS := (vbCons (vsRet (vLst (vCons (vTup (vCons (vV 0) vNil)) vNil))) vbNil)
def b62 : SK := vBody v62
theorem e62 : b62 = denB gv ir62 := (congrArg vBody (show v62 = vdB gv ir62 by kernel_rfl)).trans (vBody_eq (vdB_ok ir62))
def d62 : DefR := ⟨"atom_ways", defArgs (top 74), defBody (top 74), defScope (top 74), ["atom", "told"], ["atom", "told"], ir62⟩
theorem ck62 : ckSs { cf with N := d62.N } d62.scope.names d62.ir d62.body = true := by decide +kernel
theorem ok62 : d62.Ok cf := ⟨⟨rfl, rfl, rfl, by decide +kernel, rfl, by decide +kernel, by decide +kernel⟩, ck62, fun _ _ _ _ _ _ _ _ _ _ us hl => match us, hl with | [_, _], _ => rfl⟩
-- part_ways
def ir63 : IB := (.cons (.ife (.cmp .eq (.v 0) (.c (.str [97, 110, 121]))) (.cons (.set 2 (.lst .nil)) (.cons (.fr (.v 3) (.val (.v 1)) (.cons (.ex (.mtX (.v 2) (.v 3))) .nil)) (.cons (.ret (.v 2)) .nil))) .nil) (.cons (.set 2 (.lst (.cons (.tup .nil) .nil))) (.cons (.fr (.v 3) (.val (.v 1)) (.cons (.set 4 (.lst .nil)) (.cons (.fr (.v 5) (.val (.v 2)) (.cons (.ex (.mtX (.v 4) (.lc (.bin .add (.v 5) (.v 6)) [6] (.v 6) (.val (.v 3)) .yes))) .nil)) (.cons (.set 2 (.v 4)) .nil)))) (.cons (.ret (.v 2)) .nil))))
def v63 : VS := (vbCons (vsIf (vTCmp .eq (vV 0) (vC (.str [97, 110, 121]))) (vbCons (vsSet 2 (vLst vNil)) (vbCons (vsFor (vGV 3) (vIVal (vV 1)) (vbCons (vsEx (vMt .extend (vV 2) (vCons (vV 3) vNil))) vbNil)) (vbCons (vsRet (vV 2)) vbNil))) vbNil) (vbCons (vsSet 2 (vLst (vCons (vTup vNil) vNil))) (vbCons (vsFor (vGV 3) (vIVal (vV 1)) (vbCons (vsSet 4 (vLst vNil)) (vbCons (vsFor (vGV 5) (vIVal (vV 2)) (vbCons (vsEx (vMt .extend (vV 4) (vCons (vLc (vBin .add (vV 5) (vV 6)) [6] (vGV 6) (vIVal (vV 3)) vYes) vNil))) vbNil)) (vbCons (vsSet 2 (vV 4)) vbNil)))) (vbCons (vsRet (vV 2)) vbNil))))
def b63 : SK := vBody v63
theorem e63 : b63 = denB gv ir63 := (congrArg vBody (show v63 = vdB gv ir63 by kernel_rfl)).trans (vBody_eq (vdB_ok ir63))
def d63 : DefR := ⟨"part_ways", defArgs (top 75), defBody (top 75), defScope (top 75), ["kind", "made", "found", "ways", "later", "way", "own"], ["kind", "made"], ir63⟩
theorem ck63 : ckSs { cf with N := d63.N } d63.scope.names d63.ir d63.body = true := by decide +kernel
theorem ok63 : d63.Ok cf := ⟨⟨rfl, rfl, rfl, by decide +kernel, rfl, by decide +kernel, by decide +kernel⟩, ck63, fun _ _ _ _ _ _ _ _ _ _ us hl => match us, hl with | [_, _], _ => rfl⟩
-- same_atom
def ir64 : IB := (.cons (.ret (.v 0)) .nil)
def v64 : VS := (vbCons (vsRet (vV 0)) vbNil)
def b64 : SK := vBody v64
theorem e64 : b64 = denB gv ir64 := (congrArg vBody (show v64 = vdB gv ir64 by kernel_rfl)).trans (vBody_eq (vdB_ok ir64))
def d64 : DefR := ⟨"same_atom", defArgs (top 76), defBody (top 76), defScope (top 76), ["atom", "told"], ["atom", "told"], ir64⟩
theorem ck64 : ckSs { cf with N := d64.N } d64.scope.names d64.ir d64.body = true := by decide +kernel
theorem ok64 : d64.Ok cf := ⟨⟨rfl, rfl, rfl, by decide +kernel, rfl, by decide +kernel, by decide +kernel⟩, ck64, fun _ _ _ _ _ _ _ _ _ _ us hl => match us, hl with | [_, _], _ => rfl⟩
-- thinned_parts
def ir65 : IB := (.cons (.ife (.cmp .eq (.v 0) (.c (.str [97, 108, 108]))) (.cons (.ret (.ife (.cmp .in_ (.g 9) (.v 1)) (.g 9) (.tup (.cons (.v 0) (.cons (.bi .tuple (.v 1)) .nil))))) .nil) .nil) (.cons (.ret (.tup (.cons (.v 0) (.cons (.bi .tuple (.lc (.v 2) [2] (.v 2) (.val (.v 1)) (.cmp .ne (.v 2) (.g 9)))) .nil)))) .nil))
def v65 : VS := (vbCons (vsIf (vTCmp .eq (vV 0) (vC (.str [97, 108, 108]))) (vbCons (vsRet (vIf (vTCmp .in_ (vC (.tup true [.str [97, 110, 121], .tup true []])) (vV 1)) (vC (.tup true [.str [97, 110, 121], .tup true []])) (vTup (vCons (vV 0) (vCons (vBi .tuple (vV 1)) vNil))))) vbNil) vbNil) (vbCons (vsRet (vTup (vCons (vV 0) (vCons (vBi .tuple (vLc (vV 2) [2] (vGV 2) (vIVal (vV 1)) (vTCmp .ne (vV 2) (vC (.tup true [.str [97, 110, 121], .tup true []]))))) vNil)))) vbNil))
def b65 : SK := vBody v65
theorem e65 : b65 = denB gv ir65 := (congrArg vBody (show v65 = vdB gv ir65 by kernel_rfl)).trans (vBody_eq (vdB_ok ir65))
def d65 : DefR := ⟨"thinned_parts", defArgs (top 77), defBody (top 77), defScope (top 77), ["kind", "made", "own"], ["kind", "made"], ir65⟩
theorem ck65 : ckSs { cf with N := d65.N } d65.scope.names d65.ir d65.body = true := by decide +kernel
theorem ok65 : d65.Ok cf := ⟨⟨rfl, rfl, rfl, by decide +kernel, rfl, by decide +kernel, by decide +kernel⟩, ck65, fun _ _ _ _ _ _ _ _ _ _ us hl => match us, hl with | [_, _], _ => rfl⟩
-- ways_of
def ir66 : IB := (.cons (.ret (.call 41 (.cons (.call 41 (.cons (.v 0) (.cons (.g 14) (.cons (.g 15) (.cons (.c (.non)) .nil))))) (.cons (.g 16) (.cons (.g 17) (.cons (.c (.non)) .nil)))))) .nil)
def v66 : VS := (vbCons (vsRet (vCall 41 (vCons (vCall 41 (vCons (vV 0) (vCons (vC (.fn 64)) (vCons (vC (.fn 65)) (vCons (vC (.non)) vNil))))) (vCons (vC (.fn 62)) (vCons (vC (.fn 63)) (vCons (vC (.non)) vNil)))))) vbNil)
def b66 : SK := vBody v66
theorem e66 : b66 = denB gv ir66 := (congrArg vBody (show v66 = vdB gv ir66 by kernel_rfl)).trans (vBody_eq (vdB_ok ir66))
def d66 : DefR := ⟨"ways_of", defArgs (top 78), defBody (top 78), defScope (top 78), ["formula"], ["formula"], ir66⟩
theorem ck66 : ckSs { cf with N := d66.N } d66.scope.names d66.ir d66.body = true := by decide +kernel
theorem ok66 : d66.Ok cf := ⟨⟨rfl, rfl, rfl, by decide +kernel, rfl, by decide +kernel, by decide +kernel⟩, ck66, fun _ _ _ _ _ _ _ _ _ _ us hl => match us, hl with | [_], _ => rfl⟩
-- is_formula
def ir67 : IB := (.cons (.ret (.call 40 (.cons (.v 0) .nil))) .nil)
def v67 : VS := (vbCons (vsRet (vCall 40 (vCons (vV 0) vNil))) vbNil)
def b67 : SK := vBody v67
theorem e67 : b67 = denB gv ir67 := (congrArg vBody (show v67 = vdB gv ir67 by kernel_rfl)).trans (vBody_eq (vdB_ok ir67))
def d67 : DefR := ⟨"is_formula", defArgs (top 79), defBody (top 79), defScope (top 79), ["thing"], ["thing"], ir67⟩
theorem ck67 : ckSs { cf with N := d67.N } d67.scope.names d67.ir d67.body = true := by decide +kernel
theorem ok67 : d67.Ok cf := ⟨⟨rfl, rfl, rfl, by decide +kernel, rfl, by decide +kernel, by decide +kernel⟩, ck67, fun _ _ _ _ _ _ _ _ _ _ us hl => match us, hl with | [_], _ => rfl⟩
-- formula_symbols
def ir68 : IB := (.cons (.ret (.call 49 (.cons (.call 42 (.cons (.v 0) .nil)) .nil))) .nil)
def v68 : VS := (vbCons (vsRet (vCall 49 (vCons (vCall 42 (vCons (vV 0) vNil)) vNil))) vbNil)
def b68 : SK := vBody v68
theorem e68 : b68 = denB gv ir68 := (congrArg vBody (show v68 = vdB gv ir68 by kernel_rfl)).trans (vBody_eq (vdB_ok ir68))
def d68 : DefR := ⟨"formula_symbols", defArgs (top 80), defBody (top 80), defScope (top 80), ["formula"], ["formula"], ir68⟩
theorem ck68 : ckSs { cf with N := d68.N } d68.scope.names d68.ir d68.body = true := by decide +kernel
theorem ok68 : d68.Ok cf := ⟨⟨rfl, rfl, rfl, by decide +kernel, rfl, by decide +kernel, by decide +kernel⟩, ck68, fun _ _ _ _ _ _ _ _ _ _ us hl => match us, hl with | [_], _ => rfl⟩
-- is_met
def ir69 : IB := (.cons (.set 2 (.call 42 (.cons (.v 0) .nil))) (.cons (.ret (.call 52 (.cons (.v 2) (.cons (.bi .dict (.call 10 (.cons (.v 1) .nil))) .nil)))) .nil))
def v69 : VS := (vbCons (vsSet 2 (vCall 42 (vCons (vV 0) vNil))) (vbCons (vsRet (vCall 52 (vCons (vV 2) (vCons (vBi .dict (vCall 10 (vCons (vV 1) vNil))) vNil)))) vbNil))
def b69 : SK := vBody v69
theorem e69 : b69 = denB gv ir69 := (congrArg vBody (show v69 = vdB gv ir69 by kernel_rfl)).trans (vBody_eq (vdB_ok ir69))
def d69 : DefR := ⟨"is_met", defArgs (top 81), defBody (top 81), defScope (top 81), ["formula", "values", "own"], ["formula", "values"], ir69⟩
theorem ck69 : ckSs { cf with N := d69.N } d69.scope.names d69.ir d69.body = true := by decide +kernel
theorem ok69 : d69.Ok cf := ⟨⟨rfl, rfl, rfl, by decide +kernel, rfl, by decide +kernel, by decide +kernel⟩, ck69, fun _ _ _ _ _ _ _ _ _ _ us hl => match us, hl with | [_, _], _ => rfl⟩
-- opposite
def ir70 : IB := (.cons (.ret (.call 48 (.cons (.call 42 (.cons (.v 0) .nil)) .nil))) .nil)
def v70 : VS := (vbCons (vsRet (vCall 48 (vCons (vCall 42 (vCons (vV 0) vNil)) vNil))) vbNil)
def b70 : SK := vBody v70
theorem e70 : b70 = denB gv ir70 := (congrArg vBody (show v70 = vdB gv ir70 by kernel_rfl)).trans (vBody_eq (vdB_ok ir70))
def d70 : DefR := ⟨"opposite", defArgs (top 82), defBody (top 82), defScope (top 82), ["formula"], ["formula"], ir70⟩
theorem ck70 : ckSs { cf with N := d70.N } d70.scope.names d70.ir d70.body = true := by decide +kernel
theorem ok70 : d70.Ok cf := ⟨⟨rfl, rfl, rfl, by decide +kernel, rfl, by decide +kernel, by decide +kernel⟩, ck70, fun _ _ _ _ _ _ _ _ _ _ us hl => match us, hl with | [_], _ => rfl⟩
-- both_formulas
def ir71 : IB := (.cons (.set 2 (.call 42 (.cons (.v 0) .nil))) (.cons (.ret (.tup (.cons (.c (.str [97, 108, 108])) (.cons (.tup (.cons (.v 2) (.cons (.call 42 (.cons (.v 1) .nil)) .nil))) .nil)))) .nil))
def v71 : VS := (vbCons (vsSet 2 (vCall 42 (vCons (vV 0) vNil))) (vbCons (vsRet (vTup (vCons (vC (.str [97, 108, 108])) (vCons (vTup (vCons (vV 2) (vCons (vCall 42 (vCons (vV 1) vNil)) vNil))) vNil)))) vbNil))
def b71 : SK := vBody v71
theorem e71 : b71 = denB gv ir71 := (congrArg vBody (show v71 = vdB gv ir71 by kernel_rfl)).trans (vBody_eq (vdB_ok ir71))
def d71 : DefR := ⟨"both_formulas", defArgs (top 83), defBody (top 83), defScope (top 83), ["one", "other", "near"], ["one", "other"], ir71⟩
theorem ck71 : ckSs { cf with N := d71.N } d71.scope.names d71.ir d71.body = true := by decide +kernel
theorem ok71 : d71.Ok cf := ⟨⟨rfl, rfl, rfl, by decide +kernel, rfl, by decide +kernel, by decide +kernel⟩, ck71, fun _ _ _ _ _ _ _ _ _ _ us hl => match us, hl with | [_, _], _ => rfl⟩
-- formula_put
def ir72 : IB := (.cons (.set 3 (.call 42 (.cons (.v 0) .nil))) (.cons (.set 4 (.call 11 (.cons (.v 1) .nil))) (.cons (.ret (.call 55 (.cons (.v 3) (.cons (.v 4) (.cons (.call 9 (.cons (.v 2) .nil)) .nil))))) .nil)))
def v72 : VS := (vbCons (vsSet 3 (vCall 42 (vCons (vV 0) vNil))) (vbCons (vsSet 4 (vCall 11 (vCons (vV 1) vNil))) (vbCons (vsRet (vCall 55 (vCons (vV 3) (vCons (vV 4) (vCons (vCall 9 (vCons (vV 2) vNil)) vNil))))) vbNil)))
def b72 : SK := vBody v72
theorem e72 : b72 = denB gv ir72 := (congrArg vBody (show v72 = vdB gv ir72 by kernel_rfl)).trans (vBody_eq (vdB_ok ir72))
def d72 : DefR := ⟨"formula_put", defArgs (top 84), defBody (top 84), defScope (top 84), ["formula", "symbol", "told", "own", "name"], ["formula", "symbol", "told"], ir72⟩
theorem ck72 : ckSs { cf with N := d72.N } d72.scope.names d72.ir d72.body = true := by decide +kernel
theorem ok72 : d72.Ok cf := ⟨⟨rfl, rfl, rfl, by decide +kernel, rfl, by decide +kernel, by decide +kernel⟩, ck72, fun _ _ _ _ _ _ _ _ _ _ us hl => match us, hl with | [_, _, _], _ => rfl⟩
-- tidy
def ir73 : IB := (.cons (.ret (.call 58 (.cons (.call 42 (.cons (.v 0) .nil)) .nil))) .nil)
def v73 : VS := (vbCons (vsRet (vCall 58 (vCons (vCall 42 (vCons (vV 0) vNil)) vNil))) vbNil)
def b73 : SK := vBody v73
theorem e73 : b73 = denB gv ir73 := (congrArg vBody (show v73 = vdB gv ir73 by kernel_rfl)).trans (vBody_eq (vdB_ok ir73))
def d73 : DefR := ⟨"tidy", defArgs (top 85), defBody (top 85), defScope (top 85), ["formula"], ["formula"], ir73⟩
theorem ck73 : ckSs { cf with N := d73.N } d73.scope.names d73.ir d73.body = true := by decide +kernel
theorem ok73 : d73.Ok cf := ⟨⟨rfl, rfl, rfl, by decide +kernel, rfl, by decide +kernel, by decide +kernel⟩, ck73, fun _ _ _ _ _ _ _ _ _ _ us hl => match us, hl with | [_], _ => rfl⟩
-- spread
def ir74 : IB := (.cons (.set 1 (.call 42 (.cons (.v 0) .nil))) (.cons (.ife (.cmp .gt (.call 61 (.cons (.v 1) .nil)) (.g 18)) (.cons (.rse 1) .nil) .nil) (.cons (.ret (.call 66 (.cons (.v 1) .nil))) .nil)))
def v74 : VS := (vbCons (vsSet 1 (vCall 42 (vCons (vV 0) vNil))) (vbCons (vsIf (vTCmp .gt (vCall 61 (vCons (vV 1) vNil)) (vC (.int (.ofNat 2000)))) (vbCons (vsRse 1) vbNil) vbNil) (vbCons (vsRet (vCall 66 (vCons (vV 1) vNil))) vbNil)))
def b74 : SK := vBody v74
theorem e74 : b74 = denB gv ir74 := (congrArg vBody (show v74 = vdB gv ir74 by kernel_rfl)).trans (vBody_eq (vdB_ok ir74))
def d74 : DefR := ⟨"spread", defArgs (top 86), defBody (top 86), defScope (top 86), ["formula", "own"], ["formula"], ir74⟩
theorem ck74 : ckSs { cf with N := d74.N } d74.scope.names d74.ir d74.body = true := by decide +kernel
theorem ok74 : d74.Ok cf := ⟨⟨rfl, rfl, rfl, by decide +kernel, rfl, by decide +kernel, by decide +kernel⟩, ck74, fun _ _ _ _ _ _ _ _ _ _ us hl => match us, hl with | [_], _ => rfl⟩
-- _law_box
def ir75 : IB := (.cons (.set 2 (.ife (.cmp .lt (.v 1) (.bi .len (.v 0))) (.ix (.v 0) (.v 1)) (.c (.int (.ofNat 0))))) (.cons (.ret (.lst (.cons (.bin .mul (.bi .abs (.v 2)) (.bi .int (.cmp .ge (.bi .abs (.v 2)) (.bin .pow (.c (.int (.ofNat 10))) (.c (.int (.ofNat 18))))))) (.cons (.bin .add (.bin .add (.bin .mod (.bi .int (.v 2)) (.c (.int (.ofNat 2305843009213693951)))) (.bin .mul (.c (.int (.ofNat 39373))) (.v 1))) (.c (.int (.ofNat 9214001)))) (.cons (.c (.int (.ofNat 0))) .nil))))) .nil))
def v75 : VS := (vbCons (vsSet 2 (vIf (vTCmp .lt (vV 1) (vBi .len (vV 0))) (vIx (vV 0) (vV 1)) (vC (.int (.ofNat 0))))) (vbCons (vsRet (vLst (vCons (vBin .mul (vBi .abs (vV 2)) (vBi .int (vCmp .ge (vBi .abs (vV 2)) (vBin .pow (vC (.int (.ofNat 10))) (vC (.int (.ofNat 18))))))) (vCons (vBin .add (vBin .add (vBin .mod (vBi .int (vV 2)) (vC (.int (.ofNat 2305843009213693951)))) (vBin .mul (vC (.int (.ofNat 39373))) (vV 1))) (vC (.int (.ofNat 9214001)))) (vCons (vC (.int (.ofNat 0))) vNil))))) vbNil))
def b75 : SK := vBody v75
theorem e75 : b75 = denB gv ir75 := (congrArg vBody (show v75 = vdB gv ir75 by kernel_rfl)).trans (vBody_eq (vdB_ok ir75))
def d75 : DefR := ⟨"_law_box", defArgs (top 88), defBody (top 88), defScope (top 88), ["script", "k", "bit_so"], ["script", "k"], ir75⟩
theorem ck75 : ckSs { cf with N := d75.N } d75.scope.names d75.ir d75.body = true := by decide +kernel
theorem ok75 : d75.Ok cf := ⟨⟨rfl, rfl, rfl, by decide +kernel, rfl, by decide +kernel, by decide +kernel⟩, ck75, fun _ _ _ _ _ _ _ _ _ _ us hl => match us, hl with | [_, _], _ => rfl⟩
-- _law_take
def ir76 : IB := (.cons (.ife (.cmp .gt (.ix (.v 0) (.c (.int (.ofNat 0)))) (.c (.int (.ofNat 0)))) (.cons (.set 2 (.bin .mod (.bi .int (.ix (.v 0) (.c (.int (.ofNat 0))))) (.v 1))) (.cons (.asg (.sub (.v 0) (.c (.int (.ofNat 0)))) (.bin .div (.ix (.v 0) (.c (.int (.ofNat 0)))) (.v 1))) (.cons (.ret (.v 2)) .nil))) .nil) (.cons (.asg (.sub (.v 0) (.c (.int (.ofNat 2)))) (.bin .add (.ix (.v 0) (.c (.int (.ofNat 2)))) (.c (.int (.ofNat 1))))) (.cons (.set 3 (.bin .mod (.bi .int (.bin .mul (.bin .add (.ix (.v 0) (.c (.int (.ofNat 1)))) (.bin .mul (.c (.int (.ofNat 48271))) (.ix (.v 0) (.c (.int (.ofNat 2)))))) (.bin .add (.c (.int (.ofNat 39373))) (.ix (.v 0) (.c (.int (.ofNat 2))))))) (.c (.int (.ofNat 2147483647))))) (.cons (.set 4 (.bin .add (.bin .mod (.bi .int (.v 3)) (.c (.int (.ofNat 40009)))) (.c (.int (.ofNat 7))))) (.cons (.set 5 (.bin .mod (.bi .int (.bin .mul (.bin .add (.bin .add (.v 3) (.ix (.v 0) (.c (.int (.ofNat 2))))) (.bin .div (.ix (.v 0) (.c (.int (.ofNat 1)))) (.c (.int (.ofNat 1000003))))) (.v 4))) (.c (.int (.ofNat 2147483629))))) (.cons (.ret (.bin .mod (.bi .int (.bin .div (.bin .mod (.bi .int (.bin .add (.bin .mul (.v 5) (.c (.int (.ofNat 48271)))) (.v 3))) (.c (.int (.ofNat 2147483587)))) (.c (.int (.ofNat 64))))) (.v 1))) .nil))))))
def v76 : VS := (vbCons (vsIf (vTCmp .gt (vIx (vV 0) (vC (.int (.ofNat 0)))) (vC (.int (.ofNat 0)))) (vbCons (vsSet 2 (vBin .mod (vBi .int (vIx (vV 0) (vC (.int (.ofNat 0))))) (vV 1))) (vbCons (vsAsg (vGSub (vV 0) (vC (.int (.ofNat 0)))) (vBin .div (vIx (vV 0) (vC (.int (.ofNat 0)))) (vV 1))) (vbCons (vsRet (vV 2)) vbNil))) vbNil) (vbCons (vsAsg (vGSub (vV 0) (vC (.int (.ofNat 2)))) (vBin .add (vIx (vV 0) (vC (.int (.ofNat 2)))) (vC (.int (.ofNat 1))))) (vbCons (vsSet 3 (vBin .mod (vBi .int (vBin .mul (vBin .add (vIx (vV 0) (vC (.int (.ofNat 1)))) (vBin .mul (vC (.int (.ofNat 48271))) (vIx (vV 0) (vC (.int (.ofNat 2)))))) (vBin .add (vC (.int (.ofNat 39373))) (vIx (vV 0) (vC (.int (.ofNat 2))))))) (vC (.int (.ofNat 2147483647))))) (vbCons (vsSet 4 (vBin .add (vBin .mod (vBi .int (vV 3)) (vC (.int (.ofNat 40009)))) (vC (.int (.ofNat 7))))) (vbCons (vsSet 5 (vBin .mod (vBi .int (vBin .mul (vBin .add (vBin .add (vV 3) (vIx (vV 0) (vC (.int (.ofNat 2))))) (vBin .div (vIx (vV 0) (vC (.int (.ofNat 1)))) (vC (.int (.ofNat 1000003))))) (vV 4))) (vC (.int (.ofNat 2147483629))))) (vbCons (vsRet (vBin .mod (vBi .int (vBin .div (vBin .mod (vBi .int (vBin .add (vBin .mul (vV 5) (vC (.int (.ofNat 48271)))) (vV 3))) (vC (.int (.ofNat 2147483587)))) (vC (.int (.ofNat 64))))) (vV 1))) vbNil))))))
def b76 : SK := vBody v76
theorem e76 : b76 = denB gv ir76 := (congrArg vBody (show v76 = vdB gv ir76 by kernel_rfl)).trans (vBody_eq (vdB_ok ir76))
def d76 : DefR := ⟨"_law_take", defArgs (top 89), defBody (top 89), defScope (top 89), ["tin", "below_so", "drawn_so", "once_so", "wide_so", "twice_so"], ["tin", "below_so"], ir76⟩
theorem ck76 : ckSs { cf with N := d76.N } d76.scope.names d76.ir d76.body = true := by decide +kernel
theorem ok76 : d76.Ok cf := ⟨⟨rfl, rfl, rfl, by decide +kernel, rfl, by decide +kernel, by decide +kernel⟩, ck76, fun _ _ _ _ _ _ _ _ _ _ us hl => match us, hl with | [_, _], _ => rfl⟩
-- _law_cells
def ir77 : IB := (.cons (.set 2 (.orr (.cons (.bi .list (.sl (.v 0) .no (.some (.v 1)))) (.cons (.lst (.cons (.c (.int (.ofNat 0))) .nil)) .nil)))) (.cons (.fr (.tup (.cons (.v 3) (.cons (.v 4) .nil))) (.enum (.sl (.v 0) (.some (.v 1)) (.some (.c (.int (.ofNat 63)))))) (.cons (.set 5 (.bin .mod (.bi .int (.v 3)) (.v 1))) (.cons (.asg (.sub (.v 2) (.v 5)) (.bin .add (.ix (.v 2) (.v 5)) (.bin .mul (.v 4) (.bin .add (.v 3) (.c (.int (.ofNat 2))))))) .nil))) (.cons (.ret (.v 2)) .nil)))
def v77 : VS := (vbCons (vsSet 2 (vOr (vBi .list (vSl (vV 0) vONo (vOSome (vV 1)))) (vLst (vCons (vC (.int (.ofNat 0))) vNil)))) (vbCons (vsFor (vGTup 2 (vGCons (vGV 3) (vGCons (vGV 4) vGNil))) (vIGen fEnum (vSl (vV 0) (vOSome (vV 1)) (vOSome (vC (.int (.ofNat 63)))))) (vbCons (vsSet 5 (vBin .mod (vBi .int (vV 3)) (vV 1))) (vbCons (vsAsg (vGSub (vV 2) (vV 5)) (vBin .add (vIx (vV 2) (vV 5)) (vBin .mul (vV 4) (vBin .add (vV 3) (vC (.int (.ofNat 2))))))) vbNil))) (vbCons (vsRet (vV 2)) vbNil)))
def b77 : SK := vBody v77
theorem e77 : b77 = denB gv ir77 := (congrArg vBody (show v77 = vdB gv ir77 by kernel_rfl)).trans (vBody_eq (vdB_ok ir77))
def d77 : DefR := ⟨"_law_cells", defArgs (top 90), defBody (top 90), defScope (top 90), ["script", "most_so", "cells_so", "k", "bit_so", "at_so"], ["script", "most_so"], ir77⟩
theorem ck77 : ckSs { cf with N := d77.N } d77.scope.names d77.ir d77.body = true := by decide +kernel
theorem ok77 : d77.Ok cf := ⟨⟨rfl, rfl, rfl, by decide +kernel, rfl, by decide +kernel, by decide +kernel⟩, ck77, fun _ _ _ _ _ _ _ _ _ _ us hl => match us, hl with | [_, _], _ => rfl⟩
-- _law_same
def ir78 : IB := (.cons (.ife (.val (.isi2 (.v 1) .list .tuple)) (.cons (.ife (.orr (.cons (.cmp .ne (.isi (.v 0) .list) (.isi (.v 1) .list)) (.cons (.cmp .ne (.isi (.v 0) .tuple) (.isi (.v 1) .tuple)) .nil))) (.cons (.ret (.c (.bl false))) .nil) .nil) (.cons (.ret (.an (.cons (.cmp .eq (.bi .len (.v 0)) (.bi .len (.v 1))) (.cons (.bi .all (.lc (.call 78 (.cons (.v 2) (.cons (.v 3) .nil))) [2, 3] (.tup (.cons (.v 2) (.cons (.v 3) .nil))) (.zip (.v 0) (.v 1)) .yes)) .nil)))) .nil)) .nil) (.cons (.ife (.cmp .is_ (.v 1) (.c (.non))) (.cons (.ret (.cmp .is_ (.v 0) (.c (.non)))) .nil) .nil) (.cons (.ife (.val (.isi2 (.v 1) .bool .str)) (.cons (.ret (.an (.cons (.cmp .eq (.isi (.v 0) .bool) (.isi (.v 1) .bool)) (.cons (.cmp .eq (.isi (.v 0) .str) (.isi (.v 1) .str)) (.cons (.cmp .eq (.v 0) (.v 1)) .nil))))) .nil) .nil) (.cons (.ret (.an (.cons (.isi (.v 0) .int) (.cons (.nt (.isi (.v 0) .bool)) (.cons (.cmp .eq (.v 0) (.v 1)) .nil))))) .nil))))
def v78 : VS := (vbCons (vsIf (vTVal (vIsi2 (vV 1) .list .tuple)) (vbCons (vsIf (vTOr (vTCmp .ne (vIsi (vV 0) .list) (vIsi (vV 1) .list)) (vTCmp .ne (vIsi (vV 0) .tuple) (vIsi (vV 1) .tuple))) (vbCons (vsRet (vC (.bl false))) vbNil) vbNil) (vbCons (vsRet (vAnd (vCmp .eq (vBi .len (vV 0)) (vBi .len (vV 1))) (vBi .all (vLc (vCall 78 (vCons (vV 2) (vCons (vV 3) vNil))) [2, 3] (vGTup 2 (vGCons (vGV 2) (vGCons (vGV 3) vGNil))) (vIGen2 fZip (vV 0) (vV 1)) vYes)))) vbNil)) vbNil) (vbCons (vsIf (vTCmp .is_ (vV 1) (vC (.non))) (vbCons (vsRet (vCmp .is_ (vV 0) (vC (.non)))) vbNil) vbNil) (vbCons (vsIf (vTVal (vIsi2 (vV 1) .bool .str)) (vbCons (vsRet (vAnd (vCmp .eq (vIsi (vV 0) .bool) (vIsi (vV 1) .bool)) (vAnd (vCmp .eq (vIsi (vV 0) .str) (vIsi (vV 1) .str)) (vCmp .eq (vV 0) (vV 1))))) vbNil) vbNil) (vbCons (vsRet (vAnd (vIsi (vV 0) .int) (vAnd (vNot (vIsi (vV 0) .bool)) (vCmp .eq (vV 0) (vV 1))))) vbNil))))
def b78 : SK := vBody v78
theorem e78 : b78 = denB gv ir78 := (congrArg vBody (show v78 = vdB gv ir78 by kernel_rfl)).trans (vBody_eq (vdB_ok ir78))
def d78 : DefR := ⟨"_law_same", defArgs (top 91), defBody (top 91), defScope (top 91), ["got", "due", "mine", "its"], ["got", "due"], ir78⟩
theorem ck78 : ckSs { cf with N := d78.N } d78.scope.names d78.ir d78.body = true := by decide +kernel
theorem ok78 : d78.Ok cf := ⟨⟨rfl, rfl, rfl, by decide +kernel, rfl, by decide +kernel, by decide +kernel⟩, ck78, fun _ _ _ _ _ _ _ _ _ _ us hl => match us, hl with | [_, _], _ => rfl⟩
-- _law_unmarked
def ir79 : IB := (.cons (.ret (.ife (.an (.cons (.val (.isi (.v 0) .list)) (.cons (.cmp .gt (.bi .len (.v 0)) (.c (.int (.ofNat 0)))) (.cons (.val (.isi (.ix (.v 0) (.c (.int (.ofNat 0)))) .str)) .nil)))) (.lst (.cons (.c (.str [116, 111, 108, 100])) (.cons (.c (.str [97, 32, 109, 97, 114, 107])) .nil))) (.v 0))) .nil)
def v79 : VS := (vbCons (vsRet (vIf (vTAn (vTVal (vIsi (vV 0) .list)) (vTAn (vTCmp .gt (vBi .len (vV 0)) (vC (.int (.ofNat 0)))) (vTVal (vIsi (vIx (vV 0) (vC (.int (.ofNat 0)))) .str)))) (vLst (vCons (vC (.str [116, 111, 108, 100])) (vCons (vC (.str [97, 32, 109, 97, 114, 107])) vNil))) (vV 0))) vbNil)
def b79 : SK := vBody v79
theorem e79 : b79 = denB gv ir79 := (congrArg vBody (show v79 = vdB gv ir79 by kernel_rfl)).trans (vBody_eq (vdB_ok ir79))
def d79 : DefR := ⟨"_law_unmarked", defArgs (top 92), defBody (top 92), defScope (top 92), ["told_so"], ["told_so"], ir79⟩
theorem ck79 : ckSs { cf with N := d79.N } d79.scope.names d79.ir d79.body = true := by decide +kernel
theorem ok79 : d79.Ok cf := ⟨⟨rfl, rfl, rfl, by decide +kernel, rfl, by decide +kernel, by decide +kernel⟩, ck79, fun _ _ _ _ _ _ _ _ _ _ us hl => match us, hl with | [_], _ => rfl⟩
-- _law_heard
def ir80 : IB := (.cons (.asg (.tup (.cons (.v 2) (.cons (.v 3) .nil))) (.tup (.cons (.c (.non)) (.cons (.c (.non)) .nil)))) (.cons (.tr (.cons (.set 2 (.ife (.cmp .eq (.bi .len (.v 1)) (.c (.int (.ofNat 1)))) (.callv 0 (.cons (.ix (.v 1) (.c (.int (.ofNat 0)))) .nil)) (.ife (.cmp .eq (.bi .len (.v 1)) (.c (.int (.ofNat 2)))) (.callv 0 (.cons (.ix (.v 1) (.c (.int (.ofNat 0)))) (.cons (.ix (.v 1) (.c (.int (.ofNat 1)))) .nil))) (.callv 0 (.cons (.ix (.v 1) (.c (.int (.ofNat 0)))) (.cons (.ix (.v 1) (.c (.int (.ofNat 1)))) (.cons (.ix (.v 1) (.c (.int (.ofNat 2)))) .nil))))))) .nil) (.cons 3 0 4 3 [99, 97, 110, 32, 110, 111, 116] false (.cons 3 1 4 3 [116, 111, 111, 32, 109, 97, 110, 121] false (.cons 3 2 4 3 [117, 110, 102, 105, 116] false .nil)))) (.cons (.ret (.ife (.cmp .is_ (.v 3) (.c (.non))) (.call 79 (.cons (.v 2) .nil)) (.v 3))) .nil)))
def v80 : VS := (vbCons (vsAsg (vGTup 2 (vGCons (vGV 2) (vGCons (vGV 3) vGNil))) (vTup (vCons (vC (.non)) (vCons (vC (.non)) vNil)))) (vbCons (vsTr (vbCons (vsSet 2 (vIf (vTCmp .eq (vBi .len (vV 1)) (vC (.int (.ofNat 1)))) (vCallv 0 (vCons (vIx (vV 1) (vC (.int (.ofNat 0)))) vNil)) (vIf (vTCmp .eq (vBi .len (vV 1)) (vC (.int (.ofNat 2)))) (vCallv 0 (vCons (vIx (vV 1) (vC (.int (.ofNat 0)))) (vCons (vIx (vV 1) (vC (.int (.ofNat 1)))) vNil))) (vCallv 0 (vCons (vIx (vV 1) (vC (.int (.ofNat 0)))) (vCons (vIx (vV 1) (vC (.int (.ofNat 1)))) (vCons (vIx (vV 1) (vC (.int (.ofNat 2)))) vNil))))))) vbNil) (hCons 3 0 4 3 [99, 97, 110, 32, 110, 111, 116] false (hCons 3 1 4 3 [116, 111, 111, 32, 109, 97, 110, 121] false (hCons 3 2 4 3 [117, 110, 102, 105, 116] false hNil)))) (vbCons (vsRet (vIf (vTCmp .is_ (vV 3) (vC (.non))) (vCall 79 (vCons (vV 2) vNil)) (vV 3))) vbNil)))
def b80 : SK := vBody v80
theorem e80 : b80 = denB gv ir80 := (congrArg vBody (show v80 = vdB gv ir80 by kernel_rfl)).trans (vBody_eq (vdB_ok ir80))
def d80 : DefR := ⟨"_law_heard", defArgs (top 93), defBody (top 93), defScope (top 93), ["door", "its", "told_so", "caught", "slip_so"], ["door", "its"], ir80⟩
theorem ck80 : ckSs { cf with N := d80.N } d80.scope.names d80.ir d80.body = true := by decide +kernel
theorem ok80 : d80.Ok cf := ⟨⟨rfl, rfl, rfl, by decide +kernel, rfl, by decide +kernel, by decide +kernel⟩, ck80, fun _ _ _ _ _ _ _ _ _ _ us hl => match us, hl with | [_, _], _ => rfl⟩
-- law
def irL0 : IS := (.set 1 (.call 75 (.cons (.call 77 (.cons (.v 0) (.cons (.c (.int (.ofNat 1))) .nil))) (.cons (.c (.int (.ofNat 0))) .nil))))
def irL1 : IS := (.set 2 (.bin .add (.c (.int (.ofNat 1))) (.call 76 (.cons (.v 1) (.cons (.c (.int (.ofNat 9))) .nil)))))
def irR : IB := (.cons (.asg (.tup (.cons (.v 3) (.cons (.v 4) .nil))) (.tup (.cons (.tup (.cons (.v 2) (.cons (.tup (.cons (.tup (.cons (.c (.str [120])) (.cons (.c (.int (.ofNat 2))) .nil))) .nil)) .nil))) (.cons (.tup (.cons (.c (.str [114, 111, 119])) (.cons (.tup (.cons (.v 2) (.cons (.tup (.cons (.tup (.cons (.c (.str [120])) (.cons (.c (.int (.ofNat 2))) .nil))) .nil)) .nil))) .nil))) .nil)))) (.cons (.set 5 (.lst (.cons (.c (.non)) (.cons (.c (.int (.ofNat 5))) (.cons (.c (.str [120])) (.cons (.tup .nil) (.cons (.tup (.cons (.c (.int (.ofNat 1))) .nil)) (.cons (.tup (.cons (.c (.int (.ofNat 1))) (.cons (.tup (.cons (.tup (.cons (.c (.str [120])) (.cons (.c (.int (.ofNat 0))) .nil))) .nil)) .nil))) (.cons (.tup (.cons (.c (.int (.ofNat 1))) (.cons (.tup (.cons (.tup (.cons (.c (.str [121])) (.cons (.c (.int (.ofNat 1))) .nil))) (.cons (.tup (.cons (.c (.str [120])) (.cons (.c (.int (.ofNat 1))) .nil))) .nil))) .nil))) (.cons (.tup (.cons (.c (.int (.ofNat 1))) (.cons (.tup (.cons (.tup (.cons (.c (.str [])) (.cons (.c (.int (.ofNat 1))) .nil))) .nil)) .nil))) (.cons (.tup (.cons (.c (.bl true)) (.cons (.tup .nil) .nil))) (.cons (.tup (.cons (.c (.str [49])) (.cons (.tup .nil) .nil))) .nil)))))))))))) (.cons (.set 6 (.lst .nil)) (.cons (.fr (.v 7) (.val (.v 5)) (.cons (.ex (.mtX (.v 6) (.bin .add (.bin .add (.lc (.call 80 (.cons (.v 9) (.cons (.lst (.cons (.v 7) .nil)) .nil))) [9] (.v 9) (.val (.tup (.cons (.g 19) (.cons (.g 20) (.cons (.g 21) .nil))))) .yes) (.lc (.call 80 (.cons (.v 9) (.cons (.lst (.cons (.v 7) (.cons (.v 3) .nil))) .nil))) [9] (.v 9) (.val (.tup (.cons (.g 22) (.cons (.g 23) .nil)))) .yes)) (.lc (.call 80 (.cons (.v 9) (.cons (.lst (.cons (.v 3) (.cons (.v 7) .nil))) .nil))) [9] (.v 9) (.val (.tup (.cons (.g 22) (.cons (.g 23) .nil)))) .yes)))) (.cons (.ex (.mtX (.v 6) (.lst (.cons (.call 80 (.cons (.g 24) (.cons (.lst (.cons (.v 7) (.cons (.c (.int (.ofNat 2))) .nil))) .nil))) (.cons (.call 80 (.cons (.g 25) (.cons (.lst (.cons (.v 7) (.cons (.c (.str [120])) .nil))) .nil))) (.cons (.call 80 (.cons (.g 26) (.cons (.lst (.cons (.v 7) (.cons (.c (.str [120])) (.cons (.v 3) .nil)))) .nil))) (.cons (.call 80 (.cons (.g 26) (.cons (.lst (.cons (.v 3) (.cons (.c (.str [120])) (.cons (.v 7) .nil)))) .nil))) (.cons (.call 80 (.cons (.g 27) (.cons (.lst (.cons (.v 7) (.cons (.tup .nil) .nil))) .nil))) (.cons (.call 80 (.cons (.g 28) (.cons (.lst (.cons (.v 7) (.cons (.c (.int (.ofNat 1))) .nil))) .nil))) .nil))))))))) (.cons (.ex (.mtX (.v 6) (.lst (.cons (.call 80 (.cons (.g 29) (.cons (.lst (.cons (.v 4) (.cons (.c (.str [120])) (.cons (.v 7) .nil)))) .nil))) (.cons (.call 80 (.cons (.g 30) (.cons (.lst (.cons (.tup (.cons (.c (.str [114, 111, 119])) (.cons (.v 7) .nil))) .nil)) .nil))) (.cons (.call 80 (.cons (.g 31) (.cons (.lst (.cons (.tup (.cons (.c (.str [97, 108, 108])) (.cons (.tup (.cons (.v 4) (.cons (.tup (.cons (.c (.str [122, 101, 114, 111])) (.cons (.v 7) .nil))) .nil))) .nil))) .nil)) .nil))) .nil)))))) .nil)))) (.cons (.fr (.v 7) (.val (.tup (.cons (.c (.non)) (.cons (.c (.bl true)) (.cons (.c (.str [50])) (.cons (.tup (.cons (.c (.int (.ofNat 2))) .nil)) .nil)))))) (.cons (.ex (.mtX (.v 6) (.lst (.cons (.call 80 (.cons (.g 32) (.cons (.lst (.cons (.v 7) .nil)) .nil))) (.cons (.call 80 (.cons (.g 24) (.cons (.lst (.cons (.v 3) (.cons (.v 7) .nil))) .nil))) (.cons (.call 80 (.cons (.g 28) (.cons (.lst (.cons (.v 3) (.cons (.v 7) .nil))) .nil))) .nil)))))) .nil)) (.cons (.fr (.v 7) (.val (.tup (.cons (.c (.non)) (.cons (.c (.int (.ofNat 5))) (.cons (.c (.str [])) (.cons (.c (.str [97, 35, 98])) (.cons (.c (.str [97, 32, 98])) (.cons (.bin .mul (.c (.str [120])) (.c (.int (.ofNat 41)))) (.cons (.tup (.cons (.c (.str [120])) .nil)) .nil))))))))) (.cons (.ex (.mtX (.v 6) (.lst (.cons (.call 80 (.cons (.g 33) (.cons (.lst (.cons (.v 7) .nil)) .nil))) (.cons (.call 80 (.cons (.g 25) (.cons (.lst (.cons (.v 3) (.cons (.v 7) .nil))) .nil))) (.cons (.call 80 (.cons (.g 26) (.cons (.lst (.cons (.v 3) (.cons (.v 7) (.cons (.v 3) .nil)))) .nil))) (.cons (.call 80 (.cons (.g 29) (.cons (.lst (.cons (.v 4) (.cons (.v 7) (.cons (.v 3) .nil)))) .nil))) .nil))))))) .nil)) (.cons (.fr (.v 7) (.val (.tup (.cons (.c (.non)) (.cons (.c (.int (.ofNat 5))) (.cons (.c (.str [120])) (.cons (.tup (.cons (.tup (.cons (.c (.str [120])) .nil)) .nil)) (.cons (.tup (.cons (.tup (.cons (.c (.str [121])) (.cons (.c (.int (.ofNat 1))) .nil))) (.cons (.tup (.cons (.c (.str [120])) (.cons (.c (.int (.ofNat 1))) .nil))) .nil))) (.cons (.tup (.cons (.tup (.cons (.c (.str [120])) (.cons (.c (.int (.ofNat 1))) .nil))) (.cons (.tup (.cons (.c (.str [120])) (.cons (.c (.int (.ofNat 1))) .nil))) .nil))) (.cons (.tup (.cons (.tup (.cons (.c (.str [120])) (.cons (.c (.non)) .nil))) .nil)) .nil))))))))) (.cons (.ex (.mtX (.v 6) (.lst (.cons (.call 80 (.cons (.g 27) (.cons (.lst (.cons (.v 3) (.cons (.v 7) .nil))) .nil))) (.cons (.call 80 (.cons (.g 34) (.cons (.lst (.cons (.v 4) (.cons (.v 7) .nil))) .nil))) .nil))))) .nil)) (.cons (.set 6 (.bin .add (.v 6) (.lc (.call 80 (.cons (.g 28) (.cons (.lst (.cons (.v 3) (.cons (.v 7) .nil))) .nil))) [7] (.v 7) (.val (.tup (.cons (.c (.int (.ofNat 0))) (.cons (.neg (.c (.int (.ofNat 1)))) .nil)))) .yes))) (.cons (.fr (.v 7) (.val (.tup (.cons (.c (.non)) (.cons (.c (.int (.ofNat 5))) (.cons (.c (.str [114, 111, 119])) (.cons (.tup .nil) (.cons (.tup (.cons (.c (.str [114, 111, 119])) .nil)) (.cons (.tup (.cons (.c (.str [114, 111, 119])) (.cons (.v 3) (.cons (.v 3) .nil)))) (.cons (.tup (.cons (.c (.str [114, 111, 119, 115])) (.cons (.v 3) .nil))) (.cons (.tup (.cons (.c (.str [97, 108, 108])) (.cons (.c (.non)) .nil))) (.cons (.tup (.cons (.c (.str [97, 108, 108])) (.cons (.v 3) .nil))) (.cons (.tup (.cons (.c (.str [97, 110, 121])) (.cons (.tup (.cons (.v 4) (.cons (.c (.non)) .nil))) .nil))) (.cons (.tup (.cons (.c (.str [97, 108, 108])) (.cons (.tup (.cons (.tup (.cons (.c (.str [114, 111, 119])) (.cons (.tup (.cons (.c (.int (.ofNat 1))) (.cons (.tup (.cons (.tup (.cons (.c (.str [120])) (.cons (.c (.int (.ofNat 0))) .nil))) .nil)) .nil))) .nil))) .nil)) .nil))) .nil))))))))))))) (.cons (.ex (.mtX (.v 6) (.bin .add (.lc (.call 80 (.cons (.v 9) (.cons (.lst (.cons (.v 7) .nil)) .nil))) [9] (.v 9) (.val (.tup (.cons (.g 35) (.cons (.g 30) (.cons (.g 31) (.cons (.g 36) .nil)))))) .yes) (.lst (.cons (.call 80 (.cons (.g 37) (.cons (.lst (.cons (.v 7) (.cons (.v 4) .nil))) .nil))) (.cons (.call 80 (.cons (.g 37) (.cons (.lst (.cons (.v 4) (.cons (.v 7) .nil))) .nil))) (.cons (.call 80 (.cons (.g 34) (.cons (.lst (.cons (.v 7) (.cons (.tup (.cons (.tup (.cons (.c (.str [120])) (.cons (.c (.int (.ofNat 1))) .nil))) .nil)) .nil))) .nil))) (.cons (.call 80 (.cons (.g 29) (.cons (.lst (.cons (.v 7) (.cons (.c (.str [120])) (.cons (.v 3) .nil)))) .nil))) .nil)))))))) (.cons (.ife (.val (.call 67 (.cons (.v 7) .nil))) (.cons (.ret (.c (.bl false))) .nil) .nil) .nil))) (.cons (.ife (.no (.val (.call 78 (.cons (.v 6) (.cons (.bin .mul (.lst (.cons (.lst (.cons (.c (.str [117, 110, 102, 105, 116])) (.cons (.c (.bl false)) .nil))) .nil)) (.bi .len (.v 6))) .nil))))) (.cons (.ret (.c (.bl false))) .nil) .nil) (.cons (.set 8 (.tup (.cons (.c (.str [97, 110, 121])) (.cons (.tup (.cons (.v 4) (.cons (.tup (.cons (.c (.str [122, 101, 114, 111])) (.cons (.v 3) .nil))) .nil))) .nil)))) (.cons (.set 6 (.lst (.cons (.call 80 (.cons (.g 27) (.cons (.lst (.cons (.v 3) (.cons (.tup (.cons (.tup (.cons (.c (.str [121])) (.cons (.c (.int (.ofNat 1))) .nil))) .nil)) .nil))) .nil))) (.cons (.call 80 (.cons (.g 28) (.cons (.lst (.cons (.v 3) (.cons (.c (.int (.ofNat 3))) .nil))) .nil))) (.cons (.call 80 (.cons (.g 34) (.cons (.lst (.cons (.v 4) (.cons (.tup .nil) .nil))) .nil))) (.cons (.call 80 (.cons (.g 34) (.cons (.lst (.cons (.tup (.cons (.c (.str [97, 108, 108])) (.cons (.tup (.cons (.tup (.cons (.c (.str [114, 111, 119])) (.cons (.tup (.cons (.c (.int (.ofNat 0))) (.cons (.tup .nil) .nil))) .nil))) (.cons (.v 8) .nil))) .nil))) (.cons (.tup (.cons (.tup (.cons (.c (.str [121])) (.cons (.c (.int (.ofNat 1))) .nil))) .nil)) .nil))) .nil))) .nil)))))) (.cons (.ife (.orr (.cons (.no (.val (.call 78 (.cons (.v 6) (.cons (.bin .mul (.lst (.cons (.lst (.cons (.c (.str [99, 97, 110, 32, 110, 111, 116])) (.cons (.c (.bl false)) .nil))) .nil)) (.c (.int (.ofNat 4)))) .nil))))) (.cons (.no (.val (.call 78 (.cons (.call 80 (.cons (.g 36) (.cons (.lst (.cons (.tup (.cons (.c (.str [97, 108, 108])) (.cons (.bin .mul (.tup (.cons (.v 8) .nil)) (.c (.int (.ofNat 11)))) .nil))) .nil)) .nil))) (.cons (.lst (.cons (.c (.str [116, 111, 111, 32, 109, 97, 110, 121])) (.cons (.c (.bl false)) .nil))) .nil))))) .nil))) (.cons (.ret (.c (.bl false))) .nil) .nil) (.cons (.set 6 (.lst (.cons (.call 80 (.cons (.g 27) (.cons (.lst (.cons (.v 3) (.cons (.tup (.cons (.tup (.cons (.c (.str [120])) (.cons (.c (.int (.ofNat 1))) .nil))) (.cons (.tup (.cons (.c (.str [121])) (.cons (.c (.int (.ofNat 2))) .nil))) .nil))) .nil))) .nil))) (.cons (.call 80 (.cons (.g 28) (.cons (.lst (.cons (.tup (.cons (.v 2) (.cons (.tup .nil) .nil))) (.cons (.c (.int (.ofNat 7))) .nil))) .nil))) (.cons (.call 80 (.cons (.g 24) (.cons (.lst (.cons (.v 3) (.cons (.c (.int (.ofNat 0))) .nil))) .nil))) (.cons (.bi .len (.call 80 (.cons (.g 36) (.cons (.lst (.cons (.tup (.cons (.c (.str [97, 108, 108])) (.cons (.bin .mul (.tup (.cons (.v 8) .nil)) (.c (.int (.ofNat 10)))) .nil))) .nil)) .nil)))) (.cons (.call 80 (.cons (.g 36) (.cons (.lst (.cons (.tup (.cons (.c (.str [97, 108, 108])) (.cons (.tup .nil) .nil))) .nil)) .nil))) (.cons (.call 80 (.cons (.g 36) (.cons (.lst (.cons (.tup (.cons (.c (.str [97, 110, 121])) (.cons (.tup .nil) .nil))) .nil)) .nil))) .nil)))))))) (.cons (.ret (.call 78 (.cons (.v 6) (.cons (.lst (.cons (.bin .add (.v 2) (.c (.int (.ofNat 2)))) (.cons (.tup (.cons (.bin .div (.v 2) (.c (.int (.ofNat 7)))) (.cons (.tup .nil) .nil))) (.cons (.tup (.cons (.c (.int (.ofNat 0))) (.cons (.tup .nil) .nil))) (.cons (.c (.int (.ofNat 1024))) (.cons (.lst (.cons (.tup .nil) .nil)) (.cons (.lst .nil) .nil))))))) .nil)))) .nil)))))))))))))))
def vR : VS := (vbCons (vsAsg (vGTup 2 (vGCons (vGV 3) (vGCons (vGV 4) vGNil))) (vTup (vCons (vTup (vCons (vV 2) (vCons (vTup (vCons (vTup (vCons (vC (.str [120])) (vCons (vC (.int (.ofNat 2))) vNil))) vNil)) vNil))) (vCons (vTup (vCons (vC (.str [114, 111, 119])) (vCons (vTup (vCons (vV 2) (vCons (vTup (vCons (vTup (vCons (vC (.str [120])) (vCons (vC (.int (.ofNat 2))) vNil))) vNil)) vNil))) vNil))) vNil)))) (vbCons (vsSet 5 (vLst (vCons (vC (.non)) (vCons (vC (.int (.ofNat 5))) (vCons (vC (.str [120])) (vCons (vTup vNil) (vCons (vTup (vCons (vC (.int (.ofNat 1))) vNil)) (vCons (vTup (vCons (vC (.int (.ofNat 1))) (vCons (vTup (vCons (vTup (vCons (vC (.str [120])) (vCons (vC (.int (.ofNat 0))) vNil))) vNil)) vNil))) (vCons (vTup (vCons (vC (.int (.ofNat 1))) (vCons (vTup (vCons (vTup (vCons (vC (.str [121])) (vCons (vC (.int (.ofNat 1))) vNil))) (vCons (vTup (vCons (vC (.str [120])) (vCons (vC (.int (.ofNat 1))) vNil))) vNil))) vNil))) (vCons (vTup (vCons (vC (.int (.ofNat 1))) (vCons (vTup (vCons (vTup (vCons (vC (.str [])) (vCons (vC (.int (.ofNat 1))) vNil))) vNil)) vNil))) (vCons (vTup (vCons (vC (.bl true)) (vCons (vTup vNil) vNil))) (vCons (vTup (vCons (vC (.str [49])) (vCons (vTup vNil) vNil))) vNil)))))))))))) (vbCons (vsSet 6 (vLst vNil)) (vbCons (vsFor (vGV 7) (vIVal (vV 5)) (vbCons (vsEx (vMt .extend (vV 6) (vCons (vBin .add (vBin .add (vLc (vCall 80 (vCons (vV 9) (vCons (vLst (vCons (vV 7) vNil)) vNil))) [9] (vGV 9) (vIVal (vTup (vCons (vC (.fn 33)) (vCons (vC (.fn 37)) (vCons (vC (.fn 39)) vNil))))) vYes) (vLc (vCall 80 (vCons (vV 9) (vCons (vLst (vCons (vV 7) (vCons (vV 3) vNil))) vNil))) [9] (vGV 9) (vIVal (vTup (vCons (vC (.fn 30)) (vCons (vC (.fn 31)) vNil)))) vYes)) (vLc (vCall 80 (vCons (vV 9) (vCons (vLst (vCons (vV 3) (vCons (vV 7) vNil))) vNil))) [9] (vGV 9) (vIVal (vTup (vCons (vC (.fn 30)) (vCons (vC (.fn 31)) vNil)))) vYes)) vNil))) (vbCons (vsEx (vMt .extend (vV 6) (vCons (vLst (vCons (vCall 80 (vCons (vC (.fn 32)) (vCons (vLst (vCons (vV 7) (vCons (vC (.int (.ofNat 2))) vNil))) vNil))) (vCons (vCall 80 (vCons (vC (.fn 34)) (vCons (vLst (vCons (vV 7) (vCons (vC (.str [120])) vNil))) vNil))) (vCons (vCall 80 (vCons (vC (.fn 35)) (vCons (vLst (vCons (vV 7) (vCons (vC (.str [120])) (vCons (vV 3) vNil)))) vNil))) (vCons (vCall 80 (vCons (vC (.fn 35)) (vCons (vLst (vCons (vV 3) (vCons (vC (.str [120])) (vCons (vV 7) vNil)))) vNil))) (vCons (vCall 80 (vCons (vC (.fn 36)) (vCons (vLst (vCons (vV 7) (vCons (vTup vNil) vNil))) vNil))) (vCons (vCall 80 (vCons (vC (.fn 38)) (vCons (vLst (vCons (vV 7) (vCons (vC (.int (.ofNat 1))) vNil))) vNil))) vNil))))))) vNil))) (vbCons (vsEx (vMt .extend (vV 6) (vCons (vLst (vCons (vCall 80 (vCons (vC (.fn 72)) (vCons (vLst (vCons (vV 4) (vCons (vC (.str [120])) (vCons (vV 7) vNil)))) vNil))) (vCons (vCall 80 (vCons (vC (.fn 70)) (vCons (vLst (vCons (vTup (vCons (vC (.str [114, 111, 119])) (vCons (vV 7) vNil))) vNil)) vNil))) (vCons (vCall 80 (vCons (vC (.fn 73)) (vCons (vLst (vCons (vTup (vCons (vC (.str [97, 108, 108])) (vCons (vTup (vCons (vV 4) (vCons (vTup (vCons (vC (.str [122, 101, 114, 111])) (vCons (vV 7) vNil))) vNil))) vNil))) vNil)) vNil))) vNil)))) vNil))) vbNil)))) (vbCons (vsFor (vGV 7) (vIVal (vTup (vCons (vC (.non)) (vCons (vC (.bl true)) (vCons (vC (.str [50])) (vCons (vTup (vCons (vC (.int (.ofNat 2))) vNil)) vNil)))))) (vbCons (vsEx (vMt .extend (vV 6) (vCons (vLst (vCons (vCall 80 (vCons (vC (.fn 28)) (vCons (vLst (vCons (vV 7) vNil)) vNil))) (vCons (vCall 80 (vCons (vC (.fn 32)) (vCons (vLst (vCons (vV 3) (vCons (vV 7) vNil))) vNil))) (vCons (vCall 80 (vCons (vC (.fn 38)) (vCons (vLst (vCons (vV 3) (vCons (vV 7) vNil))) vNil))) vNil)))) vNil))) vbNil)) (vbCons (vsFor (vGV 7) (vIVal (vTup (vCons (vC (.non)) (vCons (vC (.int (.ofNat 5))) (vCons (vC (.str [])) (vCons (vC (.str [97, 35, 98])) (vCons (vC (.str [97, 32, 98])) (vCons (vBin .mul (vC (.str [120])) (vC (.int (.ofNat 41)))) (vCons (vTup (vCons (vC (.str [120])) vNil)) vNil))))))))) (vbCons (vsEx (vMt .extend (vV 6) (vCons (vLst (vCons (vCall 80 (vCons (vC (.fn 29)) (vCons (vLst (vCons (vV 7) vNil)) vNil))) (vCons (vCall 80 (vCons (vC (.fn 34)) (vCons (vLst (vCons (vV 3) (vCons (vV 7) vNil))) vNil))) (vCons (vCall 80 (vCons (vC (.fn 35)) (vCons (vLst (vCons (vV 3) (vCons (vV 7) (vCons (vV 3) vNil)))) vNil))) (vCons (vCall 80 (vCons (vC (.fn 72)) (vCons (vLst (vCons (vV 4) (vCons (vV 7) (vCons (vV 3) vNil)))) vNil))) vNil))))) vNil))) vbNil)) (vbCons (vsFor (vGV 7) (vIVal (vTup (vCons (vC (.non)) (vCons (vC (.int (.ofNat 5))) (vCons (vC (.str [120])) (vCons (vTup (vCons (vTup (vCons (vC (.str [120])) vNil)) vNil)) (vCons (vTup (vCons (vTup (vCons (vC (.str [121])) (vCons (vC (.int (.ofNat 1))) vNil))) (vCons (vTup (vCons (vC (.str [120])) (vCons (vC (.int (.ofNat 1))) vNil))) vNil))) (vCons (vTup (vCons (vTup (vCons (vC (.str [120])) (vCons (vC (.int (.ofNat 1))) vNil))) (vCons (vTup (vCons (vC (.str [120])) (vCons (vC (.int (.ofNat 1))) vNil))) vNil))) (vCons (vTup (vCons (vTup (vCons (vC (.str [120])) (vCons (vC (.non)) vNil))) vNil)) vNil))))))))) (vbCons (vsEx (vMt .extend (vV 6) (vCons (vLst (vCons (vCall 80 (vCons (vC (.fn 36)) (vCons (vLst (vCons (vV 3) (vCons (vV 7) vNil))) vNil))) (vCons (vCall 80 (vCons (vC (.fn 69)) (vCons (vLst (vCons (vV 4) (vCons (vV 7) vNil))) vNil))) vNil))) vNil))) vbNil)) (vbCons (vsSet 6 (vBin .add (vV 6) (vLc (vCall 80 (vCons (vC (.fn 38)) (vCons (vLst (vCons (vV 3) (vCons (vV 7) vNil))) vNil))) [7] (vGV 7) (vIVal (vTup (vCons (vC (.int (.ofNat 0))) (vCons (vNeg (vC (.int (.ofNat 1)))) vNil)))) vYes))) (vbCons (vsFor (vGV 7) (vIVal (vTup (vCons (vC (.non)) (vCons (vC (.int (.ofNat 5))) (vCons (vC (.str [114, 111, 119])) (vCons (vTup vNil) (vCons (vTup (vCons (vC (.str [114, 111, 119])) vNil)) (vCons (vTup (vCons (vC (.str [114, 111, 119])) (vCons (vV 3) (vCons (vV 3) vNil)))) (vCons (vTup (vCons (vC (.str [114, 111, 119, 115])) (vCons (vV 3) vNil))) (vCons (vTup (vCons (vC (.str [97, 108, 108])) (vCons (vC (.non)) vNil))) (vCons (vTup (vCons (vC (.str [97, 108, 108])) (vCons (vV 3) vNil))) (vCons (vTup (vCons (vC (.str [97, 110, 121])) (vCons (vTup (vCons (vV 4) (vCons (vC (.non)) vNil))) vNil))) (vCons (vTup (vCons (vC (.str [97, 108, 108])) (vCons (vTup (vCons (vTup (vCons (vC (.str [114, 111, 119])) (vCons (vTup (vCons (vC (.int (.ofNat 1))) (vCons (vTup (vCons (vTup (vCons (vC (.str [120])) (vCons (vC (.int (.ofNat 0))) vNil))) vNil)) vNil))) vNil))) vNil)) vNil))) vNil))))))))))))) (vbCons (vsEx (vMt .extend (vV 6) (vCons (vBin .add (vLc (vCall 80 (vCons (vV 9) (vCons (vLst (vCons (vV 7) vNil)) vNil))) [9] (vGV 9) (vIVal (vTup (vCons (vC (.fn 68)) (vCons (vC (.fn 70)) (vCons (vC (.fn 73)) (vCons (vC (.fn 74)) vNil)))))) vYes) (vLst (vCons (vCall 80 (vCons (vC (.fn 71)) (vCons (vLst (vCons (vV 7) (vCons (vV 4) vNil))) vNil))) (vCons (vCall 80 (vCons (vC (.fn 71)) (vCons (vLst (vCons (vV 4) (vCons (vV 7) vNil))) vNil))) (vCons (vCall 80 (vCons (vC (.fn 69)) (vCons (vLst (vCons (vV 7) (vCons (vTup (vCons (vTup (vCons (vC (.str [120])) (vCons (vC (.int (.ofNat 1))) vNil))) vNil)) vNil))) vNil))) (vCons (vCall 80 (vCons (vC (.fn 72)) (vCons (vLst (vCons (vV 7) (vCons (vC (.str [120])) (vCons (vV 3) vNil)))) vNil))) vNil)))))) vNil))) (vbCons (vsIf (vTVal (vCall 67 (vCons (vV 7) vNil))) (vbCons (vsRet (vC (.bl false))) vbNil) vbNil) vbNil))) (vbCons (vsIf (vNo (vTVal (vCall 78 (vCons (vV 6) (vCons (vBin .mul (vLst (vCons (vLst (vCons (vC (.str [117, 110, 102, 105, 116])) (vCons (vC (.bl false)) vNil))) vNil)) (vBi .len (vV 6))) vNil))))) (vbCons (vsRet (vC (.bl false))) vbNil) vbNil) (vbCons (vsSet 8 (vTup (vCons (vC (.str [97, 110, 121])) (vCons (vTup (vCons (vV 4) (vCons (vTup (vCons (vC (.str [122, 101, 114, 111])) (vCons (vV 3) vNil))) vNil))) vNil)))) (vbCons (vsSet 6 (vLst (vCons (vCall 80 (vCons (vC (.fn 36)) (vCons (vLst (vCons (vV 3) (vCons (vTup (vCons (vTup (vCons (vC (.str [121])) (vCons (vC (.int (.ofNat 1))) vNil))) vNil)) vNil))) vNil))) (vCons (vCall 80 (vCons (vC (.fn 38)) (vCons (vLst (vCons (vV 3) (vCons (vC (.int (.ofNat 3))) vNil))) vNil))) (vCons (vCall 80 (vCons (vC (.fn 69)) (vCons (vLst (vCons (vV 4) (vCons (vTup vNil) vNil))) vNil))) (vCons (vCall 80 (vCons (vC (.fn 69)) (vCons (vLst (vCons (vTup (vCons (vC (.str [97, 108, 108])) (vCons (vTup (vCons (vTup (vCons (vC (.str [114, 111, 119])) (vCons (vTup (vCons (vC (.int (.ofNat 0))) (vCons (vTup vNil) vNil))) vNil))) (vCons (vV 8) vNil))) vNil))) (vCons (vTup (vCons (vTup (vCons (vC (.str [121])) (vCons (vC (.int (.ofNat 1))) vNil))) vNil)) vNil))) vNil))) vNil)))))) (vbCons (vsIf (vTOr (vNo (vTVal (vCall 78 (vCons (vV 6) (vCons (vBin .mul (vLst (vCons (vLst (vCons (vC (.str [99, 97, 110, 32, 110, 111, 116])) (vCons (vC (.bl false)) vNil))) vNil)) (vC (.int (.ofNat 4)))) vNil))))) (vNo (vTVal (vCall 78 (vCons (vCall 80 (vCons (vC (.fn 74)) (vCons (vLst (vCons (vTup (vCons (vC (.str [97, 108, 108])) (vCons (vBin .mul (vTup (vCons (vV 8) vNil)) (vC (.int (.ofNat 11)))) vNil))) vNil)) vNil))) (vCons (vLst (vCons (vC (.str [116, 111, 111, 32, 109, 97, 110, 121])) (vCons (vC (.bl false)) vNil))) vNil)))))) (vbCons (vsRet (vC (.bl false))) vbNil) vbNil) (vbCons (vsSet 6 (vLst (vCons (vCall 80 (vCons (vC (.fn 36)) (vCons (vLst (vCons (vV 3) (vCons (vTup (vCons (vTup (vCons (vC (.str [120])) (vCons (vC (.int (.ofNat 1))) vNil))) (vCons (vTup (vCons (vC (.str [121])) (vCons (vC (.int (.ofNat 2))) vNil))) vNil))) vNil))) vNil))) (vCons (vCall 80 (vCons (vC (.fn 38)) (vCons (vLst (vCons (vTup (vCons (vV 2) (vCons (vTup vNil) vNil))) (vCons (vC (.int (.ofNat 7))) vNil))) vNil))) (vCons (vCall 80 (vCons (vC (.fn 32)) (vCons (vLst (vCons (vV 3) (vCons (vC (.int (.ofNat 0))) vNil))) vNil))) (vCons (vBi .len (vCall 80 (vCons (vC (.fn 74)) (vCons (vLst (vCons (vTup (vCons (vC (.str [97, 108, 108])) (vCons (vBin .mul (vTup (vCons (vV 8) vNil)) (vC (.int (.ofNat 10)))) vNil))) vNil)) vNil)))) (vCons (vCall 80 (vCons (vC (.fn 74)) (vCons (vLst (vCons (vTup (vCons (vC (.str [97, 108, 108])) (vCons (vTup vNil) vNil))) vNil)) vNil))) (vCons (vCall 80 (vCons (vC (.fn 74)) (vCons (vLst (vCons (vTup (vCons (vC (.str [97, 110, 121])) (vCons (vTup vNil) vNil))) vNil)) vNil))) vNil)))))))) (vbCons (vsRet (vCall 78 (vCons (vV 6) (vCons (vLst (vCons (vBin .add (vV 2) (vC (.int (.ofNat 2)))) (vCons (vTup (vCons (vBin .div (vV 2) (vC (.int (.ofNat 7)))) (vCons (vTup vNil) vNil))) (vCons (vTup (vCons (vC (.int (.ofNat 0))) (vCons (vTup vNil) vNil))) (vCons (vC (.int (.ofNat 1024))) (vCons (vLst (vCons (vTup vNil) vNil)) (vCons (vLst vNil) vNil))))))) vNil)))) vbNil)))))))))))))))
theorem eR : vBody vR = denB gv irR := (congrArg vBody (show vR = vdB gv irR by kernel_rfl)).trans (vBody_eq (vdB_ok irR))
def ir81 : IB := (.cons irL0 (.cons irL1 irR))
def v81 : VS := (vbCons (vsSet 1 (vCall 75 (vCons (vCall 77 (vCons (vV 0) (vCons (vC (.int (.ofNat 1))) vNil))) (vCons (vC (.int (.ofNat 0))) vNil)))) (vbCons (vsSet 2 (vBin .add (vC (.int (.ofNat 1))) (vCall 76 (vCons (vV 1) (vCons (vC (.int (.ofNat 9))) vNil))))) vR))
def b81 : SK := vBody v81
theorem e81 : b81 = denB gv ir81 := (congrArg vBody (show v81 = vdB gv ir81 by kernel_rfl)).trans (vBody_eq (vdB_ok ir81))
def d81 : DefR := ⟨"law", defArgs (top 94), defBody (top 94), defScope (top 94), ["script", "tin", "k", "one", "row_so", "bads_so", "got", "own", "twos_so", "door"], ["script"], ir81⟩
theorem ck81 : ckSs { cf with N := d81.N } d81.scope.names d81.ir d81.body = true := by decide +kernel
theorem ok81 : d81.Ok cf := ⟨⟨rfl, rfl, rfl, by decide +kernel, rfl, by decide +kernel, by decide +kernel⟩, ck81, fun _ _ _ _ _ _ _ _ _ _ us hl => match us, hl with | [_], _ => rfl⟩
def T : FT := (.node (.node (.node (.node (.node (.node (.node .nil ⟨2, 7, false, b63⟩ .nil) ⟨2, 3, true, b31⟩ .nil) ⟨1, 1, true, b15⟩ (.node (.node .nil ⟨1, 1, false, b79⟩ .nil) ⟨2, 2, true, b47⟩ .nil)) ⟨1, 3, true, b7⟩ (.node (.node (.node .nil ⟨2, 3, true, b71⟩ .nil) ⟨1, 5, true, b39⟩ .nil) ⟨1, 3, true, b23⟩ (.node .nil ⟨3, 3, true, b55⟩ .nil))) ⟨1, 5, true, b3⟩ (.node (.node (.node (.node .nil ⟨1, 1, true, b67⟩ .nil) ⟨3, 5, true, b35⟩ .nil) ⟨2, 4, true, b19⟩ (.node .nil ⟨2, 2, true, b51⟩ .nil)) ⟨1, 1, true, b11⟩ (.node (.node (.node .nil ⟨2, 3, false, b75⟩ .nil) ⟨1, 1, true, b43⟩ .nil) ⟨3, 5, true, b27⟩ (.node .nil ⟨2, 2, true, b59⟩ .nil)))) ⟨2, 2, true, b1⟩ (.node (.node (.node (.node (.node .nil ⟨2, 3, true, b65⟩ .nil) ⟨1, 1, true, b33⟩ .nil) ⟨2, 2, true, b17⟩ (.node (.node .nil ⟨1, 10, false, b81⟩ .nil) ⟨1, 6, true, b49⟩ .nil)) ⟨1, 2, true, b9⟩ (.node (.node (.node .nil ⟨1, 1, true, b73⟩ .nil) ⟨4, 8, true, b41⟩ .nil) ⟨2, 5, true, b25⟩ (.node .nil ⟨2, 7, true, b57⟩ .nil))) ⟨1, 5, true, b5⟩ (.node (.node (.node (.node .nil ⟨2, 3, true, b69⟩ .nil) ⟨1, 1, true, b37⟩ .nil) ⟨2, 4, true, b21⟩ (.node .nil ⟨2, 2, true, b53⟩ .nil)) ⟨2, 3, true, b13⟩ (.node (.node (.node .nil ⟨2, 6, false, b77⟩ .nil) ⟨1, 1, true, b45⟩ .nil) ⟨1, 1, true, b29⟩ (.node .nil ⟨1, 1, true, b61⟩ .nil))))) ⟨1, 1, true, b0⟩ (.node (.node (.node (.node (.node (.node .nil ⟨2, 2, true, b64⟩ .nil) ⟨2, 3, true, b32⟩ .nil) ⟨3, 6, true, b16⟩ (.node (.node .nil ⟨2, 5, false, b80⟩ .nil) ⟨1, 1, true, b48⟩ .nil)) ⟨1, 2, true, b8⟩ (.node (.node (.node .nil ⟨3, 5, true, b72⟩ .nil) ⟨1, 3, true, b40⟩ .nil) ⟨2, 4, true, b24⟩ (.node .nil ⟨2, 6, true, b56⟩ .nil))) ⟨1, 1, true, b4⟩ (.node (.node (.node (.node .nil ⟨1, 1, true, b68⟩ .nil) ⟨2, 3, true, b36⟩ .nil) ⟨1, 3, true, b20⟩ (.node .nil ⟨2, 2, true, b52⟩ .nil)) ⟨1, 1, true, b12⟩ (.node (.node (.node .nil ⟨2, 6, false, b76⟩ .nil) ⟨1, 1, true, b44⟩ .nil) ⟨1, 1, true, b28⟩ (.node .nil ⟨2, 4, true, b60⟩ .nil)))) ⟨2, 2, true, b2⟩ (.node (.node (.node (.node (.node .nil ⟨1, 1, false, b66⟩ .nil) ⟨2, 3, true, b34⟩ .nil) ⟨2, 2, true, b18⟩ (.node .nil ⟨2, 3, true, b50⟩ .nil)) ⟨1, 2, true, b10⟩ (.node (.node (.node .nil ⟨1, 2, false, b74⟩ .nil) ⟨1, 2, true, b42⟩ .nil) ⟨2, 3, true, b26⟩ (.node .nil ⟨1, 1, true, b58⟩ .nil))) ⟨1, 2, true, b6⟩ (.node (.node (.node (.node .nil ⟨1, 1, true, b70⟩ .nil) ⟨2, 3, true, b38⟩ .nil) ⟨3, 6, true, b22⟩ (.node .nil ⟨2, 2, true, b54⟩ .nil)) ⟨1, 1, true, b14⟩ (.node (.node (.node .nil ⟨2, 4, false, b78⟩ .nil) ⟨2, 2, true, b46⟩ .nil) ⟨2, 3, true, b30⟩ (.node .nil ⟨2, 2, false, b62⟩ .nil))))))
def defs : List DefR := [d0, d1, d2, d3, d4, d5, d6, d7, d8, d9, d10, d11, d12, d13, d14, d15, d16, d17, d18, d19, d20, d21, d22, d23, d24, d25, d26, d27, d28, d29, d30, d31, d32, d33, d34, d35, d36, d37, d38, d39, d40, d41, d42, d43, d44, d45, d46, d47, d48, d49, d50, d51, d52, d53, d54, d55, d56, d57, d58, d59, d60, d61, d62, d63, d64, d65, d66, d67, d68, d69, d70, d71, d72, d73, d74, d75, d76, d77, d78, d79, d80, d81]
theorem at0 : T.at? 0 = some ⟨d0.ps.length, d0.N.length, true, denB gv d0.ir⟩ := (show T.at? 0 = some ⟨1, 1, true, b0⟩ by kernel_rfl).trans (congrArg (fun b => some (Fn.mk 1 1 true b)) e0)
theorem at1 : T.at? 1 = some ⟨d1.ps.length, d1.N.length, true, denB gv d1.ir⟩ := (show T.at? 1 = some ⟨2, 2, true, b1⟩ by kernel_rfl).trans (congrArg (fun b => some (Fn.mk 2 2 true b)) e1)
theorem at2 : T.at? 2 = some ⟨d2.ps.length, d2.N.length, true, denB gv d2.ir⟩ := (show T.at? 2 = some ⟨2, 2, true, b2⟩ by kernel_rfl).trans (congrArg (fun b => some (Fn.mk 2 2 true b)) e2)
theorem at3 : T.at? 3 = some ⟨d3.ps.length, d3.N.length, true, denB gv d3.ir⟩ := (show T.at? 3 = some ⟨1, 5, true, b3⟩ by kernel_rfl).trans (congrArg (fun b => some (Fn.mk 1 5 true b)) e3)
theorem at4 : T.at? 4 = some ⟨d4.ps.length, d4.N.length, true, denB gv d4.ir⟩ := (show T.at? 4 = some ⟨1, 1, true, b4⟩ by kernel_rfl).trans (congrArg (fun b => some (Fn.mk 1 1 true b)) e4)
theorem at5 : T.at? 5 = some ⟨d5.ps.length, d5.N.length, true, denB gv d5.ir⟩ := (show T.at? 5 = some ⟨1, 5, true, b5⟩ by kernel_rfl).trans (congrArg (fun b => some (Fn.mk 1 5 true b)) e5)
theorem at6 : T.at? 6 = some ⟨d6.ps.length, d6.N.length, true, denB gv d6.ir⟩ := (show T.at? 6 = some ⟨1, 2, true, b6⟩ by kernel_rfl).trans (congrArg (fun b => some (Fn.mk 1 2 true b)) e6)
theorem at7 : T.at? 7 = some ⟨d7.ps.length, d7.N.length, true, denB gv d7.ir⟩ := (show T.at? 7 = some ⟨1, 3, true, b7⟩ by kernel_rfl).trans (congrArg (fun b => some (Fn.mk 1 3 true b)) e7)
theorem at8 : T.at? 8 = some ⟨d8.ps.length, d8.N.length, true, denB gv d8.ir⟩ := (show T.at? 8 = some ⟨1, 2, true, b8⟩ by kernel_rfl).trans (congrArg (fun b => some (Fn.mk 1 2 true b)) e8)
theorem at9 : T.at? 9 = some ⟨d9.ps.length, d9.N.length, true, denB gv d9.ir⟩ := (show T.at? 9 = some ⟨1, 2, true, b9⟩ by kernel_rfl).trans (congrArg (fun b => some (Fn.mk 1 2 true b)) e9)
theorem at10 : T.at? 10 = some ⟨d10.ps.length, d10.N.length, true, denB gv d10.ir⟩ := (show T.at? 10 = some ⟨1, 2, true, b10⟩ by kernel_rfl).trans (congrArg (fun b => some (Fn.mk 1 2 true b)) e10)
theorem at11 : T.at? 11 = some ⟨d11.ps.length, d11.N.length, true, denB gv d11.ir⟩ := (show T.at? 11 = some ⟨1, 1, true, b11⟩ by kernel_rfl).trans (congrArg (fun b => some (Fn.mk 1 1 true b)) e11)
theorem at12 : T.at? 12 = some ⟨d12.ps.length, d12.N.length, true, denB gv d12.ir⟩ := (show T.at? 12 = some ⟨1, 1, true, b12⟩ by kernel_rfl).trans (congrArg (fun b => some (Fn.mk 1 1 true b)) e12)
theorem at13 : T.at? 13 = some ⟨d13.ps.length, d13.N.length, true, denB gv d13.ir⟩ := (show T.at? 13 = some ⟨2, 3, true, b13⟩ by kernel_rfl).trans (congrArg (fun b => some (Fn.mk 2 3 true b)) e13)
theorem at14 : T.at? 14 = some ⟨d14.ps.length, d14.N.length, true, denB gv d14.ir⟩ := (show T.at? 14 = some ⟨1, 1, true, b14⟩ by kernel_rfl).trans (congrArg (fun b => some (Fn.mk 1 1 true b)) e14)
theorem at15 : T.at? 15 = some ⟨d15.ps.length, d15.N.length, true, denB gv d15.ir⟩ := (show T.at? 15 = some ⟨1, 1, true, b15⟩ by kernel_rfl).trans (congrArg (fun b => some (Fn.mk 1 1 true b)) e15)
theorem at16 : T.at? 16 = some ⟨d16.ps.length, d16.N.length, true, denB gv d16.ir⟩ := (show T.at? 16 = some ⟨3, 6, true, b16⟩ by kernel_rfl).trans (congrArg (fun b => some (Fn.mk 3 6 true b)) e16)
theorem at17 : T.at? 17 = some ⟨d17.ps.length, d17.N.length, true, denB gv d17.ir⟩ := (show T.at? 17 = some ⟨2, 2, true, b17⟩ by kernel_rfl).trans (congrArg (fun b => some (Fn.mk 2 2 true b)) e17)
theorem at18 : T.at? 18 = some ⟨d18.ps.length, d18.N.length, true, denB gv d18.ir⟩ := (show T.at? 18 = some ⟨2, 2, true, b18⟩ by kernel_rfl).trans (congrArg (fun b => some (Fn.mk 2 2 true b)) e18)
theorem at19 : T.at? 19 = some ⟨d19.ps.length, d19.N.length, true, denB gv d19.ir⟩ := (show T.at? 19 = some ⟨2, 4, true, b19⟩ by kernel_rfl).trans (congrArg (fun b => some (Fn.mk 2 4 true b)) e19)
theorem at20 : T.at? 20 = some ⟨d20.ps.length, d20.N.length, true, denB gv d20.ir⟩ := (show T.at? 20 = some ⟨1, 3, true, b20⟩ by kernel_rfl).trans (congrArg (fun b => some (Fn.mk 1 3 true b)) e20)
theorem at21 : T.at? 21 = some ⟨d21.ps.length, d21.N.length, true, denB gv d21.ir⟩ := (show T.at? 21 = some ⟨2, 4, true, b21⟩ by kernel_rfl).trans (congrArg (fun b => some (Fn.mk 2 4 true b)) e21)
theorem at22 : T.at? 22 = some ⟨d22.ps.length, d22.N.length, true, denB gv d22.ir⟩ := (show T.at? 22 = some ⟨3, 6, true, b22⟩ by kernel_rfl).trans (congrArg (fun b => some (Fn.mk 3 6 true b)) e22)
theorem at23 : T.at? 23 = some ⟨d23.ps.length, d23.N.length, true, denB gv d23.ir⟩ := (show T.at? 23 = some ⟨1, 3, true, b23⟩ by kernel_rfl).trans (congrArg (fun b => some (Fn.mk 1 3 true b)) e23)
theorem at24 : T.at? 24 = some ⟨d24.ps.length, d24.N.length, true, denB gv d24.ir⟩ := (show T.at? 24 = some ⟨2, 4, true, b24⟩ by kernel_rfl).trans (congrArg (fun b => some (Fn.mk 2 4 true b)) e24)
theorem at25 : T.at? 25 = some ⟨d25.ps.length, d25.N.length, true, denB gv d25.ir⟩ := (show T.at? 25 = some ⟨2, 5, true, b25⟩ by kernel_rfl).trans (congrArg (fun b => some (Fn.mk 2 5 true b)) e25)
theorem at26 : T.at? 26 = some ⟨d26.ps.length, d26.N.length, true, denB gv d26.ir⟩ := (show T.at? 26 = some ⟨2, 3, true, b26⟩ by kernel_rfl).trans (congrArg (fun b => some (Fn.mk 2 3 true b)) e26)
theorem at27 : T.at? 27 = some ⟨d27.ps.length, d27.N.length, true, denB gv d27.ir⟩ := (show T.at? 27 = some ⟨3, 5, true, b27⟩ by kernel_rfl).trans (congrArg (fun b => some (Fn.mk 3 5 true b)) e27)
theorem at28 : T.at? 28 = some ⟨d28.ps.length, d28.N.length, true, denB gv d28.ir⟩ := (show T.at? 28 = some ⟨1, 1, true, b28⟩ by kernel_rfl).trans (congrArg (fun b => some (Fn.mk 1 1 true b)) e28)
theorem at29 : T.at? 29 = some ⟨d29.ps.length, d29.N.length, true, denB gv d29.ir⟩ := (show T.at? 29 = some ⟨1, 1, true, b29⟩ by kernel_rfl).trans (congrArg (fun b => some (Fn.mk 1 1 true b)) e29)
theorem at30 : T.at? 30 = some ⟨d30.ps.length, d30.N.length, true, denB gv d30.ir⟩ := (show T.at? 30 = some ⟨2, 3, true, b30⟩ by kernel_rfl).trans (congrArg (fun b => some (Fn.mk 2 3 true b)) e30)
theorem at31 : T.at? 31 = some ⟨d31.ps.length, d31.N.length, true, denB gv d31.ir⟩ := (show T.at? 31 = some ⟨2, 3, true, b31⟩ by kernel_rfl).trans (congrArg (fun b => some (Fn.mk 2 3 true b)) e31)
theorem at32 : T.at? 32 = some ⟨d32.ps.length, d32.N.length, true, denB gv d32.ir⟩ := (show T.at? 32 = some ⟨2, 3, true, b32⟩ by kernel_rfl).trans (congrArg (fun b => some (Fn.mk 2 3 true b)) e32)
theorem at33 : T.at? 33 = some ⟨d33.ps.length, d33.N.length, true, denB gv d33.ir⟩ := (show T.at? 33 = some ⟨1, 1, true, b33⟩ by kernel_rfl).trans (congrArg (fun b => some (Fn.mk 1 1 true b)) e33)
theorem at34 : T.at? 34 = some ⟨d34.ps.length, d34.N.length, true, denB gv d34.ir⟩ := (show T.at? 34 = some ⟨2, 3, true, b34⟩ by kernel_rfl).trans (congrArg (fun b => some (Fn.mk 2 3 true b)) e34)
theorem at35 : T.at? 35 = some ⟨d35.ps.length, d35.N.length, true, denB gv d35.ir⟩ := (show T.at? 35 = some ⟨3, 5, true, b35⟩ by kernel_rfl).trans (congrArg (fun b => some (Fn.mk 3 5 true b)) e35)
theorem at36 : T.at? 36 = some ⟨d36.ps.length, d36.N.length, true, denB gv d36.ir⟩ := (show T.at? 36 = some ⟨2, 3, true, b36⟩ by kernel_rfl).trans (congrArg (fun b => some (Fn.mk 2 3 true b)) e36)
theorem at37 : T.at? 37 = some ⟨d37.ps.length, d37.N.length, true, denB gv d37.ir⟩ := (show T.at? 37 = some ⟨1, 1, true, b37⟩ by kernel_rfl).trans (congrArg (fun b => some (Fn.mk 1 1 true b)) e37)
theorem at38 : T.at? 38 = some ⟨d38.ps.length, d38.N.length, true, denB gv d38.ir⟩ := (show T.at? 38 = some ⟨2, 3, true, b38⟩ by kernel_rfl).trans (congrArg (fun b => some (Fn.mk 2 3 true b)) e38)
theorem at39 : T.at? 39 = some ⟨d39.ps.length, d39.N.length, true, denB gv d39.ir⟩ := (show T.at? 39 = some ⟨1, 5, true, b39⟩ by kernel_rfl).trans (congrArg (fun b => some (Fn.mk 1 5 true b)) e39)
theorem at40 : T.at? 40 = some ⟨d40.ps.length, d40.N.length, true, denB gv d40.ir⟩ := (show T.at? 40 = some ⟨1, 3, true, b40⟩ by kernel_rfl).trans (congrArg (fun b => some (Fn.mk 1 3 true b)) e40)
theorem at41 : T.at? 41 = some ⟨d41.ps.length, d41.N.length, true, denB gv d41.ir⟩ := (show T.at? 41 = some ⟨4, 8, true, b41⟩ by kernel_rfl).trans (congrArg (fun b => some (Fn.mk 4 8 true b)) e41)
theorem at42 : T.at? 42 = some ⟨d42.ps.length, d42.N.length, true, denB gv d42.ir⟩ := (show T.at? 42 = some ⟨1, 2, true, b42⟩ by kernel_rfl).trans (congrArg (fun b => some (Fn.mk 1 2 true b)) e42)
theorem at43 : T.at? 43 = some ⟨d43.ps.length, d43.N.length, true, denB gv d43.ir⟩ := (show T.at? 43 = some ⟨1, 1, true, b43⟩ by kernel_rfl).trans (congrArg (fun b => some (Fn.mk 1 1 true b)) e43)
theorem at44 : T.at? 44 = some ⟨d44.ps.length, d44.N.length, true, denB gv d44.ir⟩ := (show T.at? 44 = some ⟨1, 1, true, b44⟩ by kernel_rfl).trans (congrArg (fun b => some (Fn.mk 1 1 true b)) e44)
theorem at45 : T.at? 45 = some ⟨d45.ps.length, d45.N.length, true, denB gv d45.ir⟩ := (show T.at? 45 = some ⟨1, 1, true, b45⟩ by kernel_rfl).trans (congrArg (fun b => some (Fn.mk 1 1 true b)) e45)
theorem at46 : T.at? 46 = some ⟨d46.ps.length, d46.N.length, true, denB gv d46.ir⟩ := (show T.at? 46 = some ⟨2, 2, true, b46⟩ by kernel_rfl).trans (congrArg (fun b => some (Fn.mk 2 2 true b)) e46)
theorem at47 : T.at? 47 = some ⟨d47.ps.length, d47.N.length, true, denB gv d47.ir⟩ := (show T.at? 47 = some ⟨2, 2, true, b47⟩ by kernel_rfl).trans (congrArg (fun b => some (Fn.mk 2 2 true b)) e47)
theorem at48 : T.at? 48 = some ⟨d48.ps.length, d48.N.length, true, denB gv d48.ir⟩ := (show T.at? 48 = some ⟨1, 1, true, b48⟩ by kernel_rfl).trans (congrArg (fun b => some (Fn.mk 1 1 true b)) e48)
theorem at49 : T.at? 49 = some ⟨d49.ps.length, d49.N.length, true, denB gv d49.ir⟩ := (show T.at? 49 = some ⟨1, 6, true, b49⟩ by kernel_rfl).trans (congrArg (fun b => some (Fn.mk 1 6 true b)) e49)
theorem at50 : T.at? 50 = some ⟨d50.ps.length, d50.N.length, true, denB gv d50.ir⟩ := (show T.at? 50 = some ⟨2, 3, true, b50⟩ by kernel_rfl).trans (congrArg (fun b => some (Fn.mk 2 3 true b)) e50)
theorem at51 : T.at? 51 = some ⟨d51.ps.length, d51.N.length, true, denB gv d51.ir⟩ := (show T.at? 51 = some ⟨2, 2, true, b51⟩ by kernel_rfl).trans (congrArg (fun b => some (Fn.mk 2 2 true b)) e51)
theorem at52 : T.at? 52 = some ⟨d52.ps.length, d52.N.length, true, denB gv d52.ir⟩ := (show T.at? 52 = some ⟨2, 2, true, b52⟩ by kernel_rfl).trans (congrArg (fun b => some (Fn.mk 2 2 true b)) e52)
theorem at53 : T.at? 53 = some ⟨d53.ps.length, d53.N.length, true, denB gv d53.ir⟩ := (show T.at? 53 = some ⟨2, 2, true, b53⟩ by kernel_rfl).trans (congrArg (fun b => some (Fn.mk 2 2 true b)) e53)
theorem at54 : T.at? 54 = some ⟨d54.ps.length, d54.N.length, true, denB gv d54.ir⟩ := (show T.at? 54 = some ⟨2, 2, true, b54⟩ by kernel_rfl).trans (congrArg (fun b => some (Fn.mk 2 2 true b)) e54)
theorem at55 : T.at? 55 = some ⟨d55.ps.length, d55.N.length, true, denB gv d55.ir⟩ := (show T.at? 55 = some ⟨3, 3, true, b55⟩ by kernel_rfl).trans (congrArg (fun b => some (Fn.mk 3 3 true b)) e55)
theorem at56 : T.at? 56 = some ⟨d56.ps.length, d56.N.length, true, denB gv d56.ir⟩ := (show T.at? 56 = some ⟨2, 6, true, b56⟩ by kernel_rfl).trans (congrArg (fun b => some (Fn.mk 2 6 true b)) e56)
theorem at57 : T.at? 57 = some ⟨d57.ps.length, d57.N.length, true, denB gv d57.ir⟩ := (show T.at? 57 = some ⟨2, 7, true, b57⟩ by kernel_rfl).trans (congrArg (fun b => some (Fn.mk 2 7 true b)) e57)
theorem at58 : T.at? 58 = some ⟨d58.ps.length, d58.N.length, true, denB gv d58.ir⟩ := (show T.at? 58 = some ⟨1, 1, true, b58⟩ by kernel_rfl).trans (congrArg (fun b => some (Fn.mk 1 1 true b)) e58)
theorem at59 : T.at? 59 = some ⟨d59.ps.length, d59.N.length, true, denB gv d59.ir⟩ := (show T.at? 59 = some ⟨2, 2, true, b59⟩ by kernel_rfl).trans (congrArg (fun b => some (Fn.mk 2 2 true b)) e59)
theorem at60 : T.at? 60 = some ⟨d60.ps.length, d60.N.length, true, denB gv d60.ir⟩ := (show T.at? 60 = some ⟨2, 4, true, b60⟩ by kernel_rfl).trans (congrArg (fun b => some (Fn.mk 2 4 true b)) e60)
theorem at61 : T.at? 61 = some ⟨d61.ps.length, d61.N.length, true, denB gv d61.ir⟩ := (show T.at? 61 = some ⟨1, 1, true, b61⟩ by kernel_rfl).trans (congrArg (fun b => some (Fn.mk 1 1 true b)) e61)
theorem at62 : T.at? 62 = some ⟨d62.ps.length, d62.N.length, false, denB gv d62.ir⟩ := (show T.at? 62 = some ⟨2, 2, false, b62⟩ by kernel_rfl).trans (congrArg (fun b => some (Fn.mk 2 2 false b)) e62)
theorem at63 : T.at? 63 = some ⟨d63.ps.length, d63.N.length, false, denB gv d63.ir⟩ := (show T.at? 63 = some ⟨2, 7, false, b63⟩ by kernel_rfl).trans (congrArg (fun b => some (Fn.mk 2 7 false b)) e63)
theorem at64 : T.at? 64 = some ⟨d64.ps.length, d64.N.length, true, denB gv d64.ir⟩ := (show T.at? 64 = some ⟨2, 2, true, b64⟩ by kernel_rfl).trans (congrArg (fun b => some (Fn.mk 2 2 true b)) e64)
theorem at65 : T.at? 65 = some ⟨d65.ps.length, d65.N.length, true, denB gv d65.ir⟩ := (show T.at? 65 = some ⟨2, 3, true, b65⟩ by kernel_rfl).trans (congrArg (fun b => some (Fn.mk 2 3 true b)) e65)
theorem at66 : T.at? 66 = some ⟨d66.ps.length, d66.N.length, false, denB gv d66.ir⟩ := (show T.at? 66 = some ⟨1, 1, false, b66⟩ by kernel_rfl).trans (congrArg (fun b => some (Fn.mk 1 1 false b)) e66)
theorem at67 : T.at? 67 = some ⟨d67.ps.length, d67.N.length, true, denB gv d67.ir⟩ := (show T.at? 67 = some ⟨1, 1, true, b67⟩ by kernel_rfl).trans (congrArg (fun b => some (Fn.mk 1 1 true b)) e67)
theorem at68 : T.at? 68 = some ⟨d68.ps.length, d68.N.length, true, denB gv d68.ir⟩ := (show T.at? 68 = some ⟨1, 1, true, b68⟩ by kernel_rfl).trans (congrArg (fun b => some (Fn.mk 1 1 true b)) e68)
theorem at69 : T.at? 69 = some ⟨d69.ps.length, d69.N.length, true, denB gv d69.ir⟩ := (show T.at? 69 = some ⟨2, 3, true, b69⟩ by kernel_rfl).trans (congrArg (fun b => some (Fn.mk 2 3 true b)) e69)
theorem at70 : T.at? 70 = some ⟨d70.ps.length, d70.N.length, true, denB gv d70.ir⟩ := (show T.at? 70 = some ⟨1, 1, true, b70⟩ by kernel_rfl).trans (congrArg (fun b => some (Fn.mk 1 1 true b)) e70)
theorem at71 : T.at? 71 = some ⟨d71.ps.length, d71.N.length, true, denB gv d71.ir⟩ := (show T.at? 71 = some ⟨2, 3, true, b71⟩ by kernel_rfl).trans (congrArg (fun b => some (Fn.mk 2 3 true b)) e71)
theorem at72 : T.at? 72 = some ⟨d72.ps.length, d72.N.length, true, denB gv d72.ir⟩ := (show T.at? 72 = some ⟨3, 5, true, b72⟩ by kernel_rfl).trans (congrArg (fun b => some (Fn.mk 3 5 true b)) e72)
theorem at73 : T.at? 73 = some ⟨d73.ps.length, d73.N.length, true, denB gv d73.ir⟩ := (show T.at? 73 = some ⟨1, 1, true, b73⟩ by kernel_rfl).trans (congrArg (fun b => some (Fn.mk 1 1 true b)) e73)
theorem at74 : T.at? 74 = some ⟨d74.ps.length, d74.N.length, false, denB gv d74.ir⟩ := (show T.at? 74 = some ⟨1, 2, false, b74⟩ by kernel_rfl).trans (congrArg (fun b => some (Fn.mk 1 2 false b)) e74)
theorem at75 : T.at? 75 = some ⟨d75.ps.length, d75.N.length, false, denB gv d75.ir⟩ := (show T.at? 75 = some ⟨2, 3, false, b75⟩ by kernel_rfl).trans (congrArg (fun b => some (Fn.mk 2 3 false b)) e75)
theorem at76 : T.at? 76 = some ⟨d76.ps.length, d76.N.length, false, denB gv d76.ir⟩ := (show T.at? 76 = some ⟨2, 6, false, b76⟩ by kernel_rfl).trans (congrArg (fun b => some (Fn.mk 2 6 false b)) e76)
theorem at77 : T.at? 77 = some ⟨d77.ps.length, d77.N.length, false, denB gv d77.ir⟩ := (show T.at? 77 = some ⟨2, 6, false, b77⟩ by kernel_rfl).trans (congrArg (fun b => some (Fn.mk 2 6 false b)) e77)
theorem at78 : T.at? 78 = some ⟨d78.ps.length, d78.N.length, false, denB gv d78.ir⟩ := (show T.at? 78 = some ⟨2, 4, false, b78⟩ by kernel_rfl).trans (congrArg (fun b => some (Fn.mk 2 4 false b)) e78)
theorem at79 : T.at? 79 = some ⟨d79.ps.length, d79.N.length, false, denB gv d79.ir⟩ := (show T.at? 79 = some ⟨1, 1, false, b79⟩ by kernel_rfl).trans (congrArg (fun b => some (Fn.mk 1 1 false b)) e79)
theorem at80 : T.at? 80 = some ⟨d80.ps.length, d80.N.length, false, denB gv d80.ir⟩ := (show T.at? 80 = some ⟨2, 5, false, b80⟩ by kernel_rfl).trans (congrArg (fun b => some (Fn.mk 2 5 false b)) e80)
theorem at81 : T.at? 81 = some ⟨d81.ps.length, d81.N.length, false, denB gv d81.ir⟩ := (show T.at? 81 = some ⟨1, 10, false, b81⟩ by kernel_rfl).trans (congrArg (fun b => some (Fn.mk 1 10 false b)) e81)
theorem allOk : AllD cf gv T 0 defs := ⟨⟨ok0, _, at0⟩, ⟨⟨ok1, _, at1⟩, ⟨⟨ok2, _, at2⟩, ⟨⟨ok3, _, at3⟩, ⟨⟨ok4, _, at4⟩, ⟨⟨ok5, _, at5⟩, ⟨⟨ok6, _, at6⟩, ⟨⟨ok7, _, at7⟩, ⟨⟨ok8, _, at8⟩, ⟨⟨ok9, _, at9⟩, ⟨⟨ok10, _, at10⟩, ⟨⟨ok11, _, at11⟩, ⟨⟨ok12, _, at12⟩, ⟨⟨ok13, _, at13⟩, ⟨⟨ok14, _, at14⟩, ⟨⟨ok15, _, at15⟩, ⟨⟨ok16, _, at16⟩, ⟨⟨ok17, _, at17⟩, ⟨⟨ok18, _, at18⟩, ⟨⟨ok19, _, at19⟩, ⟨⟨ok20, _, at20⟩, ⟨⟨ok21, _, at21⟩, ⟨⟨ok22, _, at22⟩, ⟨⟨ok23, _, at23⟩, ⟨⟨ok24, _, at24⟩, ⟨⟨ok25, _, at25⟩, ⟨⟨ok26, _, at26⟩, ⟨⟨ok27, _, at27⟩, ⟨⟨ok28, _, at28⟩, ⟨⟨ok29, _, at29⟩, ⟨⟨ok30, _, at30⟩, ⟨⟨ok31, _, at31⟩, ⟨⟨ok32, _, at32⟩, ⟨⟨ok33, _, at33⟩, ⟨⟨ok34, _, at34⟩, ⟨⟨ok35, _, at35⟩, ⟨⟨ok36, _, at36⟩, ⟨⟨ok37, _, at37⟩, ⟨⟨ok38, _, at38⟩, ⟨⟨ok39, _, at39⟩, ⟨⟨ok40, _, at40⟩, ⟨⟨ok41, _, at41⟩, ⟨⟨ok42, _, at42⟩, ⟨⟨ok43, _, at43⟩, ⟨⟨ok44, _, at44⟩, ⟨⟨ok45, _, at45⟩, ⟨⟨ok46, _, at46⟩, ⟨⟨ok47, _, at47⟩, ⟨⟨ok48, _, at48⟩, ⟨⟨ok49, _, at49⟩, ⟨⟨ok50, _, at50⟩, ⟨⟨ok51, _, at51⟩, ⟨⟨ok52, _, at52⟩, ⟨⟨ok53, _, at53⟩, ⟨⟨ok54, _, at54⟩, ⟨⟨ok55, _, at55⟩, ⟨⟨ok56, _, at56⟩, ⟨⟨ok57, _, at57⟩, ⟨⟨ok58, _, at58⟩, ⟨⟨ok59, _, at59⟩, ⟨⟨ok60, _, at60⟩, ⟨⟨ok61, _, at61⟩, ⟨⟨ok62, _, at62⟩, ⟨⟨ok63, _, at63⟩, ⟨⟨ok64, _, at64⟩, ⟨⟨ok65, _, at65⟩, ⟨⟨ok66, _, at66⟩, ⟨⟨ok67, _, at67⟩, ⟨⟨ok68, _, at68⟩, ⟨⟨ok69, _, at69⟩, ⟨⟨ok70, _, at70⟩, ⟨⟨ok71, _, at71⟩, ⟨⟨ok72, _, at72⟩, ⟨⟨ok73, _, at73⟩, ⟨⟨ok74, _, at74⟩, ⟨⟨ok75, _, at75⟩, ⟨⟨ok76, _, at76⟩, ⟨⟨ok77, _, at77⟩, ⟨⟨ok78, _, at78⟩, ⟨⟨ok79, _, at79⟩, ⟨⟨ok80, _, at80⟩, ⟨⟨ok81, _, at81⟩, trivial⟩⟩⟩⟩⟩⟩⟩⟩⟩⟩⟩⟩⟩⟩⟩⟩⟩⟩⟩⟩⟩⟩⟩⟩⟩⟩⟩⟩⟩⟩⟩⟩⟩⟩⟩⟩⟩⟩⟩⟩⟩⟩⟩⟩⟩⟩⟩⟩⟩⟩⟩⟩⟩⟩⟩⟩⟩⟩⟩⟩⟩⟩⟩⟩⟩⟩⟩⟩⟩⟩⟩⟩⟩⟩⟩⟩⟩⟩⟩⟩⟩⟩
theorem far : ∀ f, defs.length ≤ f → T.at? f = none := far_of (n := 7) (by decide +kernel) (by decide +kernel)
def cd : Cd := ⟨defs, ["CanNot", "TooMany", "Unfit"], T, gv, cf⟩
end
end K01
-- head, evaluations and end of k01 (behind the print of gen.py)
namespace K01
open PySem PySem.Spec PyProof.Rows L2 Mini
abbrev R : PySem.W.OpenRow := PySem.W.OpenLaw.row PySem.Challenge.rw_promisepieces_k01_sums_and_formulas_refu
def loose : List PySem.Str := (["CanNot", "TooMany", "Unfit", "is_number", "is_from", "is_long", "tupled", "is_pair", "common_of", "LONGEST", "NOUGHT", "is_symbol", "are_symbol_pairs", "is_sum_in", "sure_sum", "sure_values", "sure_symbol", "sure_number", "made_sum", "plain_of", "symbol_of", "mixed", "add_of", "less_of", "times_of", "symbols_in", "times_in", "put_in", "content_of", "rounded_by"] : List PySem.Str) ++ (["worth_of", "told_worth", "part_text", "plain_sum", "symbol_sum", "sum_added", "sum_less", "sum_times", "sum_symbols", "times_of_symbol", "sum_put", "sum_worth", "sum_content", "sum_rounded", "sum_text", "MOST_WAYS", "YES", "NO", "is_formula_in", "gone_up", "sure_formula", "below_nought", "above_nought", "other_than_nought", "turned_atom", "turned_parts", "turned", "symbols_of_formula", "met_atom", "met_parts"] : List PySem.Str) ++ (["met_by", "put_atom", "same_parts", "put_through", "tidy_atom", "tidy_parts", "tidied", "one_way", "many_parts", "many_ways", "atom_ways", "part_ways", "same_atom", "thinned_parts", "ways_of", "is_formula", "formula_symbols", "is_met", "opposite", "both_formulas", "formula_put", "tidy", "spread", "_law_box", "_law_take", "_law_cells", "_law_same", "_law_unmarked", "_law_heard"] : List PySem.Str)
noncomputable abbrev hk : PySem.W.Hook := He.hookX 2 [] (cd.defs.map DefR.dd) [] [] cd.exB
noncomputable def ob (s : PySem.W.SharedT) : He.AlX := He.obsX 2 [] (cd.defs.map DefR.dd) [] [] cd.exB (HandSHeadRun.getT s)
theorem ob_eq (s : PySem.W.SharedT) : ob s = hk.obs s.abs := He.obsX_eq (HandSHeadRun.getT_eq s)
theorem run (w : World) : HandSHeadRun.RunEq R (PySem.W.view R.prog [94]) hk ob 4000 loose w := by
  intro os
  kernel_rfl
noncomputable def stK (k : Nat) : Mini.St := (List.replicate 10 .und).set 2 (.int (.ofNat k))
theorem ev1 : isTrueS (vBody vR (callN T 60) [.und, .und, .int (.ofNat 1), .und, .und, .und, .und, .und, .und, .und] ⟨0, .nil⟩) = true := by decide +kernel
theorem ev2 : isTrueS (vBody vR (callN T 60) [.und, .und, .int (.ofNat 2), .und, .und, .und, .und, .und, .und, .und] ⟨0, .nil⟩) = true := by decide +kernel
theorem ev3 : isTrueS (vBody vR (callN T 60) [.und, .und, .int (.ofNat 3), .und, .und, .und, .und, .und, .und, .und] ⟨0, .nil⟩) = true := by decide +kernel
theorem ev4 : isTrueS (vBody vR (callN T 60) [.und, .und, .int (.ofNat 4), .und, .und, .und, .und, .und, .und, .und] ⟨0, .nil⟩) = true := by decide +kernel
theorem ev5 : isTrueS (vBody vR (callN T 60) [.und, .und, .int (.ofNat 5), .und, .und, .und, .und, .und, .und, .und] ⟨0, .nil⟩) = true := by decide +kernel
theorem ev6 : isTrueS (vBody vR (callN T 60) [.und, .und, .int (.ofNat 6), .und, .und, .und, .und, .und, .und, .und] ⟨0, .nil⟩) = true := by decide +kernel
theorem ev7 : isTrueS (vBody vR (callN T 60) [.und, .und, .int (.ofNat 7), .und, .und, .und, .und, .und, .und, .und] ⟨0, .nil⟩) = true := by decide +kernel
theorem ev8 : isTrueS (vBody vR (callN T 60) [.und, .und, .int (.ofNat 8), .und, .und, .und, .und, .und, .und, .und] ⟨0, .nil⟩) = true := by decide +kernel
theorem ev9 : isTrueS (vBody vR (callN T 60) [.und, .und, .int (.ofNat 9), .und, .und, .und, .und, .und, .und, .und] ⟨0, .nil⟩) = true := by decide +kernel
theorem evAll (k : Nat) (h1 : 1 ≤ k) (h9 : k ≤ 9) : isTrueS (denB gv irR (callN T 60) (stK k) ⟨0, .nil⟩) = true := by
  rw [← eR]
  have : k = 1 ∨ k = 2 ∨ k = 3 ∨ k = 4 ∨ k = 5 ∨ k = 6 ∨ k = 7 ∨ k = 8 ∨ k = 9 := by omega
  rcases this with rfl | rfl | rfl | rfl | rfl | rfl | rfl | rfl | rfl
  · exact ev1
  · exact ev2
  · exact ev3
  · exact ev4
  · exact ev5
  · exact ev6
  · exact ev7
  · exact ev8
  · exact ev9
theorem front (ns : List Int) (hl : ns.length ≤ 63) : ∃ σ2 g2 σ', denL gv [irL0, irL1] (callN T 60) (.ref 0 :: List.replicate (d81.N.length - 1) .und) (g0 ns) = .nx σ2 g2 ∧ SubS σ' σ2 ∧ isTrueS (denB gv irR (callN T 60) σ' ⟨0, .nil⟩) = true := by
  obtain ⟨t, g1, e1, w1, ht, ti⟩ := front_tin (T := T) (gv := gv) (k := 59) (fC := 77) (fB := 75) (cc := 9214001) (n := 9) at77 at75 (ns := ns) hl
  obtain ⟨r, g2, e2, h0, h9, _, _, _⟩ := front_take (T := T) (gv := gv) (k := 59) (fT := 76) (m := 9) (σ := (.ref 0 :: List.replicate 9 .und).set 1 (.ref t)) at76 rfl w1 ht ti (by decide) (by decide) (by decide)
  obtain ⟨q, rfl⟩ := Int.eq_ofNat_of_zero_le h0
  have e3 : denS gv irL1 (callN T 60) ((.ref 0 :: List.replicate 9 .und).set 1 (.ref t)) g1 = .nx (((.ref 0 :: List.replicate 9 .und).set 1 (.ref t)).set 2 (.int (.ofNat (1 + q)))) g2 := by
    simp only [irL1, denS, denE, denA]
    exact svSet (evAdd (rfl : eC (.int (.ofNat 1)) _ _ g1 = .ok _ g1) e2)
  refine ⟨_, g2, stK (1 + q), denL_cons e1 (denL_cons e3 rfl), subS_one rfl rfl rfl, evAll (1 + q) (by omega) (by omega)⟩
theorem body_eq : d81.body = (d81.body.take 2) ++ d81.body.drop 2 := (List.take_append_drop 2 d81.body).symm
theorem ckF : ckFr { cf with N := d81.N } d81.scope.names [irL0, irL1] (d81.body.take 2) = true := by decide +kernel
theorem ckR : ckSs { cf with N := d81.N } d81.scope.names irR (d81.body.drop 2) = true := by decide +kernel
theorem mem81 : d81 ∈ cd.defs := List.mem_of_getElem? (i := 81) rfl
theorem facts {P : Program} {w : World} {K : PySem.W.Frag} {h : Heap} {mg : PySem.Str → Option Value} {f : Addr} (X : K.In h) (G : h.Ns mainGlobals mg) (hfa : mg ("law" : PySem.Str) = some (.ref f)) (c : He.SaysX [] (cd.defs.map DefR.dd) [] [] cd.exB w h K) :
    ∃ fd : FuncData, (∀ (s : Shared) (v : Value), BindsTo s fd ⟨[v], []⟩ [("script", v)]) ∧ ∀ base : Heap, FnOk P w K mg base (L2.CX P w) 61 f fd ["script"] (spLaw K) := by
  obtain ⟨p, fds⟩ := prg_head X G c allOk (fun q => nomatch q) far
  obtain ⟨fd, F⟩ := fds d81 mem81
  have e : mg (mkS [108, 97, 119]) = some (.ref ((cd.lk K).fa 81)) := p.fm [108, 97, 119] 81 (by decide +kernel)
  have e0 : mkS [108, 97, 119] = ("law" : PySem.Str) := by decide +kernel
  rw [e0] at e
  have ef : f = He.ga K d81.name := by
    have := hfa.symm.trans e
    cases this
    rfl
  subst ef
  have b := FunD.bindsA (ps := ["script"]) F fun kV doc pm an cdv ct us hl => match us, hl with | [_], _ => rfl
  exact ⟨fd, fun s v => b s [v] rfl, fun base => law_fn p rfl F ok81 (x := "script") rfl body_eq ckF ckR front⟩
end K01
open PySem PySem.W PySem.Calls PyProof.Rows
theorem PySem.Challenge.cw_promisepieces_k01_sums_and_formulas_refu_holds : PySem.Challenge.rw_promisepieces_k01_sums_and_formulas_refu.Holds := by
  w_on; o_law
  refine HandSHeadRun.head_any (r := OpenLaw.row PySem.Challenge.rw_promisepieces_k01_sums_and_formulas_refu) (q := view (OpenLaw.row PySem.Challenge.rw_promisepieces_k01_sums_and_formulas_refu).prog [94]) (H := K01.hk) (ob := K01.ob) (M := 4000) (loose := K01.loose) (d := HandSHeadRun.topDef (OpenLaw.row PySem.Challenge.rw_promisepieces_k01_sums_and_formulas_refu).prog 94) (kwd := []) K01.ob_eq
    (by kernel_rfl) (fun s => by kernel_rfl) K01.run (by kernel_rfl) (by kernel_rfl) (by kernel_rfl) (by rfl) (by first | assumption | decide +kernel) (by decide +kernel) ⟨rfl, rfl, rfl, rfl, rfl, by decide +kernel⟩ ?hw ?hc
  case hw => w_witness2
  case hc =>
    refine Mini.walk_ofW (l := PySem.Challenge.rw_promisepieces_k01_sums_and_formulas_refu) (n := 63) (k := 61) (x := "script") rfl (by decide) (by kernel_rfl) ⟨rfl, by decide, by decide⟩ ?F
    intro w mg fa h Y G hmg0
    obtain ⟨K, KX, c⟩ := Y
    have hmg : mg ("law" : PySem.Str) = some (.ref fa) := by
      have e : (HandSHeadRun.topDef (OpenLaw.row PySem.Challenge.rw_promisepieces_k01_sums_and_formulas_refu).prog 94).name = ("law" : PySem.Str) := by kernel_rfl
      rw [← e]
      exact hmg0
    obtain ⟨fd, hb, hF⟩ := K01.facts (P := (PySem.Challenge.rw_promisepieces_k01_sums_and_formulas_refu).prog) (w := w) KX G hmg c
    exact ⟨K, fd, Mini.spLaw K, KX, hb, fun H a ns hl hO hS => ⟨a, ns, rfl, hl, hO, hS, fun _ => rfl⟩, fun base _ _ => hF base⟩
