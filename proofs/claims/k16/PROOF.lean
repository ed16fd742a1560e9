import PyProof.Rows.All
import Wide.All
import OpenK.AllK
import Wide.FinOn
import PySem.Str
import PySem.Syntax
import HandS.ForMost
import HandS.ForExc
import HandS.Defaults
import HandS.HeadHook1
import HandS.HeadHook2
import KE.DataCmp
import KE.SortData
import HandS.Deep
import HandS.TupAny
import HandS.Wide
import HandS.Zip
import HandS.More
import HandS.IsInst
import HandS.Style
import HandS.Text
import HandS.OwnEq
import HandS.CallRecv
import PyProof.InstNe
import KE.KStateDown
import HandS.Ends
import HandS.Flow
import HandS.HeadEnd
import HandS.Words
import HandS.WordsExc
import HandS.Head0
import HandS.Head1
import HandS.Head2
import PySem.Challenge.RW_onememory_k16_whole_tours
set_option Elab.async false
set_option linter.all false
set_option maxRecDepth 100000
set_option maxHeartbeats 0
set_option autoImplicit false
namespace Om
open PySem
/-! ## values -/
inductive D where
  | non | undef
  | bl (b : Bool) | int (i : Int) | str (x : List Nat) | byt (x : List UInt8)
  | ty (n : String) | glo (x : List Nat)
  | tup (xs : List D) | lst (xs : List D) | dct (ks : List (D × D))
  | ins (c : Nat) (fs : List (Nat × D))
  | ref (i : Nat)
  deriving Inhabited
mutual
def beqD : D → D → Bool
  | .non, .non => true
  | .undef, .undef => true
  | .bl a, .bl b => a == b
  | .int a, .int b => decide (a = b)
  | .str a, .str b => decide (a = b)
  | .byt a, .byt b => decide (a = b)
  | .ty a, .ty b => decide (a = b)
  | .glo a, .glo b => decide (a = b)
  | .tup a, .tup b => beqDs a b
  | .lst a, .lst b => beqDs a b
  | .dct a, .dct b => beqKs a b
  | .ins c a, .ins d b => decide (c = d) && beqFs a b
  | .ref a, .ref b => decide (a = b)
  | _, _ => false
def beqDs : List D → List D → Bool
  | [], [] => true
  | x :: xs, y :: ys => beqD x y && beqDs xs ys
  | _, _ => false
def beqKs : List (D × D) → List (D × D) → Bool
  | [], [] => true
  | (k, v) :: xs, (l, w) :: ys => beqD k l && beqD v w && beqKs xs ys
  | _, _ => false
def beqFs : List (Nat × D) → List (Nat × D) → Bool
  | [], [] => true
  | (k, v) :: xs, (l, w) :: ys => decide (k = l) && beqD v w && beqFs xs ys
  | _, _ => false
end
mutual
theorem beqD_iff : ∀ a b : D, beqD a b = true ↔ a = b
  | .non, b => by cases b <;> simp [beqD]
  | .undef, b => by cases b <;> simp [beqD]
  | .bl x, b => by cases b <;> simp [beqD]
  | .int x, b => by cases b <;> simp [beqD]
  | .str x, b => by cases b <;> simp [beqD]
  | .byt x, b => by cases b <;> simp [beqD]
  | .ty x, b => by cases b <;> simp [beqD]
  | .glo x, b => by cases b <;> simp [beqD]
  | .tup xs, b => by cases b <;> simp [beqD, beqDs_iff xs]
  | .lst xs, b => by cases b <;> simp [beqD, beqDs_iff xs]
  | .dct xs, b => by cases b <;> simp [beqD, beqKs_iff xs]
  | .ins c xs, b => by cases b <;> simp [beqD, beqFs_iff xs]
  | .ref i, b => by cases b <;> simp [beqD]
theorem beqDs_iff : ∀ a b : List D, beqDs a b = true ↔ a = b
  | [], b => by cases b <;> simp [beqDs]
  | x :: xs, b => by cases b <;> simp [beqDs, beqD_iff x, beqDs_iff xs]
theorem beqKs_iff : ∀ a b : List (D × D), beqKs a b = true ↔ a = b
  | [], b => by cases b <;> simp [beqKs]
  | (k, v) :: xs, [] => by simp [beqKs]
  | (k, v) :: xs, (l, w) :: ys => by simp [beqKs, beqD_iff k, beqD_iff v, beqKs_iff xs, and_assoc]
theorem beqFs_iff : ∀ a b : List (Nat × D), beqFs a b = true ↔ a = b
  | [], b => by cases b <;> simp [beqFs]
  | (k, v) :: xs, [] => by simp [beqFs]
  | (k, v) :: xs, (l, w) :: ys => by simp [beqFs, beqD_iff v, beqFs_iff xs, and_assoc]
end
instance : DecidableEq D := fun a b => decidable_of_iff (beqD a b = true) (beqD_iff a b)
inductive O where
  | lst (xs : List D) | dct (ks : List (D × D)) | ins (c : Nat) (fs : List (Nat × D)) | dead
  deriving Inhabited
abbrev Rg := List O
inductive Res (A : Type) where
  | ok (a : A) (R : Rg) | exc (c : Nat) (f : D) (R : Rg) | err
def Res.bind {A B : Type} (m : Res A) (f : A → Rg → Res B) : Res B := match m with
  | .ok a R => f a R
  | .exc c x R => .exc c x R
  | .err => .err
@[simp] theorem Res.bind_ok {A B : Type} (a : A) (R : Rg) (f : A → Rg → Res B) : (Res.ok a R).bind f = f a R := rfl
@[simp] theorem Res.bind_exc {A B : Type} (c : Nat) (x : D) (R : Rg) (f : A → Rg → Res B) : (Res.exc c x R : Res A).bind f = .exc c x R := rfl
@[simp] theorem Res.bind_err {A B : Type} (f : A → Rg → Res B) : (Res.err : Res A).bind f = .err := rfl
inductive Out where
  | nx (s : List D) (R : Rg) | rt (d : D) (R : Rg) | bk (s : List D) (R : Rg) | ct (s : List D) (R : Rg)
  | exc (c : Nat) (f : D) (s : List D) (R : Rg) | err
abbrev SE := List D → Rg → Res D
abbrev SA := List D → Rg → Res (List D)
abbrev SB := List D → Rg → Res Bool
abbrev SS := List D → Rg → Out
abbrev SG := D → List D → Rg → Res (List D)
abbrev SF := List D → Rg → Res D
/-! ## looks at values -/
mutual
/-- a tree without places -/
def pureD : D → Bool
  | .ref _ => false
  | .undef => false
  | .tup xs => pureDs xs
  | .lst xs => pureDs xs
  | .dct ks => pureKs ks
  | .ins _ fs => pureFs fs
  | _ => true
def pureDs : List D → Bool
  | [] => true
  | x :: xs => pureD x && pureDs xs
def pureKs : List (D × D) → Bool
  | [] => true
  | (k, v) :: xs => pureD k && pureD v && pureKs xs
def pureFs : List (Nat × D) → Bool
  | [] => true
  | (_, v) :: xs => pureD v && pureFs xs
end
mutual
/-- nothing that can be changed within -/
def flatD : D → Bool
  | .non => true
  | .bl _ => true
  | .int _ => true
  | .str _ => true
  | .byt _ => true
  | .tup xs => flatDs xs
  | _ => false
def flatDs : List D → Bool
  | [] => true
  | x :: xs => flatD x && flatDs xs
end
/-- the tree of a value, to a depth -/
def snapN : Nat → Rg → D → Option D
  | 0, _, d => if pureD d then some d else none
  | n + 1, R, d => if pureD d then some d else match d with
    | .ref i => (match R[i]? with
      | some (.lst xs) => (xs.mapM (snapN n R)).map .lst
      | some (.dct ks) => (ks.mapM fun p => (snapN n R p.1).bind fun k => (snapN n R p.2).map fun v => (k, v)).map .dct
      | some (.ins c fs) => (fs.mapM fun p => (snapN n R p.2).map fun v => (p.1, v)).map (.ins c)
      | _ => none)
    | .tup xs => (xs.mapM (snapN n R)).map .tup
    | .lst xs => (xs.mapM (snapN n R)).map .lst
    | .dct ks => (ks.mapM fun p => (snapN n R p.1).bind fun k => (snapN n R p.2).map fun v => (k, v)).map .dct
    | .ins c fs => (fs.mapM fun p => (snapN n R p.2).map fun v => (p.1, v)).map (.ins c)
    | _ => none
def snapD (R : Rg) (d : D) : Option D := snapN 6 R d
/-! ## operators -/
abbrev LINE : Nat := 16777216
/-- what stands at a value: its object, or the frozen one -/
def viewD (R : Rg) : D → O
  | .ref i => (R[i]?).getD .dead
  | .lst xs => .lst xs
  | .dct ks => .dct ks
  | .ins c fs => .ins c fs
  | _ => .dead
/-- the items of a list -/
def lstOf (R : Rg) (d : D) : Option (List D) := match viewD R d with
  | .lst xs => some xs
  | _ => none
/-- the items of a list or a tuple -/
def seqOf (R : Rg) (d : D) : Option (List D) := match d with
  | .tup xs => some xs
  | d => lstOf R d
def dctOf (R : Rg) (d : D) : Option (List (D × D)) := match viewD R d with
  | .dct ks => some ks
  | _ => none
def insOf (R : Rg) (d : D) : Option (Nat × List (Nat × D)) := match viewD R d with
  | .ins c fs => some (c, fs)
  | _ => none
theorem lstOf_ref (R : Rg) (i : Nat) : lstOf R (.ref i) = match R[i]? with
    | some (.lst xs) => some xs
    | _ => none := by
  show (match (R[i]?).getD O.dead with
    | .lst xs => some xs
    | _ => none) = _
  cases R[i]? with
  | none => rfl
  | some o => cases o <;> rfl
theorem dctOf_ref (R : Rg) (i : Nat) : dctOf R (.ref i) = match R[i]? with
    | some (.dct xs) => some xs
    | _ => none := by
  show (match (R[i]?).getD O.dead with
    | .dct xs => some xs
    | _ => none) = _
  cases R[i]? with
  | none => rfl
  | some o => cases o <;> rfl
theorem insOf_ref (R : Rg) (i : Nat) : insOf R (.ref i) = match R[i]? with
    | some (.ins c xs) => some (c, xs)
    | _ => none := by
  show (match (R[i]?).getD O.dead with
    | .ins c xs => some (c, xs)
    | _ => none) = _
  cases R[i]? with
  | none => rfl
  | some o => cases o <;> rfl
/-- a new list, to be changed or not -/
def mkL (m : Bool) (xs : List D) (R : Rg) : Option (D × Rg) := if xs.length ≤ LINE then (if m = true then some (.ref R.length, R ++ [.lst xs]) else some (.lst xs, R)) else none
def mkK (m : Bool) (ks : List (D × D)) (R : Rg) : Option (D × Rg) := if ks.length ≤ LINE then (if m = true then some (.ref R.length, R ++ [.dct ks]) else some (.dct ks, R)) else none
def smallI (i : Int) : Bool := decide (-18446744073709551616 < i ∧ i < 18446744073709551616)
def mulOk (i j : Int) : Bool := smallI j || smallI i || decide (i.natAbs.log2 + j.natAbs.log2 < 1000000)
def truD (R : Rg) (d : D) : Option Bool := match d with
  | .non => some false
  | .bl b => some b
  | .int i => some (i != 0)
  | .str x => if x.length ≤ LINE then some (x.length != 0) else none
  | .tup xs => some (!xs.isEmpty)
  | d => match viewD R d with
    | .lst xs => some (!xs.isEmpty)
    | _ => none
mutual
/-- may be asked for == as data: no truths, dicts, objects within; to a depth -/
def eqOk : Nat → D → Bool
  | _, .non => true
  | _, .int _ => true
  | _, .str x => x.all fun c => decide (c < 1114112)
  | n + 1, .tup xs => eqOks n xs
  | n + 1, .lst xs => eqOks n xs
  | _, _ => false
def eqOks : Nat → List D → Bool
  | _, [] => true
  | n, x :: xs => eqOk n x && eqOks n xs
end
/-- == of data -/
def eqD (R : Rg) (x y : D) : Option Bool := match x, y with
  | .bl a, .bl b => some (decide (a = b))
  | .bl _, .non => some false
  | .non, .bl _ => some false
  | .bl _, .str _ => some false
  | .str _, .bl _ => some false
  | x, y => match snapD R x, snapD R y with
    | some a, some b => if eqOk 12 a = true ∧ eqOk 12 b = true then some (decide (a = b)) else none
    | _, _ => none
mutual
/-- x < y may be asked -/
def ltOk : D → D → Bool
  | .int _, .int _ => true
  | .str _, .str _ => true
  | .tup xs, .tup ys => ltOks xs ys
  | .lst xs, .lst ys => ltOks xs ys
  | _, _ => false
def ltOks : List D → List D → Bool
  | x :: xs, y :: ys => ltOk x y && ltOks xs ys
  | [], _ => true
  | _, [] => true
end
mutual
/-- x < y -/
def ltD : D → D → Bool
  | .int i, .int j => decide (i < j)
  | .str x, .str y => decide (x < y)
  | .tup xs, .tup ys => ltDs xs ys
  | .lst xs, .lst ys => ltDs xs ys
  | _, _ => false
def ltDs : List D → List D → Bool
  | x :: xs, y :: ys => if x = y then ltDs xs ys else ltD x y
  | [], _ :: _ => true
  | _, [] => false
end
end Om
/-! Om, part B: what trees mean over the abstract heap. -/
namespace Om
open PySem PySem.Spec PyProof.Rows L2
/-- the classes and attributes of the text, by numbers -/
def clTab : List Str := ["Lawful", "Unlawful", "Raceless", "Raced", "Locks", "Parts", "Single", "Split", "Counts", "Alike", "Apart", "Homes", "Machine", "Field", "Bytes", "Beginning", "Told", "Desk"]
def exTab : List Str := ["LendError", "BadHistory", "BadThread", "BadCell", "BadPlace", "TooLong", "BadProgram", "BadTour", "BadMachine", "BadMaster", "BadDifference", "BadField", "BadLock", "BadValue", "Waits", "Busy", "BadRow", "BadText", "BadBytes", "BadName"]
def atTab : List Str := (["place", "one", "other", "holders", "lost", "threads", "cells", "locks", "rows", "listed", "turn", "stands", "parts", "known", "run", "places", "costs", "number", "copies", "changes",
  "handed", "homes", "homes_first", "threads_first", "machines", "seconds", "masters", "lock_knows", "lock_at", "handing"] : List Str) ++
  (["forced", "events", "counted", "data", "at", "row", "machines_first", "deeds", "told", "views", "fields", "history"] : List Str)
def clN (c : Nat) : Str := clTab.getD c ""
def exN (c : Nat) : Str := exTab.getD c ""
def atN (c : Nat) : Str := atTab.getD c ""
def strOf (x : List Nat) : Str := ⟨x.toArray⟩
theorem strOf_inj {x y : List Nat} (h : strOf x = strOf y) : x = y := by
  unfold strOf at h
  have := Str.mk.inj h
  simpa using this
theorem strOf_append (a b : List Nat) : strOf (a ++ b) = strOf a ++ strOf b := by
  show (⟨(a ++ b).toArray⟩ : Str) = ⟨a.toArray ++ b.toArray⟩
  simp
theorem strOf_length (a : List Nat) : (strOf a).length = a.length := by
  show a.toArray.size = a.length
  simp
abbrev Io := List (Option Addr)
def ran (io : Io) (a : Addr) : Prop := some a ∈ io
theorem ran_at {io : Io} {i : Nat} {a : Addr} (h : io[i]? = some (some a)) : ran io a := List.mem_of_getElem? h
theorem at_ran {io : Io} {a : Addr} (h : ran io a) : ∃ i : Nat, io[i]? = some (some a) := by
  obtain ⟨i, hi, e⟩ := List.getElem_of_mem h
  exact ⟨i, by rw [List.getElem?_eq_getElem hi, e]⟩
def keyV : D → Option Key
  | .int i => some (.inl i)
  | .str x => some (.inr (strOf x))
  | _ => none
/-- a list of the module -/
def KL (K : PySem.W.Frag) (a : Addr) (vs : List V) : Prop := ∃ (o : Obj) (its : Array Value) (n : Nat), K.lookup a = some o ∧ o.cls = .type "list" ∧ o.dict = none ∧ o.data = .seq its n ∧ its.size ≤ sizeLine ∧ Vals vs its.toList
/-- a list that stands still -/
def LstAt (K : PySem.W.Frag) (bar : Addr → Prop) (H : Hp) (a : Addr) (vs : List V) : Prop := (¬ bar a ∧ Rd H a (.lst vs)) ∨ KL K a vs
theorem LstAt.sq {K : PySem.W.Frag} {bar : Addr → Prop} {H : Hp} {a : Addr} {vs : List V} (h : LstAt K bar H a vs) : SqL K H a vs := by
  rcases h with h | h
  · exact .inl h.2
  · exact .inr h
section
variable (K : PySem.W.Frag) (bar : Addr → Prop) (io : Io) (H : Hp)
mutual
inductive RD : D → V → Prop
  | non : RD .non .non
  | bl (b : Bool) : RD (.bl b) (.bl b)
  | int (i : Int) : RD (.int i) (.int i)
  | str (x : List Nat) : RD (.str x) (.str (strOf x))
  | byt (x : List UInt8) : RD (.byt x) (.byt x.toArray)
  | ty (n : String) : RD (.ty n) (.ty n)
  | glo (x : List Nat) : RD (.glo x) (.ref (He.ga K (strOf x)))
  | tup {a : Addr} {ds : List D} {vs : List V} : SqT K H a vs → RDs ds vs → RD (.tup ds) (.ref a)
  | lst {a : Addr} {ds : List D} {vs : List V} : LstAt K bar H a vs → RDs ds vs → RD (.lst ds) (.ref a)
  | dct {a : Addr} {ks : List (D × D)} {kvs : List (Key × V)} : ¬ bar a → Rd H a (.dK kvs) → RKs ks kvs → RD (.dct ks) (.ref a)
  | ins {a dx : Addr} {c : Nat} {fs : List (Nat × D)} {fvs : List (Str × V)} : ¬ bar a → H a = some (.ins (He.ga K (clN c)) dx fvs) → RFs fs fvs → RD (.ins c fs) (.ref a)
  | ref {i : Nat} {a : Addr} : i < io.length → (∀ q, io[i]? = some (some q) → q = a) → RD (.ref i) (.ref a)
inductive RDs : List D → List V → Prop
  | nil : RDs [] []
  | cons {d : D} {v : V} {ds : List D} {vs : List V} : RD d v → RDs ds vs → RDs (d :: ds) (v :: vs)
inductive RKs : List (D × D) → List (Key × V) → Prop
  | nil : RKs [] []
  | cons {k d : D} {q : Key} {v : V} {ks : List (D × D)} {kvs : List (Key × V)} : keyV k = some q → RD d v → RKs ks kvs → RKs ((k, d) :: ks) ((q, v) :: kvs)
inductive RFs : List (Nat × D) → List (Str × V) → Prop
  | nil : RFs [] []
  | cons {n : Nat} {d : D} {v : V} {fs : List (Nat × D)} {fvs : List (Str × V)} : n < atTab.length → RD d v → RFs fs fvs → RFs ((n, d) :: fs) ((atN n, v) :: fvs)
end
/-- an object of the region -/
def RO (i : Nat) : O → Prop
  | .dead => io[i]? = some none
  | .lst ds => ∃ p vs, io[i]? = some (some p) ∧ H p = some (.lst vs) ∧ RDs K bar io H ds vs
  | .dct ks => ∃ p kvs, io[i]? = some (some p) ∧ H p = some (.dK kvs) ∧ RKs K bar io H ks kvs
  | .ins c fs => ∃ p dx fvs, io[i]? = some (some p) ∧ H p = some (.ins (He.ga K (clN c)) dx fvs) ∧ RFs K bar io H fs fvs
/-- a slot -/
def RS1 (d : D) (o : Option V) : Prop := d = .undef ∨ ∃ v, o = some v ∧ RD K bar io H d v
def RS (s : List D) (σ : L2.St) : Prop := s.length = σ.length ∧ ∀ (i : Nat) (d : D), s[i]? = some d → ∃ o, σ[i]? = some o ∧ RS1 K bar io H d o
end
def bars (B : Addr → Prop) (io : Io) (a : Addr) : Prop := B a ∨ ran io a
def Mu (o : Option HO) : Prop := match o with
  | some (.lst _) => True
  | some (.dK _) => True
  | some (.ins _ _ _) => True
  | _ => False
structure Rep (K : PySem.W.Frag) (B : Addr → Prop) (io : Io) (R : Rg) (H : Hp) : Prop where
  len : io.length = R.length
  inj : ∀ (i j : Nat) (p : Addr), io[i]? = some (some p) → io[j]? = some (some p) → i = j
  bt : ∀ a, B a → ∃ o, H a = some o
  bd : ∀ a, ran io a → ¬ B a
  obj : ∀ (i : Nat) (o : O), R[i]? = some o → RO K (bars B io) io H i o
structure Step (io : Io) (H : Hp) (io' : Io) (H' : Hp) : Prop where
  fr : ∀ a o, H a = some o → ¬ ran io a → H' a = some o
  nw : ∀ a, ran io' a → ran io a ∨ H a = none
  tr : ∀ a o, H a = some o → ∃ o', H' a = some o'
  le : io.length ≤ io'.length
  ix : ∀ i : Nat, i < io.length → io'[i]? = io[i]? ∨ io'[i]? = some none
section
variable {K : PySem.W.Frag} {B : Addr → Prop} {io io1 io2 : Io} {R : Rg} {H H1 H2 : Hp}
theorem Rep.mu (r : Rep K B io R H) {a : Addr} (h : ran io a) : Mu (H a) := by
  obtain ⟨i, e⟩ := at_ran h
  have hi : i < R.length := by
    rw [← r.len]
    exact (List.getElem?_eq_some_iff.mp e).1
  have q := r.obj i R[i] (List.getElem?_eq_getElem hi)
  revert q
  cases R[i] with
  | dead =>
    intro q
    have q' : io[i]? = some none := q
    rw [e] at q'
    cases q'
  | lst ds =>
    rintro ⟨p, vs, e', h', _⟩
    rw [e] at e'
    cases e'
    rw [h']
    trivial
  | dct ds =>
    rintro ⟨p, vs, e', h', _⟩
    rw [e] at e'
    cases e'
    rw [h']
    trivial
  | ins c ds =>
    rintro ⟨p, dx, vs, e', h', _⟩
    rw [e] at e'
    cases e'
    rw [h']
    trivial
theorem Rep.has (r : Rep K B io R H) {a : Addr} (h : ran io a) : ∃ o, H a = some o := by
  have := r.mu h
  cases e : H a with
  | none =>
    rw [e] at this
    exact this.elim
  | some o => exact ⟨o, rfl⟩
theorem Step.refl (io : Io) (H : Hp) : Step io H io H := ⟨fun _ _ h _ => h, fun _ h => .inl h, fun _ o h => ⟨o, h⟩, Nat.le_refl _, fun _ _ => .inl rfl⟩
theorem Step.trans (a : Step io H io1 H1) (b : Step io1 H1 io2 H2) : Step io H io2 H2 where
  fr := fun p o h n => b.fr p o (a.fr p o h n) fun z => by
    rcases a.nw p z with z | z
    · exact n z
    · rw [h] at z; cases z
  nw := fun p h => by
    rcases b.nw p h with z | z
    · exact a.nw p z
    · right
      cases e : H p with
      | none => rfl
      | some o =>
        obtain ⟨o', e'⟩ := a.tr p o e
        rw [e'] at z; cases z
  tr := fun p o h => by
    obtain ⟨o1, h1⟩ := a.tr p o h
    exact b.tr p o1 h1
  le := Nat.le_trans a.le b.le
  ix := fun i h => by
    rcases b.ix i (Nat.lt_of_lt_of_le h a.le) with z | z
    · rcases a.ix i h with y | y
      · exact .inl (z.trans y)
      · exact .inr (z.trans y)
    · exact .inr z
/-- what carries a value over -/
structure Car (K : PySem.W.Frag) (bar : Addr → Prop) (io : Io) (H : Hp) (bar' : Addr → Prop) (io' : Io) (H' : Hp) : Prop where
  tup : ∀ a vs, Rd H a (.tup vs) → Rd H' a (.tup vs)
  oth : ∀ a o, H a = some o → ¬ bar a → H' a = some o ∧ ¬ bar' a
  ref : ∀ (i : Nat) (p : Addr), i < io.length → i < io'.length ∧ (io'[i]? = some (some p) → io[i]? = some (some p))
theorem Car.sqT {bar bar' : Addr → Prop} (c : Car K bar io H bar' io1 H1) {a : Addr} {vs : List V} (h : SqT K H a vs) : SqT K H1 a vs := by
  rcases h with h | h
  · exact .inl (c.tup a vs h)
  · exact .inr h
theorem Car.rd {bar bar' : Addr → Prop} (c : Car K bar io H bar' io1 H1) {a : Addr} {o : HO} (h : Rd H a o) (n : ¬ bar a) : Rd H1 a o ∧ ¬ bar' a := by
  rcases h with h | ⟨ob, h⟩
  · exact ⟨.inl (c.oth a _ h n).1, (c.oth a _ h n).2⟩
  · exact ⟨.inr ⟨ob, (c.oth a _ h n).1⟩, (c.oth a _ h n).2⟩
theorem LstAt.car {bar bar' : Addr → Prop} (c : Car K bar io H bar' io1 H1) {a : Addr} {vs : List V} (h : LstAt K bar H a vs) : LstAt K bar' H1 a vs := by
  rcases h with h | h
  · exact .inl ⟨(c.rd h.2 h.1).2, (c.rd h.2 h.1).1⟩
  · exact .inr h
theorem LstAt.nb {bar bar' : Addr → Prop} (hb : ∀ a, ¬ bar a → ¬ bar' a) {a : Addr} {vs : List V} (h : LstAt K bar H a vs) : LstAt K bar' H a vs := by
  rcases h with h | h
  · exact .inl ⟨hb a h.1, h.2⟩
  · exact .inr h
mutual
theorem RD.car {bar bar' : Addr → Prop} (c : Car K bar io H bar' io1 H1) : ∀ {d : D} {v : V}, RD K bar io H d v → RD K bar' io1 H1 d v
  | _, _, .non => .non
  | _, _, .bl b => .bl b
  | _, _, .int i => .int i
  | _, _, .str x => .str x
  | _, _, .byt x => .byt x
  | _, _, .ty n => .ty n
  | _, _, .glo x => .glo x
  | _, _, .tup h r => .tup (c.sqT h) (RDs.car c r)
  | _, _, .lst h r => .lst (h.car c) (RDs.car c r)
  | _, _, .dct n h r => .dct (c.rd h n).2 (c.rd h n).1 (RKs.car c r)
  | _, _, .ins n h r => .ins (c.oth _ _ h n).2 (c.oth _ _ h n).1 (RFs.car c r)
  | _, _, .ref h q => .ref (c.ref _ 0 h).1 fun p e => q p ((c.ref _ p h).2 e)
theorem RDs.car {bar bar' : Addr → Prop} (c : Car K bar io H bar' io1 H1) : ∀ {ds : List D} {vs : List V}, RDs K bar io H ds vs → RDs K bar' io1 H1 ds vs
  | _, _, .nil => .nil
  | _, _, .cons r t => .cons (RD.car c r) (RDs.car c t)
theorem RKs.car {bar bar' : Addr → Prop} (c : Car K bar io H bar' io1 H1) : ∀ {ds : List (D × D)} {vs : List (Key × V)}, RKs K bar io H ds vs → RKs K bar' io1 H1 ds vs
  | _, _, .nil => .nil
  | _, _, .cons k r t => .cons k (RD.car c r) (RKs.car c t)
theorem RFs.car {bar bar' : Addr → Prop} (c : Car K bar io H bar' io1 H1) : ∀ {ds : List (Nat × D)} {vs : List (Str × V)}, RFs K bar io H ds vs → RFs K bar' io1 H1 ds vs
  | _, _, .nil => .nil
  | _, _, .cons k r t => .cons k (RD.car c r) (RFs.car c t)
end
theorem RS.car {bar bar' : Addr → Prop} (c : Car K bar io H bar' io1 H1) {s : List D} {σ : L2.St} (r : RS K bar io H s σ) : RS K bar' io1 H1 s σ :=
  ⟨r.1, fun i d e => by
    obtain ⟨o, e1, q⟩ := r.2 i d e
    refine ⟨o, e1, ?_⟩
    rcases q with q | ⟨v, e2, q⟩
    · exact .inl q
    · exact .inr ⟨v, e2, q.car c⟩⟩
theorem Rep.tupNo (r : Rep K B io R H) {a : Addr} {vs : List V} (h : Rd H a (.tup vs)) : ¬ ran io a := fun z => by
  have m := r.mu z
  rcases h with h | ⟨o, h⟩
  · rw [h] at m; exact m
  · rw [h] at m; exact m
theorem Step.car (st : Step io H io1 H1) (r : Rep K B io R H) : Car K (bars B io) io H (bars B io1) io1 H1 where
  tup := fun a vs h => by
    have n := r.tupNo h
    rcases h with h | ⟨o, h⟩
    · exact .inl (st.fr a _ h n)
    · exact .inr ⟨o, st.fr a _ h n⟩
  oth := fun a o h n => ⟨st.fr a o h fun z => n (.inr z), fun z => by
    rcases z with z | z
    · exact n (.inl z)
    · rcases st.nw a z with y | y
      · exact n (.inr y)
      · rw [h] at y; cases y⟩
  ref := fun i p h => ⟨Nat.lt_of_lt_of_le h st.le, fun e => by
    rcases st.ix i h with z | z
    · exact z.symm.trans e
    · rw [z] at e; cases e⟩
end
section
variable {K : PySem.W.Frag} {B : Addr → Prop} {io : Io} {R : Rg} {H : Hp} {p : Addr}
theorem RO.car {bar bar' : Addr → Prop} {io1 : Io} {H1 : Hp} {i : Nat} {o : O} (c : Car K bar io H bar' io1 H1) (hi : io1[i]? = io[i]?) (hh : ∀ q, io[i]? = some (some q) → H1 q = H q) (h : RO K bar io H i o) : RO K bar' io1 H1 i o := by
  cases o with
  | dead => exact hi.trans h
  | lst ds =>
    obtain ⟨q, vs, e1, e2, r⟩ := h
    exact ⟨q, vs, hi.trans e1, (hh q e1).trans e2, r.car c⟩
  | dct ds =>
    obtain ⟨q, vs, e1, e2, r⟩ := h
    exact ⟨q, vs, hi.trans e1, (hh q e1).trans e2, r.car c⟩
  | ins n ds =>
    obtain ⟨q, dx, vs, e1, e2, r⟩ := h
    exact ⟨q, dx, vs, hi.trans e1, (hh q e1).trans e2, r.car c⟩
theorem Rep.notBar (rep : Rep K B io R H) (hp : H p = none) : ¬ bars B io p := fun z => by
  rcases z with z | z
  · obtain ⟨o, e⟩ := rep.bt p z
    rw [hp] at e
    cases e
  · obtain ⟨o, e⟩ := rep.has z
    rw [hp] at e
    cases e
theorem Step.add {o : HO} (hp : H p = none) : Step io H io (upd H p o) where
  fr := fun a u h _ => by
    rw [upd_ne (ne_of_none h hp)]
    exact h
  nw := fun a h => .inl h
  tr := fun a u h => ⟨u, by
    rw [upd_ne (ne_of_none h hp)]
    exact h⟩
  le := Nat.le_refl _
  ix := fun _ _ => .inl rfl
/-- the same places, a heap that only grew or changed elsewhere -/
theorem Rep.more {H1 : Hp} (rep : Rep K B io R H) (st : Step io H io H1) (hh : ∀ q, ran io q → H1 q = H q) : Rep K B io R H1 where
  len := rep.len
  inj := rep.inj
  bt := fun a h => by
    obtain ⟨o, e⟩ := rep.bt a h
    exact st.tr a o e
  bd := rep.bd
  obj := fun i o e => (rep.obj i o e).car (st.car rep) rfl fun q hq => hh q (ran_at hq)
theorem Rep.add {o : HO} (rep : Rep K B io R H) (hp : H p = none) : Rep K B io R (upd H p o) :=
  rep.more (Step.add hp) fun q hq => by
    obtain ⟨u, e⟩ := rep.has hq
    rw [upd_ne (ne_of_none e hp)]
theorem Step.push {o : HO} (rep : Rep K B io R H) (hp : H p = none) : Step io H (io ++ [some p]) (upd H p o) where
  fr := (Step.add (io := io) hp).fr
  nw := fun a h => by
    rcases List.mem_append.mp h with h | h
    · exact .inl h
    · have e : some a = some p := by simpa using h
      cases e
      exact .inr hp
  tr := (Step.add (io := io) (o := o) hp).tr
  le := by simp
  ix := fun i h => .inl (by rw [List.getElem?_append_left h])
theorem Rep.push {o : O} {ho : HO} (rep : Rep K B io R H) (hp : H p = none) (h : RO K (bars B (io ++ [some p])) (io ++ [some p]) (upd H p ho) io.length o) : Rep K B (io ++ [some p]) (R ++ [o]) (upd H p ho) where
  len := by simp [rep.len]
  inj := fun i j q h1 h2 => by
    have at_ : ∀ k : Nat, (io ++ [some p])[k]? = some (some q) → io[k]? = some (some q) ∨ (k = io.length ∧ q = p) := fun k hk => by
      by_cases hl : k < io.length
      · rw [List.getElem?_append_left hl] at hk
        exact .inl hk
      · rw [List.getElem?_append_right (by omega)] at hk
        have : k - io.length = 0 := by
          have := (List.getElem?_eq_some_iff.mp hk).1
          simp at this
          omega
        rw [this] at hk
        have e : some p = some q := by simpa using hk
        cases e
        exact .inr ⟨by omega, rfl⟩
    have no : ∀ k : Nat, io[k]? = some (some q) → q ≠ p := fun k hk e => by
      obtain ⟨u, eu⟩ := rep.has (ran_at hk)
      rw [e, hp] at eu
      cases eu
    rcases at_ i h1 with a | ⟨a, a'⟩
    · rcases at_ j h2 with b | ⟨b, b'⟩
      · exact rep.inj i j q a b
      · exact absurd b' (no i a)
    · rcases at_ j h2 with b | ⟨b, b'⟩
      · exact absurd a' (no j b)
      · omega
  bt := fun a h => by
    obtain ⟨o, e⟩ := rep.bt a h
    exact (Step.push (o := ho) rep hp).tr a o e
  bd := fun a h z => by
    rcases List.mem_append.mp h with h | h
    · exact rep.bd a h z
    · have e : some a = some p := by simpa using h
      cases e
      exact rep.notBar hp (.inl z)
  obj := fun i u e => by
    by_cases hl : i < R.length
    · rw [List.getElem?_append_left hl] at e
      have hl' : i < io.length := by rw [rep.len]; exact hl
      refine (rep.obj i u e).car ((Step.push rep hp).car rep) (List.getElem?_append_left hl') fun q hq => ?_
      obtain ⟨w, ew⟩ := rep.has (ran_at hq)
      rw [upd_ne (ne_of_none ew hp)]
    · rw [List.getElem?_append_right (by omega)] at e
      have hi := (List.getElem?_eq_some_iff.mp e).1
      have hz : i - R.length = 0 := by
        simp at hi
        omega
      rw [hz] at e
      have e' : o = u := by simpa using e
      cases e'
      have : i = io.length := by rw [rep.len]; omega
      rw [this]
      exact h
/-- an object of the region is changed -/
theorem Step.mut {i : Nat} {o : HO} (hi : io[i]? = some (some p)) : Step io H io (upd H p o) where
  fr := fun a u h n => by
    rw [upd_ne (fun e => n (by rw [e]; exact ran_at hi))]
    exact h
  nw := fun a h => .inl h
  tr := fun a u h => by
    by_cases e : a = p
    · rw [e, upd_same]
      exact ⟨_, rfl⟩
    · rw [upd_ne e]
      exact ⟨u, h⟩
  le := Nat.le_refl _
  ix := fun _ _ => .inl rfl
theorem Rep.mut {i : Nat} {o : O} {ho : HO} (rep : Rep K B io R H) (hi : io[i]? = some (some p)) (h : RO K (bars B io) io (upd H p ho) i o) : Rep K B io (R.set i o) (upd H p ho) where
  len := by rw [List.length_set]; exact rep.len
  inj := rep.inj
  bt := fun a h => by
    obtain ⟨o, e⟩ := rep.bt a h
    exact (Step.mut (o := ho) hi).tr a o e
  bd := rep.bd
  obj := fun j u e => by
    by_cases hj : i = j
    · subst hj
      have hl : i < R.length := by
        rw [← rep.len]
        exact (List.getElem?_eq_some_iff.mp hi).1
      rw [List.getElem?_set_self hl] at e
      cases e
      exact h
    · rw [List.getElem?_set_ne hj] at e
      refine (rep.obj j u e).car ((Step.mut hi).car rep) rfl fun q hq => ?_
      rw [upd_ne]
      intro z
      rw [z] at hq
      exact hj (rep.inj i j p hi hq)
theorem Rep.atLst (rep : Rep K B io R H) {i : Nat} {ds : List D} (h : R[i]? = some (.lst ds)) : ∃ p vs, io[i]? = some (some p) ∧ H p = some (.lst vs) ∧ RDs K (bars B io) io H ds vs := rep.obj i _ h
theorem Rep.atDct (rep : Rep K B io R H) {i : Nat} {ds : List (D × D)} (h : R[i]? = some (.dct ds)) : ∃ p vs, io[i]? = some (some p) ∧ H p = some (.dK vs) ∧ RKs K (bars B io) io H ds vs := rep.obj i _ h
theorem Rep.atIns (rep : Rep K B io R H) {i c : Nat} {fs : List (Nat × D)} (h : R[i]? = some (.ins c fs)) : ∃ p dx vs, io[i]? = some (some p) ∧ H p = some (.ins (He.ga K (clN c)) dx vs) ∧ RFs K (bars B io) io H fs vs := rep.obj i _ h
theorem RDs.len {bar : Addr → Prop} : ∀ {ds : List D} {vs : List V}, RDs K bar io H ds vs → ds.length = vs.length
  | _, _, .nil => rfl
  | _, _, .cons _ t => congrArg (· + 1) (RDs.len t)
theorem RDs.cons_inv {bar : Addr → Prop} {ds : List D} {v : V} {vs : List V} (h : RDs K bar io H ds (v :: vs)) : ∃ d ds', ds = d :: ds' ∧ RD K bar io H d v ∧ RDs K bar io H ds' vs := by
  cases h with
  | cons r t => exact ⟨_, _, rfl, r, t⟩
theorem RDs.nil_inv {bar : Addr → Prop} {ds : List D} (h : RDs K bar io H ds []) : ds = [] := by
  cases h
  rfl
theorem RKs.len {bar : Addr → Prop} : ∀ {ds : List (D × D)} {vs : List (Key × V)}, RKs K bar io H ds vs → ds.length = vs.length
  | _, _, .nil => rfl
  | _, _, .cons _ _ t => congrArg (· + 1) (RKs.len t)
/-- a list, wherever it stands -/
theorem RD.list {d : D} {v : V} {ds : List D} (rep : Rep K B io R H) (r : RD K (bars B io) io H d v) (e : lstOf R d = some ds) : ∃ a vs, v = .ref a ∧ SqL K H a vs ∧ RDs K (bars B io) io H ds vs := by
  cases r with
  | lst h r =>
    cases e
    exact ⟨_, _, rfl, h.sq, r⟩
  | @ref i a hi q =>
    rw [lstOf_ref] at e
    cases e1 : R[i]? with
    | none =>
      rw [e1] at e
      cases e
    | some o =>
      rw [e1] at e
      cases o with
      | lst ys =>
        cases e
        obtain ⟨p, vs, h1, h2, r⟩ := rep.atLst e1
        rw [← q p h1]
        exact ⟨p, vs, rfl, .inl (.inl h2), r⟩
      | _ => cases e
  | _ => cases e
theorem RD.seq {d : D} {v : V} {ds : List D} (rep : Rep K B io R H) (r : RD K (bars B io) io H d v) (e : seqOf R d = some ds) : ∃ a vs, v = .ref a ∧ (SqL K H a vs ∨ SqT K H a vs) ∧ RDs K (bars B io) io H ds vs := by
  cases r with
  | tup h r =>
    cases e
    exact ⟨_, _, rfl, .inr h, r⟩
  | lst h r =>
    cases e
    exact ⟨_, _, rfl, .inl h.sq, r⟩
  | ref hi q =>
    obtain ⟨a, vs, e1, h, r⟩ := RD.list rep (.ref hi q) e
    exact ⟨a, vs, e1, .inl h, r⟩
  | _ => cases e
theorem RD.dict {d : D} {v : V} {ks : List (D × D)} (rep : Rep K B io R H) (r : RD K (bars B io) io H d v) (e : dctOf R d = some ks) : ∃ a kvs, v = .ref a ∧ Rd H a (.dK kvs) ∧ RKs K (bars B io) io H ks kvs := by
  cases r with
  | dct n h r =>
    cases e
    exact ⟨_, _, rfl, h, r⟩
  | @ref i a hi q =>
    rw [dctOf_ref] at e
    cases e1 : R[i]? with
    | none =>
      rw [e1] at e
      cases e
    | some o =>
      rw [e1] at e
      cases o with
      | dct ys =>
        cases e
        obtain ⟨p, vs, h1, h2, r⟩ := rep.atDct e1
        rw [← q p h1]
        exact ⟨p, vs, rfl, .inl h2, r⟩
      | _ => cases e
  | _ => cases e
/-- a new list -/
theorem mkL_ok {m : Bool} {ds : List D} {vs : List V} {d : D} {R' : Rg} (rep : Rep K B io R H) (hp : H p = none) (r : RDs K (bars B io) io H ds vs) (e : mkL m ds R = some (d, R')) :
    ∃ io', Step io H io' (upd H p (.lst vs)) ∧ Rep K B io' R' (upd H p (.lst vs)) ∧ RD K (bars B io') io' (upd H p (.lst vs)) d (.ref p) := by
  unfold mkL at e
  split at e
  · split at e
    · cases e
      refine ⟨io ++ [some p], Step.push rep hp, rep.push hp ⟨p, vs, by simp, upd_same, r.car ((Step.push rep hp).car rep)⟩, .ref (by rw [← rep.len]; simp) fun q hq => ?_⟩
      rw [← rep.len] at hq
      have e : some p = some q := by simpa using hq
      cases e
      rfl
    · cases e
      have st : Step io H io (upd H p (.lst vs)) := Step.add hp
      exact ⟨io, st, rep.add hp, .lst (.inl ⟨rep.notBar hp, .inl upd_same⟩) (r.car (st.car rep))⟩
  · cases e
theorem mkK_ok {m : Bool} {ds : List (D × D)} {vs : List (Key × V)} {d : D} {R' : Rg} (rep : Rep K B io R H) (hp : H p = none) (r : RKs K (bars B io) io H ds vs) (e : mkK m ds R = some (d, R')) :
    ∃ io', Step io H io' (upd H p (.dK vs)) ∧ Rep K B io' R' (upd H p (.dK vs)) ∧ RD K (bars B io') io' (upd H p (.dK vs)) d (.ref p) := by
  unfold mkK at e
  split at e
  · split at e
    · cases e
      refine ⟨io ++ [some p], Step.push rep hp, rep.push hp ⟨p, vs, by simp, upd_same, r.car ((Step.push rep hp).car rep)⟩, .ref (by rw [← rep.len]; simp) fun q hq => ?_⟩
      rw [← rep.len] at hq
      have e : some p = some q := by simpa using hq
      cases e
      rfl
    · cases e
      have st : Step io H io (upd H p (.dK vs)) := Step.add hp
      exact ⟨io, st, rep.add hp, .dct (rep.notBar hp) (.inl upd_same) (r.car (st.car rep))⟩
  · cases e
theorem mkL_len {m : Bool} {ds : List D} {d : D} {R' : Rg} (e : mkL m ds R = some (d, R')) : ds.length ≤ sizeLine := by
  unfold mkL at e
  split at e
  · rename_i h
    exact h
  · cases e
theorem mkK_len {m : Bool} {ds : List (D × D)} {d : D} {R' : Rg} (e : mkK m ds R = some (d, R')) : ds.length ≤ sizeLine := by
  unfold mkK at e
  split at e
  · rename_i h
    exact h
  · cases e
/-- a new tuple -/
theorem tup_ok {ds : List D} {vs : List V} (rep : Rep K B io R H) (hp : H p = none) (r : RDs K (bars B io) io H ds vs) :
    Step io H io (upd H p (.tup vs)) ∧ Rep K B io R (upd H p (.tup vs)) ∧ RD K (bars B io) io (upd H p (.tup vs)) (.tup ds) (.ref p) :=
  have st : Step io H io (upd H p (.tup vs)) := Step.add hp
  ⟨st, rep.add hp, .tup (.inl (.inl upd_same)) (r.car (st.car rep))⟩
end
end Om
/-! Om, part C: readings of state functions. -/
namespace Om
open PySem PySem.Spec PyProof.Rows L2
abbrev S := L2.St
/-! ### combinators -/
def lift {A : Type} (o : Option (A × Rg)) : Res A := match o with
  | some (a, R) => .ok a R
  | none => .err
def cErr : SE := fun _ _ => .err
def cCon (d : D) : SE := fun _ R => .ok d R
def cVar (i : Nat) : SE := fun s R => match s[i]? with
  | some .undef => .err
  | some d => .ok d R
  | none => .err
def cNil : SA := fun _ R => .ok [] R
def cCons (a : SE) (r : SA) : SA := fun s R => (a s R).bind fun d R1 => (r s R1).bind fun ds R2 => .ok (d :: ds) R2
abbrev P1 := D → Rg → Option (D × Rg)
abbrev P2 := D → D → Rg → Option (D × Rg)
abbrev PN := List D → Rg → Option (D × Rg)
def cOp1 (p : P1) (a : SE) : SE := fun s R => (a s R).bind fun x R1 => lift (p x R1)
def cOp2 (p : P2) (a b : SE) : SE := fun s R => (a s R).bind fun x R1 => (b s R1).bind fun y R2 => lift (p x y R2)
def cOpN (p : PN) (a : SA) : SE := fun s R => (a s R).bind fun xs R1 => lift (p xs R1)
def cIf (c : SB) (a b : SE) : SE := fun s R => (c s R).bind fun k R1 => if k = true then a s R1 else b s R1
def cAnd (a b : SE) : SE := fun s R => (a s R).bind fun x R1 => match x with
  | .bl true => b s R1
  | .bl false => .ok (.bl false) R1
  | _ => .err
def cOr (a b : SE) : SE := fun s R => (a s R).bind fun x R1 => match x with
  | .bl true => .ok (.bl true) R1
  | .bl false => b s R1
  | _ => .err
def bVal (a : SE) : SB := fun s R => (a s R).bind fun x R1 => match truD R1 x with
  | some k => .ok k R1
  | none => .err
def bAnd (a b : SB) : SB := fun s R => (a s R).bind fun k R1 => if k = true then b s R1 else .ok false R1
def bOr (a b : SB) : SB := fun s R => (a s R).bind fun k R1 => if k = true then .ok true R1 else b s R1
def bNot (a : SB) : SB := fun s R => (a s R).bind fun k R1 => .ok (!k) R1
def cBool (a : SB) : SE := fun s R => (a s R).bind fun k R1 => .ok (.bl k) R1
/-! ### what is wanted behind -/
def exFld (c : Nat) : Str := if c = 17 then "row" else "at"
def RX (K : PySem.W.Frag) (bar : Addr → Prop) (io : Io) (H : Hp) (c : Nat) (f : D) (cls : Value) (d : Option Addr) : Prop :=
  cls = .ref (He.ga K (exN c)) ∧ ((f = .undef ∧ d = none) ∨ ∃ dx v, d = some dx ∧ H dx = some (.xd [(exFld c, v)]) ∧ RD K bar io H f v)
abbrev Rel (A Z : Type) := (Addr → Prop) → Io → Hp → A → Z → Prop
section
variable (K : PySem.W.Frag) (B : Addr → Prop) (io : Io) (H : Hp) (W : WX) (σ : S)
def Pst {A Z : Type} (rel : Rel A Z) (r : Res A) (Q : Z → Hp → Prop) : Prop := match r with
  | .ok a R' => ∀ io' H' b, Step io H io' H' → Rep K B io' R' H' → rel (bars B io') io' H' a b → Q b H'
  | .exc c f R' => ∀ io' H' cls d, Step io H io' H' → Rep K B io' R' H' → RX K (bars B io') io' H' c f cls d → W cls d σ H'
  | .err => False
end
/-- a state that is told -/
def Told (K : PySem.W.Frag) (W : WX) (σ : S) (H : Hp) {A Z : Type} (rel : Rel A Z) (vs : List V) (m : List D → List D → Rg → Res A) (Q : Z → Hp → Prop) : Prop :=
  ∃ B io R s ds, Rep K B io R H ∧ RS K (bars B io) io H s σ ∧ RDs K (bars B io) io H ds vs ∧ Pst K B io H W σ rel (m ds s R) Q
def tE (K : PySem.W.Frag) (W : WX) (m : SE) : TE := fun σ H Q => Told K W σ H (RD K) [] (fun _ => m) Q
def tB (K : PySem.W.Frag) (W : WX) (m : SB) : TT := fun σ H Q => Told K W σ H (fun _ _ _ a b => a = b) [] (fun _ => m) Q
def tA (K : PySem.W.Frag) (W : WX) (m : SA) : TA := fun σ H Q => Told K W σ H (RDs K) [] (fun _ => m) Q
/-- an operation by values, that raises nothing -/
def rN (K : PySem.W.Frag) (p : PN) (vs : List V) (H : Hp) (Q : VK) : Prop :=
  ∃ B io R ds, Rep K B io R H ∧ RDs K (bars B io) io H ds vs ∧ match p ds R with
    | some (d, R') => ∀ io' H' v, Step io H io' H' → Rep K B io' R' H' → RD K (bars B io') io' H' d v → Q v H'
    | none => False
def pn1 (p : P1) : PN := fun ds R => match ds with
  | [x] => p x R
  | _ => none
def pn2 (p : P2) : PN := fun ds R => match ds with
  | [x, y] => p x y R
  | _ => none
section
variable {K : PySem.W.Frag} {W : WX} {σ : S} {H : Hp} {A Z A' Z' : Type}
theorem Pst.shift {B : Addr → Prop} {io io1 : Io} {H1 : Hp} {rel : Rel A Z} {r : Res A} {Q : Z → Hp → Prop} (st : Step io H io1 H1) (h : Pst K B io H W σ rel r Q) : Pst K B io1 H1 W σ rel r Q := by
  cases r with
  | ok a R => exact fun io' H' b st' rep q => h io' H' b (st.trans st') rep q
  | exc c f R => exact fun io' H' cls d st' rep q => h io' H' cls d (st.trans st') rep q
  | err => exact h
theorem Pst.imp {B : Addr → Prop} {io : Io} {rel : Rel A Z} {r : Res A} {Q Q' : Z → Hp → Prop} (h : Pst K B io H W σ rel r Q) (hq : ∀ b H', Q b H' → Q' b H') : Pst K B io H W σ rel r Q' := by
  cases r with
  | ok a R => exact fun io' H' b st' rep q => hq _ _ (h io' H' b st' rep q)
  | exc c f R => exact h
  | err => exact h
theorem Pst.bind {B : Addr → Prop} {io : Io} {rel : Rel A Z} {rel' : Rel A' Z'} {r : Res A'} {f : A' → Rg → Res A} {Q : Z → Hp → Prop} (p : Pst K B io H W σ rel (r.bind f) Q) :
    Pst K B io H W σ rel' r fun b H1 => ∃ io1 R1 a, Step io H io1 H1 ∧ Rep K B io1 R1 H1 ∧ rel' (bars B io1) io1 H1 a b ∧ Pst K B io1 H1 W σ rel (f a R1) Q := by
  cases r with
  | ok a R => exact fun io1 H1 b st rep q => ⟨io1, R, a, st, rep, q, Pst.shift st p⟩
  | exc c f R => exact p
  | err => exact p
theorem RDs.append {bar : Addr → Prop} {io : Io} : ∀ {ds es : List D} {vs ws : List V}, RDs K bar io H ds vs → RDs K bar io H es ws → RDs K bar io H (ds ++ es) (vs ++ ws)
  | _, _, _, _, .nil, b => b
  | _, _, _, _, .cons r t, b => .cons r (RDs.append t b)
/-- one part is run; its value is held -/
theorem Told.eval {rel : Rel A Z} {vs : List V} {m : SE} {F : List D → List D → Rg → Res A} {Q : Z → Hp → Prop}
    (h : Told K W σ H rel vs (fun ds s R => (m s R).bind fun d R1 => F (ds ++ [d]) s R1) Q) : tE K W m σ H fun v H1 => Told K W σ H1 rel (vs ++ [v]) F Q := by
  obtain ⟨B, io, R, s, ds, rep, rs, rd, p⟩ := h
  refine ⟨B, io, R, s, [], rep, rs, .nil, (Pst.bind (rel' := RD K) p).imp fun v H1 ⟨io1, R1, d, st, rep1, q, p1⟩ => ?_⟩
  have c := st.car rep
  exact ⟨B, io1, R1, s, ds ++ [d], rep1, rs.car c, (rd.car c).append (.cons q .nil), p1⟩
theorem Told.evalB {rel : Rel A Z} {vs : List V} {m : SB} {F : Bool → List D → List D → Rg → Res A} {Q : Z → Hp → Prop}
    (h : Told K W σ H rel vs (fun ds s R => (m s R).bind fun k R1 => F k ds s R1) Q) : tB K W m σ H fun k H1 => Told K W σ H1 rel vs (F k) Q := by
  obtain ⟨B, io, R, s, ds, rep, rs, rd, p⟩ := h
  refine ⟨B, io, R, s, [], rep, rs, .nil, (Pst.bind (rel' := fun _ _ _ a b => a = b) p).imp fun v H1 ⟨io1, R1, d, st, rep1, q, p1⟩ => ?_⟩
  have c := st.car rep
  subst q
  exact ⟨B, io1, R1, s, ds, rep1, rs.car c, rd.car c, p1⟩
theorem Told.evalA {rel : Rel A Z} {vs : List V} {m : SA} {F : List D → List D → Rg → Res A} {Q : Z → Hp → Prop}
    (h : Told K W σ H rel vs (fun ds s R => (m s R).bind fun es R1 => F (ds ++ es) s R1) Q) : tA K W m σ H fun us H1 => Told K W σ H1 rel (vs ++ us) F Q := by
  obtain ⟨B, io, R, s, ds, rep, rs, rd, p⟩ := h
  refine ⟨B, io, R, s, [], rep, rs, .nil, (Pst.bind (rel' := RDs K) p).imp fun v H1 ⟨io1, R1, d, st, rep1, q, p1⟩ => ?_⟩
  have c := st.car rep
  exact ⟨B, io1, R1, s, ds ++ d, rep1, rs.car c, (rd.car c).append q, p1⟩
/-- the end: an operation -/
theorem Told.op {vs : List V} {p : PN} {Q : VK} (h : Told K W σ H (RD K) vs (fun ds _ R => lift (p ds R)) Q) : rN K p vs H Q := by
  obtain ⟨B, io, R, s, ds, rep, rs, rd, q⟩ := h
  have q : Pst K B io H W σ (RD K) (lift (p ds R)) Q := q
  refine ⟨B, io, R, ds, rep, rd, ?_⟩
  cases e : p ds R with
  | none =>
    rw [e] at q
    exact q
  | some x =>
    rw [e] at q
    exact q
theorem Told.imp {rel : Rel A Z} {vs : List V} {m : List D → List D → Rg → Res A} {Q Q' : Z → Hp → Prop} (h : Told K W σ H rel vs m Q) (hq : ∀ b H', Q b H' → Q' b H') : Told K W σ H rel vs m Q' := by
  obtain ⟨B, io, R, s, ds, rep, rs, rd, p⟩ := h
  exact ⟨B, io, R, s, ds, rep, rs, rd, p.imp hq⟩
end
section
variable {X : Cx} {W : WX} {e a b c : Expr} {pos : Pos} {ma mb mc : SE} {kb : SB}
theorem _root_.L2.PE.imp {t t' : TE} (h : PE X e t) (i : ∀ σ H Q, t' σ H Q → t σ H Q) : PE X e t' := ⟨fun pins s σ H Q I q => h.run pins s σ H Q I (i σ H Q q)⟩
theorem _root_.L2.PT.imp {t t' : TT} (h : PT X e t) (i : ∀ σ H Q, t' σ H Q → t σ H Q) : PT X e t' := ⟨fun pins s σ H Q I q => h.run pins s σ H Q I (i σ H Q q)⟩
theorem _root_.L2.PW.imp {t t' : TT} (h : PW X e t) (i : ∀ σ H Q, t' σ H Q → t σ H Q) : PW X e t' := ⟨fun whole pins s σ H Q I q => h.run whole pins s σ H Q I (i σ H Q q)⟩
theorem _root_.L2.PA.imp {es : List Expr} {t t' : TA} (h : PA X es t) (i : ∀ σ H Q, t' σ H Q → t σ H Q) : PA X es t' := ⟨fun pos pins s σ H Q I q => h.run pos pins s σ H Q I (i σ H Q q)⟩
theorem _root_.L2.PS.imp {st : Stmt} {t t' : TS} (h : PS X st t) (i : ∀ D σ H, t' D σ H → t D σ H) : PS X st t' := ⟨fun pins s σ H D I q => h.run pins s σ H D I (i D σ H q)⟩
theorem _root_.L2.PSs.imp {st : List Stmt} {t t' : TS} (h : PSs X st t) (i : ∀ D σ H, t' D σ H → t D σ H) : PSs X st t' := ⟨fun pins s σ H D I q => h.run pins s σ H D I (i D σ H q)⟩
theorem err_false {K : PySem.W.Frag} {σ : S} {H : Hp} {A Z : Type} {rel : Rel A Z} {vs : List V} {Q : Z → Hp → Prop} {m : List D → List D → Rg → Res A} (hm : ∀ ds s R, m ds s R = .err) (h : Told K W σ H rel vs m Q) : False := by
  obtain ⟨B, io, R, s, ds, _, _, _, p⟩ := h
  rw [hm] at p
  exact p
theorem se_err : PE X e (tE X.K W cErr) := ⟨fun _ _ _ _ _ _ h => (err_false (fun _ _ _ => rfl) h).elim⟩
theorem se_con {d : D} {v : V} (h : PE X e (tC v)) (r : ∀ bar io H, RD X.K bar io H d v) : PE X e (tE X.K W (cCon d)) := h.imp fun σ H Q q => by
  obtain ⟨B, io, R, s, ds, rep, rs, _, p⟩ := q
  exact p io H v (Step.refl _ _) rep (r _ _ _)
theorem se_var {i : Nat} (h : PE X e (tVar i)) : PE X e (tE X.K W (cVar i)) := h.imp fun σ H Q q => by
  obtain ⟨B, io, R, s, ds, rep, rs, _, p⟩ := q
  have p : Pst X.K B io H W σ (RD X.K) (cVar i s R) Q := p
  unfold cVar at p
  cases e : s[i]? with
  | none =>
    rw [e] at p
    exact p.elim
  | some d =>
    rw [e] at p
    obtain ⟨o, e1, q⟩ := rs.2 i d e
    rcases q with q | ⟨v, e2, q⟩
    · subst q
      exact p.elim
    · subst e2
      refine ⟨v, e1, ?_⟩
      have p2 : Pst X.K B io H W σ (RD X.K) (.ok d R) Q := by
        cases d with
        | undef => exact p.elim
        | _ => exact p
      exact p2 io H v (Step.refl _ _) rep q
theorem se_op2 {f : Value → Value → Sem Value} {p : P2} {mk : Expr} (hb : ∀ ta tb r, PE X a ta → PE X b tb → OpR X f r → PE X mk (tOp r ta tb)) (ho : OpR X f (fun x y H Q => rN X.K (pn2 p) [x, y] H Q))
    (h1 : PE X a (tE X.K W ma)) (h2 : PE X b (tE X.K W mb)) : PE X mk (tE X.K W (cOp2 p ma mb)) :=
  (hb _ _ _ h1 h2 ho).imp fun σ H Q q => by
    have q0 : tE X.K W (cOp2 p ma mb) σ H Q → Told X.K W σ H (RD X.K) [] (fun ds s R => (ma s R).bind fun x R1 => (mb s R1).bind fun y R2 => lift (pn2 p (ds ++ [x] ++ [y]) R2)) Q := by
      rintro ⟨B, io, R, s, ds, rep, rs, rd, t⟩
      cases rd
      exact ⟨B, io, R, s, [], rep, rs, .nil, t⟩
    have z := Told.eval (K := X.K) (W := W) (σ := σ) (H := H) (rel := RD X.K) (vs := []) (m := ma) (F := fun ds s R => (mb s R).bind fun y R2 => lift (pn2 p (ds ++ [y]) R2)) (Q := Q) (q0 q)
    exact z.imp fun v H1 t => (Told.eval (vs := [v]) (m := mb) (F := fun ds s R => lift (pn2 p ds R)) t).imp fun w H2 t => Told.op t
end
end Om
/-! Om, part D: == and < of data. -/
namespace Om
open PySem PySem.Spec PyProof.Rows L2
mutual
def toP : D → PyData
  | .int i => .int i
  | .str x => .str (strOf x)
  | .tup xs => .tuple (toPs xs)
  | .lst xs => .list (toPs xs)
  | _ => .none
def toPs : List D → List PyData
  | [] => []
  | x :: xs => toP x :: toPs xs
end
section
variable {K : PySem.W.Frag} {B : Addr → Prop} {io : Io} {R : Rg} {H : Hp}
mutual
theorem dp_pure {bar : Addr → Prop} : ∀ {d : D} {v : V} {m : Nat}, RD K bar io H d v → eqOk m d = true → Dp K H v (toP d)
  | _, _, _, .non, _ => .non
  | _, _, _, .int i, _ => .int i
  | _, _, _, .str x, _ => .str _
  | .tup xs, _, m + 1, .tup h r, e => .tup h (dp_pures r (show eqOks m xs = true by simpa [eqOk] using e))
  | .lst xs, _, m + 1, .lst h r, e => .lst h.sq (dp_pures r (show eqOks m xs = true by simpa [eqOk] using e))
  | _, _, 0, .tup h r, e => by simp [eqOk] at e
  | _, _, 0, .lst h r, e => by simp [eqOk] at e
  | _, _, m, .bl _, e => by cases m <;> simp [eqOk] at e
  | _, _, m, .byt _, e => by cases m <;> simp [eqOk] at e
  | _, _, m, .ty _, e => by cases m <;> simp [eqOk] at e
  | _, _, m, .glo _, e => by cases m <;> simp [eqOk] at e
  | _, _, m, .dct _ _ _, e => by cases m <;> simp [eqOk] at e
  | _, _, m, .ins _ _ _, e => by cases m <;> simp [eqOk] at e
  | _, _, m, .ref _ _, e => by cases m <;> simp [eqOk] at e
theorem dp_pures {bar : Addr → Prop} : ∀ {ds : List D} {vs : List V} {m : Nat}, RDs K bar io H ds vs → eqOks m ds = true → DpAll K H vs (toPs ds)
  | _, _, _, .nil, _ => .nil
  | x :: xs, _, m, .cons r t, e => by
    have e' : eqOk m x = true ∧ eqOks m xs = true := by simpa [eqOks] using e
    exact .cons (dp_pure r e'.1) (dp_pures t e'.2)
end
theorem dp_map {bar : Addr → Prop} {f : D → Option D} {m : Nat} (hf : ∀ d v a, f d = some a → RD K bar io H d v → eqOk m a = true → Dp K H v (toP a)) : ∀ {ds : List D} {vs : List V} {as : List D}, ds.mapM f = some as → RDs K bar io H ds vs → eqOks m as = true → DpAll K H vs (toPs as)
  | [], _, as, e, .nil, _ => by
    cases e
    exact .nil
  | d :: ds, _, as, e, .cons r t, k => by
    rw [List.mapM_cons] at e
    cases e1 : f d with
    | none =>
      rw [e1] at e
      cases e
    | some a =>
      rw [e1] at e
      cases e2 : ds.mapM f with
      | none =>
        rw [e2] at e
        cases e
      | some bs =>
        rw [e2] at e
        cases e
        have k' : eqOk m a = true ∧ eqOks m bs = true := by simpa [eqOks] using k
        exact .cons (hf d _ a e1 r k'.1) (dp_map hf e2 t k'.2)
theorem dp_snap (rep : Rep K B io R H) : ∀ (n : Nat) {d : D} {v : V} {a : D} {m : Nat}, snapN n R d = some a → RD K (bars B io) io H d v → eqOk m a = true → Dp K H v (toP a)
  | 0, d, v, a, m, e, r, k => by
    unfold snapN at e
    split at e
    · cases e
      exact dp_pure r k
    · cases e
  | n + 1, d, v, a, m, e, r, k => by
    unfold snapN at e
    split at e
    · cases e
      exact dp_pure r k
    · have no : ∀ (ks : List (D × D)), ¬ eqOk m (.dct ks) = true := fun ks z => by cases m <;> simp [eqOk] at z
      have no2 : ∀ (c : Nat) (ks : List (Nat × D)), ¬ eqOk m (.ins c ks) = true := fun c ks z => by cases m <;> simp [eqOk] at z
      have list : ∀ {xs : List D} {vs : List V} {b : Addr}, SqL K H b vs → RDs K (bars B io) io H xs vs → (xs.mapM (snapN n R)).map D.lst = some a → Dp K H (.ref b) (toP a) := fun {xs vs b} h r e => by
        obtain ⟨ys, e1, e2⟩ := Option.map_eq_some_iff.mp e
        subst e2
        cases m with
        | zero => simp [eqOk] at k
        | succ m => exact .lst h (dp_map (fun d v a e r k => dp_snap rep n e r k) e1 r (by simpa [eqOk] using k))
      cases r with
      | tup h r =>
        obtain ⟨ys, e1, e2⟩ := Option.map_eq_some_iff.mp e
        subst e2
        cases m with
        | zero => simp [eqOk] at k
        | succ m => exact .tup h (dp_map (fun d v a e r k => dp_snap rep n e r k) e1 r (by simpa [eqOk] using k))
      | lst h r => exact list h.sq r e
      | @ref i b hi q =>
        cases e1 : R[i]? with
        | none =>
          simp only [e1] at e
          cases e
        | some o =>
          simp only [e1] at e
          cases o with
          | lst xs =>
            obtain ⟨p, vs, h1, h2, r⟩ := rep.atLst e1
            rw [← q p h1]
            exact list (.inl (.inl h2)) r e
          | dct ks =>
            obtain ⟨ys, e1, e2⟩ := Option.map_eq_some_iff.mp e
            subst e2
            exact absurd k (no _)
          | ins c ks =>
            obtain ⟨ys, e1, e2⟩ := Option.map_eq_some_iff.mp e
            subst e2
            exact absurd k (no2 _ _)
          | dead => cases e
      | dct _ _ _ =>
        obtain ⟨ys, e1, e2⟩ := Option.map_eq_some_iff.mp e
        subst e2
        exact absurd k (no _)
      | ins _ _ _ =>
        obtain ⟨ys, e1, e2⟩ := Option.map_eq_some_iff.mp e
        subst e2
        exact absurd k (no2 _ _)
      | _ => cases e
end
mutual
theorem toP_eqv : ∀ {m n : Nat} {a b : D}, eqOk m a = true → eqOk n b = true → PyData.eqv (toP a) (toP b) = decide (a = b)
  | m, n, .non, b, h, k => by cases b <;> simp [toP, PyData.eqv] <;> (cases n <;> simp [eqOk] at k)
  | m, n, .int i, b, h, k => by
    cases b <;> simp [toP, PyData.eqv] <;> first
      | (cases n <;> simp [eqOk] at k; done)
      | exact Bool.beq_eq_decide_eq _ _
      | rfl
  | m, n, .str i, b, h, k => by
    cases b <;> simp [toP, PyData.eqv] <;> first
      | (cases n <;> simp [eqOk] at k; done)
      | skip
    rename_i x
    by_cases e : i = x
    · subst e
      simp
    · rw [decide_eq_false e]
      exact beq_eq_false_iff_ne.mpr fun z => e (strOf_inj z)
  | m, n, .tup xs, b, h, k => by
    cases m with
    | zero => simp [eqOk] at h
    | succ m =>
      cases b with
      | tup ys =>
        cases n with
        | zero => simp [eqOk] at k
        | succ n =>
          simp only [toP, PyData.eqv]
          rw [toPs_eqv (by simpa [eqOk] using h) (by simpa [eqOk] using k)]
          simp
      | _ => simp [toP, PyData.eqv]
  | m, n, .lst xs, b, h, k => by
    cases m with
    | zero => simp [eqOk] at h
    | succ m =>
      cases b with
      | lst ys =>
        cases n with
        | zero => simp [eqOk] at k
        | succ n =>
          simp only [toP, PyData.eqv]
          rw [toPs_eqv (by simpa [eqOk] using h) (by simpa [eqOk] using k)]
          simp
      | _ => simp [toP, PyData.eqv]
  | m, n, .undef, b, h, k => by cases m <;> simp [eqOk] at h
  | m, n, .bl _, b, h, k => by cases m <;> simp [eqOk] at h
  | m, n, .byt _, b, h, k => by cases m <;> simp [eqOk] at h
  | m, n, .ty _, b, h, k => by cases m <;> simp [eqOk] at h
  | m, n, .glo _, b, h, k => by cases m <;> simp [eqOk] at h
  | m, n, .dct _, b, h, k => by cases m <;> simp [eqOk] at h
  | m, n, .ins _ _, b, h, k => by cases m <;> simp [eqOk] at h
  | m, n, .ref _, b, h, k => by cases m <;> simp [eqOk] at h
theorem toPs_eqv : ∀ {m n : Nat} {a b : List D}, eqOks m a = true → eqOks n b = true → PyData.eqvAll (toPs a) (toPs b) = decide (a = b)
  | _, _, [], [], _, _ => by simp [toPs, PyData.eqvAll]
  | _, _, [], _ :: _, _, _ => by simp [toPs, PyData.eqvAll]
  | _, _, _ :: _, [], _, _ => by simp [toPs, PyData.eqvAll]
  | m, n, x :: xs, y :: ys, h, k => by
    have h' : eqOk m x = true ∧ eqOks m xs = true := by simpa [eqOks] using h
    have k' : eqOk n y = true ∧ eqOks n ys = true := by simpa [eqOks] using k
    simp only [toPs, PyData.eqvAll]
    rw [toP_eqv h'.1 k'.1, toPs_eqv h'.2 k'.2]
    simp
end
mutual
theorem toP_lay : ∀ {m : Nat} {a : D}, eqOk m a = true → (toP a).canLay0 = true ∧ (toP a).depth ≤ m
  | m, .non, h => by simp [toP, PyData.canLay0, PyData.depth]
  | m, .int i, h => by simp [toP, PyData.canLay0, PyData.depth]
  | m, .str x, h => by
    refine ⟨?_, by simp [toP, PyData.depth]⟩
    have h' : (x.all fun c => decide (c < 1114112)) = true := by
      cases m <;> simpa [eqOk] using h
    simp only [toP, PyData.canLay0, PyData.strOk, strOf]
    rw [← Array.all_toList]
    exact h'
  | 0, .tup xs, h => by simp [eqOk] at h
  | 0, .lst xs, h => by simp [eqOk] at h
  | m + 1, .tup xs, h => by
    have q := toPs_lay (m := m) (a := xs) (by simpa [eqOk] using h)
    simp only [toP, PyData.canLay0, PyData.depth]
    exact ⟨q.1, by omega⟩
  | m + 1, .lst xs, h => by
    have q := toPs_lay (m := m) (a := xs) (by simpa [eqOk] using h)
    simp only [toP, PyData.canLay0, PyData.depth]
    exact ⟨q.1, by omega⟩
  | m, .undef, h => by cases m <;> simp [eqOk] at h
  | m, .bl _, h => by cases m <;> simp [eqOk] at h
  | m, .byt _, h => by cases m <;> simp [eqOk] at h
  | m, .ty _, h => by cases m <;> simp [eqOk] at h
  | m, .glo _, h => by cases m <;> simp [eqOk] at h
  | m, .dct _, h => by cases m <;> simp [eqOk] at h
  | m, .ins _ _, h => by cases m <;> simp [eqOk] at h
  | m, .ref _, h => by cases m <;> simp [eqOk] at h
theorem toPs_lay : ∀ {m : Nat} {a : List D}, eqOks m a = true → PyData.canLayAll0 (toPs a) = true ∧ PyData.depthAll (toPs a) ≤ m
  | m, [], h => by simp [toPs, PyData.canLayAll0, PyData.depthAll]
  | m, x :: xs, h => by
    have h' : eqOk m x = true ∧ eqOks m xs = true := by simpa [eqOks] using h
    have q1 := toP_lay h'.1
    have q2 := toPs_lay h'.2
    simp only [toPs, PyData.canLayAll0, PyData.depthAll, q1.1, q2.1, Bool.and_self, true_and]
    omega
end
theorem toP_shaped {m : Nat} {a : D} (h : eqOk m a = true) (hm : m ≤ 64) : SeqAt.shaped (toP a) = true := by
  have q := toP_lay h
  unfold SeqAt.shaped
  rw [q.1, Bool.true_and]
  exact decide_eq_true (Nat.le_trans q.2 hm)
mutual
theorem toP_lt : ∀ {m n : Nat} {a b : D}, eqOk m a = true → eqOk n b = true → ltOk a b = true → PySem.W.alike (toP a) (toP b) = true ∧ PySem.W.dataLt (toP a) (toP b) = ltD a b
  | m, n, .int i, .int j, _, _, _ => ⟨by simp [toP, PySem.W.alike], by simp [toP, ltD, PySem.W.dataLt_int]⟩
  | m, n, .str x, .str y, _, _, _ => ⟨by simp [toP, PySem.W.alike], by simp [toP, ltD, PySem.W.dataLt_str, strOf]⟩
  | m, n, .tup xs, .tup ys, h, k, l => by
    cases m with
    | zero => simp [eqOk] at h
    | succ m =>
      cases n with
      | zero => simp [eqOk] at k
      | succ n =>
        have q := toPs_lt (m := m) (n := n) (a := xs) (b := ys) (by simpa [eqOk] using h) (by simpa [eqOk] using k) (by simpa [ltOk] using l)
        simp only [toP, PySem.W.alike, PySem.W.dataLt_tuple, ltD]
        exact q
  | m, n, .lst xs, .lst ys, h, k, l => by
    cases m with
    | zero => simp [eqOk] at h
    | succ m =>
      cases n with
      | zero => simp [eqOk] at k
      | succ n =>
        have q := toPs_lt (m := m) (n := n) (a := xs) (b := ys) (by simpa [eqOk] using h) (by simpa [eqOk] using k) (by simpa [ltOk] using l)
        simp only [toP, PySem.W.alike, PySem.W.dataLt_list, ltD]
        exact q
  | m, n, .non, b, h, k, l => by simp [ltOk] at l
  | m, n, .undef, b, h, k, l => by simp [ltOk] at l
  | m, n, .bl _, b, h, k, l => by simp [ltOk] at l
  | m, n, .byt _, b, h, k, l => by simp [ltOk] at l
  | m, n, .ty _, b, h, k, l => by simp [ltOk] at l
  | m, n, .glo _, b, h, k, l => by simp [ltOk] at l
  | m, n, .dct _, b, h, k, l => by simp [ltOk] at l
  | m, n, .ins _ _, b, h, k, l => by simp [ltOk] at l
  | m, n, .ref _, b, h, k, l => by simp [ltOk] at l
  | m, n, .int _, .non, h, k, l => by simp [ltOk] at l
  | m, n, .int _, .undef, h, k, l => by simp [ltOk] at l
  | m, n, .int _, .bl _, h, k, l => by simp [ltOk] at l
  | m, n, .int _, .str _, h, k, l => by simp [ltOk] at l
  | m, n, .int _, .byt _, h, k, l => by simp [ltOk] at l
  | m, n, .int _, .ty _, h, k, l => by simp [ltOk] at l
  | m, n, .int _, .glo _, h, k, l => by simp [ltOk] at l
  | m, n, .int _, .tup _, h, k, l => by simp [ltOk] at l
  | m, n, .int _, .lst _, h, k, l => by simp [ltOk] at l
  | m, n, .int _, .dct _, h, k, l => by simp [ltOk] at l
  | m, n, .int _, .ins _ _, h, k, l => by simp [ltOk] at l
  | m, n, .int _, .ref _, h, k, l => by simp [ltOk] at l
  | m, n, .str _, .non, h, k, l => by simp [ltOk] at l
  | m, n, .str _, .undef, h, k, l => by simp [ltOk] at l
  | m, n, .str _, .bl _, h, k, l => by simp [ltOk] at l
  | m, n, .str _, .int _, h, k, l => by simp [ltOk] at l
  | m, n, .str _, .byt _, h, k, l => by simp [ltOk] at l
  | m, n, .str _, .ty _, h, k, l => by simp [ltOk] at l
  | m, n, .str _, .glo _, h, k, l => by simp [ltOk] at l
  | m, n, .str _, .tup _, h, k, l => by simp [ltOk] at l
  | m, n, .str _, .lst _, h, k, l => by simp [ltOk] at l
  | m, n, .str _, .dct _, h, k, l => by simp [ltOk] at l
  | m, n, .str _, .ins _ _, h, k, l => by simp [ltOk] at l
  | m, n, .str _, .ref _, h, k, l => by simp [ltOk] at l
  | m, n, .tup _, .non, h, k, l => by simp [ltOk] at l
  | m, n, .tup _, .undef, h, k, l => by simp [ltOk] at l
  | m, n, .tup _, .bl _, h, k, l => by simp [ltOk] at l
  | m, n, .tup _, .int _, h, k, l => by simp [ltOk] at l
  | m, n, .tup _, .str _, h, k, l => by simp [ltOk] at l
  | m, n, .tup _, .byt _, h, k, l => by simp [ltOk] at l
  | m, n, .tup _, .ty _, h, k, l => by simp [ltOk] at l
  | m, n, .tup _, .glo _, h, k, l => by simp [ltOk] at l
  | m, n, .tup _, .lst _, h, k, l => by simp [ltOk] at l
  | m, n, .tup _, .dct _, h, k, l => by simp [ltOk] at l
  | m, n, .tup _, .ins _ _, h, k, l => by simp [ltOk] at l
  | m, n, .tup _, .ref _, h, k, l => by simp [ltOk] at l
  | m, n, .lst _, .non, h, k, l => by simp [ltOk] at l
  | m, n, .lst _, .undef, h, k, l => by simp [ltOk] at l
  | m, n, .lst _, .bl _, h, k, l => by simp [ltOk] at l
  | m, n, .lst _, .int _, h, k, l => by simp [ltOk] at l
  | m, n, .lst _, .str _, h, k, l => by simp [ltOk] at l
  | m, n, .lst _, .byt _, h, k, l => by simp [ltOk] at l
  | m, n, .lst _, .ty _, h, k, l => by simp [ltOk] at l
  | m, n, .lst _, .glo _, h, k, l => by simp [ltOk] at l
  | m, n, .lst _, .tup _, h, k, l => by simp [ltOk] at l
  | m, n, .lst _, .dct _, h, k, l => by simp [ltOk] at l
  | m, n, .lst _, .ins _ _, h, k, l => by simp [ltOk] at l
  | m, n, .lst _, .ref _, h, k, l => by simp [ltOk] at l
theorem toPs_lt : ∀ {m n : Nat} {a b : List D}, eqOks m a = true → eqOks n b = true → ltOks a b = true → PySem.W.alikeAll (toPs a) (toPs b) = true ∧ PyProof.Rows.lexLt itemOrd (PySem.W.keyToksAll (toPs a)) (PySem.W.keyToksAll (toPs b)) = ltDs a b
  | _, _, [], [], _, _, _ => ⟨by simp [toPs, PySem.W.alikeAll], by
    simp only [toPs, ltDs]
    exact PyProof.Rows.lex_irrefl _⟩
  | _, _, [], _ :: _, _, _, _ => ⟨by simp [toPs, PySem.W.alikeAll], by
    simp only [toPs, ltDs, PySem.W.keyToksAll]
    rfl⟩
  | _, _, _ :: _, [], _, _, _ => ⟨by simp [toPs, PySem.W.alikeAll], by
    simp only [toPs, ltDs, PySem.W.keyToksAll]
    rfl⟩
  | m, n, x :: xs, y :: ys, h, k, l => by
    have h' : eqOk m x = true ∧ eqOks m xs = true := by simpa [eqOks] using h
    have k' : eqOk n y = true ∧ eqOks n ys = true := by simpa [eqOks] using k
    have l' : ltOk x y = true ∧ ltOks xs ys = true := by simpa [ltOks] using l
    have q1 := toP_lt h'.1 k'.1 l'.1
    have q2 := toPs_lt h'.2 k'.2 l'.2
    refine ⟨by simp only [toPs, PySem.W.alikeAll, q1.1, q2.1, Bool.and_self], ?_⟩
    simp only [toPs, ltDs]
    rw [PySem.W.dataLt_cons q1.1, toP_eqv h'.1 k'.1, q2.2, q1.2]
    by_cases e : x = y <;> simp [e]
end
end Om
/-! Om, part E: operations by values. -/
namespace Om
open PySem PySem.Spec PyProof.Rows L2
/-! ### the functions -/
def addD (m : Bool) : P2 := fun x y R => match x, y with
  | .int i, .int j => some (.int (i + j), R)
  | .str a, .str b => if a.length + b.length ≤ LINE then some (.str (a ++ b), R) else none
  | .tup a, .tup b => if a.length + b.length ≤ LINE then some (.tup (a ++ b), R) else none
  | x, y => match lstOf R x, lstOf R y with
    | some a, some b => mkL m (a ++ b) R
    | _, _ => none
def subD : P2 := fun x y R => match x, y with
  | .int i, .int j => some (.int (i - j), R)
  | _, _ => none
def repOk (n : Nat) (k : Int) : Bool := decide (-(2 ^ 63) ≤ k ∧ k < 2 ^ 63 ∧ n * k.toNat ≤ LINE)
def mulD (m : Bool) : P2 := fun x y R => match x, y with
  | .int i, .int j => if mulOk i j = true then some (.int (i * j), R) else none
  | x, .int k => match lstOf R x with
    | some a => if repOk a.length k = true then mkL m (List.replicate k.toNat a).flatten R else none
    | none => none
  | _, _ => none
def divOk (j : Int) : Bool := decide (0 < j ∧ j.natAbs.log2 < 9000)
def fdivD : P2 := fun x y R => match x, y with
  | .int i, .int j => if divOk j = true then some (.int (i / j), R) else none
  | _, _ => none
def modD : P2 := fun x y R => match x, y with
  | .int i, .int j => if 0 < j then some (.int (i % j), R) else none
  | _, _ => none
def powD : P2 := fun x y R => match x, y with
  | .int i, .int j => if 0 ≤ j ∧ j ≤ 1000000 ∧ i.natAbs < 18446744073709551616 then some (.int (i ^ j.toNat), R) else none
  | _, _ => none
def negD : P1 := fun x R => match x with
  | .int i => some (.int (-i), R)
  | _ => none
def eqD' (neg : Bool) : P2 := fun x y R => match eqD R x y with
  | some b => some (.bl (b != neg), R)
  | none => none
def isD (neg : Bool) : P2 := fun x y R => match y, x with
  | .non, .undef => none
  | .non, .glo _ => none
  | .non, x => some (.bl (decide (x = .non) != neg), R)
  | _, _ => none
inductive LtOp where
  | lt | gt | le | ge
def ltR (o : LtOp) (a b : D) : Bool := match o with
  | .lt => ltD a b
  | .gt => ltD b a
  | .le => !ltD b a
  | .ge => !ltD a b
def ltD' (o : LtOp) : P2 := fun x y R => match snapD R x, snapD R y with
  | some a, some b => if eqOk 12 a = true ∧ eqOk 12 b = true ∧ ltOk a b = true ∧ ltOk b a = true then some (.bl (ltR o a b), R) else none
  | _, _ => none
section
variable {K : PySem.W.Frag} {H : Hp} {Q : VK}
theorem rN1 {p : P1} {x : V} (h : rN K (pn1 p) [x] H Q) : ∃ B io R dx d R', Rep K B io R H ∧ RD K (bars B io) io H dx x ∧ p dx R = some (d, R') ∧
    ∀ io' H' v, Step io H io' H' → Rep K B io' R' H' → RD K (bars B io') io' H' d v → Q v H' := by
  obtain ⟨B, io, R, ds, rep, rd, q⟩ := h
  obtain ⟨dx, ds, rfl, rx, rd⟩ := rd.cons_inv
  cases rd.nil_inv
  have q' : match p dx R with
    | some (d, R') => ∀ io' H' v, Step io H io' H' → Rep K B io' R' H' → RD K (bars B io') io' H' d v → Q v H'
    | none => False := q
  cases e : p dx R with
  | none =>
    rw [e] at q'
    exact q'.elim
  | some z =>
    rw [e] at q'
    exact ⟨B, io, R, dx, z.1, z.2, rep, rx, e, q'⟩
theorem rN2 {p : P2} {x y : V} (h : rN K (pn2 p) [x, y] H Q) : ∃ B io R dx dy d R', Rep K B io R H ∧ RD K (bars B io) io H dx x ∧ RD K (bars B io) io H dy y ∧ p dx dy R = some (d, R') ∧
    ∀ io' H' v, Step io H io' H' → Rep K B io' R' H' → RD K (bars B io') io' H' d v → Q v H' := by
  obtain ⟨B, io, R, ds, rep, rd, q⟩ := h
  obtain ⟨dx, ds, rfl, rx, rd⟩ := rd.cons_inv
  obtain ⟨dy, ds, rfl, ry, rd⟩ := rd.cons_inv
  cases rd.nil_inv
  have q' : match p dx dy R with
    | some (d, R') => ∀ io' H' v, Step io H io' H' → Rep K B io' R' H' → RD K (bars B io') io' H' d v → Q v H'
    | none => False := q
  cases e : p dx dy R with
  | none =>
    rw [e] at q'
    exact q'.elim
  | some z =>
    rw [e] at q'
    exact ⟨B, io, R, dx, dy, z.1, z.2, rep, rx, ry, e, q'⟩
end
section
variable {X : Cx}
/-- a list of the heap, tracked or locked, or of the module -/
theorem lst_raw {pins : List (Addr × Obj)} {σ : S} {H : Hp} {s : Shared} {l : Addr} {xs : List V} (I : Inv X pins σ H s) (h : SqL X.K H l xs) :
    xs.length ≤ sizeLine ∧ ∃ (its : List Value) (n : Nat) (sl : Array (Option Value)), Vals xs its ∧ s.heap.get? l = some { cls := .type "list", dict := none, data := .seq its.toArray n, slots := sl } := by
  obtain ⟨its, rv, ⟨⟨cls, dd, data, sl⟩, n, ho, hc, hd, hs⟩, hz⟩ := I.list h
  simp only at hc hd hs
  subst hc hd hs
  exact ⟨hz, its, n, sl, rv, ho⟩
theorem int_rmul_listW (a : Int) (t : Tok) (l : Addr) (items : Array Value) (n : Nat) (dd : Option Addr) (sl : Array (Option Value)) :
    Meets (Builtin.«int.__rmul__» ⟨[.int a t, .ref l], []⟩) (fun _ R s => s.heap.get? l = some { cls := .type "list", dict := dd, data := .seq items n, slots := sl } ∧ R (.ok (.ret Value.notImplemented)) s) :=
  .of_wp fun prog w A R s h => by obtain ⟨hp, g, d, tk, os⟩ := s; obtain ⟨hl, h⟩ := h; wp_walk using wpAny_loadPart' hl; exact ⟨_, rfl, h⟩
theorem list_mulW (l : Addr) (items : Array Value) (n : Nat) (dd : Option Addr) (sl : Array (Option Value)) (x : Int) (u : Tok) (hc0 : ¬(!Builtin.List.listFitsIndex x) = true) (hc1 : ¬items.size * x.toNat > (2 ^ 63 - 1) / 8) (hc2 : ¬Builtin.List.listTooLong (items.size * x.toNat) = true) :
    Meets (Builtin.«list.__mul__» ⟨[.ref l, .int x u], []⟩) (fun _ R s => s.heap.get? l = some { cls := .type "list", dict := dd, data := .seq items n, slots := sl } ∧ R (.ok (.ret (Value.ref s.heap.objs.size))) { s with heap := s.heap.push { cls := Value.type "list", data := Data.seq (List.foldl (fun x1 x2 => x1 ++ x2) #[] (List.replicate (if items.isEmpty = true then 0 else x.toNat) items)) }, toks := s.toks }) :=
  .of_wp fun prog w A R s h => by
    obtain ⟨hp, g, d, tk, os⟩ := s
    obtain ⟨hl, h⟩ := h
    have hsz := AutoListH.joined_fits hc2
    wp_walk using wpAny_loadPart' hl
    refine wpAny_ite_false (decide_eq_false (Nat.not_lt.mpr hsz)) ?_
    wp_walk using wpAny_loadPart' hl
    exact ⟨_, rfl, h⟩
theorem ok_add (m : Bool) : OpR X (binaryOp .Add) (fun x y H Q => rN X.K (pn2 (addD m)) [x, y] H Q) := by
  intro pins s σ H x y v u Q I rv ru h
  obtain ⟨B, io, R, dx, dy, d, R', rep, rx, ry, e, q⟩ := rN2 h
  unfold addD at e
  split at e
  · cases e
    cases rx
    cases ry
    exact op_add pins s σ H _ _ v u Q I rv ru ⟨_, _, rfl, rfl, q io H _ (Step.refl _ _) rep (.int _)⟩
  · split at e
    · rename_i hl
      cases e
      cases rx
      cases ry
      refine op_add_str pins s σ H _ _ v u Q I rv ru ⟨_, _, rfl, rfl, ?_, ?_⟩
      · rw [strOf_length, strOf_length]
        exact hl
      · rw [← strOf_append]
        exact q io H _ (Step.refl _ _) rep (.str _)
    · cases e
  · split at e
    · rename_i hl
      cases e
      cases rx with
      | tup h1 r1 =>
        cases ry with
        | tup h2 r2 =>
          refine op_catA pins s σ H _ _ v u Q I rv ru ⟨_, _, _, _, rfl, rfl, h1, h2, ?_, fun z => ?_, fun n z => ?_, fun n1 n2 p hp => ?_⟩
          · rw [← r1.len, ← r2.len]
            exact hl
          · subst z
            cases r1
            exact q io H _ (Step.refl _ _) rep (.tup h2 r2)
          · subst z
            cases r2
            rw [List.append_nil] at q
            exact q io H _ (Step.refl _ _) rep (.tup h1 r1)
          · obtain ⟨st, rep', r'⟩ := tup_ok rep hp (r1.append r2)
            exact q io _ _ st rep' r'
    · cases e
  · split at e
    · rename_i a b e1 e2
      obtain ⟨l, xs, rfl, h1, r1⟩ := rx.list rep e1
      obtain ⟨k, ys, rfl, h2, r2⟩ := ry.list rep e2
      cases rv
      cases ru
      obtain ⟨z1, its1, n1, sl1, v1, g1⟩ := lst_raw I h1
      obtain ⟨z2, its2, n2, sl2, v2, g2⟩ := lst_raw I h2
      have hl := mkL_len e
      rw [List.length_append, r1.len, r2.len] at hl
      have l1 := v1.length
      have l2 := v2.length
      refine concat_meets ⟨_, g1, rfl⟩ ⟨_, g2, rfl⟩ noFill_list_add seq_list_add PySem.F.slot_list_add PySem.F.entry_list_add (PySem.F.args_list_add_2 _ _) (list_addW l k its1.toArray its2.toArray n1 n2 none none sl1 sl2 (by simp; omega)) ⟨g1, g2, ?_⟩
      rw [List.append_toArray]
      obtain ⟨io', st, rep', r'⟩ := mkL_ok rep I.fresh (r1.append r2) e
      exact ⟨.ref _, _, I.lnew (t' := s.toks) (v1.append v2) (by rw [List.length_append]; exact hl), rfl, q io' _ _ st rep' r'⟩
    · cases e
theorem ok_sub : OpR X (binaryOp .Sub) (fun x y H Q => rN X.K (pn2 subD) [x, y] H Q) := by
  intro pins s σ H x y v u Q I rv ru h
  obtain ⟨B, io, R, dx, dy, d, R', rep, rx, ry, e, q⟩ := rN2 h
  unfold subD at e
  split at e
  · cases e
    cases rx
    cases ry
    exact op_sub pins s σ H _ _ v u Q I rv ru ⟨_, _, rfl, rfl, q io H _ (Step.refl _ _) rep (.int _)⟩
  · cases e
theorem divOk_ok (i : Int) {j : Int} (h : divOk j = true) : CDivW i j := by
  unfold divOk at h
  have h2 := of_decide_eq_true h
  exact h2
theorem ok_fdiv : OpR X (binaryOp .FloorDiv) (fun x y H Q => rN X.K (pn2 fdivD) [x, y] H Q) := by
  intro pins s σ H x y v u Q I rv ru h
  obtain ⟨B, io, R, dx, dy, d, R', rep, rx, ry, e, q⟩ := rN2 h
  unfold fdivD at e
  split at e
  · split at e
    · rename_i hd
      cases e
      cases rx
      cases ry
      exact op_fdivW pins s σ H _ _ v u Q I rv ru ⟨_, _, rfl, rfl, divOk_ok _ hd, q io H _ (Step.refl _ _) rep (.int _)⟩
    · cases e
  · cases e
theorem ok_mod : OpR X (binaryOp .Mod) (fun x y H Q => rN X.K (pn2 modD) [x, y] H Q) := by
  intro pins s σ H x y v u Q I rv ru h
  obtain ⟨B, io, R, dx, dy, d, R', rep, rx, ry, e, q⟩ := rN2 h
  unfold modD at e
  split at e
  · split at e
    · rename_i hd
      cases e
      cases rx
      cases ry
      exact op_mod pins s σ H _ _ v u Q I rv ru ⟨_, _, rfl, rfl, hd, q io H _ (Step.refl _ _) rep (.int _)⟩
    · cases e
  · cases e
theorem ok_pow : OpR X (binaryOp .Pow) (fun x y H Q => rN X.K (pn2 powD) [x, y] H Q) := by
  intro pins s σ H x y v u Q I rv ru h
  obtain ⟨B, io, R, dx, dy, d, R', rep, rx, ry, e, q⟩ := rN2 h
  unfold powD at e
  split at e
  · split at e
    · rename_i hd
      cases e
      cases rx
      cases ry
      exact op_pow pins s σ H _ _ v u Q I rv ru ⟨_, _, rfl, rfl, hd, q io H _ (Step.refl _ _) rep (.int _)⟩
    · cases e
  · cases e
theorem ok_neg : UnR X (unaryOp .USub) (fun x H Q => rN X.K (pn1 negD) [x] H Q) := by
  intro pins s σ H x v Q I rv h
  obtain ⟨B, io, R, dx, d, R', rep, rx, e, q⟩ := rN1 h
  unfold negD at e
  split at e
  · cases e
    cases rx
    exact un_neg pins s σ H _ v Q I rv ⟨_, rfl, q io H _ (Step.refl _ _) rep (.int _)⟩
  · cases e
theorem mulOk_ok {i j : Int} (h : mulOk i j = true) : CMul i j ∨ CMulW i j := by
  unfold mulOk smallI at h
  simp only [Bool.or_eq_true, decide_eq_true_eq] at h
  rcases h with (h | h) | h
  · exact .inl (.inr ⟨by omega, by omega⟩)
  · exact .inl (.inl ⟨by omega, by omega⟩)
  · exact .inr h
theorem vals_rep {xs : List V} {its : List Value} (v : Vals xs its) : ∀ k : Nat, Vals (List.replicate k xs).flatten (List.replicate k its).flatten
  | 0 => .nil
  | k + 1 => by
    rw [List.replicate_succ, List.replicate_succ, List.flatten_cons, List.flatten_cons]
    exact v.append (vals_rep v k)
theorem rds_rep {K : PySem.W.Frag} {bar : Addr → Prop} {io : Io} {H : Hp} {ds : List D} {vs : List V} (r : RDs K bar io H ds vs) : ∀ k : Nat, RDs K bar io H (List.replicate k ds).flatten (List.replicate k vs).flatten
  | 0 => .nil
  | k + 1 => by
    rw [List.replicate_succ, List.replicate_succ, List.flatten_cons, List.flatten_cons]
    exact r.append (rds_rep r k)
theorem op_repR {H : Hp} : ∀ (pins : List (Addr × Obj)) (s : Shared) (σ : S) (l : Addr) (k : Int) (v u : Value) (xs : List V) (Q : VK), Inv X pins σ H s → RelV (.ref l) v → RelV (.int k) u → SqL X.K H l xs → -(2 ^ 63) ≤ k → k < 2 ^ 63 → xs.length * k.toNat ≤ sizeLine →
    (∀ p, H p = none → Q (.ref p) (upd H p (.lst (List.replicate k.toNat xs).flatten))) → wpAny (model X.prog X.w) X.A (binaryOp .Mult v u) (EP X pins σ Q) X.xe s := by
  intro pins s σ l k v u xs Q I rv ru h h1 h2 hz q
  · cases rv
    obtain ⟨t, rfl⟩ := ru
    obtain ⟨z, its, n, sl, vl, e⟩ := lst_raw I h
    have hlen : its.toArray.size * k.toNat ≤ sizeLine := by
      rw [List.size_toArray, ← vl.length]
      exact hz
    have hcap : ¬ its.toArray.size * k.toNat > (2 ^ 63 - 1) / 8 := by
      have hs : (sizeLine : Nat) ≤ (2 ^ 63 - 1) / 8 := by decide
      omega
    have hfit : ¬ (!Builtin.List.listFitsIndex k) = true := by
      rw [fitsIndex_both h1 h2]
      decide
    have hlong : ¬ Builtin.List.listTooLong (its.toArray.size * k.toNat) = true := by
      rw [notLongL hlen]
      decide
    have hnew : List.foldl (fun x1 x2 => x1 ++ x2) #[] (List.replicate (if its.toArray.isEmpty = true then 0 else k.toNat) its.toArray) = (List.replicate k.toNat its).flatten.toArray := by
      have f0 : ∀ c : Nat, List.foldl (fun x1 x2 => x1 ++ x2) #[] (List.replicate c its.toArray) = (List.replicate c its).flatten.toArray := fun c => by
        have z := foldl_rep its c []
        rwa [List.nil_append] at z
      rw [f0]
      cases its with
      | nil => simp
      | cons a r => rw [if_neg (by simp)]
    refine wpAny_binaryOp_repeat_ref (T := "list") (U := "int") (by decide) ⟨_, e, rfl⟩ (fun s' => typeIs_int s' k t) noFill_list_mul F.fills_int_mul F.slot_int_rmul repeat_list F.slot_int_index.lookup ?_
    refine call_meets F.slot_int_rmul (typeIs_int s k t) F.entry_int_rmul (F.args_int_rmul_2 _ _) (int_rmul_listW k t l its.toArray n none sl) ⟨e, rfl, ⟨_, e, rfl⟩, ?_⟩
    refine call_meets F.slot_list_mul ⟨_, e, rfl⟩ F.entry_list_mul (F.args_list_mul_2 _ _) (list_mulW l its.toArray n none sl k t hfit hcap hlong) ⟨e, ?_⟩
    rw [hnew]
    refine ⟨.ref _, _, I.lnew (t' := s.toks) (vals_rep vl k.toNat) ?_, rfl, q _ I.fresh⟩
    rw [PyProof.Rows.lm_len_rep_flat, Nat.mul_comm]
    exact hz
theorem ok_mul (m : Bool) : OpR X (binaryOp .Mult) (fun x y H Q => rN X.K (pn2 (mulD m)) [x, y] H Q) := by
  intro pins s σ H x y v u Q I rv ru h
  obtain ⟨B, io, R, dx, dy, d, R', rep, rx, ry, e, q⟩ := rN2 h
  unfold mulD at e
  split at e
  · split at e
    · rename_i hd
      cases e
      cases rx
      cases ry
      rcases mulOk_ok hd with hm | hm
      · exact op_mul pins s σ H _ _ v u Q I rv ru ⟨_, _, rfl, rfl, hm, q io H _ (Step.refl _ _) rep (.int _)⟩
      · exact op_mulW pins s σ H _ _ v u Q I rv ru ⟨_, _, rfl, rfl, hm, q io H _ (Step.refl _ _) rep (.int _)⟩
    · cases e
  · split at e
    · rename_i a e1
      split at e
      · rename_i hk
        obtain ⟨l, xs, rfl, h1, r1⟩ := rx.list rep e1
        cases ry
        obtain ⟨k1, k2, k3⟩ := of_decide_eq_true hk
        rw [r1.len] at k3
        refine op_repR pins s σ l _ v u xs Q I rv ru h1 k1 k2 k3 fun p hp => ?_
        obtain ⟨io', st, rep', r'⟩ := mkL_ok rep hp (rds_rep r1 _) e
        exact q io' _ _ st rep' r'
      · cases e
    · cases e
  · cases e
/-! ### comparisons -/
theorem eq_core {H : Hp} {pins : List (Addr × Obj)} {s : Shared} {σ : S} {x y : V} {v u : Value} {B : Addr → Prop} {io : Io} {R : Rg} {dx dy a b : D} (I : Inv X pins σ H s) (rv : RelV x v) (ru : RelV y u) (rep : Rep X.K B io R H)
    (rx : RD X.K (bars B io) io H dx x) (ry : RD X.K (bars B io) io H dy y) (e1 : snapD R dx = some a) (e2 : snapD R dy = some b) : eqOk 12 a = true → eqOk 12 b = true → 
    (∃ as, Reads s.heap v (toP a) as) ∧ (∃ as, Reads s.heap u (toP b) as) := fun k1 k2 =>
  ⟨Dp.reads I _ _ _ (dp_snap rep _ e1 rx k1) rv, Dp.reads I _ _ _ (dp_snap rep _ e2 ry k2) ru⟩
theorem ok_eq (hu : X.A.units + 64 < cLine) (neg : Bool) : OpR X (compareOp (if neg = true then .NotEq else .Eq)) (fun x y H Q => rN X.K (pn2 (eqD' neg)) [x, y] H Q) := by
  intro pins s σ H x y v u Q I rv ru h
  obtain ⟨B, io, R, dx, dy, d, R', rep, rx, ry, e, q⟩ := rN2 h
  have scalar : ∀ z : Bool, eqD R dx dy = some z → scal x y = true → decide (x = y) = z → wpAny (model X.prog X.w) X.A (compareOp (if neg = true then .NotEq else .Eq) v u) (EP X pins σ Q) X.xe s := fun z e1 sc ez => by
    unfold eqD' at e
    rw [e1] at e
    cases e
    cases neg with
    | false => exact op_eq pins s σ H x y v u Q I rv ru ⟨sc, by
        rw [ez]
        have := q io H _ (Step.refl _ _) rep (.bl _)
        simpa using this⟩
    | true => exact op_ne pins s σ H x y v u Q I rv ru ⟨sc, by
        rw [ez]
        have := q io H _ (Step.refl _ _) rep (.bl _)
        simpa using this⟩
  have e0 := e
  unfold eqD' at e0
  split at e0
  · rename_i z ez
    have ez0 := ez
    unfold eqD at ez
    split at ez
    · cases ez
      cases rx
      cases ry
      exact scalar _ ez0 rfl (by simp)
    · cases ez
      cases rx
      cases ry
      exact scalar _ ez0 rfl (by simp)
    · cases ez
      cases rx
      cases ry
      exact scalar _ ez0 rfl (by simp)
    · cases ez
      cases rx
      cases ry
      exact scalar _ ez0 rfl (by simp)
    · cases ez
      cases rx
      cases ry
      exact scalar _ ez0 rfl (by simp)
    · split at ez
      · rename_i a b e1 e2
        split at ez
        · rename_i k
          cases ez
          unfold eqD' at e
          rw [ez0] at e
          cases e
          obtain ⟨⟨as, r1⟩, bs, r2⟩ := eq_core I rv ru rep rx ry e1 e2 k.1 k.2
          have s1 := toP_shaped k.1 (by decide)
          have s2 := toP_shaped k.2 (by decide)
          have ev := toP_eqv k.1 k.2
          have fin := q io H _ (Step.refl _ _) rep (.bl _)
          cases neg with
          | false => exact SeqAt.compareEq_shaped r1 r2 s1 s2 hu ⟨.bl _, H, I, rfl, by rw [ev]; simpa using fin⟩
          | true => exact SeqAt.compareNe_shaped r1 r2 s1 s2 hu ⟨.bl _, H, I, rfl, by rw [ev]; simpa using fin⟩
        · cases ez
      · cases ez
  · cases e0
theorem ok_is (neg : Bool) : OpR X (compareOp (if neg = true then .IsNot else .Is)) (fun x y H Q => rN X.K (pn2 (isD neg)) [x, y] H Q) := by
  intro pins s σ H x y v u Q I rv ru h
  obtain ⟨B, io, R, dx, dy, d, R', rep, rx, ry, e, q⟩ := rN2 h
  have core : dy = .non → dx ≠ .undef → d = .bl (decide (dx = .non) != neg) → R' = R → wpAny (model X.prog X.w) X.A (compareOp (if neg = true then .IsNot else .Is) v u) (EP X pins σ Q) X.xe s := fun e1 e2 e3 e4 => by
    subst e1 e3 e4
    cases ry
    have ex : decide (x = .non) = decide (dx = .non) := by cases rx <;> simp
    have fin := q io H _ (Step.refl _ _) rep (.bl _)
    cases neg with
    | false => exact op_isN pins s σ H x _ v u Q I rv ru ⟨rfl, by rw [ex]; simpa using fin⟩
    | true => exact op_notN pins s σ H x _ v u Q I rv ru ⟨rfl, by rw [ex]; simpa using fin⟩
  unfold isD at e
  split at e
  · cases e
  · cases e
  · rename_i h1 h2
    cases e
    exact core rfl (fun z => h1 z) rfl rfl
  · cases e
theorem ok_lt (hu : X.A.units + 64 < cLine) (o : LtOp) : OpR X (compareOp (match o with | .lt => .Lt | .gt => .Gt | .le => .LtE | .ge => .GtE)) (fun x y H Q => rN X.K (pn2 (ltD' o)) [x, y] H Q) := by
  intro pins s σ H x y v u Q I rv ru h
  obtain ⟨B, io, R, dx, dy, d, R', rep, rx, ry, e, q⟩ := rN2 h
  unfold ltD' at e
  split at e
  · rename_i a b e1 e2
    split at e
    · rename_i k
      cases e
      obtain ⟨k1, k2, k3, k4⟩ := k
      obtain ⟨⟨as, r1⟩, bs, r2⟩ := eq_core I rv ru rep rx ry e1 e2 k1 k2
      obtain ⟨a1, l1⟩ := toP_lt k1 k2 k3
      obtain ⟨a2, l2⟩ := toP_lt k2 k1 k4
      have dp : X.A.units + min (toP a).depth (toP b).depth < cLine := by
        have := (toP_lay k1).2
        omega
      have nn : toP a ≠ .none := by
        cases a <;> simp [toP] <;> simp [ltOk] at k3
      have fin := q io H _ (Step.refl _ _) rep (.bl _)
      cases o with
      | lt => exact PySem.W.lt_data r1 r2 a1 nn dp ⟨.bl _, H, I, rfl, by rw [l1]; exact fin⟩
      | gt => exact PySem.W.gt_data r1 r2 a1 nn dp ⟨.bl _, H, I, rfl, by rw [l2]; exact fin⟩
      | le => exact PySem.W.le_data r1 r2 a1 nn dp ⟨.bl _, H, I, rfl, by rw [l2]; exact fin⟩
      | ge => exact PySem.W.ge_data r1 r2 a1 nn dp ⟨.bl _, H, I, rfl, by rw [l1]; exact fin⟩
    · cases e
  · cases e
end
end Om
/-! Om, part F: subscripts, dicts, calls of what is built in. -/
namespace Om
open PySem PySem.Spec PyProof.Rows L2
/-! ### dicts by keys -/
def keyOk (d : D) : Bool := match d with
  | .int _ => true
  | .str _ => true
  | _ => false
def lookD (ks : List (D × D)) (k : D) : Option D := match ks with
  | [] => none
  | p :: r => if p.1 = k then some p.2 else lookD r k
def hasD (ks : List (D × D)) (k : D) : Bool := (lookD ks k).isSome
def setK (ks : List (D × D)) (k v : D) : List (D × D) := match ks with
  | [] => [(k, v)]
  | p :: r => if p.1 = k then (p.1, v) :: r else p :: setK r k v
def delK (ks : List (D × D)) (k : D) : List (D × D) := ks.filter fun p => decide (p.1 ≠ k)
theorem keyV_inj {a b : D} {q : Key} (h : keyV a = some q) (k : keyV b = some q) : a = b := by
  cases a <;> simp [keyV] at h <;> cases b <;> simp [keyV] at k
  · subst h
    rw [Sum.inl.inj k]
  · subst h
    cases k
  · subst h
    cases k
  · subst h
    rw [strOf_inj (Sum.inr.inj k)]
section
variable {K : PySem.W.Frag} {bar : Addr → Prop} {io : Io} {H : Hp}
theorem key_rd {d : D} {v : V} {q : Key} (r : RD K bar io H d v) (k : keyV d = some q) : v = kV q := by
  cases r <;> simp [keyV] at k <;> subst k <;> rfl
theorem key_of {d : D} (h : keyOk d = true) : ∃ q, keyV d = some q := by
  cases d <;> simp [keyOk] at h <;> exact ⟨_, rfl⟩
theorem look_rd {k : D} {q : Key} (hk : keyV k = some q) : ∀ {ks : List (D × D)} {kvs : List (Key × V)}, RKs K bar io H ks kvs → match lookD ks k with
    | some d => ∃ v, valV kvs q = some v ∧ RD K bar io H d v
    | none => valV kvs q = none
  | _, _, .nil => rfl
  | (a, d) :: ks, (b, v) :: kvs, .cons ha r t => by
    have ih := look_rd hk t
    unfold lookD
    by_cases e : a = k
    · subst e
      rw [ha] at hk
      cases hk
      rw [if_pos rfl]
      exact ⟨v, valV_pos rfl, r⟩
    · have ne : ¬ b = q := fun z => e (keyV_inj (by rw [ha, z]) hk)
      rw [if_neg e, valV_neg ne]
      exact ih
theorem noKey {k : D} {q : Key} (hk : keyV k = some q) {ks : List (D × D)} {kvs : List (Key × V)} (r : RKs K bar io H ks kvs) : (kvs.any fun kv => decide (kv.1 = q)) = hasD ks k := by
  have h := look_rd hk r
  rw [valV_any]
  unfold hasD
  cases e : lookD ks k with
  | none =>
    rw [e] at h
    rw [h]
    rfl
  | some d =>
    rw [e] at h
    obtain ⟨v, h, _⟩ := h
    rw [h]
    rfl
theorem map_no {q : Key} {v : V} : ∀ {kvs : List (Key × V)}, (kvs.any fun kv => decide (kv.1 = q)) = false → (kvs.map fun kv => if kv.1 = q then (kv.1, v) else kv) = kvs
  | [], _ => rfl
  | p :: r, h => by
    have h' : ¬ p.1 = q ∧ (r.any fun kv => decide (kv.1 = q)) = false := by simpa using h
    rw [List.map_cons, if_neg h'.1, map_no h'.2]
theorem putK_cons {p : Key × V} {r : List (Key × V)} {q : Key} {v : V} (hn : ((p :: r).map (·.1)).Nodup) : putK (p :: r) q v = if p.1 = q then (p.1, v) :: r else p :: putK r q v := by
  unfold putK
  by_cases e : p.1 = q
  · rw [if_pos e, if_pos (by simp [e]), List.map_cons, if_pos e]
    congr 1
    refine map_no ?_
    have this : p.1 ∉ r.map (·.1) := (List.nodup_cons.mp hn).1
    rw [e] at this
    rw [List.any_eq_false]
    intro x hx z
    exact this (List.mem_map.mpr ⟨x, hx, of_decide_eq_true z⟩)
  · rw [if_neg e, List.any_cons, decide_eq_false e, Bool.false_or]
    by_cases h : (r.any fun kv => decide (kv.1 = q)) = true
    · rw [if_pos h, if_pos h, List.map_cons, if_neg e]
    · rw [if_neg h, if_neg h, List.cons_append]
theorem set_rd {k d : D} {q : Key} {v : V} (hk : keyV k = some q) (rv : RD K bar io H d v) : ∀ {ks : List (D × D)} {kvs : List (Key × V)}, (kvs.map (·.1)).Nodup → RKs K bar io H ks kvs → RKs K bar io H (setK ks k d) (putK kvs q v)
  | _, _, _, .nil => .cons hk rv .nil
  | (a, x) :: ks, (b, w) :: kvs, hn, .cons ha r t => by
    rw [putK_cons hn]
    unfold setK
    by_cases e : a = k
    · subst e
      have e2 : b = q := by
        rw [ha] at hk
        exact Option.some.inj hk
      rw [if_pos rfl, if_pos e2]
      exact .cons ha rv t
    · have ne : ¬ b = q := fun z => e (keyV_inj (by rw [ha, z]) hk)
      rw [if_neg e, if_neg ne]
      exact .cons ha r (set_rd hk rv (List.nodup_cons.mp hn).2 t)
theorem del_rd {k : D} {q : Key} (hk : keyV k = some q) : ∀ {ks : List (D × D)} {kvs : List (Key × V)}, RKs K bar io H ks kvs → RKs K bar io H (delK ks k) (dropK kvs q)
  | _, _, .nil => .nil
  | (a, x) :: ks, (b, w) :: kvs, .cons ha r t => by
    have ih := del_rd hk t
    unfold delK dropK at *
    rw [List.filter_cons, List.filter_cons]
    by_cases e : a = k
    · subst e
      have e2 : b = q := by
        rw [ha] at hk
        exact Option.some.inj hk
      rw [if_neg (by simp), if_neg (by simp [e2])]
      exact ih
    · have ne : ¬ b = q := fun z => e (keyV_inj (by rw [ha, z]) hk)
      rw [if_pos (by simpa using e), if_pos (by simpa using ne)]
      exact .cons ha r ih
theorem keys_rd : ∀ {ks : List (D × D)} {kvs : List (Key × V)}, RKs K bar io H ks kvs → RDs K bar io H (ks.map (·.1)) (kvs.map fun kv => kV kv.1)
  | _, _, .nil => .nil
  | (a, x) :: ks, (b, w) :: kvs, .cons ha r t => by
    refine .cons ?_ (keys_rd t)
    show RD K bar io H a (kV b)
    unfold keyV at ha
    split at ha
    · cases ha
      exact .int _
    · cases ha
      exact .str _
    · cases ha
end
/-- the keys of a dict that stands are apart -/
theorem dk_nodup {X : Cx} {pins : List (Addr × Obj)} {σ : S} {H : Hp} {s : Shared} {a : Addr} {kvs : List (Key × V)} (I : Inv X pins σ H s) (h : Rd H a (.dK kvs)) : (kvs.map (·.1)).Nodup := by
  obtain ⟨_, _, vs, rel, dd⟩ := dk_rd I.hok h
  rw [KV.keys rel]
  obtain ⟨_, _, _, _, _, _, _, _, h⟩ := dd
  exact h
/-! ### places in lists, tuples, texts -/
def ixD : P2 := fun x y R => match x, y with
  | .str x, .int i => match (if x.length ≤ LINE then atI x i else none) with
    | some c => some (.str [c], R)
    | none => none
  | x, y => match dctOf R x with
    | some ks => if keyOk y = true then (lookD ks y).map fun d => (d, R) else none
    | none => match seqOf R x, y with
      | some xs, .int i => (atI xs i).map fun d => (d, R)
      | _, _ => none
theorem atI_rd {K : PySem.W.Frag} {bar : Addr → Prop} {io : Io} {H : Hp} {ds : List D} {vs : List V} {i : Int} {d : D} (r : RDs K bar io H ds vs) (h : atI ds i = some d) : ∃ v, atI vs i = some v ∧ RD K bar io H d v := by
  unfold atI at *
  rw [← r.len]
  cases e : ixN ds.length i with
  | none =>
    rw [e] at h
    cases h
  | some j =>
    rw [e] at h
    have h' : ds[j]? = some d := h
    show ∃ v, vs[j]? = some v ∧ _
    clear h e
    induction j generalizing ds vs with
    | zero =>
      cases r with
      | nil => cases h'
      | cons r t =>
        have e : _ = d := Option.some.inj h'
        subst e
        exact ⟨_, rfl, r⟩
    | succ j ih =>
      cases r with
      | nil => cases h'
      | cons r t => exact ih t h'
section
variable {X : Cx}
theorem ok_ix (hu : X.A.units + 1 < cLine) : IxR X (fun x y H Q => rN X.K (pn2 ixD) [x, y] H Q) := by
  intro value slice pins s σ H x y v u Q I rv ru h hs
  obtain ⟨B, io, R, dx, dy, d, R', rep, rx, ry, e, q⟩ := rN2 h
  unfold ixD at e
  split at e
  · rename_i z i
    split at e
    · rename_i c ec
      cases e
      split at ec
      · rename_i hl
        cases rx
        cases ry
        refine ix_str value slice pins s σ H _ _ v u Q I rv ru ⟨_, _, c, rfl, rfl, ?_, ?_, q io H _ (Step.refl _ _) rep (.str [c])⟩ hs
        · rw [strOf_length]
          exact hl
        · exact ec
      · cases ec
    · cases e
  · split at e
    · rename_i ks ek
      split at e
      · rename_i hk
        obtain ⟨a, kvs, rfl, hd, rk⟩ := rx.dict rep ek
        obtain ⟨k, ek⟩ := key_of hk
        have ey := key_rd ry ek
        subst ey
        have lk := look_rd ek rk
        cases el : lookD ks dy with
        | none =>
          rw [el] at e
          cases e
        | some w =>
          rw [el] at e lk
          cases e
          obtain ⟨w', e1, rw'⟩ := lk
          obtain rfl : v = Value.ref a := rv
          have g : DGet H a (kV k) (some w') := .inl ⟨kvs, k, hd, rfl, e1.symm⟩
          exact tail_any (dict_typeIs I g) PySem.F.slot_dict_getitem.lookup (d_getItem hu I g ru fun w2 s3 I3 r3 => ⟨w', H, I3, r3, q io H _ (Step.refl _ _) rep rw'⟩) hs
      · cases e
    · split at e
      · rename_i xs i es _
        obtain ⟨a, vs, rfl, hq, rs⟩ := rx.seq rep es
        cases ry
        obtain ⟨d0, e1, e2⟩ := Option.map_eq_some_iff.mp e
        cases e2
        obtain ⟨w, e3, rw'⟩ := atI_rd rs e1
        have fin := q io H _ (Step.refl _ _) rep rw'
        rcases hq with hq | hq
        · exact ix_list value slice pins s σ H _ _ v u Q I rv ru ⟨a, vs, _, w, rfl, rfl, hq, e3, fin⟩ hs
        · exact ix_tup value slice pins s σ H _ _ v u Q I rv ru ⟨a, vs, _, w, rfl, rfl, hq, e3, fin⟩ hs
      · cases e
/-! ### in -/
def inD (neg : Bool) : P2 := fun x y R => match dctOf R y with
  | some ks => if keyOk x = true then some (.bl (hasD ks x != neg), R) else none
  | none => match snapD R x, snapD R y with
    | some a, some (.lst ys) => if eqOk 12 a = true ∧ eqOk 12 (.lst ys) = true then some (.bl (decide (a ∈ ys) != neg), R) else none
    | some a, some (.tup ys) => if eqOk 12 a = true ∧ eqOk 12 (.tup ys) = true then some (.bl (decide (a ∈ ys) != neg), R) else none
    | _, _ => none
def rInT (K : PySem.W.Frag) : R2 := fun x y H Q => ∃ d ds, Dp K H x d ∧ Dp K H y (.tuple ds) ∧ SeqAt.shaped d = true ∧ SeqAt.shaped (.tuple ds) = true ∧ Q (.bl (ds.any fun z => PyData.eqv z d)) H
def rNotInT (K : PySem.W.Frag) : R2 := fun x y H Q => ∃ d ds, Dp K H x d ∧ Dp K H y (.tuple ds) ∧ SeqAt.shaped d = true ∧ SeqAt.shaped (.tuple ds) = true ∧ Q (.bl (!ds.any fun z => PyData.eqv z d)) H
theorem op_inT (hu : X.A.units + 65 < cLine) : OpR X (compareOp .In) (rInT X.K) := by
  intro pins s σ H x y v u Q I rx ry h
  obtain ⟨d, ds, hd, he, sd, se, q⟩ := h
  obtain ⟨as, r1⟩ := Dp.reads I d x v hd rx
  obtain ⟨bs, r2⟩ := Dp.reads I (.tuple ds) y u he ry
  exact SeqAt.in_tuple_reads r2 r1 (SeqAt.canLay_of_shaped se) (SeqAt.canLay_of_shaped sd) (room_in_shaped sd hu) ⟨.bl _, H, I, rfl, q⟩
theorem op_notInT (hu : X.A.units + 65 < cLine) : OpR X (compareOp .NotIn) (rNotInT X.K) := by
  intro pins s σ H x y v u Q I rx ry h
  obtain ⟨d, ds, hd, he, sd, se, q⟩ := h
  obtain ⟨as, r1⟩ := Dp.reads I d x v hd rx
  obtain ⟨bs, r2⟩ := Dp.reads I (.tuple ds) y u he ry
  exact SeqAt.notIn_tuple_reads r2 r1 (SeqAt.canLay_of_shaped se) (SeqAt.canLay_of_shaped sd) (room_in_shaped sd hu) ⟨.bl _, H, I, rfl, q⟩
theorem any_toPs {m n : Nat} {a : D} (h : eqOk m a = true) : ∀ {ys : List D}, eqOks n ys = true → ((toPs ys).any fun z => PyData.eqv z (toP a)) = decide (a ∈ ys)
  | [], _ => by simp [toPs]
  | y :: ys, k => by
    have k' : eqOk n y = true ∧ eqOks n ys = true := by simpa [eqOks] using k
    rw [toPs, List.any_cons, toP_eqv k'.1 h, any_toPs h k'.2]
    by_cases e : y = a
    · simp [e]
    · simp only [decide_eq_false e, Bool.false_or, List.mem_cons, show ¬ a = y from fun z => e z.symm, false_or]
theorem ok_in (hu : X.A.units + 65 < cLine) (neg : Bool) : OpR X (compareOp (if neg = true then .NotIn else .In)) (fun x y H Q => rN X.K (pn2 (inD neg)) [x, y] H Q) := by
  intro pins s σ H x y v u Q I rv ru h
  obtain ⟨B, io, R, dx, dy, d, R', rep, rx, ry, e, q⟩ := rN2 h
  unfold inD at e
  split at e
  · rename_i ks ek
    split at e
    · rename_i hk
      cases e
      obtain ⟨a, kvs, rfl, hd, rk⟩ := ry.dict rep ek
      obtain ⟨k, ek⟩ := key_of hk
      have ey := key_rd rx ek
      subst ey
      obtain rfl : u = Value.ref a := ru
      have g : DGet H a (kV k) (valV kvs k) := .inl ⟨kvs, k, hd, rfl, rfl⟩
      have ev : (valV kvs k).isSome = hasD ks dx := by
        rw [← valV_any]
        exact noKey ek rk
      have fin := q io H _ (Step.refl _ _) rep (.bl _)
      cases neg with
      | false => exact d_in (by omega) I g rv fun s' I' => ⟨.bl _, H, I', rfl, by rw [ev]; simpa using fin⟩
      | true => exact d_notIn (by omega) I g rv fun s' I' => ⟨.bl _, H, I', rfl, by rw [ev]; simpa using fin⟩
    · cases e
  · split at e
    · rename_i a ys e1 e2
      split at e
      · rename_i k
        cases e
        have r1 := dp_snap rep _ e1 rx k.1
        have r2 := dp_snap rep _ e2 ry k.2
        have k2 : eqOks 11 ys = true := by simpa [eqOk] using k.2
        have s1 := toP_shaped k.1 (by decide)
        have s2 := toP_shaped k.2 (by decide)
        have ea := any_toPs k.1 k2
        have fin := q io H _ (Step.refl _ _) rep (.bl _)
        cases neg with
        | false => exact op_inD hu pins s σ H x y v u Q I rv ru ⟨_, _, r1, r2, s1, s2, by rw [ea]; simpa using fin⟩
        | true => exact op_notInD hu pins s σ H x y v u Q I rv ru ⟨_, _, r1, r2, s1, s2, by rw [ea]; simpa using fin⟩
      · cases e
    · rename_i a ys e1 e2
      split at e
      · rename_i k
        cases e
        have r1 := dp_snap rep _ e1 rx k.1
        have r2 := dp_snap rep _ e2 ry k.2
        have k2 : eqOks 11 ys = true := by simpa [eqOk] using k.2
        have s1 := toP_shaped k.1 (by decide)
        have s2 := toP_shaped k.2 (by decide)
        have ea := any_toPs k.1 k2
        have fin := q io H _ (Step.refl _ _) rep (.bl _)
        cases neg with
        | false => exact op_inT hu pins s σ H x y v u Q I rv ru ⟨_, _, r1, r2, s1, s2, by rw [ea]; simpa using fin⟩
        | true => exact op_notInT hu pins s σ H x y v u Q I rv ru ⟨_, _, r1, r2, s1, s2, by rw [ea]; simpa using fin⟩
      · cases e
    · cases e
/-! ### stores -/
/-- x[i] = v: the region behind it -/
def setD (x i v : D) (R : Rg) : Option Rg := match x with
  | .ref n => match R[n]?, i with
    | some (.lst xs), .int k => (ixN xs.length k).map fun j => R.set n (.lst (xs.set j v))
    | some (.dct ks), k => if keyOk k = true ∧ ks.length < LINE then some (R.set n (.dct (setK ks k v))) else none
    | _, _ => none
  | _ => none
def rSet (K : PySem.W.Frag) (o i v : V) (H : Hp) (Q : Hp → Prop) : Prop := ∃ B io R dx di dv R', Rep K B io R H ∧ RD K (bars B io) io H dx o ∧ RD K (bars B io) io H di i ∧ RD K (bars B io) io H dv v ∧ setD dx di dv R = some R' ∧
  ∀ H', Step io H io H' → Rep K B io R' H' → Q H'
theorem rds_set {K : PySem.W.Frag} {bar : Addr → Prop} {io : Io} {H : Hp} {d : D} {v : V} (rv : RD K bar io H d v) : ∀ {ds : List D} {vs : List V} (j : Nat), RDs K bar io H ds vs → RDs K bar io H (ds.set j d) (vs.set j v)
  | _, _, _, .nil => .nil
  | _, _, 0, .cons r t => .cons rv t
  | _, _, j + 1, .cons r t => .cons r (rds_set rv j t)
theorem putK_len {kvs : List (Key × V)} {k : Key} {v : V} (h : kvs.length < sizeLine) : (putK kvs k v).length ≤ sizeLine := by
  have := length_putK kvs k v
  omega
theorem ok_set (hu : X.A.units + 1 < cLine) : PSet X (rSet X.K) := by
  intro pins s σ H o i v ov iv u Q I ro ri rv h
  obtain ⟨B, io, R, dx, di, dv, R', rep, rx, rdi, rdv, e, q⟩ := h
  unfold setD at e
  split at e
  · cases rx with
    | ref hi hq =>
      split at e
      · rename_i n xs k eR
        obtain ⟨p, vs, h1, h2, r⟩ := rep.atLst eR
        have ep := hq p h1
        subst ep
        cases rdi
        obtain ⟨j, ej, e2⟩ := Option.map_eq_some_iff.mp e
        subst e2
        rw [r.len] at ej
        refine set_list pins s σ H _ _ v ov iv u Q I ro ri rv ⟨p, vs, _, j, rfl, rfl, h2, ej, ?_⟩
        have st := Step.mut (H := H) (o := .lst (vs.set j v)) h1
        exact q _ st (rep.mut h1 ⟨p, _, h1, upd_same, (rds_set rdv j r).car (st.car rep)⟩)
      · rename_i n ks k eR
        split at e
        · rename_i hk
          cases e
          obtain ⟨p, kvs, h1, h2, r⟩ := rep.atDct eR
          have ep := hq p h1
          subst ep
          obtain ⟨kk, ek⟩ := key_of hk.1
          have ey := key_rd rdi ek
          subst ey
          obtain rfl : ov = Value.ref p := ro
          have st := Step.mut (H := H) (o := .dK (putK kvs kk v)) h1
          have hl : kvs.length < sizeLine := by
            rw [← r.len]
            exact hk.2
          refine d_setItem hu I (DPut.k h2 hl) ri rv fun s' I' => ⟨_, I', ?_⟩
          exact q _ st (rep.mut h1 ⟨p, _, h1, upd_same, (set_rd ek rdv (dk_nodup I (.inl h2)) r).car (st.car rep)⟩)
        · cases e
      · cases e
  · cases e
/-! ### calls -/
def lenD : PN := pn1 fun x R => match x with
  | .str x => if x.length ≤ LINE then some (.int x.length, R) else none
  | x => match dctOf R x with
    | some ks => some (.int ks.length, R)
    | none => (seqOf R x).map fun xs => (.int xs.length, R)
def listD (m : Bool) : PN := pn1 fun x R => match dctOf R x with
  | some ks => mkL m (ks.map (·.1)) R
  | none => match seqOf R x with
    | some xs => mkL m xs R
    | none => none
def tupleD : PN := pn1 fun x R => (seqOf R x).map fun xs => (.tup xs, R)
def intD : PN := pn1 fun x R => match x with
  | .int i => some (.int i, R)
  | _ => none
def boolsOf : List D → Option (List Bool)
  | [] => some []
  | .bl b :: r => (boolsOf r).map (b :: ·)
  | _ => none
def intsOf : List D → Option (List Int)
  | [] => some []
  | .int b :: r => (intsOf r).map (b :: ·)
  | _ => none
def allD : PN := pn1 fun x R => match lstOf R x with
  | some xs => (boolsOf xs).map fun bs => (.bl (bs.all id), R)
  | none => none
def anyD : PN := pn1 fun x R => match lstOf R x with
  | some xs => (boolsOf xs).map fun bs => (.bl (bs.any id), R)
  | none => none
def sumD : PN := pn1 fun x R => match lstOf R x with
  | some xs => (intsOf xs).map fun ns => (.int ns.sum, R)
  | none => none
def insI (i : Int) : List Int → List Int
  | [] => [i]
  | j :: r => if i ≤ j then i :: j :: r else j :: insI i r
def sortI : List Int → List Int
  | [] => []
  | i :: r => insI i (sortI r)
def sortedD (m : Bool) : PN := pn1 fun x R => match lstOf R x with
  | some xs => match intsOf xs with
    | some ns => if ns.length < 64 then mkL m ((sortI ns).map .int) R else none
    | none => none
  | none => none
def minI : List Int → Option Int
  | [] => none
  | i :: r => some (r.foldl min i)
def maxI : List Int → Option Int
  | [] => none
  | i :: r => some (r.foldl max i)
def minD : PN := pn1 fun x R => match lstOf R x with
  | some xs => match intsOf xs with
    | some ns => (minI ns).map fun i => (.int i, R)
    | none => none
  | none => none
def maxD : PN := pn1 fun x R => match lstOf R x with
  | some xs => match intsOf xs with
    | some ns => (maxI ns).map fun i => (.int i, R)
    | none => none
  | none => none
/-- the built-in class of a value -/
def tyD (R : Rg) (x : D) : Option String := match x with
  | .non => some "NoneType"
  | .bl _ => some "bool"
  | .int _ => some "int"
  | .str _ => some "str"
  | .byt _ => some "bytes"
  | .tup _ => some "tuple"
  | x => match viewD R x with
    | .lst _ => some "list"
    | .dct _ => some "dict"
    | _ => none
def isiD : PN := pn2 fun x y R => match tyD R x, y with
  | some a, .ty b => (kitB a b).map fun k => (.bl k, R)
  | _, _ => none
theorem rN_1 {K : PySem.W.Frag} {p : P1} {xs : List V} {H : Hp} {Q : VK} (h : rN K (pn1 p) xs H Q) : ∃ x, xs = [x] := by
  obtain ⟨B, io, R, ds, rep, rd, q⟩ := h
  cases rd with
  | nil => exact q.elim
  | cons r t =>
    cases t with
    | nil => exact ⟨_, rfl⟩
    | cons r t => exact q.elim
theorem rN_2 {K : PySem.W.Frag} {p : P2} {xs : List V} {H : Hp} {Q : VK} (h : rN K (pn2 p) xs H Q) : ∃ x y, xs = [x, y] := by
  obtain ⟨B, io, R, ds, rep, rd, q⟩ := h
  cases rd with
  | nil => exact q.elim
  | cons r t =>
    cases t with
    | nil => exact q.elim
    | cons r t =>
      cases t with
      | nil => exact ⟨_, _, rfl⟩
      | cons r t => exact q.elim
theorem dct_len {pins : List (Addr × Obj)} {σ : S} {H : Hp} {s : Shared} (I : Inv X pins σ H s) {a : Addr} {kvs : List (Key × V)} (h : Rd H a (.dK kvs)) : kvs.length ≤ sizeLine := (dk_rd I.hok h).1
theorem ok_len : CallR X (.builtin "len") (rN X.K lenD) := by
  intro pins s σ H xs us Q I r h
  obtain ⟨x, rfl⟩ := rN_1 h
  obtain ⟨B, io, R, dx, d, R', rep, rx, e, q⟩ := rN1 h
  split at e
  · split at e
    · rename_i hl
      cases e
      cases rx
      refine call_len_str pins s σ H _ us Q I r ⟨_, rfl, ?_, ?_⟩
      · rw [strOf_length]
        exact hl
      · rw [strOf_length]
        exact q io H _ (Step.refl _ _) rep (.int _)
    · cases e
  · split at e
    · rename_i ks ek
      cases e
      obtain ⟨a, kvs, rfl, hd, rk⟩ := rx.dict rep ek
      obtain ⟨u, rfl, ru⟩ := vals1 r
      obtain rfl : u = Value.ref a := ru
      refine d_len I hd fun t s' I' => ⟨.int kvs.length, H, I', ⟨t, rfl⟩, ?_⟩
      rw [← rk.len]
      exact q io H _ (Step.refl _ _) rep (.int _)
    · obtain ⟨zs, es, e2⟩ := Option.map_eq_some_iff.mp e
      cases e2
      obtain ⟨a, vs, rfl, hq, rs⟩ := rx.seq rep es
      refine call_len_seq pins s σ H _ us Q I r ⟨a, vs, rfl, hq, ?_⟩
      rw [← rs.len]
      exact q io H _ (Step.refl _ _) rep (.int _)
theorem ok_list (hc : X.calm = true) (m : Bool) : CallR X (.type "list") (rN X.K (listD m)) := by
  intro pins s σ H xs us Q I r h
  obtain ⟨x, rfl⟩ := rN_1 h
  obtain ⟨B, io, R, dx, d, R', rep, rx, e, q⟩ := rN1 h
  split at e
  · rename_i ks ek
    obtain ⟨a, kvs, rfl, hd, rk⟩ := rx.dict rep ek
    refine call_listD hc pins s σ H _ us Q I r ⟨a, kvs, rfl, hd, fun p hp => ?_⟩
    obtain ⟨io', st, rep', r'⟩ := mkL_ok rep hp (keys_rd rk) e
    exact q io' _ _ st rep' r'
  · split at e
    · rename_i zs es
      obtain ⟨a, vs, rfl, hq, rs⟩ := rx.seq rep es
      refine call_list_of pins s σ H _ us Q I r ⟨a, vs, rfl, hq, fun p hp => ?_⟩
      obtain ⟨io', st, rep', r'⟩ := mkL_ok rep hp rs e
      exact q io' _ _ st rep' r'
    · cases e
theorem ok_tuple : CallR X (.type "tuple") (rN X.K tupleD) := by
  intro pins s σ H xs us Q I r h
  obtain ⟨x, rfl⟩ := rN_1 h
  obtain ⟨B, io, R, dx, d, R', rep, rx, e, q⟩ := rN1 h
  obtain ⟨zs, es, e2⟩ := Option.map_eq_some_iff.mp e
  cases e2
  obtain ⟨a, vs, rfl, hq, rs⟩ := rx.seq rep es
  refine call_tuple_of pins s σ H _ us Q I r ⟨a, vs, rfl, ?_⟩
  rcases hq with hq | hq
  · refine .inl ⟨hq, fun p hp => ?_⟩
    obtain ⟨st, rep', r'⟩ := tup_ok rep hp rs
    exact q io _ _ st rep' r'
  · exact .inr ⟨hq, q io H _ (Step.refl _ _) rep (.tup hq rs)⟩
theorem ok_int : CallR X (.type "int") (rN X.K intD) := by
  intro pins s σ H xs us Q I r h
  obtain ⟨x, rfl⟩ := rN_1 h
  obtain ⟨B, io, R, dx, d, R', rep, rx, e, q⟩ := rN1 h
  split at e
  · cases e
    cases rx
    exact call_int1 pins s σ H _ us Q I r (.inl ⟨_, rfl, q io H _ (Step.refl _ _) rep (.int _)⟩)
  · cases e
theorem bools_rd {K : PySem.W.Frag} {bar : Addr → Prop} {io : Io} {H : Hp} : ∀ {ds : List D} {vs : List V} {bs : List Bool}, RDs K bar io H ds vs → boolsOf ds = some bs → vs = bs.map V.bl
  | _, _, bs, .nil, e => by
    cases e
    rfl
  | d :: ds, v :: vs, bs, .cons r t, e => by
    cases d <;> simp [boolsOf] at e
    obtain ⟨cs, e1, e2⟩ := e
    subst e2
    cases r
    rw [bools_rd t e1]
    rfl
theorem ints_rd {K : PySem.W.Frag} {bar : Addr → Prop} {io : Io} {H : Hp} : ∀ {ds : List D} {vs : List V} {bs : List Int}, RDs K bar io H ds vs → intsOf ds = some bs → vs = bs.map V.int
  | _, _, bs, .nil, e => by
    cases e
    rfl
  | d :: ds, v :: vs, bs, .cons r t, e => by
    cases d <;> simp [intsOf] at e
    obtain ⟨cs, e1, e2⟩ := e
    subst e2
    cases r
    rw [ints_rd t e1]
    rfl
theorem ok_all (hc : X.calm = true) : CallR X (.builtin "all") (rN X.K allD) := by
  intro pins s σ H xs us Q I r h
  obtain ⟨x, rfl⟩ := rN_1 h
  obtain ⟨B, io, R, dx, d, R', rep, rx, e, q⟩ := rN1 h
  split at e
  · rename_i zs es
    obtain ⟨bs, e1, e2⟩ := Option.map_eq_some_iff.mp e
    cases e2
    obtain ⟨a, vs, rfl, hq, rs⟩ := rx.list rep es
    have ev := bools_rd rs e1
    subst ev
    exact cr_all hc pins s σ H _ us Q I r ⟨a, bs, rfl, hq, q io H _ (Step.refl _ _) rep (.bl _)⟩
  · cases e
theorem ok_any (hc : X.calm = true) : CallR X (.builtin "any") (rN X.K anyD) := by
  intro pins s σ H xs us Q I r h
  obtain ⟨x, rfl⟩ := rN_1 h
  obtain ⟨B, io, R, dx, d, R', rep, rx, e, q⟩ := rN1 h
  split at e
  · rename_i zs es
    obtain ⟨bs, e1, e2⟩ := Option.map_eq_some_iff.mp e
    cases e2
    obtain ⟨a, vs, rfl, hq, rs⟩ := rx.list rep es
    have ev := bools_rd rs e1
    subst ev
    exact cr_any hc pins s σ H _ us Q I r ⟨a, bs, rfl, hq, q io H _ (Step.refl _ _) rep (.bl _)⟩
  · cases e
theorem ok_sum (hc : X.calm = true) : CallR X (.builtin "sum") (rN X.K sumD) := by
  intro pins s σ H xs us Q I r h
  obtain ⟨x, rfl⟩ := rN_1 h
  obtain ⟨B, io, R, dx, d, R', rep, rx, e, q⟩ := rN1 h
  split at e
  · rename_i zs es
    obtain ⟨bs, e1, e2⟩ := Option.map_eq_some_iff.mp e
    cases e2
    obtain ⟨a, vs, rfl, hq, rs⟩ := rx.list rep es
    have ev := ints_rd rs e1
    subst ev
    exact cr_sum hc pins s σ H _ us Q I r ⟨a, bs, rfl, hq, q io H _ (Step.refl _ _) rep (.int _)⟩
  · cases e
theorem insI_perm (i : Int) : ∀ l : List Int, (insI i l).Perm (i :: l)
  | [] => .refl _
  | j :: r => by
    unfold insI
    split
    · exact .refl _
    · exact ((insI_perm i r).cons j).trans (.swap i j r)
theorem sortI_perm : ∀ l : List Int, (sortI l).Perm l
  | [] => .refl _
  | i :: r => (insI_perm i _).trans ((sortI_perm r).cons i)
theorem insI_sorted (i : Int) : ∀ l : List Int, l.Pairwise (· ≤ ·) → (insI i l).Pairwise (· ≤ ·)
  | [], _ => by simp [insI]
  | j :: r, h => by
    have h' := List.pairwise_cons.mp h
    unfold insI
    split
    · rename_i hij
      refine List.pairwise_cons.mpr ⟨fun a ha => ?_, h⟩
      rcases List.mem_cons.mp ha with e | e
      · rw [e]; exact hij
      · exact Int.le_trans hij (h'.1 a e)
    · rename_i hij
      refine List.pairwise_cons.mpr ⟨fun a ha => ?_, insI_sorted i r h'.2⟩
      rcases List.mem_cons.mp ((insI_perm i r).mem_iff.mp ha) with e | e
      · omega
      · exact h'.1 a e
theorem sortI_sorted : ∀ l : List Int, (sortI l).Pairwise (· ≤ ·)
  | [] => .nil
  | i :: r => insI_sorted i _ (sortI_sorted r)
theorem sorted_one {a b : List Int} (p : a.Perm b) (ha : a.Pairwise (· ≤ ·)) (hb : b.Pairwise (· ≤ ·)) : a = b :=
  p.eq_of_pairwise (fun x y _ _ h k => Int.le_antisymm h k) ha hb
theorem rds_ints {K : PySem.W.Frag} {bar : Addr → Prop} {io : Io} {H : Hp} : ∀ ns : List Int, RDs K bar io H (ns.map D.int) (ns.map V.int)
  | [] => .nil
  | n :: r => .cons (.int n) (rds_ints r)
theorem ok_sorted (m : Bool) : CallR X (.builtin "sorted") (rN X.K (sortedD m)) := by
  intro pins s σ H xs us Q I r h
  obtain ⟨x, rfl⟩ := rN_1 h
  obtain ⟨B, io, R, dx, d, R', rep, rx, e, q⟩ := rN1 h
  split at e
  · rename_i zs es
    split at e
    · rename_i ns e1
      split at e
      · rename_i h64
        obtain ⟨a, vs, rfl, hq, rs⟩ := rx.list rep es
        have ev := ints_rd rs e1
        subst ev
        refine cr_sorted pins s σ H _ us Q I r ⟨a, ns, rfl, hq, h64, fun ns' p hp hs hn => ?_⟩
        have en : ns' = sortI ns := sorted_one (hp.trans (sortI_perm ns).symm) hs (sortI_sorted ns)
        rw [en]
        obtain ⟨io', st, rep', r'⟩ := mkL_ok rep hn (rds_ints (sortI ns)) e
        exact q io' _ _ st rep' r'
      · cases e
    · cases e
  · cases e
theorem tyD_ty {pins : List (Addr × Obj)} {σ : S} {H : Hp} {s : Shared} {B : Addr → Prop} {io : Io} {R : Rg} {d : D} {v : V} {t : String} (I : Inv X pins σ H s) (rep : Rep X.K B io R H) (r : RD X.K (bars B io) io H d v) (e : tyD R d = some t) : TyX X.K H v (.type t) := by
  have lst : ∀ {a : Addr} {vs : List V}, SqL X.K H a vs → TyX X.K H (.ref a) (.type "list") := fun h => by
    rcases h with (h | ⟨o, h⟩) | ⟨o, its, n, h1, h2, _⟩
    · exact .base (.lst h)
    · exact .base (.frz h)
    · exact .kList h1 h2
  have dct : ∀ {a : Addr} {vs : List (Key × V)}, Rd H a (.dK vs) → TyX X.K H (.ref a) (.type "dict") := fun h => by
    rcases h with h | ⟨o, h⟩
    · exact .base (.dK h)
    · exact .fDict h
  cases r with
  | non => cases e; exact .base .non
  | bl b => cases e; exact .base (.bl b)
  | int i => cases e; exact .base (.int i)
  | str x => cases e; exact .base (.str _)
  | byt x => cases e; exact .byt _
  | tup h r =>
    cases e
    rcases h with (h | ⟨o, h⟩) | ⟨o, its, n, h1, h2, _⟩
    · exact .base (.tup h)
    · exact .fTuple h
    · exact .kTuple h1 h2
  | lst h r => cases e; exact lst h.sq
  | dct n h r => cases e; exact dct h
  | ins n h r => cases e
  | ty n => cases e
  | glo x => cases e
  | @ref i a hi q =>
    have e' : (match (R[i]?).getD O.dead with
      | .lst _ => some "list"
      | .dct _ => some "dict"
      | _ => none) = some t := e
    cases e1 : R[i]? with
    | none =>
      rw [e1] at e'
      cases e'
    | some o =>
      rw [e1] at e'
      cases o with
      | lst xs =>
        cases e'
        obtain ⟨p, vs, h1, h2, r⟩ := rep.atLst e1
        rw [← q p h1]
        exact lst (.inl (.inl h2))
      | dct xs =>
        cases e'
        obtain ⟨p, vs, h1, h2, r⟩ := rep.atDct e1
        rw [← q p h1]
        exact dct (.inl h2)
      | _ => cases e'
theorem ok_isi : CallR X (.builtin "isinstance") (rN X.K isiD) := by
  intro pins s σ H xs us Q I r h
  obtain ⟨x, y, rfl⟩ := rN_2 h
  obtain ⟨B, io, R, dx, dy, d, R', rep, rx, ry, e, q⟩ := rN2 h
  split at e
  · rename_i a b et
    obtain ⟨k, ek, e2⟩ := Option.map_eq_some_iff.mp e
    cases e2
    cases ry
    exact call_isi pins s σ H _ us Q I r ⟨x, .ty b, .type a, .type b, k, rfl, .ty b, tyD_ty I rep rx et, kit_ty ek, q io H _ (Step.refl _ _) rep (.bl _)⟩
  · cases e
end
end Om
/-! Om, part G: expressions, node by node. -/
namespace Om
open PySem PySem.Spec PyProof.Rows L2
def cmpP : CmpOp → Option P2
  | .Eq => some (eqD' false)
  | .NotEq => some (eqD' true)
  | .Lt => some (ltD' .lt)
  | .Gt => some (ltD' .gt)
  | .LtE => some (ltD' .le)
  | .GtE => some (ltD' .ge)
  | .Is => some (isD false)
  | .IsNot => some (isD true)
  | .In => some (inD false)
  | .NotIn => some (inD true)
def binP (m : Bool) : Operator → Option P2
  | .Add => some (addD m)
  | .Sub => some subD
  | .Mult => some (mulD m)
  | .FloorDiv => some fdivD
  | .Mod => some modD
  | .Pow => some powD
  | _ => none
/-- a op b op c -/
def cCh (p q : P2) (a b c : SE) : SE := fun s R => (a s R).bind fun x R1 => (b s R1).bind fun y R2 => (lift (p x y R2)).bind fun z R3 => match z with
  | .bl true => (c s R3).bind fun w R4 => lift (q y w R4)
  | .bl false => .ok (.bl false) R3
  | _ => .err
def bOf (a : SE) : SB := fun s R => (a s R).bind fun x R1 => match x with
  | .bl k => .ok k R1
  | _ => .err
def cTup (a : SA) : SE := fun s R => (a s R).bind fun xs R1 => if xs.length ≤ LINE then .ok (.tup xs) R1 else .err
def cLst (m : Bool) (a : SA) : SE := fun s R => (a s R).bind fun xs R1 => lift (mkL m xs R1)
/-- the tree of what stands at an argument -/
def snaps (R : Rg) (ds : List D) : Option (List D) := ds.mapM (snapD R)
def pure1 (any : Bool) (r : Res D) (R : Rg) : Res D := match r with
  | .ok d R1 => match snapD R1 d with
    | some t => if (any || flatD t) = true then .ok t R else .err
    | none => .err
  | .exc c f R1 => if flatD f = true ∨ f = .undef then .exc c f R else .err
  | .err => .err
/-- a call that is handed trees and hands back a tree -/
def callP (F : SF) (ds : List D) (R : Rg) : Res D := match snaps R ds with
  | some ts => pure1 (pureDs ds) (F ts []) R
  | none => .err
section
variable {X : Cx} {W : WX} {a b c e : Expr} {es : List Expr} {ma mb mc : SE} {mes : SA} {ka kb : SB} {pos : Pos}
theorem ok_cmp (hu : X.A.units + 65 < cLine) {op : CmpOp} {p : P2} (h : cmpP op = some p) : OpR X (compareOp op) (fun x y H Q => rN X.K (pn2 p) [x, y] H Q) := by
  cases op <;> cases h
  · exact ok_eq (by omega) false
  · exact ok_eq (by omega) true
  · exact ok_lt (by omega) .lt
  · exact ok_lt (by omega) .le
  · exact ok_lt (by omega) .gt
  · exact ok_lt (by omega) .ge
  · exact ok_is false
  · exact ok_is true
  · exact ok_in hu false
  · exact ok_in hu true
theorem ok_bin {m : Bool} {op : Operator} {p : P2} (h : binP m op = some p) : OpR X (binaryOp op) (fun x y H Q => rN X.K (pn2 p) [x, y] H Q) := by
  cases op <;> cases h
  · exact ok_add m
  · exact ok_sub
  · exact ok_mul m
  · exact ok_mod
  · exact ok_pow
  · exact ok_fdiv
section
variable {K : PySem.W.Frag} {σ : S} {H : Hp} {Q : VK}
/-- the same, stated otherwise -/
theorem Told.conv {A Z : Type} {rel : Rel A Z} {m m' : List D → List D → Rg → Res A} {Q : Z → Hp → Prop} (h : Told K W σ H rel [] m Q) (e : ∀ s R, m [] s R = m' [] s R) : Told K W σ H rel [] m' Q := by
  obtain ⟨B, io, R, s, ds, rep, rs, rd, p⟩ := h
  cases rd
  refine ⟨B, io, R, s, [], rep, rs, .nil, ?_⟩
  rw [← e]
  exact p
theorem Told.fin1 {v : V} (h : Told K W σ H (RD K) [v] (fun ds _ R => match ds with | [d] => .ok d R | _ => .err) Q) : Q v H := by
  obtain ⟨B, io, R, s, ds, rep, rs, rd, p⟩ := h
  obtain ⟨d, ds, rfl, r, rd⟩ := rd.cons_inv
  cases rd.nil_inv
  exact p io H v (Step.refl _ _) rep r
theorem Told.rets {vs : List V} {Q : List V → Hp → Prop} (h : Told K W σ H (RDs K) vs (fun ds _ R => .ok ds R) Q) : Q vs H := by
  obtain ⟨B, io, R, s, ds, rep, rs, rd, p⟩ := h
  exact p io H vs (Step.refl _ _) rep rd
theorem Told.retB {vs : List V} {k : Bool} {Q : Bool → Hp → Prop} (h : Told K W σ H (fun _ _ _ a b => a = b) vs (fun _ _ R => .ok k R) Q) : Q k H := by
  obtain ⟨B, io, R, s, ds, rep, rs, rd, p⟩ := h
  exact p io H k (Step.refl _ _) rep rfl
theorem Told.ret0 {vs : List V} {d : D} {v : V} (r : ∀ bar io H, RD K bar io H d v) (h : Told K W σ H (RD K) vs (fun _ _ R => .ok d R) Q) : Q v H := by
  obtain ⟨B, io, R, s, ds, rep, rs, rd, p⟩ := h
  exact p io H v (Step.refl _ _) rep (r _ _ _)
theorem Told.drop {A Z : Type} {rel : Rel A Z} {vs : List V} {m : List D → Rg → Res A} {Q : Z → Hp → Prop} (h : Told K W σ H rel vs (fun _ => m) Q) : Told K W σ H rel [] (fun _ => m) Q := by
  obtain ⟨B, io, R, s, ds, rep, rs, rd, p⟩ := h
  exact ⟨B, io, R, s, [], rep, rs, .nil, p⟩
end
/-! ### arguments -/
theorem sa_nil : PA X [] (tA X.K W cNil) := pa_nil.imp fun σ H Q h => Told.rets (Told.conv h fun _ _ => rfl)
theorem sa_cons (h1 : PE X e (tE X.K W ma)) (h2 : PA X es (tA X.K W mes)) (hs : starEach (e :: es) X.env = (false, eval e X.env) :: starEach es X.env) : PA X (e :: es) (tA X.K W (cCons ma mes)) :=
  (pa_cons h1 h2 hs).imp fun σ H Q h => by
    have h0 := Told.eval (vs := []) (m := ma) (F := fun ds s R => (mes s R).bind fun es R1 => .ok (ds ++ es) R1) (Told.conv h fun _ _ => rfl)
    exact h0.imp fun v H1 t => (Told.evalA (vs := [v]) (F := fun ds _ R => .ok ds R) t).imp fun us H2 t => Told.rets t
/-! ### displays -/
theorem se_tup {k : Nat} (h : PA X es (tA X.K W mes)) : PE X (.Tuple es k pos) (tE X.K W (cTup mes)) := (pe_tup h).imp fun σ H Q h => by
  have h0 := Told.evalA (vs := []) (m := mes) (F := fun ds _ R => if ds.length ≤ LINE then .ok (.tup ds) R else .err) (Told.conv h fun _ _ => rfl)
  refine h0.imp fun us H1 t => ?_
  obtain ⟨B, io, R, s, ds, rep, rs, rd, p⟩ := t
  have p : Pst X.K B io H1 W σ (RD X.K) (if ds.length ≤ LINE then .ok (.tup ds) R else .err) Q := p
  split at p
  · rename_i hl
    have rd : RDs X.K (bars B io) io H1 ds us := rd
    refine ⟨by rw [← rd.len]; exact hl, fun q hq => ?_⟩
    obtain ⟨st, rep', r'⟩ := tup_ok rep hq rd
    exact p io _ _ st rep' r'
  · exact p.elim
theorem se_lst {m : Bool} (h : PA X es (tA X.K W mes)) : PE X (.List es pos) (tE X.K W (cLst m mes)) := (pe_lst h).imp fun σ H Q h => by
  have h0 := Told.evalA (vs := []) (m := mes) (F := fun ds _ R => lift (mkL m ds R)) (Told.conv h fun _ _ => rfl)
  refine h0.imp fun us H1 t => ?_
  obtain ⟨B, io, R, s, ds, rep, rs, rd, p⟩ := t
  have p : Pst X.K B io H1 W σ (RD X.K) (lift (mkL m ds R)) Q := p
  cases e : mkL m ds R with
  | none =>
    rw [e] at p
    exact p.elim
  | some z =>
    rw [e] at p
    have rd : RDs X.K (bars B io) io H1 ds us := rd
    refine ⟨by rw [← rd.len]; exact mkL_len e, fun q hq => ?_⟩
    obtain ⟨io', st, rep', r'⟩ := mkL_ok rep hq rd e
    exact p io' _ _ st rep' r'
/-! ### operators -/
theorem se_bin {m : Bool} {op : Operator} {p : P2} (hp : binP m op = some p) (h1 : PE X a (tE X.K W ma)) (h2 : PE X b (tE X.K W mb)) : PE X (.BinOp a op b pos) (tE X.K W (cOp2 p ma mb)) :=
  se_op2 (fun _ _ _ x y z => pe_op z x y) (ok_bin hp) h1 h2
theorem se_neg (h : PE X a (tE X.K W ma)) : PE X (.UnaryOp .USub a pos) (tE X.K W (cOp1 negD ma)) := (pe_un ok_neg h).imp fun σ H Q h => by
  have h0 := Told.eval (vs := []) (m := ma) (F := fun ds _ R => lift (pn1 negD ds R)) (Told.conv h fun _ _ => rfl)
  exact h0.imp fun v H1 t => Told.op t
theorem se_cmp (hu : X.A.units + 65 < cLine) {op : CmpOp} {p : P2} (hp : cmpP op = some p) (h1 : PE X a (tE X.K W ma)) (h2 : PE X b (tE X.K W mb)) (hm : behindInMarks op b = false) : PE X (.Compare a [op] [b] pos) (tE X.K W (cOp2 p ma mb)) :=
  se_op2 (fun _ _ _ x y z => pe_cmpR z x y hm) (ok_cmp hu hp) h1 h2
theorem tst_of {K : PySem.W.Frag} {σ : S} {H : Hp} {m : SE} {Q : Bool → Hp → Prop} (h : tB K W (bOf m) σ H Q) : tE K W m σ H fun x H' => ∃ k, x = .bl k ∧ Q k H' := by
  have h0 := Told.eval (vs := []) (m := m) (F := fun ds _ R => match ds with | [.bl k] => .ok k R | _ => .err) (rel := fun _ _ _ a b => a = b) (Q := Q) (Told.conv h fun s R => by
    show (m s R).bind _ = (m s R).bind _
    congr 1
    funext d R1
    cases d <;> rfl)
  refine h0.imp fun v H1 t => ?_
  obtain ⟨B, io, R, s, ds, rep, rs, rd, p⟩ := t
  obtain ⟨d, ds, rfl, r, rd⟩ := rd.cons_inv
  cases rd.nil_inv
  cases r <;> first
    | exact ⟨_, rfl, p io H1 _ (Step.refl _ _) rep rfl⟩
    | exact p.elim
theorem sb_cmp (hu : X.A.units + 65 < cLine) {op : CmpOp} {p : P2} (hp : cmpP op = some p) (h1 : PE X a (tE X.K W ma)) (h2 : PE X b (tE X.K W mb)) (hm : behindInMarks op b = false) : PT X (.Compare a [op] [b] pos) (tB X.K W (bOf (cOp2 p ma mb))) := by
  refine (pt_cmpR (ok_cmp hu hp) h1 h2 hm).imp fun σ H Q h => ?_
  have h1 := tst_of h
  have z := Told.eval (K := X.K) (W := W) (σ := σ) (H := H) (rel := RD X.K) (vs := []) (m := ma) (F := fun ds s R => (mb s R).bind fun y R2 => lift (pn2 p (ds ++ [y]) R2)) (Told.conv h1 fun _ _ => rfl)
  exact z.imp fun v H1 t => (Told.eval (vs := [v]) (m := mb) (F := fun ds s R => lift (pn2 p ds R)) t).imp fun w H2 t => Told.op t
theorem ch_core {K : PySem.W.Frag} {σ : S} {H : Hp} {p q : P2} {Q : VK} (h : tE K W (cCh p q ma mb mc) σ H Q) :
    tChain (fun x y H Q => rN K (pn2 p) [x, y] H Q) (fun x y H Q => rN K (pn2 q) [x, y] H Q) (tE K W ma) (tE K W mb) (tE K W mc) σ H Q := by
  have z := Told.eval (vs := []) (m := ma) (F := fun ds s R => (mb s R).bind fun y R2 => (fun ds s R => (match ds with
    | [x, y] => (lift (p x y R)).bind fun z R3 => match z with
      | .bl true => (mc s R3).bind fun w R4 => lift (q y w R4)
      | .bl false => .ok (.bl false) R3
      | _ => .err
    | _ => .err : Res D)) (ds ++ [y]) s R2) (Told.conv h fun _ _ => rfl)
  refine z.imp fun v H1 t => (Told.eval (vs := [v]) (m := mb) (F := fun ds s R => (match ds with
    | [x, y] => (lift (p x y R)).bind fun z R3 => match z with
      | .bl true => (mc s R3).bind fun w R4 => lift (q y w R4)
      | .bl false => .ok (.bl false) R3
      | _ => .err
    | _ => .err : Res D)) t).imp fun w H2 t => ?_
  obtain ⟨B, io, R, s, ds, rep, rs, rd, t⟩ := t
  obtain ⟨dx, ds, rfl, rx, rd⟩ := RDs.cons_inv rd
  obtain ⟨dy, ds, rfl, ry, rd⟩ := rd.cons_inv
  cases rd.nil_inv
  refine ⟨B, io, R, [dx, dy], rep, .cons rx (.cons ry .nil), ?_⟩
  have t : Pst K B io H2 W σ (RD K) ((lift (p dx dy R)).bind fun z R3 => match z with
      | .bl true => (mc s R3).bind fun w R4 => lift (q dy w R4)
      | .bl false => .ok (.bl false) R3
      | _ => .err) Q := t
  show match p dx dy R with
    | some (d, R') => _
    | none => False
  cases e : p dx dy R with
  | none =>
    rw [e] at t
    exact t
  | some zz =>
    obtain ⟨d, R3⟩ := zz
    rw [e] at t
    intro io3 H3 u st3 rep3 r3
    have c3 := st3.car rep
    have ry3 := ry.car c3
    have rs3 := rs.car c3
    cases d with
    | bl k =>
      cases r3
      refine ⟨k, rfl, ?_⟩
      cases k with
      | false =>
        rw [if_neg (by decide)]
        exact t io3 H3 _ st3 rep3 (.bl false)
      | true =>
        rw [if_pos rfl]
        have t2 : Pst K B io H2 W σ (RD K) ((mc s R3).bind fun w R4 => lift (q dy w R4)) Q := t
        refine (Told.eval (K := K) (W := W) (σ := σ) (rel := RD K) (vs := [w]) (m := mc) (F := fun ds s R => lift (pn2 q ds R)) (Q := Q) ⟨B, io3, R3, s, [dy], rep3, rs3, .cons ry3 .nil, t2.shift st3⟩).imp fun x H4 t => Told.op t
    | _ => exact t.elim
theorem se_ch (hu : X.A.units + 65 < cLine) {op op' : CmpOp} {p q : P2} (hp : cmpP op = some p) (hq : cmpP op' = some q) (h1 : PE X a (tE X.K W ma)) (h2 : PE X b (tE X.K W mb)) (h3 : PE X c (tE X.K W mc)) (hm : lastMarks [op, op'] [b, c] = false) :
    PE X (.Compare a [op, op'] [b, c] pos) (tE X.K W (cCh p q ma mb mc)) := (pe_chain (ok_cmp hu hp) (ok_cmp hu hq) h1 h2 h3 hm).imp fun σ H Q h => ch_core h
theorem sb_ch (hu : X.A.units + 65 < cLine) {op op' : CmpOp} {p q : P2} (hp : cmpP op = some p) (hq : cmpP op' = some q) (h1 : PE X a (tE X.K W ma)) (h2 : PE X b (tE X.K W mb)) (h3 : PE X c (tE X.K W mc)) (hm : lastMarks [op, op'] [b, c] = false) :
    PT X (.Compare a [op, op'] [b, c] pos) (tB X.K W (bOf (cCh p q ma mb mc))) := (pt_chain (ok_cmp hu hp) (ok_cmp hu hq) h1 h2 h3 hm).imp fun σ H Q h => ch_core (tst_of h)
theorem bl_inv {K : PySem.W.Frag} {bar : Addr → Prop} {io : Io} {H : Hp} {d : D} {k : Bool} (r : RD K bar io H d (.bl k)) : d = .bl k := by
  cases r
  rfl
/-- a value that must be a truth, then a way -/
theorem way {K : PySem.W.Frag} {σ : S} {H : Hp} {m : SE} {f g : SE} {Q : VK} (h : tE K W (fun s R => (m s R).bind fun x R1 => match x with
    | .bl true => f s R1
    | .bl false => g s R1
    | _ => .err) σ H Q) : tE K W m σ H fun x H1 => ∃ c, x = .bl c ∧ if c = true then tE K W f σ H1 Q else tE K W g σ H1 Q := by
  have h0 := Told.eval (vs := []) (m := m) (F := fun ds s R => match ds with | [.bl true] => f s R | [.bl false] => g s R | _ => .err) (rel := RD K) (Q := Q) (Told.conv h fun s R => by
    show (m s R).bind _ = (m s R).bind _
    congr 1
    funext d R1
    cases d <;> try rfl
    rename_i b
    cases b <;> rfl)
  refine h0.imp fun v H1 t => ?_
  obtain ⟨B, io, R, s, ds, rep, rs, rd, p⟩ := t
  obtain ⟨d, ds, rfl, r, rd⟩ := rd.cons_inv
  cases rd.nil_inv
  cases r <;> first
    | exact p.elim
    | (rename_i k
       refine ⟨k, rfl, ?_⟩
       cases k with
       | true =>
         rw [if_pos rfl]
         exact ⟨B, io, R, s, [], rep, rs, .nil, p⟩
       | false =>
         rw [if_neg (by decide)]
         exact ⟨B, io, R, s, [], rep, rs, .nil, p⟩)
theorem con_bl {K : PySem.W.Frag} {σ : S} {H : Hp} {k : Bool} {Q : VK} (h : tE K W (fun _ R => .ok (.bl k) R) σ H Q) : Q (.bl k) H := Told.ret0 (fun _ _ _ => .bl k) h
theorem se_and {r : List Expr} (h1 : PE X a (tE X.K W ma)) (h2 : PE X (.BoolOp .And (b :: r) pos) (tE X.K W mb)) : PE X (.BoolOp .And (a :: b :: r) pos) (tE X.K W (cAnd ma mb)) := (pe_and h1 h2).imp fun σ H Q h =>
  (way (m := ma) (f := mb) (g := fun _ R => .ok (.bl false) R) h).imp fun v H1 ⟨c, e, q⟩ => ⟨c, e, by
    cases c with
    | true => rw [if_pos rfl] at q ⊢; exact q
    | false => rw [if_neg (by decide)] at q ⊢; exact con_bl q⟩
theorem se_or {r : List Expr} (h1 : PE X a (tE X.K W ma)) (h2 : PE X (.BoolOp .Or (b :: r) pos) (tE X.K W mb)) : PE X (.BoolOp .Or (a :: b :: r) pos) (tE X.K W (cOr ma mb)) := (pe_or h1 h2).imp fun σ H Q h =>
  (way (m := ma) (f := fun _ R => .ok (.bl true) R) (g := mb) h).imp fun v H1 ⟨c, e, q⟩ => ⟨c, e, by
    cases c with
    | true => rw [if_pos rfl] at q ⊢; exact con_bl q
    | false => rw [if_neg (by decide)] at q ⊢; exact q⟩
def cNot (a : SE) : SE := fun s R => (a s R).bind fun x R1 => match x with
  | .bl true => .ok (.bl false) R1
  | .bl false => .ok (.bl true) R1
  | _ => .err
theorem se_not (h1 : PE X a (tE X.K W ma)) : PE X (.UnaryOp .Not a pos) (tE X.K W (cNot ma)) := (pe_not h1).imp fun σ H Q h =>
  (way (m := ma) (f := fun _ R => .ok (.bl false) R) (g := fun _ R => .ok (.bl true) R) h).imp fun v H1 ⟨c, e, q⟩ => ⟨c, e, by
    cases c with
    | true => rw [if_pos rfl] at q; exact con_bl q
    | false => rw [if_neg (by decide)] at q; exact con_bl q⟩
theorem se_if (hc : PT X c (tB X.K W kb)) (h1 : PE X a (tE X.K W ma)) (h2 : PE X b (tE X.K W mb)) : PE X (.IfExp c a b pos) (tE X.K W (cIf kb ma mb)) := (pe_ifExp hc h1 h2).imp fun σ H Q h => by
  have h0 := Told.evalB (vs := []) (m := kb) (F := fun k ds s R => if k = true then ma s R else mb s R) (Told.conv h fun _ _ => rfl)
  refine h0.imp fun k H1 t => ?_
  cases k with
  | true => rw [if_pos rfl]; exact Told.conv t fun _ _ => if_pos rfl
  | false => rw [if_neg (by decide)]; exact Told.conv t fun _ _ => if_neg (by decide)
/-! ### tests -/
theorem sb_not (h : PT X a (tB X.K W ka)) : PT X (.UnaryOp .Not a pos) (tB X.K W (bNot ka)) := (pt_not h).imp fun σ H Q h => by
  have h0 := Told.evalB (vs := []) (m := ka) (F := fun k ds s R => .ok (!k) R) (Told.conv h fun _ _ => rfl)
  exact h0.imp fun k H1 t => Told.retB t
theorem sb_and {r : List Expr} (h1 : PT X a (tB X.K W ka)) (h2 : PW X (.BoolOp .And (b :: r) pos) (tB X.K W kb)) : PW X (.BoolOp .And (a :: b :: r) pos) (tB X.K W (bAnd ka kb)) := (pw_and h1 h2).imp fun σ H Q h => by
  have h0 := Told.evalB (vs := []) (m := ka) (F := fun k ds s R => if k = true then kb s R else .ok false R) (Told.conv h fun _ _ => rfl)
  refine h0.imp fun k H1 t => ?_
  cases k with
  | true => rw [if_pos rfl]; exact Told.conv t fun _ _ => if_pos rfl
  | false => rw [if_neg (by decide)]; exact Told.retB (Told.conv t fun _ _ => if_neg (by decide))
theorem sb_or {r : List Expr} (h1 : PT X a (tB X.K W ka)) (h2 : PW X (.BoolOp .Or (b :: r) pos) (tB X.K W kb)) : PW X (.BoolOp .Or (a :: b :: r) pos) (tB X.K W (bOr ka kb)) := (pw_or h1 h2).imp fun σ H Q h => by
  have h0 := Told.evalB (vs := []) (m := ka) (F := fun k ds s R => if k = true then .ok true R else kb s R) (Told.conv h fun _ _ => rfl)
  refine h0.imp fun k H1 t => ?_
  cases k with
  | true => rw [if_pos rfl]; exact Told.retB (Told.conv t fun _ _ => if_pos rfl)
  | false => rw [if_neg (by decide)]; exact Told.conv t fun _ _ => if_neg (by decide)
theorem tru_rd {K : PySem.W.Frag} {B : Addr → Prop} {io : Io} {R : Rg} {H : Hp} {d : D} {v : V} {k : Bool} (rep : Rep K B io R H) (r : RD K (bars B io) io H d v) (e : truD R d = some k) : TruV K v H k := by
  have lst : ∀ {ds : List D} {a : Addr} {vs : List V}, SqL K H a vs → RDs K (bars B io) io H ds vs → TruV K (.ref a) H (!ds.isEmpty) := fun {ds a vs} h r => by
    refine .inl ⟨vs, h, ?_⟩
    cases r <;> rfl
  cases r with
  | non => cases e; exact rfl
  | bl b => cases e; exact rfl
  | int i => cases e; exact rfl
  | str x =>
    have e' : (if x.length ≤ LINE then some (x.length != 0) else none) = some k := e
    split at e'
    · rename_i hl
      cases e'
      refine ⟨by rw [strOf_length]; exact hl, ?_⟩
      rw [strOf_length]
      cases hx : x.length <;> simp <;> omega
    · cases e'
  | tup h r =>
    cases e
    refine .inr (.inl ⟨_, h, ?_⟩)
    cases r <;> rfl
  | lst h r => cases e; exact lst h.sq r
  | @ref i a hi q =>
    have e' : (match (R[i]?).getD O.dead with
      | .lst xs => some (!xs.isEmpty)
      | _ => none) = some k := e
    cases e1 : R[i]? with
    | none =>
      rw [e1] at e'
      cases e'
    | some o =>
      rw [e1] at e'
      cases o with
      | lst xs =>
        cases e'
        obtain ⟨p, vs, h1, h2, r⟩ := rep.atLst e1
        rw [← q p h1]
        exact lst (.inl (.inl h2)) r
      | _ => cases e'
  | _ => cases e
theorem sb_val (h : PE X a (tE X.K W ma)) (he : ∀ whole, isTrue a X.env whole = (do let v ← whole; standAt a.pos; holding [v] (truthy v))) : PT X a (tB X.K W (bVal ma)) := (pt_truth h he).imp fun σ H Q h => by
  have h0 := Told.eval (vs := []) (m := ma) (F := fun ds s R => match ds with | [x] => (match truD R x with | some k => .ok k R | none => .err) | _ => .err) (rel := fun _ _ _ a b => a = b) (Q := Q) (Told.conv h fun _ _ => rfl)
  refine h0.imp fun v H1 t => ?_
  obtain ⟨B, io, R, s, ds, rep, rs, rd, p⟩ := t
  obtain ⟨d, ds, rfl, r, rd⟩ := rd.cons_inv
  cases rd.nil_inv
  have p : Pst X.K B io H1 W σ (fun _ _ _ a b => a = b) (match truD R d with | some k => .ok k R | none => .err) Q := p
  cases e : truD R d with
  | none =>
    rw [e] at p
    exact p.elim
  | some k =>
    rw [e] at p
    exact ⟨k, tru_rd rep r e, p io H1 k (Step.refl _ _) rep rfl⟩
/-! ### subscripts, calls of what is built in -/
theorem se_ix (hu : X.A.units + 1 < cLine) (h1 : PE X a (tE X.K W ma)) (h2 : PE X b (tE X.K W mb)) (hs : PlainIx b) : PE X (.Subscript a b pos) (tE X.K W (cOp2 ixD ma mb)) := by
  refine (pe_ix (ok_ix hu) h1 h2 hs).imp fun σ H Q q => ?_
  have z := Told.eval (K := X.K) (W := W) (σ := σ) (H := H) (rel := RD X.K) (vs := []) (m := ma) (F := fun ds s R => (mb s R).bind fun y R2 => lift (pn2 ixD (ds ++ [y]) R2)) (Q := Q) (Told.conv q fun _ _ => rfl)
  exact z.imp fun v H1 t => (Told.eval (vs := [v]) (m := mb) (F := fun ds s R => lift (pn2 ixD ds R)) t).imp fun w H2 t => Told.op t
theorem cb_core {K : PySem.W.Frag} {σ : S} {H : Hp} {p : PN} {Q : VK} (h : tE K W (cOpN p mes) σ H Q) : tCB (rN K p) (tA K W mes) σ H Q := by
  have h0 := Told.evalA (vs := []) (m := mes) (F := fun ds _ R => lift (p ds R)) (Told.conv h fun _ _ => rfl)
  exact h0.imp fun us H1 t => Told.op t
end
end Om
/-! Om, part H: targets, statements, loops. -/
namespace Om
open PySem PySem.Spec PyProof.Rows L2
/-! ### targets -/
def gVar (i : Nat) : SG := fun d s R => .ok (s.set i d) R
def gErr : SG := fun _ _ _ => .err
abbrev SGs := List D → List D → Rg → Res (List D)
def gN : SGs := fun ds s R => match ds with
  | [] => .ok s R
  | _ => .err
def gC (g : SG) (r : SGs) : SGs := fun ds s R => match ds with
  | d :: ds => (g d s R).bind fun s1 R1 => r ds s1 R1
  | [] => .err
def gT (n : Nat) (g : SGs) : SG := fun d s R => match seqOf R d with
  | some xs => if xs.length = n then g xs s R else .err
  | none => .err
section
variable (K : PySem.W.Frag) (ws : List Nat) (B : Addr → Prop) (io : Io) (H : Hp) (σ : S)
/-- ws: the slots that may be touched -/
def PstG (r : Res (List D)) (Q : S → Hp → Prop) : Prop := match r with
  | .ok s R' => ∀ io' H' σ', Step io H io' H' → Rep K B io' R' H' → RS K (bars B io') io' H' s σ' → wipe σ' ws = wipe σ ws → Q σ' H'
  | _ => False
end
def tG (K : PySem.W.Frag) (ws : List Nat) (m : SG) : TG := fun v σ H Q => ∃ B io R s d, Rep K B io R H ∧ RS K (bars B io) io H s σ ∧ RD K (bars B io) io H d v ∧ PstG K ws B io H σ (m d s R) Q
def tGs (K : PySem.W.Frag) (ws : List Nat) (m : SGs) : TGs := fun vs σ H Q => ∃ B io R s ds, Rep K B io R H ∧ RS K (bars B io) io H s σ ∧ RDs K (bars B io) io H ds vs ∧ PstG K ws B io H σ (m ds s R) Q
section
variable {ws : List Nat}
theorem wipe_set {v : Option V} : ∀ {ws : List Nat} {σ : S} {i : Nat}, i ∈ ws → wipe (σ.set i v) ws = wipe σ ws
  | w :: ws, σ, i, h => by
    unfold wipe
    by_cases e : i = w
    · subst e
      by_cases h2 : i ∈ ws
      · rw [wipe_set h2]
      · have c : ∀ {us : List Nat} {τ : S}, i ∉ us → wipe (τ.set i v) us = (wipe τ us).set i v := by
          intro us
          induction us with
          | nil => exact fun _ => rfl
          | cons u us ih =>
            intro τ hn
            have h1 : i ≠ u := fun z => hn (by rw [z]; exact List.mem_cons_self)
            unfold wipe
            rw [ih fun z => hn (List.mem_cons_of_mem _ z)]
            rw [List.set_comm _ _ h1]
        rw [c h2, List.set_set]
    · have h2 : i ∈ ws := by
        rcases List.mem_cons.mp h with z | z
        · exact absurd z e
        · exact z
      rw [wipe_set h2]
variable {X : Cx} {W : WX} {a b c e : Expr} {es : List Expr} {ma mb mc : SE} {pos : Pos}
theorem _root_.L2.PG.imp {t t' : TG} (h : PG X e t) (i : ∀ v σ H Q, t' v σ H Q → t v σ H Q) : PG X e t' := ⟨fun pins s σ H v u Q I r q => h.run pins s σ H v u Q I r (i v σ H Q q)⟩
theorem _root_.L2.PGs.imp {t t' : TGs} (h : PGs X es t) (i : ∀ v σ H Q, t' v σ H Q → t v σ H Q) : PGs X es t' := ⟨fun pins s σ H v u Q I r q => h.run pins s σ H v u Q I r (i v σ H Q q)⟩
theorem _root_.L2.PG.or {t t' : TG} (h : PG X e t) (h' : PG X e t') : PG X e (fun v σ H Q => t v σ H Q ∨ t' v σ H Q) := ⟨fun pins s σ H v u Q I r q => by
  rcases q with q | q
  · exact h.run pins s σ H v u Q I r q
  · exact h'.run pins s σ H v u Q I r q⟩
theorem RS.set {K : PySem.W.Frag} {bar : Addr → Prop} {io : Io} {H : Hp} {s : List D} {σ : S} {d : D} {v : V} (r : RS K bar io H s σ) (i : Nat) (q : RD K bar io H d v) : RS K bar io H (s.set i d) (σ.set i (some v)) := by
  refine ⟨by rw [List.length_set, List.length_set]; exact r.1, fun j x e => ?_⟩
  by_cases hj : i = j
  · subst hj
    by_cases hl : i < s.length
    · rw [List.getElem?_set_self hl] at e
      cases e
      have hl' : i < σ.length := by rw [← r.1]; exact hl
      exact ⟨_, List.getElem?_set_self hl', .inr ⟨v, rfl, q⟩⟩
    · rw [List.getElem?_eq_none (by rw [List.length_set]; omega)] at e
      cases e
  · rw [List.getElem?_set_ne hj] at e ⊢
    exact r.2 j x e
theorem sg_var {i : Nat} (h : PG X e (gName i)) (hi : i ∈ ws) : PG X e (tG X.K ws (gVar i)) := h.imp fun v σ H Q ⟨B, io, R, s, d, rep, rs, rd, p⟩ => p io H _ (Step.refl _ _) rep (rs.set i rd) (wipe_set hi)
theorem sg_err : PG X e (tG X.K ws gErr) := ⟨fun _ _ _ _ _ _ _ _ _ ⟨_, _, _, _, _, _, _, _, p⟩ => p.elim⟩
theorem PstG.bind {K : PySem.W.Frag} {B : Addr → Prop} {io : Io} {H : Hp} {σ : S} {r : Res (List D)} {f : List D → Rg → Res (List D)} {Q : S → Hp → Prop} (p : PstG K ws B io H σ (r.bind f) Q) :
    PstG K ws B io H σ r fun σ' H1 => ∃ io1 R1 s1, Step io H io1 H1 ∧ Rep K B io1 R1 H1 ∧ RS K (bars B io1) io1 H1 s1 σ' ∧ PstG K ws B io1 H1 σ' (f s1 R1) Q := by
  cases r with
  | ok s R =>
    intro io1 H1 σ' st rep rs wp
    refine ⟨io1, R, s, st, rep, rs, ?_⟩
    have p : PstG K ws B io H σ (f s R) Q := p
    cases e : f s R with
    | ok s2 R2 =>
      rw [e] at p
      exact fun io2 H2 σ2 st2 rep2 rs2 wp2 => p io2 H2 σ2 (st.trans st2) rep2 rs2 (wp2.trans wp)
    | exc _ _ _ =>
      rw [e] at p
      exact p.elim
    | err =>
      rw [e] at p
      exact p.elim
  | exc _ _ _ => exact p.elim
  | err => exact p.elim
theorem PstG.imp {K : PySem.W.Frag} {B : Addr → Prop} {io : Io} {H : Hp} {σ : S} {r : Res (List D)} {Q Q' : S → Hp → Prop} (p : PstG K ws B io H σ r Q) (i : ∀ σ H', Q σ H' → Q' σ H') : PstG K ws B io H σ r Q' := by
  cases r with
  | ok s R => exact fun io1 H1 σ' st rep rs wp => i _ _ (p io1 H1 σ' st rep rs wp)
  | exc _ _ _ => exact p.elim
  | err => exact p.elim
theorem sgs_nil : PGs X [] (tGs X.K ws gN) := pgs_nil.imp fun vs σ H Q ⟨B, io, R, s, ds, rep, rs, rd, p⟩ => by
  cases rd with
  | nil => exact ⟨rfl, p io H σ (Step.refl _ _) rep rs rfl⟩
  | cons _ _ => exact p.elim
theorem sgs_cons {g : SG} {gs : SGs} (h1 : PG X e (tG X.K ws g)) (h2 : PGs X es (tGs X.K ws gs)) (hs : (assignEach (e :: es) X.env).map (·.2) = assign e X.env :: (assignEach es X.env).map (·.2)) : PGs X (e :: es) (tGs X.K ws (gC g gs)) :=
  (pgs_cons h1 h2 hs).imp fun vs σ H Q ⟨B, io, R, s, ds, rep, rs, rd, p⟩ => by
    cases rd with
    | nil => exact p.elim
    | cons r t =>
      refine ⟨_, _, rfl, B, io, R, s, _, rep, rs, r, (PstG.bind p).imp fun σ1 H1 ⟨io1, R1, s1, st, rep1, rs1, p1⟩ => ?_⟩
      exact ⟨B, io1, R1, s1, _, rep1, rs1, t.car (st.car rep), p1⟩
theorem sg_tup {k n : Nat} {g : SGs} (hc : X.calm = true) (h : PGs X es (tGs X.K ws g)) (hn : (assignEach es X.env).length = n) (hst : (assignEach es X.env).findIdx? (·.1) = none) : PG X (.Tuple es k pos) (tG X.K ws (gT n g)) :=
  ((pg_tup (pos := pos) (k := k) hc h hn hst).or (pg_lst (pos := pos) (k := k) hc h hn hst)).imp fun v σ H Q ⟨B, io, R, s, d, rep, rs, rd, p⟩ => by
    have p : PstG X.K ws B io H σ (match seqOf R d with
      | some xs => if xs.length = n then g xs s R else .err
      | none => .err) Q := p
    cases e : seqOf R d with
    | none =>
      rw [e] at p
      exact p.elim
    | some xs =>
      rw [e] at p
      obtain ⟨a, vs, rfl, hq, rx⟩ := rd.seq rep e
      have p : PstG X.K ws B io H σ (if xs.length = n then g xs s R else .err) Q := p
      split at p
      · rename_i hl
        have hl' : vs.length = n := by rw [← rx.len]; exact hl
        rcases hq with hq | hq
        · exact .inr ⟨a, vs, rfl, hq, hl', B, io, R, s, xs, rep, rs, rx, p⟩
        · exact .inl ⟨a, vs, rfl, hq, hl', B, io, R, s, xs, rep, rs, rx, p⟩
      · exact p.elim
/-! ### statements -/
section
variable (K : PySem.W.Frag) (B : Addr → Prop) (io : Io) (H : Hp) (W : WX)
def PstS (o : Out) (D : Ends) : Prop := match o with
  | .nx s R' => ∀ io' H' σ', Step io H io' H' → Rep K B io' R' H' → RS K (bars B io') io' H' s σ' → D.nx σ' H'
  | .bk s R' => ∀ io' H' σ', Step io H io' H' → Rep K B io' R' H' → RS K (bars B io') io' H' s σ' → D.bk σ' H'
  | .ct s R' => ∀ io' H' σ', Step io H io' H' → Rep K B io' R' H' → RS K (bars B io') io' H' s σ' → D.ct σ' H'
  | .rt d R' => ∀ io' H' v, Step io H io' H' → Rep K B io' R' H' → RD K (bars B io') io' H' d v → D.rt v H'
  | .exc c f s R' => ∀ io' H' σ' cls d, Step io H io' H' → Rep K B io' R' H' → RS K (bars B io') io' H' s σ' → RX K (bars B io') io' H' c f cls d → W cls d σ' H'
  | .err => False
end
def tS (K : PySem.W.Frag) (W : WX) (m : SS) : TS := fun D σ H => ∃ B io R s, Rep K B io R H ∧ RS K (bars B io) io H s σ ∧ PstS K B io H W (m s R) D
def sErr : SS := fun _ _ => .err
def sPass : SS := fun s R => .nx s R
def sBrk : SS := fun s R => .bk s R
def sCont : SS := fun s R => .ct s R
def sSeq (a b : SS) : SS := fun s R => match a s R with
  | .nx s1 R1 => b s1 R1
  | o => o
def sBind {A : Type} (r : Res A) (s : List D) (f : A → Rg → Out) : Out := match r with
  | .ok a R => f a R
  | .exc c x R => .exc c x s R
  | .err => .err
def sRet (a : SE) : SS := fun s R => sBind (a s R) s fun d R1 => .rt d R1
def sRetN : SS := fun _ R => .rt .non R
def sExpr (a : SE) : SS := fun s R => sBind (a s R) s fun _ R1 => .nx s R1
def sGo (g : SG) (d : D) (s : List D) (R : Rg) : Out := match g d s R with
  | .ok s1 R1 => .nx s1 R1
  | _ => .err
def sAsg (a : SE) (g : SG) : SS := fun s R => sBind (a s R) s fun d R1 => sGo g d s R1
def sIf (c : SB) (a b : SS) : SS := fun s R => sBind (c s R) s fun k R1 => if k = true then a s R1 else b s R1
def sAug (i : Nat) (p : P2) (a : SE) : SS := fun s R => match s[i]? with
  | some .undef => .err
  | some x => sBind (a s R) s fun y R1 => match p x y R1 with
    | some (z, R2) => .nx (s.set i z) R2
    | none => .err
  | none => .err
theorem PstS.shift {K : PySem.W.Frag} {B : Addr → Prop} {io io1 : Io} {H H1 : Hp} {o : Out} {D : Ends} (st : Step io H io1 H1) (h : PstS K B io H W o D) : PstS K B io1 H1 W o D := by
  cases o with
  | nx s R => exact fun io' H' σ' st' => h io' H' σ' (st.trans st')
  | bk s R => exact fun io' H' σ' st' => h io' H' σ' (st.trans st')
  | ct s R => exact fun io' H' σ' st' => h io' H' σ' (st.trans st')
  | rt d R => exact fun io' H' v st' => h io' H' v (st.trans st')
  | exc c f s R => exact fun io' H' σ' cls d st' => h io' H' σ' cls d (st.trans st')
  | err => exact h
theorem PstS.bind {K : PySem.W.Frag} {B : Addr → Prop} {io : Io} {H : Hp} {σ : S} {A Z : Type} {rel : Rel A Z} {r : Res A} {s : List D} {f : A → Rg → Out} {D : Ends} (p : PstS K B io H W (sBind r s f) D)
    (rs : RS K (bars B io) io H s σ) (rep : ∃ R, Rep K B io R H) : Pst K B io H W σ rel r fun z H1 => ∃ io1 R1 a, Step io H io1 H1 ∧ Rep K B io1 R1 H1 ∧ rel (bars B io1) io1 H1 a z ∧ PstS K B io1 H1 W (f a R1) D := by
  cases r with
  | ok a R => exact fun io1 H1 z st rep1 q => ⟨io1, R, a, st, rep1, q, PstS.shift st p⟩
  | exc c x R =>
    obtain ⟨R0, rep⟩ := rep
    exact fun io1 H1 cls d st rep1 q => p io1 H1 σ cls d st rep1 (rs.car (st.car rep)) q
  | err => exact p
theorem ss_err {st : Stmt} : PS X st (tS X.K W sErr) := ⟨fun _ _ _ _ _ _ ⟨_, _, _, _, _, _, p⟩ => p.elim⟩
theorem sss_err {st : List Stmt} : PSs X st (tS X.K W sErr) := ⟨fun _ _ _ _ _ _ ⟨_, _, _, _, _, _, p⟩ => p.elim⟩
theorem ss_nil : PSs X [] (tS X.K W sPass) := pss_nil.imp fun D σ H ⟨B, io, R, s, rep, rs, p⟩ => p io H σ (Step.refl _ _) rep rs
theorem ss_pass : PS X (.Pass pos) (tS X.K W sPass) := ps_pass.imp fun D σ H ⟨B, io, R, s, rep, rs, p⟩ => p io H σ (Step.refl _ _) rep rs
theorem ss_break : PS X (.Break pos) (tS X.K W sBrk) := ps_break.imp fun D σ H ⟨B, io, R, s, rep, rs, p⟩ => p io H σ (Step.refl _ _) rep rs
theorem ss_continue : PS X (.Continue pos) (tS X.K W sCont) := ps_continue.imp fun D σ H ⟨B, io, R, s, rep, rs, p⟩ => p io H σ (Step.refl _ _) rep rs
theorem ss_cons {st : Stmt} {sts : List Stmt} {m n : SS} (h1 : PS X st (tS X.K W m)) (h2 : PSs X sts (tS X.K W n)) : PSs X (st :: sts) (tS X.K W (sSeq m n)) := (pss_cons h1 h2).imp fun D σ H ⟨B, io, R, s, rep, rs, p⟩ => by
  refine ⟨B, io, R, s, rep, rs, ?_⟩
  have p : PstS X.K B io H W (match m s R with
    | .nx s1 R1 => n s1 R1
    | o => o) D := p
  cases e : m s R with
  | nx s1 R1 =>
    rw [e] at p
    exact fun io1 H1 σ1 st rep1 rs1 => ⟨B, io1, R1, s1, rep1, rs1, PstS.shift st p⟩
  | _ =>
    rw [e] at p
    exact p
theorem ss_ret (h : PE X e (tE X.K W ma)) : PS X (.Return (some e) pos) (tS X.K W (sRet ma)) := (ps_ret h).imp fun D σ H ⟨B, io, R, s, rep, rs, p⟩ =>
  ⟨B, io, R, s, [], rep, rs, .nil, (PstS.bind (rel := RD X.K) p rs ⟨R, rep⟩).imp fun v H1 ⟨io1, R1, a, st, rep1, q, p1⟩ => p1 io1 H1 v (Step.refl _ _) rep1 q⟩
theorem ss_retN : PS X (.Return none pos) (tS X.K W sRetN) := ps_retN.imp fun D σ H ⟨B, io, R, s, rep, rs, p⟩ => p io H _ (Step.refl _ _) rep .non
theorem ss_expr (h : PE X e (tE X.K W ma)) (hs : swapsWith e none pos.line X.env = pure false) : PS X (.Expr e pos) (tS X.K W (sExpr ma)) := (ps_expr h hs).imp fun D σ H ⟨B, io, R, s, rep, rs, p⟩ =>
  ⟨B, io, R, s, [], rep, rs, .nil, (PstS.bind (rel := RD X.K) p rs ⟨R, rep⟩).imp fun v H1 ⟨io1, R1, a, st, rep1, q, p1⟩ => p1 io1 H1 σ (Step.refl _ _) rep1 (rs.car (st.car rep))⟩
theorem PstS.go {K : PySem.W.Frag} {B : Addr → Prop} {io : Io} {H : Hp} {g : SG} {d : D} {s : List D} {R : Rg} {E : Ends} {σ : S} (p : PstS K B io H W (sGo g d s R) E) : PstG K ws B io H σ (g d s R) E.nx := by
  unfold sGo at p
  cases e : g d s R with
  | ok s1 R1 =>
    rw [e] at p
    exact fun io' H' σ' st rep rs _ => p io' H' σ' st rep rs
  | exc _ _ _ =>
    rw [e] at p
    exact p.elim
  | err =>
    rw [e] at p
    exact p.elim
theorem asg_core {K : PySem.W.Frag} {g : SG} {D : Ends} {σ : S} {H : Hp} (h : tS K W (sAsg ma g) D σ H) : tAsg (tE K W ma) (tG K ws g) D σ H := by
  obtain ⟨B, io, R, s, rep, rs, p⟩ := h
  refine ⟨B, io, R, s, [], rep, rs, .nil, (PstS.bind (rel := RD K) p rs ⟨R, rep⟩).imp fun v H1 ⟨io1, R1, a, st, rep1, q, p1⟩ => ?_⟩
  exact ⟨B, io1, R1, s, a, rep1, rs.car (st.car rep), q, p1.go⟩
theorem ss_asg {tg : Expr} {g : SG} (h : PE X e (tE X.K W ma)) (hg : PG X tg (tG X.K ws g)) (hs : swapsWithSole [tg] e pos.line X.env = pure false) (hw : swappedStores [tg] e X.env = pure none)
    (h1 : (assignEach [tg] X.env).map (·.2) = [assign tg X.env]) : PS X (.Assign [tg] e pos) (tS X.K W (sAsg ma g)) := (ps_asg h hg hs hw h1).imp fun D σ H h => asg_core h
theorem ss_if {kb : SB} {p q : List Stmt} {m n : SS} (hc : PT X c (tB X.K W kb)) (h1 : PSs X p (tS X.K W m)) (h2 : PSs X q (tS X.K W n)) : PS X (.If c p q pos) (tS X.K W (sIf kb m n)) := (ps_if hc h1 h2).imp fun D σ H ⟨B, io, R, s, rep, rs, p⟩ => by
  refine ⟨B, io, R, s, [], rep, rs, .nil, (PstS.bind (rel := fun _ _ _ a b => a = b) p rs ⟨R, rep⟩).imp fun k H1 ⟨io1, R1, a, st, rep1, q, p1⟩ => ?_⟩
  subst q
  cases a with
  | true =>
    rw [if_pos rfl] at p1 ⊢
    exact ⟨B, io1, R1, s, rep1, rs.car (st.car rep), p1⟩
  | false =>
    rw [if_neg (by decide)] at p1 ⊢
    exact ⟨B, io1, R1, s, rep1, rs.car (st.car rep), p1⟩
/-! ### what is walked -/
/-- the next thing at a turn, by the region as it stands: none is an error, some none the end -/
abbrev Src := Rg → Nat → Option (Option D)
abbrev SI := List D → Rg → Res Src
def fixS (xs : List D) : Src := fun _ i => some xs[i]?
def liveS (r : Nat) : Src := fun R i => match R[r]? with
  | some (.lst xs) => some xs[i]?
  | _ => none
def enuS (f : Src) : Src := fun R i => match f R i with
  | some (some d) => some (some (.tup [.int i, d]))
  | o => o
def rngS (lo : Int) (n : Nat) : Src := fun _ i => if i < n then some (some (.int (lo + i))) else some none
/-- what is hidden more is new -/
def Wid (B B' : Addr → Prop) (H : Hp) : Prop := ∀ a, B' a → B a ∨ H a = none
theorem Wid.refl (B : Addr → Prop) (H : Hp) : Wid B B H := fun _ h => .inl h
theorem Step.carB {K : PySem.W.Frag} {B B' : Addr → Prop} {io io1 : Io} {R : Rg} {H H1 : Hp} (st : Step io H io1 H1) (r : Rep K B io R H) (w : Wid B B' H) : Car K (bars B io) io H (bars B' io1) io1 H1 where
  tup := (st.car r).tup
  oth := fun a o h n => ⟨st.fr a o h fun z => n (.inr z), fun z => by
    rcases z with z | z
    · rcases w a z with z | z
      · exact n (.inl z)
      · rw [h] at z; cases z
    · rcases st.nw a z with y | y
      · exact n (.inr y)
      · rw [h] at y; cases y⟩
  ref := (st.car r).ref
def SrcOk (K : PySem.W.Frag) (B : Addr → Prop) (io : Io) (H : Hp) (J : It) (f : Src) : Prop :=
  ∀ B' io' R' H', Wid B B' H → Step io H io' H' → Rep K B' io' R' H' → ∀ i : Nat, match f R' i with
    | some (some d) => J.go i H' ∧ ∀ x H2, J.yld i H' x H2 → Step io' H' io' H2 ∧ Rep K B' io' R' H2 ∧ RD K (bars B' io') io' H2 d x
    | some none => J.stop i H'
    | none => True
def PstI (K : PySem.W.Frag) (W : WX) (B : Addr → Prop) (io : Io) (H : Hp) (σ : S) (r : Res Src) (Q : It → Hp → Prop) : Prop := match r with
  | .ok f R' => ∀ io' H' J, Step io H io' H' → Rep K B io' R' H' → SrcOk K B io' H' J f → Q J H'
  | .exc c f R' => ∀ io' H' cls d, Step io H io' H' → Rep K B io' R' H' → RX K (bars B io') io' H' c f cls d → W cls d σ H'
  | .err => False
def tI (K : PySem.W.Frag) (W : WX) (m : SI) : TI := fun σ H Q => ∃ B io R s, Rep K B io R H ∧ RS K (bars B io) io H s σ ∧ PstI K W B io H σ (m s R) Q
theorem _root_.L2.PI.imp {tg : Expr} {t t' : TI} (h : PI X tg e t) (i : ∀ σ H Q, t' σ H Q → t σ H Q) : PI X tg e t' := ⟨fun pins s σ H Q I q => h.run pins s σ H Q I (i σ H Q q)⟩
theorem _root_.L2.PI.or {tg : Expr} {t t' : TI} (h : PI X tg e t) (h' : PI X tg e t') : PI X tg e (fun σ H Q => t σ H Q ∨ t' σ H Q) := ⟨fun pins s σ H Q I q => by
  rcases q with q | q
  · exact h.run pins s σ H Q I q
  · exact h'.run pins s σ H Q I q⟩
theorem si_err {tg : Expr} : PI X tg e (tI X.K W (fun _ _ => .err)) := ⟨fun _ _ _ _ _ _ ⟨_, _, _, _, _, _, p⟩ => p.elim⟩
/-- the items of a list or of a tuple -/
def srcD (d : D) (R : Rg) : Res Src := match d with
  | .lst xs => .ok (fixS xs) R
  | .tup xs => .ok (fixS xs) R
  | .ref r => match R[r]? with
    | some (.lst _) => .ok (liveS r) R
    | _ => .err
  | _ => .err
def iSeq (m : SE) : SI := fun s R => (m s R).bind srcD
theorem rds_at {K : PySem.W.Frag} {bar : Addr → Prop} {io : Io} {H : Hp} : ∀ {ds : List D} {vs : List V} {i : Nat} {d : D}, RDs K bar io H ds vs → ds[i]? = some d → ∃ v, vs[i]? = some v ∧ RD K bar io H d v
  | _, _, _, _, .nil, e => by simp at e
  | _, _, 0, _, .cons r t, e => by
    have e : _ = _ := Option.some.inj e
    subst e
    exact ⟨_, rfl, r⟩
  | _, _, i + 1, _, .cons r t, e => rds_at (i := i) t (by simpa using e)
theorem src_lst {K : PySem.W.Frag} {B : Addr → Prop} {io : Io} {H : Hp} {R : Rg} {a : Addr} {xs : List D} {vs : List V} (rep : Rep K B io R H) (h : LstAt K (bars B io) H a vs) (r : RDs K (bars B io) io H xs vs) : SrcOk K B io H (Itl K a) (fixS xs) := by
  intro B' io' R' H' wd st rep' i
  have c := st.carB rep wd
  have hh := (h.car c).sq
  show match (some xs[i]? : Option (Option D)) with
    | some (some d) => _
    | some none => _
    | none => True
  cases e : xs[i]? with
  | none => exact ⟨vs, hh, by rw [← r.len]; exact List.getElem?_eq_none_iff.mp e⟩
  | some d =>
    obtain ⟨v, ev, rv⟩ := rds_at (r.car c) e
    refine ⟨⟨vs, v, hh, ev⟩, fun x H2 hy => ?_⟩
    obtain ⟨rfl, hy⟩ := hy
    have := hy vs hh
    rw [ev] at this
    cases this
    exact ⟨Step.refl _ _, rep', rv⟩
theorem src_live {K : PySem.W.Frag} {B : Addr → Prop} {io : Io} {H : Hp} {a : Addr} {r : Nat} (hr : r < io.length) (q : ∀ p, io[r]? = some (some p) → p = a) : SrcOk K B io H (Itl K a) (liveS r) := by
  intro B' io' R' H' wd st rep' i
  show match (match R'[r]? with
    | some (.lst xs) => some xs[i]?
    | _ => none : Option (Option D)) with
    | some (some d) => _
    | some none => _
    | none => True
  cases e : R'[r]? with
  | none => trivial
  | some o =>
    cases o with
    | lst xs =>
      obtain ⟨p, vs, h1, h2, rx⟩ := rep'.atLst e
      have ep : p = a := by
        rcases st.ix r hr with z | z
        · exact q p (z.symm.trans h1)
        · rw [z] at h1
          cases h1
      subst ep
      show match (some xs[i]? : Option (Option D)) with
        | some (some d) => _
        | some none => _
        | none => True
      cases e2 : xs[i]? with
      | none => exact ⟨vs, .inl (.inl h2), by rw [← rx.len]; exact List.getElem?_eq_none_iff.mp e2⟩
      | some d =>
        obtain ⟨v, ev, rv⟩ := rds_at rx e2
        refine ⟨⟨vs, v, .inl (.inl h2), ev⟩, fun x H2 hy => ?_⟩
        obtain ⟨rfl, hy⟩ := hy
        have := hy vs (.inl (.inl h2))
        rw [ev] at this
        cases this
        exact ⟨Step.refl _ _, rep', rv⟩
    | _ => trivial
theorem src_tup {K : PySem.W.Frag} {B : Addr → Prop} {io : Io} {H : Hp} {R : Rg} {a : Addr} {xs : List D} {vs : List V} (rep : Rep K B io R H) (h : SqT K H a vs) (r : RDs K (bars B io) io H xs vs) : SrcOk K B io H (Itt K a) (fixS xs) := by
  intro B' io' R' H' wd st rep' i
  have c := st.carB rep wd
  have hh := c.sqT h
  show match (some xs[i]? : Option (Option D)) with
    | some (some d) => _
    | some none => _
    | none => True
  cases e : xs[i]? with
  | none => exact ⟨vs, hh, by rw [← r.len]; exact List.getElem?_eq_none_iff.mp e⟩
  | some d =>
    obtain ⟨v, ev, rv⟩ := rds_at (r.car c) e
    refine ⟨⟨vs, v, hh, ev⟩, fun x H2 hy => ?_⟩
    obtain ⟨rfl, hy⟩ := hy
    have := hy vs hh
    rw [ev] at this
    cases this
    exact ⟨Step.refl _ _, rep', rv⟩
theorem PstI.shift {K : PySem.W.Frag} {B : Addr → Prop} {io io1 : Io} {H H1 : Hp} {σ : S} {r : Res Src} {Q : It → Hp → Prop} (st : Step io H io1 H1) (h : PstI K W B io H σ r Q) : PstI K W B io1 H1 σ r Q := by
  cases r with
  | ok a R => exact fun io' H' b st' => h io' H' b (st.trans st')
  | exc c f R => exact fun io' H' cls d st' => h io' H' cls d (st.trans st')
  | err => exact h
/-- a value is made, then it is walked -/
theorem tI_bind {K : PySem.W.Frag} {A Z : Type} {rel : Rel A Z} {r : Res A} {f : A → Rg → Res Src} {σ : S} {H : Hp} {B : Addr → Prop} {io : Io} {Q : It → Hp → Prop} (h : PstI K W B io H σ (r.bind f) Q) :
    Pst K B io H W σ rel r fun z H1 => ∃ io1 R1 a, Step io H io1 H1 ∧ Rep K B io1 R1 H1 ∧ rel (bars B io1) io1 H1 a z ∧ PstI K W B io1 H1 σ (f a R1) Q := by
  cases r with
  | ok a R => exact fun io1 H1 z st rep q => ⟨io1, R, a, st, rep, q, PstI.shift st h⟩
  | exc c x R => exact h
  | err => exact h
theorem si_seq {tg : Expr} (h : PE X e (tE X.K W ma)) : PI X tg e (tI X.K W (iSeq ma)) := ((pi_list (tg := tg) h).or (pi_tup (tg := tg) h)).imp fun σ H Q ⟨B, io, R, s, rep, rs, p⟩ => by
  have p : PstI X.K W B io H σ ((ma s R).bind srcD) Q := p
  have two : (∃ R1 xs, ma s R = .ok (.tup xs) R1) ∨ ¬ ∃ R1 xs, ma s R = .ok (.tup xs) R1 := Classical.em _
  rcases two with ⟨R1, xs, e⟩ | no
  · refine .inr ⟨B, io, R, s, [], rep, rs, .nil, ?_⟩
    show Pst X.K B io H W σ (RD X.K) (ma s R) _
    rw [e] at p ⊢
    intro io1 H1 v st rep1 r
    cases r with
    | tup h r => exact ⟨_, rfl, ⟨_, h⟩, p io1 H1 _ st rep1 (src_tup rep1 h r)⟩
  · refine .inl ⟨B, io, R, s, [], rep, rs, .nil, ?_⟩
    show Pst X.K B io H W σ (RD X.K) (ma s R) _
    cases e : ma s R with
    | ok d R1 =>
      rw [e] at p
      intro io1 H1 v st rep1 r
      have p := PstI.shift st p
      cases r with
      | tup h r => exact (no ⟨R1, _, e⟩).elim
      | lst h r => exact ⟨_, rfl, ⟨_, h.sq⟩, p io1 H1 _ (Step.refl _ _) rep1 (src_lst rep1 h r)⟩
      | @ref i a hi q =>
        have p : PstI X.K W B io1 H1 σ (match R1[i]? with
          | some (.lst _) => .ok (liveS i) R1
          | _ => .err) Q := p
        cases e1 : R1[i]? with
        | none =>
          rw [e1] at p
          exact p.elim
        | some o =>
          rw [e1] at p
          cases o with
          | lst xs =>
            obtain ⟨p2, vs, h1, h2, rx⟩ := rep1.atLst e1
            rw [← q p2 h1]
            exact ⟨_, rfl, ⟨_, .inl (.inl h2)⟩, p io1 H1 _ (Step.refl _ _) rep1 (src_live hi fun p3 h3 => by rw [h1] at h3; cases h3; rfl)⟩
          | _ => exact p.elim
      | _ => exact p.elim
    | exc c x R1 =>
      rw [e] at p
      exact p
    | err =>
      rw [e] at p
      exact p.elim
end
end Om
/-! Om, part I: loops, sources, stores at places. -/
namespace Om
open PySem PySem.Spec PyProof.Rows L2 RZ
/-- nothing may be raised -/
def noX : WX := fun _ _ _ _ => False
abbrev FUEL : Nat := 1099511627776
/-- what the end of a turn leads to -/
def turnO (k : List D → Rg → Out) (o : Out) : Out := match o with
  | .nx s R => k s R
  | .ct s R => k s R
  | .bk s R => .nx s R
  | .rt d R => .rt d R
  | .exc c f s R => .exc c f s R
  | .err => .err
def forL (g : SG) (b : SS) (f : Src) : Nat → Nat → List D → Rg → Out
  | 0, i, s, R => match f R i with
    | some none => .nx s R
    | _ => .err
  | n + 1, i, s, R => match f R i with
    | none => .err
    | some none => .nx s R
    | some (some d) => match g d s R with
      | .ok s1 R1 => turnO (forL g b f n (i + 1)) (b s1 R1)
      | _ => .err
def sFor (it : SI) (g : SG) (b : SS) : SS := fun s R => sBind (it s R) s fun f R1 => forL g b f FUEL 0 s R1
def whileL (c : SB) (b : SS) : Nat → List D → Rg → Out
  | 0, _, _ => .err
  | n + 1, s, R => sBind (c s R) s fun k R1 => if k = true then turnO (whileL c b n) (b s R1) else .nx s R1
def sWhile (c : SB) (b : SS) : SS := fun s R => whileL c b FUEL s R
section
variable {X : Cx} {W : WX} {a b c e : Expr} {es : List Expr} {ma mb mc : SE} {mas : SA} {pos : Pos} {ws : List Nat}
theorem turn_core {K : PySem.W.Frag} {B : Addr → Prop} {io : Io} {H : Hp} {k : List D → Rg → Out} {o : Out} {D : Ends} {N : S → Hp → Prop} (p : PstS K B io H W (turnO k o) D)
    (hN : ∀ s R io' H' σ', Step io H io' H' → Rep K B io' R H' → RS K (bars B io') io' H' s σ' → PstS K B io' H' W (k s R) D → N σ' H') : PstS K B io H W o { D with nx := N, ct := N, bk := D.nx } := by
  cases o with
  | nx s R => exact fun io' H' σ' st rep rs => hN s R io' H' σ' st rep rs (PstS.shift (o := k s R) st p)
  | ct s R => exact fun io' H' σ' st rep rs => hN s R io' H' σ' st rep rs (PstS.shift (o := k s R) st p)
  | bk s R => exact p
  | rt d R => exact p
  | exc c x s R => exact p
  | err => exact p
theorem for_core {K : PySem.W.Frag} {it : SI} {g : SG} {m : SS} {D : Ends} {σ : S} {H : Hp} (h : tS K W (sFor it g m) D σ H) : tFor (tI K W it) (tG K ws g) (tS K W m) D σ H := by
  obtain ⟨B, io, R, s, rep, rs, p⟩ := h
  refine ⟨B, io, R, s, rep, rs, ?_⟩
  have p : PstS K B io H W (sBind (it s R) s fun f R1 => forL g m f FUEL 0 s R1) D := p
  cases e : it s R with
  | exc c x R1 =>
    rw [e] at p
    exact fun io1 H1 cls d st rep1 q => p io1 H1 σ cls d st rep1 (rs.car (st.car rep)) q
  | err =>
    rw [e] at p
    exact p
  | ok f R1 =>
    rw [e] at p
    intro io1 H1 J st1 rep1 src
    refine ⟨fun i n σ' H' => ∃ io' R' s', Step io1 H1 io' H' ∧ Rep K B io' R' H' ∧ RS K (bars B io') io' H' s' σ' ∧ PstS K B io' H' W (forL g m f n i s' R') D, ⟨FUEL, io1, R1, s, Step.refl _ _, rep1, rs.car (st1.car rep), PstS.shift st1 p⟩, ?_⟩
    rintro i n σ2 H2 ⟨io2, R2, s2, st2, rep2, rs2, p2⟩
    have sr := src B io2 R2 H2 (Wid.refl B H1) st2 rep2 i
    cases ef : f R2 i with
    | none =>
      cases n with
      | zero => rw [forL, ef] at p2; exact p2.elim
      | succ n => rw [forL, ef] at p2; exact p2.elim
    | some o =>
      rw [ef] at sr
      cases o with
      | none =>
        refine .inl ⟨sr, ?_⟩
        have p3 : PstS K B io2 H2 W (.nx s2 R2) D := by
          cases n with
          | zero => rw [forL, ef] at p2; exact p2
          | succ n => rw [forL, ef] at p2; exact p2
        exact p3 io2 H2 σ2 (Step.refl _ _) rep2 rs2
      | some d =>
        obtain ⟨go, yl⟩ := sr
        cases n with
        | zero => rw [forL, ef] at p2; exact p2.elim
        | succ n =>
          rw [forL, ef] at p2
          refine .inr ⟨go, fun σ' H' => ∃ io' R' s', Step io1 H1 io' H' ∧ Rep K B io' R' H' ∧ RS K (bars B io') io' H' s' σ' ∧ PstS K B io' H' W (forL g m f n (i + 1) s' R') D, fun σ' H' q => ⟨n, Nat.lt_succ_self n, q⟩, fun x H3 hy => ?_⟩
          obtain ⟨st3, rep3, rx⟩ := yl x H3 hy
          refine ⟨B, io2, R2, s2, d, rep3, rs2.car (st3.car rep2), rx, ?_⟩
          have p2 : PstS K B io2 H2 W (match g d s2 R2 with
            | .ok s1 R1 => turnO (forL g m f n (i + 1)) (m s1 R1)
            | _ => .err) D := p2
          cases eg : g d s2 R2 with
          | ok s4 R4 =>
            rw [eg] at p2
            intro io4 H4 σ4 st4 rep4 rs4 _
            refine ⟨B, io4, R4, s4, rep4, rs4, turn_core (PstS.shift (st3.trans st4) (show PstS K B io2 H2 W (turnO (forL g m f n (i + 1)) (m s4 R4)) D from p2)) fun s5 R5 io5 H5 σ5 st5 rep5 rs5 p5 => ?_⟩
            exact ⟨io5, R5, s5, ((st2.trans st3).trans st4).trans st5, rep5, rs5, p5⟩
          | exc c x R4 =>
            rw [eg] at p2
            exact p2.elim
          | err =>
            rw [eg] at p2
            exact p2.elim
theorem ss_for {it : SI} {g : SG} {m : SS} {tg : Expr} {body : List Stmt} (hp : PassesOwn (model X.prog X.w) X.A X.env X.xe) (hc : X.calm = true) (hi : PI X tg e (tI X.K W it)) (hg : PG X tg (tG X.K ws g)) (hb : PSs X body (tS X.K W m))
    (hs : ∀ x, foldedSetIterable e X.env x = pure x) : PS X (.For tg e body [] pos) (tS X.K W (sFor it g m)) := (ps_for hp hc hi hg hb hs).imp fun D σ H h => for_core h
theorem while_core {K : PySem.W.Frag} {c : SB} {m : SS} {D : Ends} {σ : S} {H : Hp} (h : tS K W (sWhile c m) D σ H) : tWhile (tB K W c) (tS K W m) D σ H := by
  obtain ⟨B, io, R, s, rep, rs, p⟩ := h
  refine ⟨fun n σ' H' => ∃ io' R' s', Rep K B io' R' H' ∧ RS K (bars B io') io' H' s' σ' ∧ PstS K B io' H' W (whileL c m n s' R') D, ⟨FUEL, io, R, s, rep, rs, p⟩, ?_⟩
  rintro n σ2 H2 ⟨io2, R2, s2, rep2, rs2, p2⟩
  cases n with
  | zero => exact p2.elim
  | succ n =>
    rw [whileL] at p2
    refine ⟨B, io2, R2, s2, [], rep2, rs2, .nil, (PstS.bind (rel := fun _ _ _ a b => a = b) p2 rs2 ⟨R2, rep2⟩).imp fun k H3 ⟨io3, R3, k', st3, rep3, q, p3⟩ => ?_⟩
    subst q
    have rs3 := rs2.car (st3.car rep2)
    cases k' with
    | false =>
      rw [if_neg (by decide)] at p3 ⊢
      exact p3 io3 H3 σ2 (Step.refl _ _) rep3 rs3
    | true =>
      rw [if_pos rfl] at p3 ⊢
      refine ⟨fun σ' H' => ∃ io' R' s', Rep K B io' R' H' ∧ RS K (bars B io') io' H' s' σ' ∧ PstS K B io' H' W (whileL c m n s' R') D, fun σ' H' q => ⟨n, Nat.lt_succ_self n, q⟩, B, io3, R3, s2, rep3, rs3, turn_core p3 fun s5 R5 io5 H5 σ5 st5 rep5 rs5 p5 => ⟨io5, R5, s5, rep5, rs5, p5⟩⟩
theorem ss_while {k : SB} {m : SS} {body : List Stmt} (hp : PassesOwn (model X.prog X.w) X.A X.env X.xe) (hc : PT X c (tB X.K W k)) (hb : PSs X body (tS X.K W m)) : PS X (.While c body [] pos) (tS X.K W (sWhile k m)) := (ps_while hp hc hb).imp fun D σ H h => while_core h
/-! ### other sources -/
/-- over what a call's arguments make -/
def iArgs (f : List D → Rg → Res Src) (m : SA) : SI := fun s R => (m s R).bind f
theorem args_core {K : PySem.W.Frag} {f : List D → Rg → Res Src} {σ : S} {H : Hp} {Q : It → Hp → Prop} (h : tI K W (iArgs f mas) σ H Q) : tA K W mas σ H fun vs H1 => ∃ B io R ds, Rep K B io R H1 ∧ RDs K (bars B io) io H1 ds vs ∧ PstI K W B io H1 σ (f ds R) Q := by
  obtain ⟨B, io, R, s, rep, rs, p⟩ := h
  exact ⟨B, io, R, s, [], rep, rs, .nil, (tI_bind (rel := RDs K) p).imp fun vs H1 ⟨io1, R1, ds, st, rep1, q, p1⟩ => ⟨B, io1, R1, ds, rep1, q, p1⟩⟩
def rngOk (i : Int) : Bool := decide (-(2 ^ 62) ≤ i ∧ i < 2 ^ 62)
def rng1 : List D → Rg → Res Src := fun ds R => match ds with
  | [.int j] => if rngOk j = true then .ok (rngS 0 j.toNat) R else .err
  | _ => .err
def rng2 : List D → Rg → Res Src := fun ds R => match ds with
  | [.int i, .int j] => if rngOk i = true ∧ rngOk j = true then .ok (rngS i (j - i).toNat) R else .err
  | _ => .err
theorem src_rng {K : PySem.W.Frag} {B : Addr → Prop} {io : Io} {H : Hp} (lo : Int) (n : Nat) : SrcOk K B io H (Itr lo n) (rngS lo n) := by
  intro B' io' R' H' wd st rep' i
  unfold rngS
  by_cases h : i < n
  · rw [if_pos h]
    refine ⟨h, fun x H2 hy => ?_⟩
    obtain ⟨rfl, rfl⟩ := hy
    exact ⟨Step.refl _ _, rep', .int _⟩
  · rw [if_neg h]
    exact Nat.le_of_not_lt h
theorem si_range1 {tg : Expr} {p : Pos} (hg : Gl X "range") (hm : X.mg "range" = none) (ha : PA X [a] (tA X.K W mas)) (hs : starEach [a] X.env = [(false, eval a X.env)]) : PI X tg (.Call (.Name "range" p) [a] [] pos) (tI X.K W (iArgs rng1 mas)) :=
  (pi_range1 hg hm ha hs).imp fun σ H Q h => (args_core h).imp fun vs H1 ⟨B, io, R, ds, rep, rd, p⟩ => by
    unfold rng1 at p
    split at p
    · split at p
      · rename_i hj
        obtain ⟨r, t⟩ := (show _ ∧ _ from ⟨rd, trivial⟩)
        cases r with
        | cons r t =>
          cases t
          cases r
          have hj := of_decide_eq_true hj
          exact ⟨_, rfl, hj.1, hj.2, p io H1 _ (Step.refl _ _) rep (src_rng _ _)⟩
      · exact p.elim
    · exact p.elim
theorem si_range2 {tg : Expr} {p : Pos} (hg : Gl X "range") (hm : X.mg "range" = none) (ha : PA X [a, b] (tA X.K W mas)) (hs : starEach [a, b] X.env = [(false, eval a X.env), (false, eval b X.env)]) (hs2 : starEach [b] X.env = [(false, eval b X.env)]) : PI X tg (.Call (.Name "range" p) [a, b] [] pos) (tI X.K W (iArgs rng2 mas)) :=
  (pi_range2 hg hm ha hs hs2).imp fun σ H Q h => (args_core h).imp fun vs H1 ⟨B, io, R, ds, rep, rd, p⟩ => by
    unfold rng2 at p
    split at p
    · split at p
      · rename_i hj
        cases rd with
        | cons r t =>
          cases t with
          | cons r2 t =>
            cases t
            cases r
            cases r2
            have h1 := of_decide_eq_true hj.1
            have h2 := of_decide_eq_true hj.2
            exact ⟨_, _, rfl, ⟨h1.1, h1.2, h2.1, h2.2⟩, p io H1 _ (Step.refl _ _) rep (src_rng _ _)⟩
      · exact p.elim
    · exact p.elim
/-- enumerate of a list -/
def enum1 : List D → Rg → Res Src := fun ds R => match ds with
  | [.lst xs] => .ok (enuS (fixS xs)) R
  | [.ref r] => match R[r]? with
    | some (.lst _) => .ok (enuS (liveS r)) R
    | _ => .err
  | _ => .err
theorem src_enum {K : PySem.W.Frag} {B : Addr → Prop} {io : Io} {H : Hp} {a : Addr} {f : Src} (h : SrcOk K B io H (Itl K a) f) : SrcOk K B io H (Ite K a) (enuS f) := by
  intro B' io' R' H' wd st rep' i
  have q := h B' io' R' H' wd st rep' i
  unfold enuS
  cases e : f R' i with
  | none => trivial
  | some o =>
    rw [e] at q
    cases o with
    | none => exact q
    | some d =>
      obtain ⟨⟨xs, x, h1, h2⟩, yl⟩ := q
      refine ⟨⟨xs, x, h1, h2⟩, fun v H2 hy => ?_⟩
      obtain ⟨T, y, rfl, hT, rfl, hq⟩ := hy
      have e2 := hq xs h1
      rw [h2] at e2
      cases e2
      obtain ⟨_, _, rx⟩ := yl x H' ⟨rfl, hq⟩
      exact tup_ok rep' hT (.cons (.int _) (.cons rx .nil))
theorem si_enum {elts : List Expr} {kk : Nat} {tpos p : Pos} (hg : Gl X "enumerate") (hm : X.mg "enumerate" = none) (ha : PA X [a] (tA X.K W mas)) (hs : starEach [a] X.env = [(false, eval a X.env)]) : PI X (.Tuple elts kk tpos) (.Call (.Name "enumerate" p) [a] [] pos) (tI X.K W (iArgs enum1 mas)) :=
  (pi_enum hg hm ha hs).imp fun σ H Q h => (args_core h).imp fun vs H1 ⟨B, io, R, ds, rep, rd, p⟩ => by
    unfold enum1 at p
    split at p
    · cases rd with
      | cons r t =>
        cases t
        cases r with
        | lst h r => exact ⟨_, _, rfl, h.sq, p io H1 _ (Step.refl _ _) rep (src_enum (src_lst rep h r))⟩
    · cases rd with
      | cons r t =>
        cases t
        cases r with
        | @ref i a hi q =>
          split at p
          · rename_i e1
            obtain ⟨p2, vs, h1, h2, rx⟩ := rep.atLst e1
            rw [← q p2 h1]
            exact ⟨_, _, rfl, .inl (.inl h2), p io H1 _ (Step.refl _ _) rep (src_enum (src_live hi fun p3 h3 => by rw [h1] at h3; cases h3; rfl))⟩
          · exact p.elim
    · exact p.elim
/-- zip of two lists, or of two tuples -/
def zipS (f g : Src) : Src := fun R i => match f R i, g R i with
  | some (some d), some (some e) => some (some (.tup [d, e]))
  | some none, some _ => some none
  | some (some _), some none => some none
  | _, _ => none
def zip2 : List D → Rg → Res Src := fun ds R => match ds with
  | [.tup xs, .tup ys] => .ok (zipS (fixS xs) (fixS ys)) R
  | [x, y] => match lstOf R x, lstOf R y with
    | some _, some _ => match srcD x R, srcD y R with
      | .ok f _, .ok g _ => .ok (zipS f g) R
      | _, _ => .err
    | _, _ => .err
  | _ => .err
theorem src_zip {K : PySem.W.Frag} {B : Addr → Prop} {io : Io} {H : Hp} {a b : Addr} {f g : Src} (h : SrcOk K B io H (Itl K a) f) (k : SrcOk K B io H (Itl K b) g) : SrcOk K B io H (Itz K a b) (zipS f g) := by
  intro B' io' R' H' wd st rep' i
  have q := h B' io' R' H' wd st rep' i
  have q2 := k B' io' R' H' wd st rep' i
  unfold zipS
  cases e : f R' i with
  | none => trivial
  | some o =>
    cases e2 : g R' i with
    | none => cases o <;> trivial
    | some o2 =>
      rw [e] at q
      rw [e2] at q2
      cases o with
      | none =>
        obtain ⟨xs, h1, h2⟩ := q
        cases o2 with
        | none =>
          obtain ⟨ys, h3, h4⟩ := q2
          exact ⟨xs, ys, h1, h3, .inl h2⟩
        | some d =>
          obtain ⟨⟨ys, y, h3, h4⟩, _⟩ := q2
          exact ⟨xs, ys, h1, h3, .inl h2⟩
      | some d =>
        obtain ⟨⟨xs, x, h1, h2⟩, yl⟩ := q
        cases o2 with
        | none =>
          obtain ⟨ys, h3, h4⟩ := q2
          exact ⟨xs, ys, h1, h3, .inr h4⟩
        | some d2 =>
          obtain ⟨⟨ys, y, h3, h4⟩, yl2⟩ := q2
          refine ⟨⟨xs, ys, x, y, h1, h3, h2, h4⟩, fun v H2 hy => ?_⟩
          obtain ⟨T, x', y', rfl, hT, rfl, hq1, hq2⟩ := hy
          have e3 := hq1 xs h1
          rw [h2] at e3
          cases e3
          have e4 := hq2 ys h3
          rw [h4] at e4
          cases e4
          obtain ⟨_, _, rx⟩ := yl x H' ⟨rfl, hq1⟩
          obtain ⟨_, _, ry⟩ := yl2 y H' ⟨rfl, hq2⟩
          exact tup_ok rep' hT (.cons rx (.cons ry .nil))
theorem src_zipT {K : PySem.W.Frag} {B : Addr → Prop} {io : Io} {H : Hp} {a b : Addr} {f g : Src} (h : SrcOk K B io H (Itt K a) f) (k : SrcOk K B io H (Itt K b) g) : SrcOk K B io H (ItzT K a b) (zipS f g) := by
  intro B' io' R' H' wd st rep' i
  have q := h B' io' R' H' wd st rep' i
  have q2 := k B' io' R' H' wd st rep' i
  unfold zipS
  cases e : f R' i with
  | none => trivial
  | some o =>
    cases e2 : g R' i with
    | none => cases o <;> trivial
    | some o2 =>
      rw [e] at q
      rw [e2] at q2
      cases o with
      | none =>
        obtain ⟨xs, h1, h2⟩ := q
        cases o2 with
        | none =>
          obtain ⟨ys, h3, h4⟩ := q2
          exact ⟨xs, ys, h1, h3, .inl h2⟩
        | some d =>
          obtain ⟨⟨ys, y, h3, h4⟩, _⟩ := q2
          exact ⟨xs, ys, h1, h3, .inl h2⟩
      | some d =>
        obtain ⟨⟨xs, x, h1, h2⟩, yl⟩ := q
        cases o2 with
        | none =>
          obtain ⟨ys, h3, h4⟩ := q2
          exact ⟨xs, ys, h1, h3, .inr h4⟩
        | some d2 =>
          obtain ⟨⟨ys, y, h3, h4⟩, yl2⟩ := q2
          refine ⟨⟨xs, ys, x, y, h1, h3, h2, h4⟩, fun v H2 hy => ?_⟩
          obtain ⟨T, x', y', rfl, hT, rfl, hq1, hq2⟩ := hy
          have e3 := hq1 xs h1
          rw [h2] at e3
          cases e3
          have e4 := hq2 ys h3
          rw [h4] at e4
          cases e4
          obtain ⟨_, _, rx⟩ := yl x H' ⟨rfl, hq1⟩
          obtain ⟨_, _, ry⟩ := yl2 y H' ⟨rfl, hq2⟩
          exact tup_ok rep' hT (.cons rx (.cons ry .nil))
/-- the source of a list -/
theorem srcD_lst {K : PySem.W.Frag} {B : Addr → Prop} {io : Io} {R R1 : Rg} {H : Hp} {d : D} {v : V} {xs : List D} {f : Src} (rep : Rep K B io R H) (r : RD K (bars B io) io H d v) (hl : lstOf R d = some xs) (e : srcD d R = .ok f R1) :
    R1 = R ∧ ∃ a vs, v = .ref a ∧ SqL K H a vs ∧ SrcOk K B io H (Itl K a) f := by
  cases r with
  | lst h r =>
    cases e
    exact ⟨rfl, _, _, rfl, h.sq, src_lst rep h r⟩
  | @ref i a hi q =>
    have e' : (match R[i]? with
      | some (.lst _) => .ok (liveS i) R
      | _ => .err : Res Src) = .ok f R1 := e
    split at e'
    · rename_i e1
      cases e'
      obtain ⟨p2, vs, h1, h2, rx⟩ := rep.atLst e1
      have ep := q p2 h1
      subst ep
      exact ⟨rfl, _, _, rfl, .inl (.inl h2), src_live hi fun p3 h3 => by rw [h1] at h3; cases h3; rfl⟩
    · cases e'
  | _ => cases hl
theorem si_zip {elts : List Expr} {kk : Nat} {tpos p : Pos} (hg : Gl X "zip") (hm : X.mg "zip" = none) (ha : PA X [a, b] (tA X.K W mas)) (hs : starEach [a, b] X.env = (false, eval a X.env) :: starEach [b] X.env) (hpl : (backTo pos (starEach [b] X.env)).any (·.1) = false) : PI X (.Tuple elts kk tpos) (.Call (.Name "zip" p) [a, b] [] pos) (tI X.K W (iArgs zip2 mas)) :=
  (pi_zipA hg hm ha hs hpl).imp fun σ H Q h => (args_core h).imp fun vs H1 ⟨B, io, R, ds, rep, rd, p⟩ => by
    unfold zip2 at p
    split at p
    · cases rd with
      | cons r t =>
        cases t with
        | cons r2 t =>
          cases t
          cases r with
          | tup h r =>
            cases r2 with
            | tup h2 r2 => exact ⟨_, _, _, _, rfl, .inr ⟨h, h2, p io H1 _ (Step.refl _ _) rep (src_zipT (src_tup rep h r) (src_tup rep h2 r2))⟩⟩
    · cases rd with
      | cons r t =>
        cases t with
        | cons r2 t =>
          cases t
          split at p
          · rename_i l1 l2
            split at p
            · rename_i e1 e2
              obtain ⟨_, a, xs, rfl, q1, s1⟩ := srcD_lst rep r l1 e1
              obtain ⟨_, b, ys, rfl, q2, s2⟩ := srcD_lst rep r2 l2 e2
              exact ⟨_, _, _, _, rfl, .inl ⟨q1, q2, p io H1 _ (Step.refl _ _) rep (src_zip s1 s2)⟩⟩
            · exact p.elim
          · exact p.elim
    · exact p.elim
/-! ### stores -/
def gIx (a b : SE) : SG := fun d s R => (a s R).bind fun x R1 => (b s R1).bind fun i R2 => match setD x i d R2 with
  | some R3 => .ok s R3
  | none => .err
theorem sg_ix (hu : X.A.units + 1 < cLine) (h1 : PE X a (tE X.K noX ma)) (h2 : PE X b (tE X.K noX mb))
    (ha : ∀ v, assign (.Subscript a b pos) X.env v = (do
      let ov ← holding [v] (eval a X.env)
      let iv ← holding [v, ov] (eval b X.env)
      standAt pos
      holding [v, ov, iv] (setItem ov iv v)
      release [v, ov, iv] [])) : PG X (.Subscript a b pos) (tG X.K ws (gIx ma mb)) := (pg_sub h1 h2 (ok_set hu) ha).imp fun v σ H Q ⟨B, io, R, s, d, rep, rs, rd, p⟩ => by
  have p : PstG X.K ws B io H σ ((ma s R).bind fun x R1 => (mb s R1).bind fun i R2 => match setD x i d R2 with
    | some R3 => .ok s R3
    | none => .err) Q := p
  refine ⟨B, io, R, s, [], rep, rs, .nil, ?_⟩
  show Pst X.K B io H noX σ (RD X.K) (ma s R) _
  cases e : ma s R with
  | exc c x R1 => rw [e] at p; exact p.elim
  | err => rw [e] at p; exact p.elim
  | ok x R1 =>
    rw [e] at p
    intro io1 H1 vx st1 rep1 rx
    have c1 := st1.car rep
    refine ⟨B, io1, R1, s, [], rep1, rs.car c1, .nil, ?_⟩
    show Pst X.K B io1 H1 noX σ (RD X.K) (mb s R1) _
    cases e2 : mb s R1 with
    | exc c x R1 => rw [Res.bind_ok, e2] at p; exact p.elim
    | err => rw [Res.bind_ok, e2] at p; exact p.elim
    | ok i R2 =>
      rw [Res.bind_ok, e2] at p
      intro io2 H2 vi st2 rep2 ri
      have c2 := st2.car rep1
      have p : PstG X.K ws B io H σ (match setD x i d R2 with
        | some R3 => .ok s R3
        | none => .err) Q := p
      cases e3 : setD x i d R2 with
      | none => rw [e3] at p; exact p.elim
      | some R3 =>
        rw [e3] at p
        exact ⟨B, io2, R2, x, i, d, R3, rep2, rx.car c2, ri, (rd.car c1).car c2, e3, fun H' st rep3 => p io2 H' σ ((st1.trans st2).trans st) rep3 (((rs.car c1).car c2).car (st.car rep2)) rfl⟩
end
end Om
/-! Om, part J: list comprehensions. -/
namespace Om
open PySem PySem.Spec PyProof.Rows L2 RZ
def wipeD (s : List D) : List Nat → List D
  | [] => s
  | i :: vs => (wipeD s vs).set i .undef
def compL (g : SG) (t : SB) (e : SE) (f : Src) (s0 : List D) : Nat → Nat → List D → Rg → Option (List D × Rg)
  | 0, i, acc, R => match f R i with
    | some none => some (acc, R)
    | _ => none
  | n + 1, i, acc, R => match f R i with
    | none => none
    | some none => some (acc, R)
    | some (some d) => match g d s0 R with
      | .ok s1 R1 => (match t s1 R1 with
        | .ok k R2 => if k = true then (match e s1 R2 with
          | .ok y R3 => if acc.length < LINE then compL g t e f s0 n (i + 1) (acc ++ [y]) R3 else none
          | _ => none) else compL g t e f s0 n (i + 1) acc R2
        | _ => none)
      | _ => none
def cComp (it : SI) (g : SG) (t : SB) (e : SE) (vs : List Nat) (m : Bool) : SE := fun s R => (it s R).bind fun f R1 => lift ((compL g t e f (wipeD s vs) FUEL 0 [] R1).bind fun z => mkL m z.1 z.2)
section
variable {K : PySem.W.Frag} {B : Addr → Prop} {io : Io} {R : Rg} {H : Hp} {p : Addr}
theorem RS.wipe {bar : Addr → Prop} {s : List D} {σ : S} (r : RS K bar io H s σ) : ∀ vs : List Nat, RS K bar io H (wipeD s vs) (wipe σ vs)
  | [] => r
  | i :: vs => by
    have q := RS.wipe r vs
    refine ⟨by simp only [wipeD, L2.wipe, List.length_set]; exact q.1, fun j d e => ?_⟩
    simp only [wipeD, L2.wipe] at e ⊢
    by_cases hj : i = j
    · subst hj
      by_cases hl : i < (wipeD s vs).length
      · rw [List.getElem?_set_self hl] at e
        cases e
        have hl2 : i < (L2.wipe σ vs).length := by rw [← q.1]; exact hl
        exact ⟨_, List.getElem?_set_self hl2, .inl rfl⟩
      · rw [List.getElem?_eq_none (by rw [List.length_set]; omega)] at e
        cases e
    · rw [List.getElem?_set_ne hj] at e ⊢
      exact q.2 j d e
/-- one thing is hidden -/
def hid (B : Addr → Prop) (p : Addr) : Addr → Prop := fun a => B a ∨ a = p
theorem car_hid {o : HO} (hp : H p = none) : Car K (bars B io) io H (bars (hid B p) io) io (upd H p o) where
  tup := fun a vs h => by
    rcases h with h | ⟨ob, h⟩
    · exact .inl (by rw [upd_ne (ne_of_none h hp)]; exact h)
    · exact .inr ⟨ob, by rw [upd_ne (ne_of_none h hp)]; exact h⟩
  oth := fun a u h n => ⟨by rw [upd_ne (ne_of_none h hp)]; exact h, fun z => by
    rcases z with (z | z) | z
    · exact n (.inl z)
    · exact ne_of_none h hp z
    · exact n (.inr z)⟩
  ref := fun i q h => ⟨h, fun e => e⟩
theorem Rep.hide {o : HO} (rep : Rep K B io R H) (hp : H p = none) : Rep K (hid B p) io R (upd H p o) where
  len := rep.len
  inj := rep.inj
  bt := fun a h => by
    rcases h with h | h
    · obtain ⟨u, e⟩ := rep.bt a h
      exact ⟨u, by rw [upd_ne (ne_of_none e hp)]; exact e⟩
    · rw [h, upd_same]
      exact ⟨_, rfl⟩
  bd := fun a h z => by
    rcases z with z | z
    · exact rep.bd a h z
    · obtain ⟨u, e⟩ := rep.has h
      rw [z, hp] at e
      cases e
  obj := fun i u e => (rep.obj i u e).car (car_hid hp) rfl fun q hq => by
    obtain ⟨w, ew⟩ := rep.has (ran_at hq)
    rw [upd_ne (ne_of_none ew hp)]
theorem wid_hid {H1 : Hp} (hp : H1 p = none) : Wid B (hid B p) H1 := fun a h => by
  rcases h with h | h
  · exact .inl h
  · rw [h]
    exact .inr hp
/-- the hidden thing is changed -/
theorem car_at {o : HO} {u : List V} (hb : B p) (hp : H p = some (.lst u)) : Car K (bars B io) io H (bars B io) io (upd H p o) where
  tup := fun a vs h => by
    have hn : a ≠ p := fun z => by
      rcases h with h | ⟨ob, h⟩
      · rw [z, hp] at h; cases h
      · rw [z, hp] at h; cases h
    rcases h with h | ⟨ob, h⟩
    · exact .inl (by rw [upd_ne hn]; exact h)
    · exact .inr ⟨ob, by rw [upd_ne hn]; exact h⟩
  oth := fun a u h n => ⟨by rw [upd_ne (fun z => n (.inl (by rw [z]; exact hb)))]; exact h, n⟩
  ref := fun i q h => ⟨h, fun e => e⟩
theorem Rep.at {o : HO} {u : List V} (rep : Rep K B io R H) (hb : B p) (hp : H p = some (.lst u)) : Rep K B io R (upd H p o) where
  len := rep.len
  inj := rep.inj
  bt := fun a h => by
    by_cases e : a = p
    · rw [e, upd_same]
      exact ⟨_, rfl⟩
    · rw [upd_ne e]
      exact rep.bt a h
  bd := rep.bd
  obj := fun i u e => (rep.obj i u e).car (car_at hb hp) rfl fun q hq => by
    rw [upd_ne fun z => rep.bd q (ran_at hq) (by rw [z]; exact hb)]
theorem Step.under {o : HO} {io1 : Io} {H1 : Hp} (hp : H p = none) (st : Step io H io1 H1) : Step io H io1 (upd H1 p o) where
  fr := fun a u h n => by
    rw [upd_ne (ne_of_none h hp)]
    exact st.fr a u h n
  nw := st.nw
  tr := fun a u h => by
    rw [upd_ne (ne_of_none h hp)]
    exact st.tr a u h
  le := st.le
  ix := st.ix
/-- the hidden thing is shown -/
theorem car_show : Car K (bars (hid B p) io) io H (bars B io) io H where
  tup := fun a vs h => h
  oth := fun a u h n => ⟨h, fun z => n (by
    rcases z with z | z
    · exact .inl (.inl z)
    · exact .inr z)⟩
  ref := fun i q h => ⟨h, fun e => e⟩
theorem Rep.show (rep : Rep K (hid B p) io R H) : Rep K B io R H where
  len := rep.len
  inj := rep.inj
  bt := fun a h => rep.bt a (.inl h)
  bd := fun a h z => rep.bd a h (.inl z)
  obj := fun i u e => (rep.obj i u e).car car_show rfl fun _ _ => rfl
theorem car_adopt (nb : ¬ B p) : Car K (bars (hid B p) io) io H (bars B (io ++ [some p])) (io ++ [some p]) H where
  tup := fun a vs h => h
  oth := fun a u h n => ⟨h, fun z => n (by
    rcases z with z | z
    · exact .inl (.inl z)
    · rcases List.mem_append.mp z with z | z
      · exact .inr z
      · have e : some a = some p := by simpa using z
        cases e
        exact .inl (.inr rfl))⟩
  ref := fun i q h => ⟨by simp; omega, fun e => by rw [List.getElem?_append_left h] at e; exact e⟩
theorem Rep.adopt {o : O} (rep : Rep K (hid B p) io R H) (nb : ¬ B p) (h : RO K (bars B (io ++ [some p])) (io ++ [some p]) H io.length o) : Rep K B (io ++ [some p]) (R ++ [o]) H where
  len := by simp [rep.len]
  inj := fun i j q h1 h2 => by
    have at_ : ∀ k : Nat, (io ++ [some p])[k]? = some (some q) → io[k]? = some (some q) ∨ (k = io.length ∧ q = p) := fun k hk => by
      by_cases hl : k < io.length
      · rw [List.getElem?_append_left hl] at hk
        exact .inl hk
      · rw [List.getElem?_append_right (by omega)] at hk
        have : k - io.length = 0 := by
          have := (List.getElem?_eq_some_iff.mp hk).1
          simp at this
          omega
        rw [this] at hk
        have e : some p = some q := by simpa using hk
        cases e
        exact .inr ⟨by omega, rfl⟩
    have no : ∀ k : Nat, io[k]? = some (some q) → q ≠ p := fun k hk e => rep.bd q (ran_at hk) (.inr e)
    rcases at_ i h1 with a | ⟨a, a'⟩
    · rcases at_ j h2 with b | ⟨b, b'⟩
      · exact rep.inj i j q a b
      · exact absurd b' (no i a)
    · rcases at_ j h2 with b | ⟨b, b'⟩
      · exact absurd a' (no j b)
      · omega
  bt := fun a h => rep.bt a (.inl h)
  bd := fun a h z => by
    rcases List.mem_append.mp h with h | h
    · exact rep.bd a h (.inl z)
    · have e : some a = some p := by simpa using h
      cases e
      exact nb z
  obj := fun i u e => by
    by_cases hl : i < R.length
    · rw [List.getElem?_append_left hl] at e
      have hl' : i < io.length := by rw [rep.len]; exact hl
      exact (rep.obj i u e).car (car_adopt nb) (List.getElem?_append_left hl') fun q hq => rfl
    · rw [List.getElem?_append_right (by omega)] at e
      have hi := (List.getElem?_eq_some_iff.mp e).1
      have hz : i - R.length = 0 := by
        simp at hi
        omega
      rw [hz] at e
      have e' : o = u := by simpa using e
      cases e'
      have : i = io.length := by rw [rep.len]; omega
      rw [this]
      exact h
theorem Step.adopt {io1 : Io} {H1 : Hp} (hp : H p = none) (st : Step io H io1 H1) : Step io H (io1 ++ [some p]) H1 where
  fr := st.fr
  nw := fun a h => by
    rcases List.mem_append.mp h with h | h
    · exact st.nw a h
    · have e : some a = some p := by simpa using h
      cases e
      exact .inr hp
  tr := st.tr
  le := by
    have := st.le
    simp
    omega
  ix := fun i h => by
    have := st.le
    rw [List.getElem?_append_left (by omega)]
    exact st.ix i h
/-- the list that was hidden is the value -/
theorem comp_end {m : Bool} {ds : List D} {vs : List V} {d : D} {io1 : Io} {H1 : Hp} {R1 : Rg} (rep0 : Rep K B io R H) (hp : H p = none) (st : Step io H io1 H1) (rep : Rep K (hid B p) io1 R1 H1) (h : H1 p = some (.lst vs)) (r : RDs K (bars (hid B p) io1) io1 H1 ds vs) {R' : Rg} (e : mkL m ds R1 = some (d, R')) :
    ∃ io2, Step io H io2 H1 ∧ Rep K B io2 R' H1 ∧ RD K (bars B io2) io2 H1 d (.ref p) := by
  have nb : ¬ B p := fun z => rep0.notBar hp (.inl z)
  unfold mkL at e
  split at e
  · split at e
    · cases e
      refine ⟨io1 ++ [some p], st.adopt hp, rep.adopt nb ⟨p, vs, by simp, h, r.car (car_adopt nb)⟩, .ref (by rw [← rep.len]; simp) fun q hq => ?_⟩
      rw [← rep.len] at hq
      have e : some p = some q := by simpa using hq
      cases e
      rfl
    · cases e
      refine ⟨io1, st, rep.show, .lst (.inl ⟨fun z => ?_, .inl h⟩) (r.car car_show)⟩
      rcases z with z | z
      · exact nb z
      · exact rep.bd p z (.inr rfl)
  · cases e
end
section
variable {X : Cx} {W : WX} {e : Expr}
theorem wipe_sub {ws : List Nat} : ∀ {us : List Nat} {σ : S}, (∀ i ∈ us, i ∈ ws) → wipe (wipe σ us) ws = wipe σ ws
  | [], _, _ => rfl
  | u :: us, σ, h => by
    show wipe ((wipe σ us).set u none) ws = _
    rw [wipe_set (h u List.mem_cons_self), wipe_sub fun i hi => h i (List.mem_cons_of_mem _ hi)]
theorem wipe_wipe {ws : List Nat} {σ : S} : wipe (wipe σ ws) ws = wipe σ ws := wipe_sub fun _ h => h
def PstL (K : PySem.W.Frag) (B : Addr → Prop) (io1 : Io) (H1 : Hp) (m : Bool) (r : Option (List D × Rg)) (Q : VK) : Prop := match r.bind fun z => mkL m z.1 z.2 with
  | some (d, R') => ∀ io' H' v, Step io1 H1 io' H' → Rep K B io' R' H' → RD K (bars B io') io' H' d v → Q v H'
  | none => False
theorem lc_body {K : PySem.W.Frag} {it : SI} {g : SG} {t : SB} {me : SE} {vs : List Nat} {m : Bool} {σ : S} {H : Hp} {Q : VK} (h : tE K W (cComp it g t me vs m) σ H Q) : tLc (tI K W it) (tG K vs g) (tB K noX t) (tE K noX me) vs σ H Q := by
  obtain ⟨B, io, R, s, _, rep, rs, _, p⟩ := h
  refine ⟨B, io, R, s, rep, rs, ?_⟩
  have p : Pst K B io H W σ (RD K) ((it s R).bind fun f R1 => lift ((compL g t me f (wipeD s vs) FUEL 0 [] R1).bind fun z => mkL m z.1 z.2)) Q := p
  cases e : it s R with
  | exc c x R1 =>
    rw [e] at p
    exact p
  | err =>
    rw [e] at p
    exact p
  | ok f R1 =>
    rw [e] at p
    intro io1 H1 J st1 rep1 src D hD
    have c1 := st1.car rep
    have p1 : PstL K B io1 H1 m (compL g t me f (wipeD s vs) FUEL 0 [] R1) Q := by
      have p := Pst.shift st1 p
      rw [Res.bind_ok] at p
      unfold PstL
      revert p
      cases (compL g t me f (wipeD s vs) FUEL 0 [] R1).bind fun z => mkL m z.1 z.2 with
      | none => exact fun p => p
      | some z => exact fun p => p
    clear p
    have rs0 : RS K (bars (hid B D) io1) io1 (upd H1 D (.lst [])) (wipeD s vs) (wipe σ vs) := ((rs.car c1).wipe vs).car (car_hid hD)
    generalize hs0 : wipeD s vs = s0 at p1 rs0
    refine ⟨fun i n H2 => ∃ io2 R2 acc us, Step io1 H1 io2 H2 ∧ Rep K (hid B D) io2 R2 H2 ∧ H2 D = some (.lst us) ∧ RDs K (bars (hid B D) io2) io2 H2 acc us ∧ RS K (bars (hid B D) io2) io2 H2 s0 (wipe σ vs) ∧ PstL K B io1 H1 m (compL g t me f s0 n i acc R2) Q,
      ⟨FUEL, io1, R1, [], [], Step.add hD, rep1.hide hD, upd_same, .nil, rs0, p1⟩, ?_⟩
    rintro i n H2 ⟨io2, R2, acc, us, st2, rep2, hD2, ra, rs2, p2⟩
    have sr := src (hid B D) io2 R2 H2 (wid_hid hD) st2 rep2 i
    have stop : ∀ {r}, PstL K B io1 H1 m (some (acc, R2)) Q → r = Q (.ref D) H2 → r := fun p e => by
      rw [e]
      unfold PstL at p
      have p : (match mkL m acc R2 with
        | some (d, R') => ∀ io' H' v, Step io1 H1 io' H' → Rep K B io' R' H' → RD K (bars B io') io' H' d v → Q v H'
        | none => False) := p
      cases e2 : mkL m acc R2 with
      | none => rw [e2] at p; exact p.elim
      | some z =>
        obtain ⟨d, R'⟩ := z
        rw [e2] at p
        obtain ⟨io3, st3, rep3, r3⟩ := comp_end rep1 hD st2 rep2 hD2 ra e2
        exact p io3 H2 _ st3 rep3 r3
    cases ef : f R2 i with
    | none =>
      cases n with
      | zero => rw [compL, ef] at p2; exact p2.elim
      | succ n => rw [compL, ef] at p2; exact p2.elim
    | some o =>
      rw [ef] at sr
      cases o with
      | none =>
        refine .inl ⟨sr, stop ?_ rfl⟩
        cases n with
        | zero => rw [compL, ef] at p2; exact p2
        | succ n => rw [compL, ef] at p2; exact p2
      | some d =>
        obtain ⟨go, yl⟩ := sr
        cases n with
        | zero => rw [compL, ef] at p2; exact p2.elim
        | succ n =>
          rw [compL, ef] at p2
          refine .inr ⟨go, fun H' => ∃ io2 R2 acc us, Step io1 H1 io2 H' ∧ Rep K (hid B D) io2 R2 H' ∧ H' D = some (.lst us) ∧ RDs K (bars (hid B D) io2) io2 H' acc us ∧ RS K (bars (hid B D) io2) io2 H' s0 (wipe σ vs) ∧ PstL K B io1 H1 m (compL g t me f s0 n (i + 1) acc R2) Q, fun H' q => ⟨n, Nat.lt_succ_self n, q⟩, fun x H3 hy => ?_⟩
          obtain ⟨st3, rep3, rx⟩ := yl x H3 hy
          have c3 := st3.car rep2
          refine ⟨hid B D, io2, R2, s0, d, rep3, rs2.car c3, rx, ?_⟩
          have p2 : PstL K B io1 H1 m (match g d s0 R2 with
            | .ok s1 R1 => (match t s1 R1 with
              | .ok k R2 => if k = true then (match me s1 R2 with
                | .ok y R3 => if acc.length < LINE then compL g t me f s0 n (i + 1) (acc ++ [y]) R3 else none
                | _ => none) else compL g t me f s0 n (i + 1) acc R2
              | _ => none)
            | _ => none) Q := p2
          cases eg : g d s0 R2 with
          | exc c x R4 => rw [eg] at p2; exact p2.elim
          | err => rw [eg] at p2; exact p2.elim
          | ok s4 R4 =>
            rw [eg] at p2
            intro io4 H4 σ4 st4 rep4 rs4 wp4
            have c4 := st4.car rep3
            have nD : ¬ ran io4 D := fun z => rep4.bd D z (.inr rfl)
            refine ⟨wp4.trans wipe_wipe, hid B D, io4, R4, s4, [], rep4, rs4, .nil, ?_⟩
            show Pst K (hid B D) io4 H4 noX σ4 (fun _ _ _ a b => a = b) (t s4 R4) _
            have p2 : PstL K B io1 H1 m (match t s4 R4 with
              | .ok k R2 => if k = true then (match me s4 R2 with
                | .ok y R3 => if acc.length < LINE then compL g t me f s0 n (i + 1) (acc ++ [y]) R3 else none
                | _ => none) else compL g t me f s0 n (i + 1) acc R2
              | _ => none) Q := p2
            cases et : t s4 R4 with
            | exc c x R4 => rw [et] at p2; exact p2.elim
            | err => rw [et] at p2; exact p2.elim
            | ok k R5 =>
              rw [et] at p2
              intro io5 H5 k' st5 rep5 ek
              subst ek
              have c5 := st5.car rep4
              have ra5 := ((ra.car c3).car c4).car c5
              have rs5 := ((rs2.car c3).car c4).car c5
              have st15 := ((st2.trans st3).trans st4).trans st5
              have nr : ∀ {io : Io} {R : Rg} {H : Hp}, Rep K (hid B D) io R H → ¬ ran io D := fun r z => r.bd D z (.inr rfl)
              have hD5 : H5 D = some (.lst us) := st5.fr D _ (st4.fr D _ (st3.fr D _ hD2 (nr rep2)) (nr rep3)) (nr rep4)
              have p2 : PstL K B io1 H1 m (if k = true then (match me s4 R5 with
                | .ok y R3 => if acc.length < LINE then compL g t me f s0 n (i + 1) (acc ++ [y]) R3 else none
                | _ => none) else compL g t me f s0 n (i + 1) acc R5) Q := p2
              cases k with
              | false =>
                rw [if_neg (by decide)] at p2 ⊢
                exact ⟨io5, R5, acc, us, st15, rep5, hD5, ra5, rs5, p2⟩
              | true =>
                rw [if_pos rfl] at p2 ⊢
                refine ⟨hid B D, io5, R5, s4, [], rep5, rs4.car c5, .nil, ?_⟩
                show Pst K (hid B D) io5 H5 noX σ4 (RD K) (me s4 R5) _
                cases ee : me s4 R5 with
                | exc c x R4 => rw [ee] at p2; exact p2.elim
                | err => rw [ee] at p2; exact p2.elim
                | ok y R6 =>
                  rw [ee] at p2
                  intro io6 H6 v st6 rep6 ry
                  have c6 := st6.car rep5
                  have hD6 := st6.fr D _ hD5 (nr rep5)
                  have p2 : PstL K B io1 H1 m (if acc.length < LINE then compL g t me f s0 n (i + 1) (acc ++ [y]) R6 else none) Q := p2
                  split at p2
                  · rename_i hl
                    have ra6 := ra5.car c6
                    have ca := car_at (K := K) (io := io6) (B := hid B D) (o := .lst (us ++ [v])) (.inr rfl) hD6
                    refine ⟨us, hD6, by rw [← ra.len]; exact hl, io6, R6, acc ++ [y], us ++ [v], (st15.trans st6).under hD, rep6.at (.inr rfl) hD6, upd_same, (ra6.append (.cons ry .nil)).car ca, (rs5.car c6).car ca, p2⟩
                  · exact p2.elim
theorem se_comp {elt tg iter : Expr} {ifs : List Expr} {scope : Scope} {own : List (Str × Nat)} {pos : Pos} {it : SI} {g : SG} {t : SB} {me : SE} {m : Bool} (hc : X.calm = true) (hN : X.N.Nodup) (hi : PI X tg iter (tI X.K W it)) (ok : BlkOk X.N X.env.scope scope own)
    (hg : ∀ (s : Shared) (H : Hp) (C : Addr) (cl : List (Str × Addr)) (fp : List Addr), PG (X.blk s H scope (compEnvC scope cl C X.env) fp) tg (tG X.K (own.map (·.2)) g)) (ht : ∀ (s : Shared) (H : Hp) (C : Addr) (cl : List (Str × Addr)) (fp : List Addr), PTs (X.blk s H scope (compEnvC scope cl C X.env) fp) ifs (tB X.K noX t))
    (he : ∀ (s : Shared) (H : Hp) (C : Addr) (cl : List (Str × Addr)) (fp : List Addr), PE (X.blk s H scope (compEnvC scope cl C X.env) fp) elt (tE X.K noX me)) (hs : ∀ x, foldedSetIterable iter X.env x = pure x) :
    PE X (.ListComp elt [⟨tg, iter, ifs, 0⟩] scope pos) (tE X.K W (cComp it g t me (own.map (·.2)) m)) := (pe_lc hc hN hi ok hg ht he hs).imp fun σ H Q h => lc_body h
theorem ss_setComp {i : Nat} {y : Str} {py spos : Pos} {elt tg iter : Expr} {ifs : List Expr} {scope : Scope} {own : List (Str × Nat)} {pos : Pos} {it : SI} {g : SG} {t : SB} {me : SE} {m : Bool} (hc : X.calm = true) (hN : X.N.Nodup) (hy : X.N[i]? = some y) (hyl : X.env.scope.names.lookup y = some .local)
    (hsw : swapsWith (.ListComp elt [⟨tg, iter, ifs, 0⟩] scope pos) (some (.Name y py)) spos.line X.env = pure true) (hi : PI X tg iter (tI X.K W it)) (ok : BlkOk X.N X.env.scope scope own)
    (hg : ∀ (s : Shared) (H : Hp) (C : Addr) (cl : List (Str × Addr)) (fp : List Addr), PG (X.blk s H scope (compEnvC scope cl C X.env) fp) tg (tG X.K (own.map (·.2)) g)) (ht : ∀ (s : Shared) (H : Hp) (C : Addr) (cl : List (Str × Addr)) (fp : List Addr), PTs (X.blk s H scope (compEnvC scope cl C X.env) fp) ifs (tB X.K noX t))
    (he : ∀ (s : Shared) (H : Hp) (C : Addr) (cl : List (Str × Addr)) (fp : List Addr), PE (X.blk s H scope (compEnvC scope cl C X.env) fp) elt (tE X.K noX me)) (hs : ∀ x, foldedSetIterable iter X.env x = pure x) :
    PS X (.Assign [.Name y py] (.ListComp elt [⟨tg, iter, ifs, 0⟩] scope pos) spos) (tS X.K W (sAsg (cComp it g t me (own.map (·.2)) m) (gVar i))) :=
  (ps_setLc hc hN hy hyl hsw hi ok hg ht he hs).imp fun D σ H h => by
    have h2 : tAsg (tE X.K W (cComp it g t me (own.map (·.2)) m)) (tG X.K [i] (gVar i)) D σ H := asg_core h
    exact lc_body (Told.imp h2 fun v H1 ⟨B, io, R, s, d, rep, rs, rd, p⟩ => p io H1 _ (Step.refl _ _) rep (rs.set i rd) (wipe_set List.mem_cons_self))
end
end Om
/-! Om, part K: defs. -/
namespace Om
open PySem PySem.Spec PyProof.Rows L2 RZ
/-! ### what is left of the region when a def ends -/
/-- the tree of a value, but for the places below n; the place k is refused -/
def frzN (n k : Nat) (R : Rg) : Nat → D → Option D
  | 0, d => if pureD d = true then some d else none
  | f + 1, d => if pureD d = true then some d else match d with
    | .ref i => if i < n then some (.ref i) else if i = k then none else (match R[i]? with
      | some (.lst xs) => (xs.mapM (frzN n k R f)).map .lst
      | some (.dct ks) => (ks.mapM fun p => (frzN n k R f p.2).map fun v => (p.1, v)).map .dct
      | some (.ins c fs) => (fs.mapM fun p => (frzN n k R f p.2).map fun v => (p.1, v)).map (.ins c)
      | _ => none)
    | .tup xs => (xs.mapM (frzN n k R f)).map .tup
    | .lst xs => (xs.mapM (frzN n k R f)).map .lst
    | .dct ks => (ks.mapM fun p => (frzN n k R f p.2).map fun v => (p.1, v)).map .dct
    | .ins c fs => (fs.mapM fun p => (frzN n k R f p.2).map fun v => (p.1, v)).map (.ins c)
    | _ => none
abbrev FZ : Nat := 8
def frzO (n k : Nat) (R : Rg) (o : O) : Option O := match o with
  | .lst xs => (xs.mapM (frzN n k R FZ)).map .lst
  | .dct ks => (ks.mapM fun p => (frzN n k R FZ p.2).map fun v => (p.1, v)).map .dct
  | .ins c fs => (fs.mapM fun p => (frzN n k R FZ p.2).map fun v => (p.1, v)).map (.ins c)
  | .dead => none
def beqO : O → O → Bool
  | .lst a, .lst b => beqDs a b
  | .dct a, .dct b => beqKs a b
  | .ins c a, .ins d b => decide (c = d) && beqFs a b
  | .dead, .dead => true
  | _, _ => false
theorem beqO_iff : ∀ a b : O, beqO a b = true ↔ a = b
  | .lst a, b => by cases b <;> simp [beqO, beqDs_iff a]
  | .dct a, b => by cases b <;> simp [beqO, beqKs_iff a]
  | .ins c a, b => by cases b <;> simp [beqO, beqFs_iff a]
  | .dead, b => by cases b <;> simp [beqO]
instance : DecidableEq O := fun a b => decidable_of_iff (beqO a b = true) (beqO_iff a b)
def keepG (n k : Nat) (R : Rg) : Rg → Rg → Option Rg
  | [], _ => some []
  | o :: R0, o1 :: R1 => (if o = o1 then some o1 else frzO n k R o1).bind fun o2 => (keepG n k R R0 R1).map fun t => o2 :: t
  | _ :: _, [] => none
/-- the first places as they stand: those that were not changed stay, the others must be trees again -/
def keepR (n k : Nat) (R0 R : Rg) : Option Rg := if R.take n = R0 then some R0 else keepG n k R R0 R
/-- a def's end. live: its value is a new thing that its caller may change -/
def fin (live : Bool) (R0 : Rg) (o : Out) : Res D := match o with
  | .rt d R => (match live, d with
    | true, .ref k => if R0.length ≤ k then (match R[k]? with
      | some o => match frzO R0.length k R o, keepR R0.length k R0 R with
        | some o', some R1 => .ok (.ref R0.length) (R1 ++ [o'])
        | _, _ => .err
      | none => .err) else .err
    | true, _ => .err
    | false, d => match frzN R0.length R.length R FZ d, keepR R0.length R.length R0 R with
      | some d', some R1 => .ok d' R1
      | _, _ => .err)
  | .nx _ R => (match keepR R0.length R.length R0 R with
    | some R1 => .ok .non R1
    | none => .err)
  | .exc c f _ R => (match (if f = .undef then some f else frzN R0.length R.length R FZ f), keepR R0.length R.length R0 R with
    | some f', some R1 => .exc c f' R1
    | _, _ => .err)
  | _ => .err
section
variable {K : PySem.W.Frag} {B : Addr → Prop} {io io0 io1 io2 : Io} {R R0 R1 : Rg} {H H0 H1 : Hp} {n k : Nat}
/-- the places that stay -/
structure Kept (n k : Nat) (io1 io2 : Io) : Prop where
  lt : n ≤ io2.length
  le : n ≤ io1.length
  at_ : ∀ i : Nat, i < n → io2[i]? = io1[i]?
  ran_ : ∀ a, ran io2 a → ran io1 a
  only : ∀ (i : Nat) (p : Addr), io1[i]? = some (some p) → ran io2 p → i < n ∨ i = k
theorem Kept.nb (q : Kept n k io1 io2) {a : Addr} (h : ¬ bars B io1 a) : ¬ bars B io2 a := fun z => by
  rcases z with z | z
  · exact h (.inl z)
  · exact h (.inr (q.ran_ a z))
theorem Kept.new (q : Kept n k io1 io2) (rep : Rep K B io1 R H) {i : Nat} {p : Addr} (h : io1[i]? = some (some p)) (h1 : ¬ i < n) (h2 : i ≠ k) : ¬ bars B io2 p := fun z => by
  rcases z with z | z
  · exact rep.bd p (ran_at h) z
  · rcases q.only i p h z with y | y
    · exact h1 y
    · exact h2 y
mutual
theorem pure_car {bar bar' : Addr → Prop} {io io' : Io} (hb : ∀ a, ¬ bar a → ¬ bar' a) : ∀ {d : D} {v : V}, pureD d = true → RD K bar io H d v → RD K bar' io' H d v
  | _, _, _, .non => .non
  | _, _, _, .bl b => .bl b
  | _, _, _, .int i => .int i
  | _, _, _, .str x => .str x
  | _, _, _, .byt x => .byt x
  | _, _, _, .ty n => .ty n
  | _, _, _, .glo x => .glo x
  | _, _, e, .tup h r => .tup h (pure_cars hb (by simpa [pureD] using e) r)
  | _, _, e, .lst h r => .lst (h.nb hb) (pure_cars hb (by simpa [pureD] using e) r)
  | _, _, e, .dct n h r => .dct (hb _ n) h (pure_cark hb (by simpa [pureD] using e) r)
  | _, _, e, .ins n h r => .ins (hb _ n) h (pure_carf hb (by simpa [pureD] using e) r)
  | _, _, e, .ref h q => by simp [pureD] at e
theorem pure_cars {bar bar' : Addr → Prop} {io io' : Io} (hb : ∀ a, ¬ bar a → ¬ bar' a) : ∀ {ds : List D} {vs : List V}, pureDs ds = true → RDs K bar io H ds vs → RDs K bar' io' H ds vs
  | _, _, _, .nil => .nil
  | _, _, e, .cons r t => by
    have e' := e
    simp only [pureDs, Bool.and_eq_true] at e'
    exact .cons (pure_car hb e'.1 r) (pure_cars hb e'.2 t)
theorem pure_cark {bar bar' : Addr → Prop} {io io' : Io} (hb : ∀ a, ¬ bar a → ¬ bar' a) : ∀ {ds : List (D × D)} {vs : List (Key × V)}, pureKs ds = true → RKs K bar io H ds vs → RKs K bar' io' H ds vs
  | _, _, _, .nil => .nil
  | _, _, e, .cons k r t => by
    have e' := e
    simp only [pureKs, Bool.and_eq_true] at e'
    exact .cons k (pure_car hb e'.1.2 r) (pure_cark hb e'.2 t)
theorem pure_carf {bar bar' : Addr → Prop} {io io' : Io} (hb : ∀ a, ¬ bar a → ¬ bar' a) : ∀ {ds : List (Nat × D)} {vs : List (Str × V)}, pureFs ds = true → RFs K bar io H ds vs → RFs K bar' io' H ds vs
  | _, _, _, .nil => .nil
  | _, _, e, .cons k r t => by
    have e' := e
    simp only [pureFs, Bool.and_eq_true] at e'
    exact .cons k (pure_car hb e'.1 r) (pure_carf hb e'.2 t)
end
theorem map_rds {bar bar' : Addr → Prop} {io io' : Io} {f : D → Option D} (hf : ∀ d v a, f d = some a → RD K bar io H d v → RD K bar' io' H a v) : ∀ {ds : List D} {vs : List V} {as : List D}, ds.mapM f = some as → RDs K bar io H ds vs → RDs K bar' io' H as vs
  | [], _, as, e, .nil => by
    have e : some [] = some as := e
    cases e
    exact .nil
  | d :: ds, _, as, e, .cons r t => by
    rw [List.mapM_cons] at e
    cases e1 : f d with
    | none =>
      rw [e1] at e
      cases e
    | some a =>
      rw [e1] at e
      cases e2 : ds.mapM f with
      | none =>
        rw [e2] at e
        cases e
      | some bs =>
        rw [e2] at e
        cases e
        exact .cons (hf d _ a e1 r) (map_rds hf e2 t)
theorem map_rks {bar bar' : Addr → Prop} {io io' : Io} {f : D → Option D} (hf : ∀ d v a, f d = some a → RD K bar io H d v → RD K bar' io' H a v) : ∀ {ds : List (D × D)} {vs : List (Key × V)} {as : List (D × D)}, ds.mapM (fun p => (f p.2).map fun v => (p.1, v)) = some as → RKs K bar io H ds vs → RKs K bar' io' H as vs
  | [], _, as, e, .nil => by
    have e : some [] = some as := e
    cases e
    exact .nil
  | (k, d) :: ds, _, as, e, .cons hk r t => by
    rw [List.mapM_cons] at e
    cases e1 : f d with
    | none =>
      simp only [e1] at e
      cases e
    | some a =>
      simp only [e1] at e
      cases e2 : ds.mapM (fun p => (f p.2).map fun v => (p.1, v)) with
      | none =>
        rw [e2] at e
        cases e
      | some bs =>
        rw [e2] at e
        cases e
        exact .cons hk (hf d _ a e1 r) (map_rks hf e2 t)
theorem map_rfs {bar bar' : Addr → Prop} {io io' : Io} {f : D → Option D} (hf : ∀ d v a, f d = some a → RD K bar io H d v → RD K bar' io' H a v) : ∀ {ds : List (Nat × D)} {vs : List (Str × V)} {as : List (Nat × D)}, ds.mapM (fun p => (f p.2).map fun v => (p.1, v)) = some as → RFs K bar io H ds vs → RFs K bar' io' H as vs
  | [], _, as, e, .nil => by
    have e : some [] = some as := e
    cases e
    exact .nil
  | (k, d) :: ds, _, as, e, .cons hk r t => by
    rw [List.mapM_cons] at e
    cases e1 : f d with
    | none =>
      simp only [e1] at e
      cases e
    | some a =>
      simp only [e1] at e
      cases e2 : ds.mapM (fun p => (f p.2).map fun v => (p.1, v)) with
      | none =>
        rw [e2] at e
        cases e
      | some bs =>
        rw [e2] at e
        cases e
        exact .cons hk (hf d _ a e1 r) (map_rfs hf e2 t)
theorem frz_rd (q : Kept n k io1 io2) (rep : Rep K B io1 R H) : ∀ (f : Nat) {d : D} {v : V} {a : D}, frzN n k R f d = some a → RD K (bars B io1) io1 H d v → RD K (bars B io2) io2 H a v
  | 0, d, v, a, e, r => by
    unfold frzN at e
    split at e
    · rename_i hp
      cases e
      exact pure_car (fun a h => q.nb h) hp r
    · cases e
  | f + 1, d, v, a, e, r => by
    unfold frzN at e
    split at e
    · rename_i hp
      cases e
      exact pure_car (fun a h => q.nb h) hp r
    · have ih : ∀ d v a, frzN n k R f d = some a → RD K (bars B io1) io1 H d v → RD K (bars B io2) io2 H a v := fun d v a e r => frz_rd q rep f e r
      cases r with
      | tup h r =>
        obtain ⟨ys, e1, e2⟩ := Option.map_eq_some_iff.mp e
        subst e2
        exact .tup h (map_rds ih e1 r)
      | lst h r =>
        obtain ⟨ys, e1, e2⟩ := Option.map_eq_some_iff.mp e
        subst e2
        exact .lst (h.nb fun a h => q.nb h) (map_rds ih e1 r)
      | dct nb h r =>
        obtain ⟨ys, e1, e2⟩ := Option.map_eq_some_iff.mp e
        subst e2
        exact .dct (q.nb nb) h (map_rks ih e1 r)
      | ins nb h r =>
        obtain ⟨ys, e1, e2⟩ := Option.map_eq_some_iff.mp e
        subst e2
        exact .ins (q.nb nb) h (map_rfs ih e1 r)
      | @ref i b hi hq =>
        have e : (if i < n then some (D.ref i) else if i = k then none else (match R[i]? with
          | some (.lst xs) => (xs.mapM (frzN n k R f)).map .lst
          | some (.dct ks) => (ks.mapM fun p => (frzN n k R f p.2).map fun v => (p.1, v)).map .dct
          | some (.ins c fs) => (fs.mapM fun p => (frzN n k R f p.2).map fun v => (p.1, v)).map (.ins c)
          | _ => none)) = some a := e
        split at e
        · rename_i hn
          cases e
          exact .ref (Nat.lt_of_lt_of_le hn q.lt) fun p hp => hq p (by rw [← q.at_ i hn]; exact hp)
        · rename_i hn
          split at e
          · cases e
          · rename_i hk
            split at e
            · rename_i e1
              obtain ⟨p, vs, h1, h2, r⟩ := rep.atLst e1
              obtain ⟨ys, e3, e4⟩ := Option.map_eq_some_iff.mp e
              subst e4
              rw [← hq p h1]
              exact .lst (.inl ⟨q.new rep h1 hn hk, .inl h2⟩) (map_rds ih e3 r)
            · rename_i e1
              obtain ⟨p, vs, h1, h2, r⟩ := rep.atDct e1
              obtain ⟨ys, e3, e4⟩ := Option.map_eq_some_iff.mp e
              subst e4
              rw [← hq p h1]
              exact .dct (q.new rep h1 hn hk) (.inl h2) (map_rks ih e3 r)
            · rename_i e1
              obtain ⟨p, dx, vs, h1, h2, r⟩ := rep.atIns e1
              obtain ⟨ys, e3, e4⟩ := Option.map_eq_some_iff.mp e
              subst e4
              rw [← hq p h1]
              exact .ins (q.new rep h1 hn hk) h2 (map_rfs ih e3 r)
            · cases e
      | _ => cases e
mutual
theorem low_car {bar bar' : Addr → Prop} {io0 io io' : Io} {H0 : Hp} (hb : ∀ a, ¬ bar a → ¬ bar' a) (hi : io0.length ≤ io'.length) (hat : ∀ i : Nat, i < io0.length → io'[i]? = io[i]?) {bar0 : Addr → Prop} : ∀ {d : D} {v0 v : V}, RD K bar0 io0 H0 d v0 → RD K bar io H d v → RD K bar' io' H d v
  | _, _, _, _, .non => .non
  | _, _, _, _, .bl b => .bl b
  | _, _, _, _, .int i => .int i
  | _, _, _, _, .str x => .str x
  | _, _, _, _, .byt x => .byt x
  | _, _, _, _, .ty n => .ty n
  | _, _, _, _, .glo x => .glo x
  | _, _, _, .tup _ z, .tup h r => .tup h (low_cars hb hi hat z r)
  | _, _, _, .lst _ z, .lst h r => .lst (h.nb hb) (low_cars hb hi hat z r)
  | _, _, _, .dct _ _ z, .dct n h r => .dct (hb _ n) h (low_cark hb hi hat z r)
  | _, _, _, .ins _ _ z, .ins n h r => .ins (hb _ n) h (low_carf hb hi hat z r)
  | _, _, _, .ref hl _, .ref h q => .ref (Nat.lt_of_lt_of_le hl hi) fun p e => q p (by rw [← hat _ hl]; exact e)
theorem low_cars {bar bar' : Addr → Prop} {io0 io io' : Io} {H0 : Hp} (hb : ∀ a, ¬ bar a → ¬ bar' a) (hi : io0.length ≤ io'.length) (hat : ∀ i : Nat, i < io0.length → io'[i]? = io[i]?) {bar0 : Addr → Prop} : ∀ {ds : List D} {vs0 vs : List V}, RDs K bar0 io0 H0 ds vs0 → RDs K bar io H ds vs → RDs K bar' io' H ds vs
  | _, _, _, _, .nil => .nil
  | _, _, _, .cons z y, .cons r t => .cons (low_car hb hi hat z r) (low_cars hb hi hat y t)
theorem low_cark {bar bar' : Addr → Prop} {io0 io io' : Io} {H0 : Hp} (hb : ∀ a, ¬ bar a → ¬ bar' a) (hi : io0.length ≤ io'.length) (hat : ∀ i : Nat, i < io0.length → io'[i]? = io[i]?) {bar0 : Addr → Prop} : ∀ {ds : List (D × D)} {vs0 vs : List (Key × V)}, RKs K bar0 io0 H0 ds vs0 → RKs K bar io H ds vs → RKs K bar' io' H ds vs
  | _, _, _, _, .nil => .nil
  | _, _, _, .cons _ z y, .cons k r t => .cons k (low_car hb hi hat z r) (low_cark hb hi hat y t)
theorem low_carf {bar bar' : Addr → Prop} {io0 io io' : Io} {H0 : Hp} (hb : ∀ a, ¬ bar a → ¬ bar' a) (hi : io0.length ≤ io'.length) (hat : ∀ i : Nat, i < io0.length → io'[i]? = io[i]?) {bar0 : Addr → Prop} : ∀ {ds : List (Nat × D)} {vs0 vs : List (Str × V)}, RFs K bar0 io0 H0 ds vs0 → RFs K bar io H ds vs → RFs K bar' io' H ds vs
  | _, _, _, _, .nil => .nil
  | _, _, _, .cons _ z y, .cons k r t => .cons k (low_car hb hi hat z r) (low_carf hb hi hat y t)
end
theorem keepG_ok (q : Kept n k io1 io2) (rep : Rep K B io1 R H1) (lo : io0.length ≤ n) (m : Nat) : ∀ {R0 R1 R2 : Rg}, (∀ (i : Nat) (o : O), R0[i]? = some o → RO K (bars B io0) io0 H0 (m + i) o) → (∀ (i : Nat) (o : O), R1[i]? = some o → RO K (bars B io1) io1 H1 (m + i) o) → m + R0.length ≤ n →
    keepG n k R R0 R1 = some R2 → R2.length = R0.length ∧ ∀ (i : Nat) (o : O), R2[i]? = some o → RO K (bars B io2) io2 H1 (m + i) o
  | [], R1, R2, h0, h1, hn, e => by
    cases e
    exact ⟨rfl, fun i o e => by cases e⟩
  | o :: R0, [], R2, h0, h1, hn, e => by cases e
  | o :: R0, o1 :: R1, R2, h0, h1, hn, e => by
    rw [keepG] at e
    obtain ⟨o2, e1, e2⟩ := Option.bind_eq_some_iff.mp e
    obtain ⟨t, e3, e4⟩ := Option.map_eq_some_iff.mp e2
    subst e4
    have hm : m < n := by
      have : (o :: R0).length = R0.length + 1 := rfl
      omega
    have z0 := h0 0 o rfl
    have z1 := h1 0 o1 rfl
    rw [Nat.add_zero] at z0 z1
    have hat := q.at_ m hm
    have hd : RO K (bars B io2) io2 H1 m o2 := by
      split at e1
      · rename_i eo
        cases e1
        subst eo
        have hat2 : ∀ i : Nat, i < io0.length → io2[i]? = io1[i]? := fun i hi => q.at_ i (Nat.lt_of_lt_of_le hi lo)
        have hl2 : io0.length ≤ io2.length := Nat.le_trans lo q.lt
        cases o with
        | dead => exact hat.trans z1
        | lst xs =>
          obtain ⟨_, _, _, _, r0⟩ := z0
          obtain ⟨p, vs, e5, e6, r1⟩ := z1
          exact ⟨p, vs, hat.trans e5, e6, low_cars (fun a h => q.nb h) hl2 hat2 r0 r1⟩
        | dct xs =>
          obtain ⟨_, _, _, _, r0⟩ := z0
          obtain ⟨p, vs, e5, e6, r1⟩ := z1
          exact ⟨p, vs, hat.trans e5, e6, low_cark (fun a h => q.nb h) hl2 hat2 r0 r1⟩
        | ins c xs =>
          obtain ⟨_, _, _, _, _, r0⟩ := z0
          obtain ⟨p, dx, vs, e5, e6, r1⟩ := z1
          exact ⟨p, dx, vs, hat.trans e5, e6, low_carf (fun a h => q.nb h) hl2 hat2 r0 r1⟩
      · cases o1 with
        | dead => cases e1
        | lst xs =>
          obtain ⟨p, vs, e5, e6, r1⟩ := z1
          obtain ⟨ys, e7, e8⟩ := Option.map_eq_some_iff.mp e1
          subst e8
          exact ⟨p, vs, hat.trans e5, e6, map_rds (fun d v a e r => frz_rd q rep FZ e r) e7 r1⟩
        | dct xs =>
          obtain ⟨p, vs, e5, e6, r1⟩ := z1
          obtain ⟨ys, e7, e8⟩ := Option.map_eq_some_iff.mp e1
          subst e8
          exact ⟨p, vs, hat.trans e5, e6, map_rks (fun d v a e r => frz_rd q rep FZ e r) e7 r1⟩
        | ins c xs =>
          obtain ⟨p, dx, vs, e5, e6, r1⟩ := z1
          obtain ⟨ys, e7, e8⟩ := Option.map_eq_some_iff.mp e1
          subst e8
          exact ⟨p, dx, vs, hat.trans e5, e6, map_rfs (fun d v a e r => frz_rd q rep FZ e r) e7 r1⟩
    have ih := keepG_ok q rep lo (m + 1) (R0 := R0) (R1 := R1) (R2 := t) (fun i o e => by
      have := h0 (i + 1) o e
      rw [show m + 1 + i = m + (i + 1) by omega]
      exact this) (fun i o e => by
      have := h1 (i + 1) o e
      rw [show m + 1 + i = m + (i + 1) by omega]
      exact this) (by
      have : (o :: R0).length = R0.length + 1 := rfl
      omega) e3
    refine ⟨congrArg (· + 1) ih.1, fun i u e => ?_⟩
    cases i with
    | zero =>
      cases e
      exact hd
    | succ i =>
      have := ih.2 i u e
      rw [show m + (i + 1) = m + 1 + i by omega]
      exact this
theorem keepR_ok (q : Kept n k io1 io2) (rep0 : Rep K B io0 R0 H0) (rep : Rep K B io1 R H1) (hn : n = R0.length) (e : keepR n k R0 R = some R1) : R1.length = n ∧ ∀ (i : Nat) (o : O), R1[i]? = some o → RO K (bars B io2) io2 H1 i o := by
  have lo : io0.length ≤ n := by
    rw [rep0.len, hn]
    exact Nat.le_refl _
  have core : ∀ {Ra : Rg}, (∀ (i : Nat) (o : O), Ra[i]? = some o → RO K (bars B io1) io1 H1 i o) → keepG n k R R0 Ra = some R1 → R1.length = n ∧ ∀ (i : Nat) (o : O), R1[i]? = some o → RO K (bars B io2) io2 H1 i o := fun {Ra} ha e => by
    have z := keepG_ok q rep lo 0 (R0 := R0) (R1 := Ra) (fun i o e => by
      rw [Nat.zero_add]
      exact rep0.obj i o e) (fun i o e => by
      rw [Nat.zero_add]
      exact ha i o e) (by omega) e
    refine ⟨by rw [z.1, hn], fun i o e => ?_⟩
    have := z.2 i o e
    rw [Nat.zero_add] at this
    exact this
  unfold keepR at e
  split at e
  · rename_i et
    cases e
    have self : ∀ l : Rg, keepG n k R l l = some l := fun l => by
      induction l with
      | nil => rfl
      | cons o l ih => rw [keepG, if_pos rfl, ih]; rfl
    have et' : ∀ (i : Nat) (o : O), R0[i]? = some o → R[i]? = some o := fun i o e => by
      rw [← et, List.getElem?_take] at e
      split at e
      · exact e
      · cases e
    exact core (Ra := R0) (fun i o e => rep.obj i o (et' i o e)) (self _)
  · exact core (fun i o e => rep.obj i o e) e
/-- the region of what is left -/
theorem Rep.kept (rep : Rep K B io1 R H) (q : Kept n k io1 io2) (g : Nat → Nat) (hg : ∀ i : Nat, i < io2.length → io2[i]? = io1[g i]?) (gi : ∀ i j : Nat, i < io2.length → j < io2.length → g i = g j → i = j) (hl : io2.length = R1.length) (ho : ∀ (i : Nat) (o : O), R1[i]? = some o → RO K (bars B io2) io2 H i o) : Rep K B io2 R1 H where
  len := hl
  inj := fun i j p h1 h2 => by
    have l1 := (List.getElem?_eq_some_iff.mp h1).1
    have l2 := (List.getElem?_eq_some_iff.mp h2).1
    rw [hg i l1] at h1
    rw [hg j l2] at h2
    exact gi i j l1 l2 (rep.inj _ _ p h1 h2)
  bt := rep.bt
  bd := fun a h => rep.bd a (q.ran_ a h)
  obj := ho
theorem Step.kept (st : Step io0 H0 io1 H1) (q : Kept n k io1 io2) (hn : n = io0.length) : Step io0 H0 io2 H1 where
  fr := st.fr
  nw := fun a h => st.nw a (q.ran_ a h)
  tr := st.tr
  le := by
    have := q.lt
    omega
  ix := fun i h => by
    rw [q.at_ i (by omega)]
    exact st.ix i h
theorem take_kept (rep : Rep K B io1 R H) (hn : n ≤ io1.length) : Kept n k io1 (io1.take n) where
  lt := by
    rw [List.length_take]
    omega
  le := hn
  at_ := fun i h => List.getElem?_take_of_lt h
  ran_ := fun a h => List.mem_of_mem_take h
  only := fun i p h1 h2 => by
    obtain ⟨j, e⟩ := at_ran h2
    rw [List.getElem?_take] at e
    split at e
    · rename_i hj
      exact .inl (by rw [rep.inj i j p h1 e]; exact hj)
    · cases e
theorem live_kept {p : Addr} (rep : Rep K B io1 R H) (hn : n ≤ io1.length) (hp : io1[k]? = some (some p)) : Kept n k io1 (io1.take n ++ [some p]) where
  lt := by
    rw [List.length_append, List.length_take]
    omega
  le := hn
  at_ := fun i h => by
    rw [List.getElem?_append_left (by rw [List.length_take]; omega)]
    exact List.getElem?_take_of_lt h
  ran_ := fun a h => by
    rcases List.mem_append.mp h with h | h
    · exact List.mem_of_mem_take h
    · have e : some a = some p := by simpa using h
      cases e
      exact ran_at hp
  only := fun i a h1 h2 => by
    rcases List.mem_append.mp h2 with h | h
    · obtain ⟨j, e⟩ := at_ran h
      rw [List.getElem?_take] at e
      split at e
      · rename_i hj
        exact .inl (by rw [rep.inj i j a h1 e]; exact hj)
      · cases e
    · have e : some a = some p := by simpa using h
      cases e
      exact .inr (rep.inj i k _ h1 hp)
/-- what is wanted behind a call -/
def PstF (K : PySem.W.Frag) (B : Addr → Prop) (io : Io) (H : Hp) (r : Res D) (Q : VK) (E : XK) : Prop := match r with
  | .ok d R' => ∀ io' H' v, Step io H io' H' → Rep K B io' R' H' → RD K (bars B io') io' H' d v → Q v H'
  | .exc c f R' => ∀ io' H' cls dx, Step io H io' H' → Rep K B io' R' H' → RX K (bars B io') io' H' c f cls dx → E cls dx H'
  | .err => False
theorem fin_ok {live : Bool} {o : Out} {Q : VK} {E : XK} (rep0 : Rep K B io0 R0 H0) (p : PstF K B io0 H0 (fin live R0 o) Q E) : PstS K B io0 H0 (fun cls d _ H => E cls d H) o { nx := fun _ H' => Q .non H', rt := Q } := by
  have hl0 := rep0.len
  cases o with
  | nx s R =>
    intro io1 H1 σ st rep rs
    have p : PstF K B io0 H0 (match keepR R0.length R.length R0 R with
      | some R1 => .ok .non R1
      | none => .err) Q E := p
    cases e : keepR R0.length R.length R0 R with
    | none => rw [e] at p; exact p.elim
    | some R1 =>
      rw [e] at p
      have hn : R0.length ≤ io1.length := by have := st.le; omega
      have q := take_kept (k := R.length) rep hn
      have z := keepR_ok q rep0 rep rfl e
      have hl : (io1.take R0.length).length = R0.length := by rw [List.length_take]; omega
      exact p _ H1 .non (st.kept q (by omega)) (rep.kept q (fun i => i) (fun i h => List.getElem?_take_of_lt (by omega)) (fun i j _ _ h => h) (by rw [hl, z.1]) z.2) .non
  | rt d R =>
    intro io1 H1 v st rep rd
    have hn : R0.length ≤ io1.length := by have := st.le; omega
    cases live with
    | false =>
      have p : PstF K B io0 H0 (match frzN R0.length R.length R FZ d, keepR R0.length R.length R0 R with
        | some d', some R1 => .ok d' R1
        | _, _ => .err) Q E := by
        cases d <;> exact p
      cases e : frzN R0.length R.length R FZ d with
      | none => rw [e] at p; exact p.elim
      | some d' =>
        cases e2 : keepR R0.length R.length R0 R with
        | none => rw [e, e2] at p; exact p.elim
        | some R1 =>
          rw [e, e2] at p
          have q := take_kept (k := R.length) rep hn
          have z := keepR_ok q rep0 rep rfl e2
          have hl : (io1.take R0.length).length = R0.length := by rw [List.length_take]; omega
          exact p _ H1 v (st.kept q (by omega)) (rep.kept q (fun i => i) (fun i h => List.getElem?_take_of_lt (by omega)) (fun i j _ _ h => h) (by rw [hl, z.1]) z.2) (frz_rd q rep FZ e rd)
    | true =>
      cases rd with
      | @ref k a hk hq =>
        have p : PstF K B io0 H0 (if R0.length ≤ k then (match R[k]? with
          | some o => match frzO R0.length k R o, keepR R0.length k R0 R with
            | some o', some R1 => .ok (.ref R0.length) (R1 ++ [o'])
            | _, _ => .err
          | none => .err) else .err) Q E := p
        split at p
        · rename_i hle
          cases e0 : R[k]? with
          | none => rw [e0] at p; exact p.elim
          | some o =>
            rw [e0] at p
            have p : PstF K B io0 H0 (match frzO R0.length k R o, keepR R0.length k R0 R with
              | some o', some R1 => .ok (.ref R0.length) (R1 ++ [o'])
              | _, _ => .err) Q E := p
            cases e : frzO R0.length k R o with
            | none => rw [e] at p; exact p.elim
            | some o' =>
              cases e2 : keepR R0.length k R0 R with
              | none => rw [e, e2] at p; exact p.elim
              | some R1 =>
                rw [e, e2] at p
                have hp : ∃ b, io1[k]? = some (some b) := by
                  cases o with
                  | dead => cases e
                  | lst xs => obtain ⟨b, _, h, _⟩ := rep.atLst e0; exact ⟨b, h⟩
                  | dct xs => obtain ⟨b, _, h, _⟩ := rep.atDct e0; exact ⟨b, h⟩
                  | ins c xs => obtain ⟨b, _, _, h, _⟩ := rep.atIns e0; exact ⟨b, h⟩
                obtain ⟨b, hp⟩ := hp
                have eb := hq b hp
                subst eb
                have q := live_kept rep hn hp
                have z := keepR_ok q rep0 rep rfl e2
                have hl : (io1.take R0.length).length = R0.length := by rw [List.length_take]; omega
                have hat : (io1.take R0.length ++ [some b])[R0.length]? = some (some b) := by
                  rw [List.getElem?_append_right (by omega), hl]
                  simp
                have hobj : RO K (bars B (io1.take R0.length ++ [some b])) (io1.take R0.length ++ [some b]) H1 R0.length o' := by
                  cases o with
                  | dead => cases e
                  | lst xs =>
                    obtain ⟨b', vs, h1, h2, r⟩ := rep.atLst e0
                    obtain ⟨ys, e3, e4⟩ := Option.map_eq_some_iff.mp e
                    subst e4
                    rw [hp] at h1
                    cases h1
                    exact ⟨b, vs, hat, h2, map_rds (fun d v a e r => frz_rd q rep FZ e r) e3 r⟩
                  | dct xs =>
                    obtain ⟨b', vs, h1, h2, r⟩ := rep.atDct e0
                    obtain ⟨ys, e3, e4⟩ := Option.map_eq_some_iff.mp e
                    subst e4
                    rw [hp] at h1
                    cases h1
                    exact ⟨b, vs, hat, h2, map_rks (fun d v a e r => frz_rd q rep FZ e r) e3 r⟩
                  | ins c xs =>
                    obtain ⟨b', dx, vs, h1, h2, r⟩ := rep.atIns e0
                    obtain ⟨ys, e3, e4⟩ := Option.map_eq_some_iff.mp e
                    subst e4
                    rw [hp] at h1
                    cases h1
                    exact ⟨b, dx, vs, hat, h2, map_rfs (fun d v a e r => frz_rd q rep FZ e r) e3 r⟩
                refine p _ H1 (.ref b) (st.kept q (by omega)) (rep.kept q (fun i => if i < R0.length then i else k) (fun i h => ?_) (fun i j h1 h2 h => ?_) ?_ (fun i u h => ?_)) (.ref (by rw [List.length_append, hl]; simp) fun c hc => ?_)
                · rw [List.length_append, hl] at h
                  by_cases hi : i < R0.length
                  · show _ = io1[if i < R0.length then i else k]?
                    rw [if_pos hi]
                    exact q.at_ i hi
                  · show _ = io1[if i < R0.length then i else k]?
                    rw [if_neg hi]
                    have : i = R0.length := by simp at h; omega
                    rw [this, hat, hp]
                · rw [List.length_append, hl] at h1 h2
                  simp at h1 h2
                  by_cases hi : i < R0.length
                  · by_cases hj : j < R0.length
                    · simpa [hi, hj] using h
                    · simp [hi, hj] at h
                      omega
                  · by_cases hj : j < R0.length
                    · simp [hi, hj] at h
                      omega
                    · omega
                · rw [List.length_append, List.length_append, hl, z.1]
                  rfl
                · by_cases hi : i < R0.length
                  · rw [List.getElem?_append_left (by rw [z.1]; exact hi)] at h
                    exact z.2 i u h
                  · rw [List.getElem?_append_right (by rw [z.1]; omega), z.1] at h
                    have h3 := (List.getElem?_eq_some_iff.mp h).1
                    simp at h3
                    have : i = R0.length := by omega
                    subst this
                    rw [Nat.sub_self] at h
                    have : o' = u := by simpa using h
                    subst this
                    exact hobj
                · rw [hat] at hc
                  cases hc
                  rfl
        · exact p.elim
      | _ => exact p.elim
  | bk s R => exact p.elim
  | ct s R => exact p.elim
  | exc c f s R =>
    intro io1 H1 σ cls dx st rep rs rx
    have hn : R0.length ≤ io1.length := by have := st.le; omega
    have p : PstF K B io0 H0 (match (if f = .undef then some f else frzN R0.length R.length R FZ f), keepR R0.length R.length R0 R with
      | some f', some R1 => .exc c f' R1
      | _, _ => .err) Q E := p
    cases e : (if f = .undef then some f else frzN R0.length R.length R FZ f) with
    | none => rw [e] at p; exact p.elim
    | some f' =>
      cases e2 : keepR R0.length R.length R0 R with
      | none => rw [e, e2] at p; exact p.elim
      | some R1 =>
        rw [e, e2] at p
        have q := take_kept (k := R.length) rep hn
        have z := keepR_ok q rep0 rep rfl e2
        have hl : (io1.take R0.length).length = R0.length := by rw [List.length_take]; omega
        refine p _ H1 cls dx (st.kept q (by omega)) (rep.kept q (fun i => i) (fun i h => List.getElem?_take_of_lt (by omega)) (fun i j _ _ h => h) (by rw [hl, z.1]) z.2) ⟨rx.1, ?_⟩
        rcases rx.2 with ⟨e3, e4⟩ | ⟨d1, v, e3, e4, r⟩
        · subst e3
          rw [if_pos rfl] at e
          cases e
          exact .inl ⟨rfl, e4⟩
        · split at e
          · cases e
            rename_i e5
            subst e5
            exact (by cases r)
          · exact .inr ⟨d1, v, e3, e4, frz_rd q rep FZ e r⟩
  | err => exact p.elim
end
end Om
/-! Om, part L: calls of defs, slices, methods of what is built in, other statements. -/
namespace Om
open PySem PySem.Spec PyProof.Rows L2 RZ
/-! ### calls of defs -/
def cCall (F : SF) (dfl : List D) (mas : SA) : SE := fun s R => (mas s R).bind fun ds R1 => F (ds ++ dfl) R1
/-- a def's promise, by what it computes -/
def spF (K : PySem.W.Frag) (n : Nat) (F : SF) : Sp := fun vs H Q E => ∃ B io R ds, Rep K B io R H ∧ RDs K (bars B io) io H ds vs ∧ ds.length = n ∧ PstF K B io H (F ds R) Q E
section
variable {X : Cx} {W : WX} {k n : Nat} {f : Addr} {fd : FuncData} {ps : List Str} {sp : Sp} {dvs : List V} {ds : List Value} {x : Str} {p pos apos p2 : Pos} {a b c e o : Expr} {es : List Expr} {t : TA} {ma mb mc : SE} {mas : SA} {F : SF} {dfl : List D} {ws : List Nat}
theorem run_fnW {pins : List (Addr × Obj)} {σ : S} {H : Hp} {s : Shared} {Q : VK} {us : List Value} {vs : List V} (F : FnOk X.prog X.w X.K X.mg X.base (CX X.prog X.w) k f fd ps sp) (hr : Room k X.A) (hb : Binds X.K fd ps ds) (hd : Vals dvs ds) (tk : Takes X W)
    (I : Inv X pins σ H s) (r : Vals vs us) (h : sp (vs ++ dvs) H Q (fun cls d H' => W cls d σ H')) : wpAny (model X.prog X.w) X.A (call (.ref f) us) (EP X pins σ Q) X.xe s := by
  have r2 : Vals (vs ++ dvs) (us ++ ds) := r.append hd
  have hl : (us ++ ds).length = ps.length := by rw [← r2.length]; exact F.len _ _ _ _ h
  refine wpAny_call (codeAny_mono (F.run X.A X.stack s H ⟨us, []⟩ (us ++ ds) (vs ++ dvs) Q _ hr I.env0 (hb s us I.kIn hl) r2 h) fun r s' hq => ?_)
  cases r with
  | error e => exact tk e s' (XE.of_call (W := W) I (fun cls d H' h => h) hq)
  | ok fl =>
    cases fl with
    | ret u => exact I.after hq
    | next => exact False.elim hq
    | brk => exact False.elim hq
    | cont => exact False.elim hq
def tCallW (W : WX) (sp : Sp) (dvs : List V) (t : TA) : TE := fun σ H Q => t σ H fun vs H1 => sp (vs ++ dvs) H1 Q fun cls d H' => W cls d σ H'
theorem pe_callW (F : FnOk X.prog X.w X.K X.mg X.base (CX X.prog X.w) k f fd ps sp) (hr : Room k X.A) (hg : Gl X x) (hm : X.mg x = some (.ref f)) (hk : PySem.W.keepIn X.K (.ref f) = true) (hb : Binds X.K fd ps ds) (hd : Vals dvs ds) (tk : Takes X W)
    (ha : PA X (e :: es) t) (hdb : (x == ("__debug__" : Str)) = false) (he : starEach (e :: es) X.env = (false, eval e X.env) :: starEach es X.env) (hpl : (backTo pos (starEach es X.env)).any (·.1) = false) :
    PE X (.Call (.Name x p) (e :: es) [] pos) (tCallW W sp dvs t) := by
  refine ⟨fun pins s σ H Q I h => ?_⟩
  refine wpAny_Call_Name_kw (ld_glob I hg hm ?_ hdb)
  refine PySem.W.callWith_K (h₀ := X.base) I.ok.mod.kin hk (thn (ha.run pos pins s σ H _ I h) fun us s1 ⟨vs, H1, I1, r, q⟩ => ⟨I1.kIn, ?_⟩) he hpl
  exact run_fnW F hr hb hd tk I1 r q
theorem pe_callW0 (F : FnOk X.prog X.w X.K X.mg X.base (CX X.prog X.w) k f fd ps sp) (hr : Room k X.A) (hg : Gl X x) (hm : X.mg x = some (.ref f)) (hk : PySem.W.keepIn X.K (.ref f) = true) (hb : Binds X.K fd ps ds) (hd : Vals dvs ds) (tk : Takes X W)
    (hdb : (x == ("__debug__" : Str)) = false) : PE X (.Call (.Name x p) [] [] pos) (tCallW W sp dvs tNil) := by
  refine ⟨fun pins s σ H Q I h => ?_⟩
  refine wpAny_Call_Name_kw (ld_glob I hg hm ?_ hdb)
  exact PySem.W.callWith_K0 I.kIn hk (run_fnW (us := []) F hr hb hd tk I .nil h)
theorem call_core {K : PySem.W.Frag} {σ : S} {H : Hp} {Q : VK} (hn : ∀ ds R, ds.length ≠ n → F ds R = .err) (hdv : ∀ bar io H, RDs K bar io H dfl dvs) (h : tE K W (cCall F dfl mas) σ H Q) : tCallW W (spF K n F) dvs (tA K W mas) σ H Q := by
  have h0 := Told.evalA (vs := []) (m := mas) (F := fun ds _ R => F (ds ++ dfl) R) (rel := RD K) (Told.conv h fun _ _ => rfl)
  refine h0.imp fun us H1 ⟨B, io, R, s, ds, rep, rs, rd, t⟩ => ?_
  have rd : RDs K (bars B io) io H1 ds us := rd
  have t : Pst K B io H1 W σ (RD K) (F (ds ++ dfl) R) Q := t
  refine ⟨B, io, R, ds ++ dfl, rep, rd.append (hdv _ _ _), ?_, ?_⟩
  · exact Classical.byContradiction fun z => by
      rw [hn _ R z] at t
      exact t
  · unfold PstF
    revert t
    cases F (ds ++ dfl) R with
    | ok d R' => exact fun t => t
    | exc c x R' => exact fun t => t
    | err => exact fun t => t
theorem se_call (FO : FnOk X.prog X.w X.K X.mg X.base (CX X.prog X.w) k f fd ps (spF X.K n F)) (hr : Room k X.A) (hg : Gl X x) (hm : X.mg x = some (.ref f)) (hk : PySem.W.keepIn X.K (.ref f) = true) (hb : Binds X.K fd ps ds) (hd : Vals dvs ds) (tk : Takes X W)
    (hn : ∀ ds R, ds.length ≠ n → F ds R = .err) (hdv : ∀ bar io H, RDs X.K bar io H dfl dvs)
    (ha : PA X (e :: es) (tA X.K W mas)) (hdb : (x == ("__debug__" : Str)) = false) (he : starEach (e :: es) X.env = (false, eval e X.env) :: starEach es X.env) (hpl : (backTo pos (starEach es X.env)).any (·.1) = false) :
    PE X (.Call (.Name x p) (e :: es) [] pos) (tE X.K W (cCall F dfl mas)) := (pe_callW FO hr hg hm hk hb hd tk ha hdb he hpl).imp fun σ H Q h => call_core hn hdv h
theorem tA_nil {K : PySem.W.Frag} {σ : S} {H : Hp} {Q : List V → Hp → Prop} (h : tA K W cNil σ H Q) : tNil σ H Q := by
  obtain ⟨B, io, R, s, ds, rep, rs, rd, t⟩ := h
  exact t io H [] (Step.refl _ _) rep .nil
theorem se_call0 (FO : FnOk X.prog X.w X.K X.mg X.base (CX X.prog X.w) k f fd ps (spF X.K n F)) (hr : Room k X.A) (hg : Gl X x) (hm : X.mg x = some (.ref f)) (hk : PySem.W.keepIn X.K (.ref f) = true) (hb : Binds X.K fd ps ds) (hd : Vals dvs ds) (tk : Takes X W)
    (hn : ∀ ds R, ds.length ≠ n → F ds R = .err) (hdv : ∀ bar io H, RDs X.K bar io H dfl dvs) (hdb : (x == ("__debug__" : Str)) = false) :
    PE X (.Call (.Name x p) [] [] pos) (tE X.K W (cCall F dfl cNil)) := (pe_callW0 FO hr hg hm hk hb hd tk hdb).imp fun σ H Q h => tA_nil (W := W) (call_core hn hdv h)
/-! ### slices -/
def cutD (xs : List D) (lo hi : Option Int) : List D := (xs.drop (HT.sIx xs.length 0 lo)).take (HT.sIx xs.length xs.length hi - HT.sIx xs.length 0 lo)
def cutN (xs : List Nat) (lo hi : Option Int) : List Nat := (xs.drop (HT.sIx xs.length 0 lo)).take (HT.sIx xs.length xs.length hi - HT.sIx xs.length 0 lo)
def slD (m : Bool) (x : D) (lo hi : Option Int) (R : Rg) : Option (D × Rg) := match x with
  | .str x => if x.length ≤ LINE then some (.str (cutN x lo hi), R) else none
  | .tup xs => some (.tup (cutD xs lo hi), R)
  | x => match lstOf R x with
    | some xs => mkL m (cutD xs lo hi) R
    | none => none
theorem rds_drop {K : PySem.W.Frag} {bar : Addr → Prop} {io : Io} {H : Hp} : ∀ {ds : List D} {vs : List V} (n : Nat), RDs K bar io H ds vs → RDs K bar io H (ds.drop n) (vs.drop n)
  | _, _, 0, r => r
  | _, _, _ + 1, .nil => .nil
  | _, _, n + 1, .cons _ t => rds_drop n t
theorem rds_take {K : PySem.W.Frag} {bar : Addr → Prop} {io : Io} {H : Hp} : ∀ {ds : List D} {vs : List V} (n : Nat), RDs K bar io H ds vs → RDs K bar io H (ds.take n) (vs.take n)
  | _, _, 0, _ => .nil
  | _, _, _ + 1, .nil => .nil
  | _, _, n + 1, .cons r t => .cons r (rds_take n t)
theorem rds_cut {K : PySem.W.Frag} {bar : Addr → Prop} {io : Io} {H : Hp} {ds : List D} {vs : List V} (lo hi : Option Int) (r : RDs K bar io H ds vs) : RDs K bar io H (cutD ds lo hi) (cutV vs lo hi) := by
  unfold cutD cutV
  rw [r.len]
  exact rds_take _ (rds_drop _ r)
def rSl (K : PySem.W.Frag) (m : Bool) : V → Option Int → Option Int → Hp → VK → Prop := fun x lo hi H Q => ∃ B io R dx, Rep K B io R H ∧ RD K (bars B io) io H dx x ∧ match slD m dx lo hi R with
  | some (d, R') => ∀ io' H' v, Step io H io' H' → Rep K B io' R' H' → RD K (bars B io') io' H' d v → Q v H'
  | none => False
theorem cutS_eq (x : List Nat) (lo hi : Option Int) : cutS (strOf x) lo hi = strOf (cutN x lo hi) := by
  unfold cutS cutN
  rw [strOf_length]
  rfl
theorem ok_sl (m : Bool) : SlR X (rSl X.K m) := by
  intro pins s σ H x v vl vu lo hi sl Q I rx hs pl pu h
  obtain ⟨B, io, R, dx, rep, rd, q⟩ := h
  cases e : slD m dx lo hi R with
  | none => rw [e] at q; exact q.elim
  | some z =>
    obtain ⟨d, R'⟩ := z
    rw [e] at q
    have q : ∀ io' H' v, Step io H io' H' → Rep X.K B io' R' H' → RD X.K (bars B io') io' H' d v → Q v H' := q
    unfold slD at e
    split at e
    · rename_i z
      split at e
      · rename_i hl
        cases e
        cases rd
        refine sl_str pins s σ H _ v vl vu lo hi sl Q I rx hs pl pu ⟨_, rfl, by rw [strOf_length]; exact hl, ?_⟩
        rw [cutS_eq]
        exact q io H _ (Step.refl _ _) rep (.str _)
      · cases e
    · cases e
      cases rd with
      | @tup a _ vs hq r =>
        have r2 := rds_cut lo hi r
        refine sl_tupA pins s σ H _ v vl vu lo hi sl Q I rx hs pl pu ⟨_, _, rfl, hq, fun z => ?_, fun z p hp => ?_⟩
        · have e : cutV vs lo hi = vs := by
            unfold cutV
            rw [z.1, z.2, List.drop_zero, Nat.sub_zero, List.take_length]
          refine q io H _ (Step.refl _ _) rep (.tup hq ?_)
          rw [e] at r2
          exact r2
        · obtain ⟨st, rep', rd'⟩ := tup_ok rep hp r2
          exact q io _ _ st rep' rd'
    · split at e
      · rename_i xs el
        obtain ⟨a, vs, ex, hq, r⟩ := RD.list rep rd el
        refine sl_list pins s σ H x v vl vu lo hi sl Q I rx hs pl pu ⟨a, vs, ex, hq, fun p hp => ?_⟩
        obtain ⟨io', st, rep', rd'⟩ := mkL_ok rep hp (rds_cut lo hi r) e
        exact q io' _ _ st rep' rd'
      · cases e
/-- a bound of a slice -/
def cPart (a : Option SE) (s : List D) (R : Rg) : Res (Option Int) := match a with
  | none => .ok none R
  | some a => (a s R).bind fun d R1 => match d with
    | .int i => .ok (some i) R1
    | _ => .err
def cSl (m : Bool) (a : SE) (lo hi : Option SE) : SE := fun s R => (a s R).bind fun x R1 => (cPart lo s R1).bind fun l R2 => (cPart hi s R2).bind fun u R3 => lift (slD m x l u R3)
def tO (K : PySem.W.Frag) (W : WX) (m : Option SE) : TO := fun σ H Q => Told K W σ H (fun _ _ _ a b => a = b) [] (fun _ => cPart m) Q
theorem _root_.L2.PO.imp {e : Option Expr} {t t' : TO} (h : PO X e t) (i : ∀ σ H Q, t' σ H Q → t σ H Q) : PO X e t' := ⟨fun pins s σ H Q I q => h.run pins s σ H Q I (i σ H Q q)⟩
theorem so_none : PO X none (tO X.K W none) := po_none.imp fun σ H Q ⟨B, io, R, s, ds, rep, rs, rd, p⟩ => p io H none (Step.refl _ _) rep rfl
theorem so_some (h : PE X a (tE X.K W ma)) : PO X (some a) (tO X.K W (some ma)) := (po_some h).imp fun σ H Q h => by
  have h0 := Told.eval (vs := []) (m := ma) (F := fun ds s R => match ds with
    | [.int i] => .ok (some i) R
    | _ => .err) (rel := fun _ _ _ a b => a = b) (Q := Q) (Told.conv h fun s R => by
    show (ma s R).bind _ = (ma s R).bind _
    congr 1
    funext d R1
    cases d <;> rfl)
  refine h0.imp fun v H1 ⟨B, io, R, s, ds, rep, rs, rd, t⟩ => ?_
  obtain ⟨d, ds, rfl, r, rd⟩ := RDs.cons_inv rd
  cases rd.nil_inv
  cases r with
  | int i => exact ⟨i, rfl, t io H1 _ (Step.refl _ _) rep rfl⟩
  | _ => exact t.elim
theorem se_slice {lo hi : Option Expr} {ml mh : Option SE} {m : Bool} (h : PE X a (tE X.K W ma)) (h1 : PO X lo (tO X.K W ml)) (h2 : PO X hi (tO X.K W mh)) : PE X (.Subscript a (.Slice lo hi none p2) pos) (tE X.K W (cSl m ma ml mh)) :=
  (pe_slice (ok_sl m) h h1 h2).imp fun σ H Q h => by
    have h0 := Told.eval (vs := []) (m := ma) (F := fun ds s R => (cPart ml s R).bind fun l R2 => (cPart mh s R2).bind fun u R3 => lift (pn1 (fun x R => slD m x l u R) ds R3)) (rel := RD X.K) (Q := Q) (Told.conv h fun _ _ => rfl)
    refine h0.imp fun v H1 ⟨B, io, R, s, ds, rep, rs, rd, t⟩ => ?_
    refine ⟨B, io, R, s, [], rep, rs, .nil, (Pst.bind (rel' := fun _ _ _ a b => a = b) t).imp fun l H2 ⟨io2, R2, l', st2, rep2, e2, t2⟩ => ?_⟩
    subst e2
    have c2 := st2.car rep
    refine ⟨B, io2, R2, s, [], rep2, rs.car c2, .nil, (Pst.bind (rel' := fun _ _ _ a b => a = b) t2).imp fun u H3 ⟨io3, R3, u', st3, rep3, e3, t3⟩ => ?_⟩
    subst e3
    have c3 := st3.car rep2
    obtain ⟨d, ds, rfl, r, rd⟩ := RDs.cons_inv rd
    cases rd.nil_inv
    refine ⟨B, io3, R3, d, rep3, (r.car c2).car c3, ?_⟩
    have t3 : Pst X.K B io3 H3 W σ (RD X.K) (lift (slD m d l' u' R3)) Q := t3
    cases e : slD m d l' u' R3 with
    | none => rw [e] at t3; exact t3
    | some z => rw [e] at t3; exact t3
/-- x[::-1] -/
def revD (m : Bool) : P1 := fun x R => match lstOf R x with
  | some xs => mkL m xs.reverse R
  | none => none
theorem rds_app {K : PySem.W.Frag} {bar : Addr → Prop} {io : Io} {H : Hp} : ∀ {ds es : List D} {vs ws : List V}, RDs K bar io H ds vs → RDs K bar io H es ws → RDs K bar io H (ds ++ es) (vs ++ ws)
  | _, _, _, _, .nil, r => r
  | _, _, _, _, .cons h t, r => .cons h (rds_app t r)
theorem rds_rev {K : PySem.W.Frag} {bar : Addr → Prop} {io : Io} {H : Hp} : ∀ {ds : List D} {vs : List V}, RDs K bar io H ds vs → RDs K bar io H ds.reverse vs.reverse
  | _, _, .nil => .nil
  | _, _, .cons h t => by
    rw [List.reverse_cons, List.reverse_cons]
    exact rds_app (rds_rev t) (.cons h .nil)
theorem se_rev {m : Bool} {k : Nat} {p1 p2 p3 : Pos} (h1 : PE X a (tE X.K W ma)) : PE X (.Subscript a (.Slice none none (some (.UnaryOp .USub (.Constant (.int 1) k p1) p2)) p3) pos) (tE X.K W (cOp1 (revD m) ma)) := (pe_revL h1).imp fun σ H Q h => by
  have h0 := Told.eval (vs := []) (m := ma) (F := fun ds _ R => match ds with
    | [x] => lift (revD m x R)
    | _ => .err) (rel := RD X.K) (Q := Q) (Told.conv h fun _ _ => rfl)
  refine h0.imp fun v H1 ⟨B, io, R, s, ds, rep, rs, rd, t⟩ => ?_
  obtain ⟨d, ds, rfl, r, rd⟩ := RDs.cons_inv rd
  cases rd.nil_inv
  have t : Pst X.K B io H1 W σ (RD X.K) (lift (revD m d R)) Q := t
  unfold revD at t
  cases el : lstOf R d with
  | none => rw [el] at t; exact t.elim
  | some xs =>
    rw [el] at t
    obtain ⟨p, vs, rfl, hq, rr⟩ := RD.list rep r el
    refine ⟨p, vs, rfl, hq, fun q hp => ?_⟩
    have t : Pst X.K B io H1 W σ (RD X.K) (lift (mkL m xs.reverse R)) Q := t
    cases e : mkL m xs.reverse R with
    | none => rw [e] at t; exact t.elim
    | some z =>
      obtain ⟨d', R'⟩ := z
      rw [e] at t
      obtain ⟨io', st, rep', rd'⟩ := mkL_ok rep hp (rds_rev rr) e
      exact t io' _ _ st rep' rd'
/-! ### other statements -/
theorem ss_aug {i : Nat} {op : Operator} {p : P2} {pos' : Pos} {y : Str} (hN : X.N.Nodup) (hi : X.N[i]? = some y) (hx : Loc X.env.scope y) (hf : X.fn y = true ∨ X.env.scope.names.lookup y = some .local) (ho : PIp X op (fun x y H Q => rN X.K (pn2 p) [x, y] H Q)) (h : PE X e (tE X.K W ma)) :
    PS X (.AugAssign (.Name y pos') op e pos) (tS X.K W (sAug i p ma)) := (ps_aug hN hi hx h ho hf).imp fun D σ H ⟨B, io, R, s, rep, rs, q⟩ => by
  unfold sAug at q
  have go : ∀ x, s[i]? = some x → x ≠ .undef → PstS X.K B io H W (sBind (ma s R) s fun y R1 => match p x y R1 with
      | some (z, R2) => .nx (s.set i z) R2
      | none => .err) D → tAug i (tE X.K W ma) (fun x y H Q => rN X.K (pn2 p) [x, y] H Q) D σ H := fun x e hu q => by
    obtain ⟨o, e1, r⟩ := rs.2 i x e
    rcases r with r | ⟨v, e2, r⟩
    · exact absurd r hu
    · subst e2
      refine ⟨v, e1, B, io, R, s, [], rep, rs, .nil, (PstS.bind (rel := RD X.K) q rs ⟨R, rep⟩).imp fun y H1 ⟨io1, R1, dy, st1, rep1, ry, q1⟩ => ?_⟩
      have c1 := st1.car rep
      refine ⟨B, io1, R1, [x, dy], rep1, .cons (r.car c1) (.cons ry .nil), ?_⟩
      show match p x dy R1 with
        | some (d, R') => _
        | none => _
      cases e3 : p x dy R1 with
      | none => rw [e3] at q1; exact q1.elim
      | some z =>
        obtain ⟨z, R2⟩ := z
        rw [e3] at q1
        exact fun io2 H2 w st2 rep2 rw' => q1 io2 H2 _ st2 rep2 (((rs.car c1).car (st2.car rep1)).set i rw')
  split at q
  · exact q.elim
  · rename_i x hu e
    exact go x e (fun z => hu z) q
  · exact q.elim
def sPar2 (i j : Nat) (m : SA) : SS := fun s R => sBind (m s R) s fun ds R1 => match ds with
  | [x, y] => .nx ((s.set i x).set j y) R1
  | _ => .err
def sPar3 (i j l : Nat) (m : SA) : SS := fun s R => sBind (m s R) s fun ds R1 => match ds with
  | [x, y, z] => .nx (((s.set i x).set j y).set l z) R1
  | _ => .err
theorem par2_core {K : PySem.W.Frag} {i j : Nat} {D : Ends} {σ : S} {H : Hp} (h : tS K W (sPar2 i j mas) D σ H) : tPar i j (tA K W mas) D σ H := by
  obtain ⟨B, io, R, s, rep, rs, q⟩ := h
  refine ⟨B, io, R, s, [], rep, rs, .nil, (PstS.bind (rel := RDs K) q rs ⟨R, rep⟩).imp fun vs H1 ⟨io1, R1, ds, st1, rep1, rd, q1⟩ => ?_⟩
  split at q1
  · obtain ⟨r, t⟩ := (show _ ∧ True from ⟨rd, trivial⟩)
    cases r with
    | cons r1 t =>
      cases t with
      | cons r2 t =>
        cases t
        exact ⟨_, _, rfl, q1 io1 H1 _ (Step.refl _ _) rep1 (((rs.car (st1.car rep)).set i r1).set j r2)⟩
  · exact q1.elim
theorem par3_core {K : PySem.W.Frag} {i j l : Nat} {D : Ends} {σ : S} {H : Hp} (h : tS K W (sPar3 i j l mas) D σ H) : tPar3 i j l (tA K W mas) D σ H := by
  obtain ⟨B, io, R, s, rep, rs, q⟩ := h
  refine ⟨B, io, R, s, [], rep, rs, .nil, (PstS.bind (rel := RDs K) q rs ⟨R, rep⟩).imp fun vs H1 ⟨io1, R1, ds, st1, rep1, rd, q1⟩ => ?_⟩
  split at q1
  · obtain ⟨r, t⟩ := (show _ ∧ True from ⟨rd, trivial⟩)
    cases r with
    | cons r1 t =>
      cases t with
      | cons r2 t =>
        cases t with
        | cons r3 t =>
          cases t
          exact ⟨_, _, _, rfl, q1 io1 H1 _ (Step.refl _ _) rep1 ((((rs.car (st1.car rep)).set i r1).set j r2).set l r3)⟩
  · exact q1.elim
/-! ### methods of what is built in -/
abbrev PM := D → List D → Rg → Option (D × Rg)
def pnM (p : PM) : PN := fun ds R => match ds with
  | x :: ds => p x ds R
  | [] => none
def isT (T : Nat) (x : D) (R : Rg) : Bool := match T with
  | 0 => (lstOf R x).isSome
  | 1 => (match x with
    | .ref i => (dctOf R (.ref i)).isSome
    | _ => false)
  | 2 => (match x with
    | .str _ => true
    | _ => false)
  | _ => false
def tyN (T : Nat) : String := match T with
  | 0 => "list"
  | 1 => "dict"
  | _ => "str"
def cMeth (T : Nat) (p : PM) (a : SE) (as : SA) : SE := fun s R => (a s R).bind fun x R1 => if isT T x R1 = true then (as s R1).bind fun ds R2 => lift (p x ds R2) else .err
theorem ty_ok {K : PySem.W.Frag} {B : Addr → Prop} {io : Io} {R : Rg} {H : Hp} {T : Nat} {d : D} {v : V} (rep : Rep K B io R H) (r : RD K (bars B io) io H d v) (h : isT T d R = true) : tyV K (tyN T) v H := by
  match T with
  | 0 =>
    obtain ⟨xs, e⟩ := Option.isSome_iff_exists.mp (show (lstOf R d).isSome = true from h)
    obtain ⟨a, vs, rfl, hq, _⟩ := RD.list rep r e
    exact .inl ⟨rfl, vs, hq⟩
  | 1 =>
    cases r with
    | @ref i a hi q =>
      obtain ⟨xs, e⟩ := Option.isSome_iff_exists.mp (show (dctOf R (.ref i)).isSome = true from h)
      rw [dctOf_ref] at e
      cases e1 : R[i]? with
      | none => rw [e1] at e; cases e
      | some o =>
        rw [e1] at e
        cases o with
        | dct ys =>
          obtain ⟨p, kvs, h1, h2, _⟩ := rep.atDct e1
          rw [← q p h1]
          exact .inr (.inr (.inl ⟨rfl, .inl ⟨kvs, h2⟩⟩))
        | _ => cases e
    | _ => cases h
  | 2 =>
    cases r with
    | str x => rfl
    | _ => cases h
  | _ + 3 => cases h
theorem meth_core {K : PySem.W.Frag} {σ : S} {H : Hp} {T : Nat} {p : PM} {Q : VK} (h : tE K W (cMeth T p ma mas) σ H Q) : tBM K (tyN T) (fun x xs H Q => rN K (pnM p) (x :: xs) H Q) (tE K W ma) (tA K W mas) σ H Q := by
  have h0 := Told.eval (vs := []) (m := ma) (F := fun ds s R => match ds with
    | [x] => if isT T x R = true then (mas s R).bind fun es R2 => lift (p x es R2) else .err
    | _ => .err) (rel := RD K) (Q := Q) (Told.conv h fun _ _ => rfl)
  refine h0.imp fun v H1 ⟨B, io, R, s, ds, rep, rs, rd, t⟩ => ?_
  obtain ⟨d, ds, rfl, r, rd⟩ := RDs.cons_inv rd
  cases rd.nil_inv
  have t : Pst K B io H1 W σ (RD K) (if isT T d R = true then (mas s R).bind fun es R2 => lift (p d es R2) else .err) Q := t
  split at t
  · rename_i hT
    refine ⟨ty_ok rep r hT, ?_⟩
    have h1 : Told K W σ H1 (RD K) [v] (fun ds s R => (mas s R).bind fun es R2 => lift (pnM p (ds ++ es) R2)) Q := ⟨B, io, R, s, [d], rep, rs, .cons r .nil, t⟩
    exact (Told.evalA (vs := [v]) (m := mas) (F := fun ds _ R => lift (pnM p ds R)) h1).imp fun us H2 t => Told.op t
  · exact t.elim
theorem meth0_core {K : PySem.W.Frag} {σ : S} {H : Hp} {T : Nat} {p : PM} {Q : VK} (h : tE K W (cMeth T p ma cNil) σ H Q) : tBM0 K (tyN T) (fun x xs H Q => rN K (pnM p) (x :: xs) H Q) (tE K W ma) σ H Q := by
  refine (meth_core h).imp fun v H1 ⟨ty, q⟩ => ⟨ty, tA_nil q⟩
end
end Om
/-! Om, part M: what is built in, by names. -/
namespace Om
open PySem PySem.Spec PyProof.Rows L2 RZ
/-! ### list methods -/
def appendD : PM := fun x ds R => match x, ds with
  | .ref i, [y] => (match R[i]? with
    | some (.lst xs) => if xs.length < LINE then some (.non, R.set i (.lst (xs ++ [y]))) else none
    | _ => none)
  | _, _ => none
def popD : PM := fun x ds R => match x, ds with
  | .ref i, [] => (match R[i]? with
    | some (.lst xs) => (xs[xs.length - 1]?).map fun y => (y, R.set i (.lst xs.dropLast))
    | _ => none)
  | .ref i, [.int k] => (match R[i]? with
    | some (.lst xs) => (ixN xs.length k).bind fun j => (xs[j]?).map fun y => (y, R.set i (.lst (xs.eraseIdx j)))
    | _ => none)
  | _, _ => none
section
variable {X : Cx}
theorem rds_at' {K : PySem.W.Frag} {bar : Addr → Prop} {io : Io} {H : Hp} {ds : List D} {vs : List V} {i : Nat} {d : D} (r : RDs K bar io H ds vs) (e : ds[i]? = some d) : ∃ v, vs[i]? = some v ∧ RD K bar io H d v := rds_at r e
theorem rds_erase {K : PySem.W.Frag} {bar : Addr → Prop} {io : Io} {H : Hp} : ∀ {ds : List D} {vs : List V} (n : Nat), RDs K bar io H ds vs → RDs K bar io H (ds.eraseIdx n) (vs.eraseIdx n)
  | _, _, _, .nil => .nil
  | _, _, 0, .cons _ t => t
  | _, _, n + 1, .cons r t => .cons r (rds_erase n t)
theorem rds_dl {K : PySem.W.Frag} {bar : Addr → Prop} {io : Io} {H : Hp} {ds : List D} {vs : List V} (r : RDs K bar io H ds vs) : RDs K bar io H ds.dropLast vs.dropLast := by
  rw [List.dropLast_eq_take, List.dropLast_eq_take, r.len]
  exact rds_take _ r
/-- the region's list at a place is changed -/
theorem lst_set {K : PySem.W.Frag} {B : Addr → Prop} {io : Io} {R : Rg} {H : Hp} {i : Nat} {p : Addr} {ds : List D} {vs : List V} (rep : Rep K B io R H) (h1 : io[i]? = some (some p)) (r : RDs K (bars B io) io H ds vs) :
    Step io H io (upd H p (.lst vs)) ∧ Rep K B io (R.set i (.lst ds)) (upd H p (.lst vs)) :=
  have st : Step io H io (upd H p (.lst vs)) := Step.mut h1
  ⟨st, rep.mut h1 ⟨p, _, h1, upd_same, r.car (st.car rep)⟩⟩
theorem dct_set {K : PySem.W.Frag} {B : Addr → Prop} {io : Io} {R : Rg} {H : Hp} {i : Nat} {p : Addr} {ds : List (D × D)} {vs : List (Key × V)} (rep : Rep K B io R H) (h1 : io[i]? = some (some p)) (r : RKs K (bars B io) io H ds vs) :
    Step io H io (upd H p (.dK vs)) ∧ Rep K B io (R.set i (.dct ds)) (upd H p (.dK vs)) :=
  have st : Step io H io (upd H p (.dK vs)) := Step.mut h1
  ⟨st, rep.mut h1 ⟨p, _, h1, upd_same, r.car (st.car rep)⟩⟩
theorem rNM {K : PySem.W.Frag} {p : PM} {x : V} {xs : List V} {H : Hp} {Q : VK} (h : rN K (pnM p) (x :: xs) H Q) : ∃ B io R dx ds d R', Rep K B io R H ∧ RD K (bars B io) io H dx x ∧ RDs K (bars B io) io H ds xs ∧ p dx ds R = some (d, R') ∧
    ∀ io' H' v, Step io H io' H' → Rep K B io' R' H' → RD K (bars B io') io' H' d v → Q v H' := by
  obtain ⟨B, io, R, ds, rep, rd, q⟩ := h
  obtain ⟨dx, ds, rfl, r, rd⟩ := rd.cons_inv
  have q : match p dx ds R with
    | some (d, R') => ∀ io' H' v, Step io H io' H' → Rep K B io' R' H' → RD K (bars B io') io' H' d v → Q v H'
    | none => False := q
  cases e : p dx ds R with
  | none => rw [e] at q; exact q.elim
  | some z =>
    obtain ⟨d, R'⟩ := z
    rw [e] at q
    exact ⟨B, io, R, dx, ds, d, R', rep, r, rd, e, q⟩
theorem om_append : MtR X "list.append" (fun x xs H Q => rN X.K (pnM appendD) (x :: xs) H Q) := by
  intro pins s σ H x xs v us Q I rx rv h
  obtain ⟨B, io, R, dx, ds, d, R', rep, r, rd, e, q⟩ := rNM h
  unfold appendD at e
  split at e
  · cases r with
    | @ref i a hi hq =>
      cases rd with
      | cons ry t =>
        cases t
        split at e
        · rename_i e1
          obtain ⟨p, vs, h1, h2, r⟩ := rep.atLst e1
          have ep := hq p h1
          subst ep
          split at e
          · rename_i hl
            cases e
            obtain ⟨st, rep'⟩ := lst_set rep h1 (r.append (.cons ry .nil))
            exact mt_append pins s σ H _ _ v us Q I rx rv ⟨p, vs, _, rfl, rfl, h2, by rw [← r.len]; exact hl, q io _ _ st rep' .non⟩
          · cases e
        · cases e
  · cases e
theorem om_pop : MtR X "list.pop" (fun x xs H Q => rN X.K (pnM popD) (x :: xs) H Q) := by
  intro pins s σ H x xs v us Q I rx rv h
  obtain ⟨B, io, R, dx, ds, d, R', rep, r, rd, e, q⟩ := rNM h
  unfold popD at e
  split at e
  · cases r with
    | @ref i a hi hq =>
      cases rd
      split at e
      · rename_i e1
        obtain ⟨p, vs, h1, h2, r⟩ := rep.atLst e1
        have ep := hq p h1
        subst ep
        obtain ⟨y, e2, e3⟩ := Option.map_eq_some_iff.mp e
        cases e3
        obtain ⟨w, ew, rw'⟩ := rds_at r e2
        obtain ⟨st, rep'⟩ := lst_set rep h1 (rds_dl r)
        rw [r.len] at ew
        exact mt_pop pins s σ H _ _ v us Q I rx rv ⟨p, vs, w, rfl, rfl, h2, ew, q io _ _ st rep' (rw'.car (st.car rep))⟩
      · cases e
  · cases r with
    | @ref i a hi hq =>
      cases rd with
      | cons ry t =>
        cases t
        cases ry
        split at e
        · rename_i e1
          obtain ⟨p, vs, h1, h2, r⟩ := rep.atLst e1
          have ep := hq p h1
          subst ep
          obtain ⟨j, ej, e2⟩ := Option.bind_eq_some_iff.mp e
          obtain ⟨y, e3, e4⟩ := Option.map_eq_some_iff.mp e2
          cases e4
          obtain ⟨w, ew, rw'⟩ := rds_at r e3
          obtain ⟨st, rep'⟩ := lst_set rep h1 (rds_erase j r)
          rw [r.len] at ej
          obtain ⟨k1, k2, k3, k4⟩ := ixN_seq ej
          have hz := (I.lstM h2).1
          have hn := line63
          exact mt_popAt pins s σ H _ _ v us Q I rx rv ⟨p, vs, _, j, w, rfl, rfl, h2, by omega, by omega, k1, ew, q io _ _ st rep' (rw'.car (st.car rep))⟩
        · cases e
  · cases e
/-- the first place of an equal one, data -/
def idxL : List D → D → Option Nat
  | [], _ => none
  | x :: xs, y => if x = y then some 0 else (idxL xs y).map (· + 1)
theorem idxL_ok : ∀ {xs : List D} {y : D} {j : Nat}, idxL xs y = some j → xs[j]? = some y ∧ ∀ (m : Nat) (z : D), m < j → xs[m]? = some z → z ≠ y
  | [], _, _, h => by cases h
  | x :: xs, y, j, h => by
    unfold idxL at h
    split at h
    · rename_i e
      cases h
      exact ⟨by rw [e]; rfl, fun m z hm => absurd hm (Nat.not_lt_zero m)⟩
    · rename_i e
      obtain ⟨i, e1, e2⟩ := Option.map_eq_some_iff.mp h
      subst e2
      obtain ⟨h1, h2⟩ := idxL_ok e1
      refine ⟨h1, fun m z hm hz => ?_⟩
      cases m with
      | zero =>
        have : x = z := by simpa using hz
        rw [← this]
        exact e
      | succ m => exact h2 m z (by omega) (by simpa using hz)
def indexD : PM := fun x ds R => match ds with
  | [y] => (match snapD R x, snapD R y with
    | some (.lst xs), some b => if eqOks 11 xs = true ∧ eqOk 12 b = true then (idxL xs b).map fun j => (.int (j : Nat), R) else none
    | _, _ => none)
  | _ => none
theorem toPs_at : ∀ {xs : List D} {j : Nat} {z : PyData}, (toPs xs)[j]? = some z → ∃ x, xs[j]? = some x ∧ z = toP x
  | [], _, _, h => by cases h
  | x :: xs, 0, z, h => ⟨x, rfl, by simpa [toPs] using h.symm⟩
  | x :: xs, j + 1, z, h => by
    obtain ⟨y, h1, h2⟩ := toPs_at (xs := xs) (j := j) (z := z) (by simpa [toPs] using h)
    exact ⟨y, by simpa using h1, h2⟩
theorem toPs_get : ∀ {xs : List D} {j : Nat} {x : D}, xs[j]? = some x → (toPs xs)[j]? = some (toP x)
  | [], _, _, h => by cases h
  | x :: xs, 0, z, h => by
    have : x = z := by simpa using h
    subst this
    rfl
  | x :: xs, j + 1, z, h => by
    have := toPs_get (xs := xs) (j := j) (x := z) (by simpa using h)
    simpa [toPs] using this
theorem eqOks_at {n : Nat} : ∀ {xs : List D} {j : Nat} {x : D}, eqOks n xs = true → xs[j]? = some x → eqOk n x = true
  | [], _, _, _, h => by cases h
  | y :: ys, 0, x, h, e => by
    have h' : eqOk n y = true ∧ eqOks n ys = true := by simpa [eqOks] using h
    have : y = x := by simpa using e
    subst this
    exact h'.1
  | y :: ys, j + 1, x, h, e => by
    have h' : eqOk n y = true ∧ eqOks n ys = true := by simpa [eqOks] using h
    exact eqOks_at h'.2 (by simpa using e)
theorem om_index (hu : X.A.units + 65 < cLine) : MtR X "list.index" (fun x xs H Q => rN X.K (pnM indexD) (x :: xs) H Q) := by
  intro pins s σ H x xs v us Q I rx rv h
  obtain ⟨B, io, R, dx, ds, d, R', rep, r, rd, e, q⟩ := rNM h
  unfold indexD at e
  split at e
  · rename_i y
    cases e1 : snapD R dx with
    | none => rw [e1] at e; cases e
    | some a =>
      cases e2 : snapD R y with
      | none => rw [e1, e2] at e; cases a <;> cases e
      | some b =>
        rw [e1, e2] at e
        cases a with
        | lst zs =>
          have e : (if eqOks 11 zs = true ∧ eqOk 12 b = true then (idxL zs b).map fun j => (D.int (j : Nat), R) else none) = some (d, R') := e
          split at e
          · rename_i hk
            obtain ⟨j, e3, e4⟩ := Option.map_eq_some_iff.mp e
            cases e4
            obtain ⟨h1, h2⟩ := idxL_ok e3
            cases rd with
            | cons ry t =>
              cases t
              have hl : eqOk 12 (.lst zs) = true := hk.1
              have dp := dp_snap rep 6 e1 r hl
              obtain ⟨a', ha'⟩ : ∃ a', x = .ref a' := by
                cases dp with
                | lst => exact ⟨_, rfl⟩
              subst ha'
              refine mt_indexD hu pins s σ H _ _ v us Q I rx rv ⟨a', _, toP b, toPs zs, j, toP b, rfl, rfl, dp, dp_snap rep 6 e2 ry hk.2, toP_shaped hl (by omega), toP_shaped hk.2 (by omega), toPs_get h1, ?_, ?_, q io H _ (Step.refl _ _) rep (.int _)⟩
              · rw [toP_eqv hk.2 hk.2]
                simp
              · intro m z hm hz
                obtain ⟨w, h3, rfl⟩ := toPs_at hz
                rw [toP_eqv (eqOks_at hk.1 h3) hk.2]
                exact decide_eq_false (h2 m w hm h3)
          · cases e
        | _ => cases e
  · cases e
/-- a method of what is built in -/
structure MtB (X : Cx) (T : String) (name : Str) (p : PM) : Prop where
  pa : PlainAttrs T
  ex : ∃ id, Slot T name id ∧ typeOf (.builtin id) = pure (.type "method_descriptor") ∧ MtR X id (fun x xs H Q => rN X.K (pnM p) (x :: xs) H Q)
/-- the methods, by names: the kind of the receiver -/
def metP (m : Bool) (name : Str) : List (Nat × PM) :=
  if name = "append" then [(0, appendD)]
  else if name = "pop" then [(0, popD)]
  else if name = "index" then [(0, indexD)]
  else []
theorem metP_ok (hu : X.A.units + 65 < cLine) {m : Bool} {name : Str} {T : Nat} {p : PM} (h : (T, p) ∈ metP m name) : MtB X (tyN T) name p := by
  unfold metP at h
  split at h
  · rename_i e
    subst e
    have e : (T, p) = (0, appendD) := by simpa using h
    cases e
    exact ⟨F.plainAttrs_list, _, F.slot_list_append, F.type_list_append, om_append⟩
  · split at h
    · rename_i e
      subst e
      have e : (T, p) = (0, popD) := by simpa using h
      cases e
      exact ⟨F.plainAttrs_list, _, F.slot_list_pop, F.type_list_pop, om_pop⟩
    · split at h
      · rename_i e
        subst e
        have e : (T, p) = (0, indexD) := by simpa using h
        cases e
        exact ⟨F.plainAttrs_list, _, F.slot_list_index, F.type_list_index, om_index hu⟩
      · cases h
/-! ### sorted -/
def keysI : List (D × D) → Option (List Int)
  | [] => some []
  | (.int i, _) :: r => (keysI r).map (i :: ·)
  | _ => none
def sortedX (m : Bool) : PN := pn1 fun x R => match dctOf R x with
  | some ks => (match keysI ks with
    | some ns => if ns.length < 64 then mkL m ((sortI ns).map .int) R else none
    | none => none)
  | none => sortedD m [x] R
theorem keysI_rd {K : PySem.W.Frag} {bar : Addr → Prop} {io : Io} {H : Hp} : ∀ {ks : List (D × D)} {kvs : List (Key × V)} {ns : List Int}, RKs K bar io H ks kvs → keysI ks = some ns → kvs.map (·.1) = ns.map Sum.inl
  | _, _, ns, .nil, e => by
    cases e
    rfl
  | (.int i, _) :: ks, _ :: kvs, ns, .cons h r t, e => by
    obtain ⟨ms, e1, e2⟩ := Option.map_eq_some_iff.mp (show (keysI ks).map (i :: ·) = some ns from e)
    subst e2
    cases h
    rw [List.map_cons, List.map_cons, keysI_rd t e1]
theorem ok_sortedX (hc : X.calm = true) (m : Bool) : CallR X (.builtin "sorted") (rN X.K (sortedX m)) := by
  intro pins s σ H xs us Q I r h
  obtain ⟨x, rfl⟩ := rN_1 h
  obtain ⟨B, io, R, dx, d, R', rep, rx, e, q⟩ := rN1 h
  split at e
  · rename_i ks ek
    split at e
    · rename_i ns e1
      split at e
      · rename_i h64
        obtain ⟨a, kvs, rfl, hd, rk⟩ := rx.dict rep ek
        refine call_sortedDI hc pins s σ H _ us Q I r ⟨a, kvs, ns, rfl, hd, keysI_rd rk e1, h64, fun ns' p hp hs hn => ?_⟩
        have en : ns' = sortI ns := sorted_one (hp.trans (sortI_perm ns).symm) hs (sortI_sorted ns)
        rw [en]
        obtain ⟨io', st, rep', r'⟩ := mkL_ok rep hn (rds_ints (sortI ns)) e
        exact q io' _ _ st rep' r'
      · cases e
    · cases e
  · refine ok_sorted m pins s σ H _ us Q I r ⟨B, io, R, [dx], rep, .cons rx .nil, ?_⟩
    rw [e]
    exact q
theorem foldl_min : ∀ (l : List Int) (i : Int), l.foldl min i ∈ i :: l ∧ ∀ y ∈ i :: l, l.foldl min i ≤ y
  | [], i => ⟨by simp, fun y hy => by simp at hy; simp [hy]⟩
  | j :: l, i => by
    obtain ⟨h1, h2⟩ := foldl_min l (min i j)
    rw [List.foldl_cons]
    refine ⟨?_, fun y hy => ?_⟩
    · rcases List.mem_cons.mp h1 with h | h
      · rw [h]
        by_cases e : i ≤ j
        · rw [Int.min_eq_left e]; simp
        · rw [Int.min_eq_right (by omega)]; simp
      · simp [h]
    · rcases List.mem_cons.mp hy with h | h
      · have := h2 (min i j) List.mem_cons_self
        omega
      · rcases List.mem_cons.mp h with h | h
        · have := h2 (min i j) List.mem_cons_self
          omega
        · exact h2 y (List.mem_cons_of_mem _ h)
theorem foldl_max : ∀ (l : List Int) (i : Int), l.foldl max i ∈ i :: l ∧ ∀ y ∈ i :: l, y ≤ l.foldl max i
  | [], i => ⟨by simp, fun y hy => by simp at hy; simp [hy]⟩
  | j :: l, i => by
    obtain ⟨h1, h2⟩ := foldl_max l (max i j)
    rw [List.foldl_cons]
    refine ⟨?_, fun y hy => ?_⟩
    · rcases List.mem_cons.mp h1 with h | h
      · rw [h]
        by_cases e : i ≤ j
        · rw [Int.max_eq_right e]; simp
        · rw [Int.max_eq_left (by omega)]; simp
      · simp [h]
    · rcases List.mem_cons.mp hy with h | h
      · have := h2 (max i j) List.mem_cons_self
        omega
      · rcases List.mem_cons.mp h with h | h
        · have := h2 (max i j) List.mem_cons_self
          omega
        · exact h2 y (List.mem_cons_of_mem _ h)
theorem ok_min (hc : X.calm = true) : CallR X (.builtin "min") (rN X.K minD) := by
  intro pins s σ H xs us Q I r h
  obtain ⟨x, rfl⟩ := rN_1 h
  obtain ⟨B, io, R, dx, d, R', rep, rx, e, q⟩ := rN1 h
  split at e
  · rename_i ys ey
    split at e
    · rename_i ns e1
      obtain ⟨i, e2, e3⟩ := Option.map_eq_some_iff.mp e
      cases e3
      obtain ⟨a, vs, rfl, hS, rd⟩ := rx.list rep ey
      have ev := ints_rd rd e1
      subst ev
      cases ns with
      | nil => cases e2
      | cons j l =>
        cases e2
        obtain ⟨h1, h2⟩ := foldl_min l j
        refine cr_min hc pins s σ H _ us Q I r ⟨a, j :: l, rfl, hS, by simp, fun m hm hy => ?_⟩
        have : m = l.foldl min j := by
          have k1 := hy _ h1
          have k2 := h2 m hm
          omega
        subst this
        exact q io H _ (Step.refl _ _) rep (.int _)
    · cases e
  · cases e
theorem ok_max (hc : X.calm = true) : CallR X (.builtin "max") (rN X.K maxD) := by
  intro pins s σ H xs us Q I r h
  obtain ⟨x, rfl⟩ := rN_1 h
  obtain ⟨B, io, R, dx, d, R', rep, rx, e, q⟩ := rN1 h
  split at e
  · rename_i ys ey
    split at e
    · rename_i ns e1
      obtain ⟨i, e2, e3⟩ := Option.map_eq_some_iff.mp e
      cases e3
      obtain ⟨a, vs, rfl, hS, rd⟩ := rx.list rep ey
      have ev := ints_rd rd e1
      subst ev
      cases ns with
      | nil => cases e2
      | cons j l =>
        cases e2
        obtain ⟨h1, h2⟩ := foldl_max l j
        refine cr_max hc pins s σ H _ us Q I r ⟨a, j :: l, rfl, hS, by simp, fun m hm hy => ?_⟩
        have : m = l.foldl max j := by
          have k1 := hy _ h1
          have k2 := h2 m hm
          omega
        subst this
        exact q io H _ (Step.refl _ _) rep (.int _)
    · cases e
  · cases e
/-! ### functions -/
def bltP (m : Bool) (x : Str) : Option PN :=
  if x = "len" then some lenD
  else if x = "isinstance" then some isiD
  else if x = "list" then some (listD m)
  else if x = "tuple" then some tupleD
  else if x = "int" then some intD
  else if x = "all" then some allD
  else if x = "any" then some anyD
  else if x = "sum" then some sumD
  else if x = "sorted" then some (sortedX m)
  else if x = "min" then some minD
  else if x = "max" then some maxD
  else none
theorem bltP_ok (hc : X.calm = true) {m : Bool} {x : Str} {p : PN} (h : bltP m x = some p) : (x ≠ "__name__" ∧ (x == ("__debug__" : Str)) = false) ∧ ((∃ id, bootBuiltins x = some (.builtin id) ∧ CallR X (.builtin id) (rN X.K p)) ∨ ∃ T, bootBuiltins x = some (.type T) ∧ CallR X (.type T) (rN X.K p)) := by
  unfold bltP at h
  split at h
  · rename_i e
    subst e
    cases h
    exact ⟨⟨by decide +kernel, by decide +kernel⟩, .inl ⟨_, by decide +kernel, ok_len⟩⟩
  split at h
  · rename_i e
    subst e
    cases h
    exact ⟨⟨by decide +kernel, by decide +kernel⟩, .inl ⟨_, by decide +kernel, ok_isi⟩⟩
  split at h
  · rename_i e
    subst e
    cases h
    exact ⟨⟨by decide +kernel, by decide +kernel⟩, .inr ⟨_, by decide +kernel, ok_list hc m⟩⟩
  split at h
  · rename_i e
    subst e
    cases h
    exact ⟨⟨by decide +kernel, by decide +kernel⟩, .inr ⟨_, by decide +kernel, ok_tuple⟩⟩
  split at h
  · rename_i e
    subst e
    cases h
    exact ⟨⟨by decide +kernel, by decide +kernel⟩, .inr ⟨_, by decide +kernel, ok_int⟩⟩
  split at h
  · rename_i e
    subst e
    cases h
    exact ⟨⟨by decide +kernel, by decide +kernel⟩, .inl ⟨_, by decide +kernel, ok_all hc⟩⟩
  split at h
  · rename_i e
    subst e
    cases h
    exact ⟨⟨by decide +kernel, by decide +kernel⟩, .inl ⟨_, by decide +kernel, ok_any hc⟩⟩
  split at h
  · rename_i e
    subst e
    cases h
    exact ⟨⟨by decide +kernel, by decide +kernel⟩, .inl ⟨_, by decide +kernel, ok_sum hc⟩⟩
  split at h
  · rename_i e
    subst e
    cases h
    exact ⟨⟨by decide +kernel, by decide +kernel⟩, .inl ⟨_, by decide +kernel, ok_sortedX hc m⟩⟩
  split at h
  · rename_i e
    subst e
    cases h
    exact ⟨⟨by decide +kernel, by decide +kernel⟩, .inl ⟨_, by decide +kernel, ok_min hc⟩⟩
  split at h
  · rename_i e
    subst e
    cases h
    exact ⟨⟨by decide +kernel, by decide +kernel⟩, .inl ⟨_, by decide +kernel, ok_max hc⟩⟩
  cases h
/-- types as values -/
def tyB (x : Str) : Option String :=
  if x = "int" then some "int"
  else if x = "bool" then some "bool"
  else if x = "str" then some "str"
  else if x = "tuple" then some "tuple"
  else if x = "list" then some "list"
  else if x = "dict" then some "dict"
  else if x = "bytes" then some "bytes"
  else none
theorem tyB_ok {x : Str} {T : String} (h : tyB x = some T) : x ≠ "__name__" ∧ (x == ("__debug__" : Str)) = false ∧ bootBuiltins x = some (.type T) := by
  unfold tyB at h
  repeat (split at h; (rename_i e; subst e; cases h; exact ⟨by decide +kernel, by decide +kernel, by decide +kernel⟩))
  cases h
end
end Om
/-! Om, part R: instances of the text's own classes. -/
namespace Om
open PySem PySem.Spec PyProof.Rows L2 RZ
theorem atN_inj {i j : Nat} (hi : i < atTab.length) (hj : j < atTab.length) (h : atN i = atN j) : i = j := by
  have all : ∀ i : _root_.Fin atTab.length, ∀ j : _root_.Fin atTab.length, atN i.1 = atN j.1 → i.1 = j.1 := by decide +kernel
  exact all ⟨i, hi⟩ ⟨j, hj⟩ h
def lookF : List (Nat × D) → Nat → Option D
  | [], _ => none
  | (m, d) :: r, n => if m = n then some d else lookF r n
def putFD : List (Nat × D) → Nat → D → List (Nat × D)
  | [], n, d => [(n, d)]
  | (m, x) :: r, n, d => if m = n then (m, d) :: r else (m, x) :: putFD r n d
section
variable {K : PySem.W.Frag} {bar : Addr → Prop} {B : Addr → Prop} {io : Io} {R : Rg} {H : Hp}
theorem lookF_rd {n : Nat} (hn : n < atTab.length) : ∀ {fs : List (Nat × D)} {fvs : List (Str × V)}, RFs K bar io H fs fvs → match lookF fs n with
    | some d => ∃ v, fvs.lookup (atN n) = some v ∧ RD K bar io H d v
    | none => fvs.lookup (atN n) = none
  | _, _, .nil => rfl
  | (m, d) :: fs, (_, v) :: fvs, .cons hm r t => by
    unfold lookF
    by_cases e : m = n
    · subst e
      rw [if_pos rfl]
      exact ⟨v, by simp, r⟩
    · rw [if_neg e]
      have ne : (atN n == atN m) = false := beq_eq_false_iff_ne.mpr fun z => e (atN_inj hm hn z.symm)
      have ih := lookF_rd hn t
      revert ih
      cases lookF fs n with
      | none => exact fun ih => by simp only [List.lookup_cons, ne]; exact ih
      | some d' => exact fun ⟨v', h1, h2⟩ => ⟨v', by simp only [List.lookup_cons, ne]; exact h1, h2⟩
theorem putF_rd {n : Nat} {d : D} {v : V} (hn : n < atTab.length) (rv : RD K bar io H d v) : ∀ {fs : List (Nat × D)} {fvs : List (Str × V)}, RFs K bar io H fs fvs → RFs K bar io H (putFD fs n d) (putF (atN n) v fvs)
  | _, _, .nil => .cons hn rv .nil
  | (m, x) :: fs, (_, w) :: fvs, .cons hm r t => by
    unfold putFD putF
    by_cases e : m = n
    · subst e
      rw [if_pos rfl, if_pos rfl]
      exact .cons hm rv t
    · rw [if_neg e, if_neg (fun z => e (atN_inj hm hn z))]
      exact .cons hm r (putF_rd hn rv t)
theorem putFD_len (n : Nat) (d : D) : ∀ fs : List (Nat × D), (putFD fs n d).length ≤ fs.length + 1
  | [] => by simp [putFD]
  | (m, x) :: fs => by
    unfold putFD
    split
    · simp
    · have := putFD_len n d fs
      simp only [List.length_cons]; omega
theorem RFs.len : ∀ {fs : List (Nat × D)} {fvs : List (Str × V)}, RFs K bar io H fs fvs → fs.length = fvs.length
  | _, _, .nil => rfl
  | _, _, .cons _ _ t => congrArg (· + 1) (RFs.len t)
theorem RD.inst {d : D} {v : V} {c : Nat} {fs : List (Nat × D)} (rep : Rep K B io R H) (r : RD K (bars B io) io H d v) (e : insOf R d = some (c, fs)) : ∃ a dx fvs, v = .ref a ∧ H a = some (.ins (He.ga K (clN c)) dx fvs) ∧ RFs K (bars B io) io H fs fvs := by
  cases r with
  | ins n h r =>
    cases e
    exact ⟨_, _, _, rfl, h, r⟩
  | @ref i a hi q =>
    rw [insOf_ref] at e
    cases e1 : R[i]? with
    | none => rw [e1] at e; cases e
    | some o =>
      rw [e1] at e
      cases o with
      | ins c' ys =>
        cases e
        obtain ⟨p, dx, vs, h1, h2, r⟩ := rep.atIns e1
        rw [← q p h1]
        exact ⟨p, dx, vs, rfl, h2, r⟩
      | _ => cases e
  | _ => cases e
end
/-! ### attributes -/
/-- which attributes a class's instances may bear -/
abbrev CaT := List (Nat × List Nat)
def okAt (ca : CaT) (c n : Nat) : Bool := ca.any fun p => decide (p.1 = c) && decide (n ∈ p.2)
structure CaOk (K : PySem.W.Frag) (c n : Nat) : Prop where
  cls : Cls K (He.ga K (clN c))
  no : NoAttr K (He.ga K (clN c)) (atN n)
  lt : n < atTab.length
def fldD (ca : CaT) (n : Nat) : P1 := fun x R => match insOf R x with
  | some (c, fs) => if okAt ca c n = true then (lookF fs n).map fun d => (d, R) else none
  | none => none
/-- o.f = v: the region behind it -/
def setF (ca : CaT) (n : Nat) (x v : D) (R : Rg) : Option Rg := match x with
  | .ref i => (match R[i]? with
    | some (.ins c fs) => if okAt ca c n = true ∧ fs.length < 1000 then some (R.set i (.ins c (putFD fs n v))) else none
    | _ => none)
  | _ => none
section
variable {X : Cx} {W : WX} {a b c e o : Expr} {es : List Expr} {ma mb mc mo : SE} {mas : SA} {pos pos' tpos : Pos} {ca : CaT} {n : Nat} {f : Str}
theorem se_fld (hca : ∀ c n, okAt ca c n = true → CaOk X.K c n) (hf : atN n = f) (h1 : PE X e (tE X.K W ma)) (hb : attributeBase e f X.env (eval e X.env) = eval e X.env) : PE X (.Attribute e f pos) (tE X.K W (cOp1 (fldD ca n) ma)) := (pe_fld h1 hb).imp fun σ H Q h => by
  have h0 := Told.eval (vs := []) (m := ma) (F := fun ds _ R => match ds with
    | [x] => lift (fldD ca n x R)
    | _ => .err) (rel := RD X.K) (Q := Q) (Told.conv h fun _ _ => rfl)
  refine h0.imp fun v H1 ⟨B, io, R, s, ds, rep, rs, rd, t⟩ => ?_
  obtain ⟨d, ds, rfl, r, rd⟩ := RDs.cons_inv rd
  cases rd.nil_inv
  have t : Pst X.K B io H1 W σ (RD X.K) (lift (fldD ca n d R)) Q := t
  unfold fldD at t
  cases ei : insOf R d with
  | none => rw [ei] at t; exact t.elim
  | some z =>
    obtain ⟨c, fs⟩ := z
    rw [ei] at t
    have t : Pst X.K B io H1 W σ (RD X.K) (lift (if okAt ca c n = true then (lookF fs n).map fun d => (d, R) else none)) Q := t
    split at t
    · rename_i hk
      have k := hca c n hk
      obtain ⟨p, dx, fvs, rfl, hp, rf⟩ := RD.inst rep r ei
      have q := lookF_rd k.lt rf
      cases el : lookF fs n with
      | none => rw [el] at t; exact t.elim
      | some y =>
        rw [el] at t q
        obtain ⟨w, h1, h2⟩ := q
        rw [hf] at h1
        have no := k.no
        rw [hf] at no
        exact ⟨p, _, dx, fvs, w, rfl, hp, k.cls, no, h1, t io H1 w (Step.refl _ _) rep h2⟩
    · exact t.elim
/-- o.f = e -/
def sSetF (ca : CaT) (n : Nat) (a o : SE) : SS := fun s R => sBind (a s R) s fun v R1 => sBind (o s R1) s fun x R2 => match setF ca n x v R2 with
  | some R3 => .nx s R3
  | none => .err
theorem setF_ok {K : PySem.W.Frag} {B : Addr → Prop} {io : Io} {R R' : Rg} {H : Hp} {x d : D} {v w : V} (hca : ∀ c n, okAt ca c n = true → CaOk K c n) (rep : Rep K B io R H) (r : RD K (bars B io) io H x v) (rw_ : RD K (bars B io) io H d w) (e : setF ca n x d R = some R') :
    ∃ p c dx fvs, v = .ref p ∧ H p = some (.ins (He.ga K (clN c)) dx fvs) ∧ CaOk K c n ∧ fvs.length < 1000 ∧ Step io H io (upd H p (.ins (He.ga K (clN c)) dx (putF (atN n) w fvs))) ∧ Rep K B io R' (upd H p (.ins (He.ga K (clN c)) dx (putF (atN n) w fvs))) := by
  cases r with
  | @ref i a hi q =>
    have e : (match R[i]? with
      | some (.ins c fs) => if okAt ca c n = true ∧ fs.length < 1000 then some (R.set i (.ins c (putFD fs n d))) else none
      | _ => none) = some R' := e
    cases e1 : R[i]? with
    | none => rw [e1] at e; cases e
    | some o =>
      rw [e1] at e
      cases o with
      | ins c fs =>
        have e : (if okAt ca c n = true ∧ fs.length < 1000 then some (R.set i (.ins c (putFD fs n d))) else none) = some R' := e
        split at e
        · rename_i hk
          cases e
          obtain ⟨p, dx, fvs, h1, h2, rf⟩ := rep.atIns e1
          have k := hca c n hk.1
          rw [← q p h1]
          have st : Step io H io (upd H p (.ins (He.ga K (clN c)) dx (putF (atN n) w fvs))) := Step.mut h1
          exact ⟨p, c, dx, fvs, rfl, h2, k, by rw [← rf.len]; exact hk.2, st, rep.mut h1 ⟨p, dx, _, h1, upd_same, (putF_rd k.lt rw_ rf).car (st.car rep)⟩⟩
        · cases e
      | _ => cases e
  | _ => cases e
theorem setF_core {K : PySem.W.Frag} (hca : ∀ c n, okAt ca c n = true → CaOk K c n) {D : Ends} {σ : S} {H : Hp} (h : tS K W (sSetF ca n ma mo) D σ H) : sFld K (tE K W mo) (tE K W ma) (atN n) D σ H := by
  obtain ⟨B, io, R, s, rep, rs, p⟩ := h
  refine ⟨B, io, R, s, [], rep, rs, .nil, (PstS.bind (rel := RD K) p rs ⟨R, rep⟩).imp fun v H1 ⟨io1, R1, d, st1, rep1, rd, p1⟩ => ?_⟩
  have rs1 := rs.car (st1.car rep)
  refine ⟨B, io1, R1, s, [], rep1, rs1, .nil, (PstS.bind (rel := RD K) p1 rs1 ⟨R1, rep1⟩).imp fun u H2 ⟨io2, R2, x, st2, rep2, rx, p2⟩ => ?_⟩
  have rs2 := rs1.car (st2.car rep1)
  have rd2 := rd.car (st2.car rep1)
  cases e : setF ca n x d R2 with
  | none => rw [e] at p2; exact p2.elim
  | some R3 =>
    rw [e] at p2
    obtain ⟨q, c, dx, fvs, rfl, hq, k, hl, st3, rep3⟩ := setF_ok hca rep2 rx rd2 e
    exact ⟨q, _, dx, fvs, rfl, hq, k.cls, k.no, hl, p2 io2 _ σ st3 rep3 (rs2.car (st3.car rep2))⟩
theorem ss_setF (hca : ∀ c n, okAt ca c n = true → CaOk X.K c n) (hf : atN n = f) (ho : PE X o (tE X.K W mo)) (hv : PE X e (tE X.K W ma)) (hs : swapsWith e (some (.Attribute o f pos')) pos.line X.env = pure false) : PS X (.Assign [.Attribute o f pos'] e pos) (tS X.K W (sSetF ca n ma mo)) := by
  subst hf
  exact (ps_fld ho hv hs).imp fun D σ H h => setF_core hca h
end
/-! ### methods -/
/-- what is known of a def: n its parameters -/
structure DfOk (P : Program) (w : World) (K : PySem.W.Frag) (mg : Str → Option Value) (base : Heap) (F : SF) (n : Nat) (dfl : List D) (k : Nat) (f : Addr) : Prop where
  ex : ∃ fd ps, FnOk P w K mg base (CX P w) k f fd ps (spF K n F) ∧ ∀ m, m ≤ n → n ≤ m + dfl.length → ∃ dvs ds, (∀ bar io H, RDs K bar io H (dfl.drop (m + dfl.length - n)) dvs) ∧ Vals dvs ds ∧ Binds K fd ps ds
  len : ∀ ds R, ds.length ≠ n → F ds R = .err
def noFld (m : Str) (fs : List (Nat × D)) : Bool := fs.all fun p => !decide (atN p.1 = m)
def cMeth1 (c : Nat) (m : Str) (F : SF) (dfl : List D) (a : SE) (as : SA) : SE := fun s R => (a s R).bind fun x R1 => match insOf R1 x with
  | some (c', fs) => if c' = c ∧ noFld m fs = true then (as s R1).bind fun ds R2 => F (x :: (ds ++ dfl)) R2 else .err
  | none => .err
def tMethW (W : WX) (C : Addr) (m : Str) (sp : Sp) (dvs : List V) (ta : TE) (t : TA) : TE := fun σ H Q => ta σ H fun x H1 => ∃ a dx fs, x = .ref a ∧ H1 a = some (.ins C dx fs) ∧ fs.lookup m = none ∧
  t σ H1 fun vs H2 => sp (x :: (vs ++ dvs)) H2 Q fun cls d H' => W cls d σ H'
section
variable {X : Cx} {W : WX} {a b c e o : Expr} {es : List Expr} {ma mb mc mo : SE} {mas : SA} {pos apos p : Pos} {k n : Nat} {f C : Addr} {fd : FuncData} {ps : List Str} {sp : Sp} {dvs : List V} {ds : List Value} {m x : Str} {F : SF} {dfl : List D} {ta : TE} {t : TA}
theorem mcall_eq {env : Env} {args : List Expr} (hb : attributeBase o m env (eval o env) = eval o env) (hf : methodCallForm (args.length + ([] : List Keyword).length) (backTo pos (starEach args env)) (backToKw pos (keywordEach [] env)) = true) (hl : (apos.endLine == pos.line) = true) :
    eval (.Call (.Attribute o m apos) args [] pos) env = (do
      let ov ← eval o env
      standAt apos.atName
      let (f, first) ← holding [ov] (getMethod ov m (do return (← importBound o env).getD true))
      callWith pos f first (backTo pos (starEach args env)) (backToKw pos (keywordEach [] env))) := by
  refine mcall_of hb fun ov => ?_
  unfold methodCall calleeOf methodCallPos
  rw [hf]
  simp only [hl, if_true, Bool.not_true, Bool.or_true, pure_bind]
theorem pe_methW (he : PE X o ta) (c : Cls X.K C) (hm : Meth X.K C m f) (F : FnOk X.prog X.w X.K X.mg X.base (CX X.prog X.w) k f fd ps sp) (hr : Room k X.A) (hb : Binds X.K fd ps ds) (hd : Vals dvs ds) (tk : Takes X W) (ha : PA X (e :: es) t)
    (hbase : attributeBase o m X.env (eval o X.env) = eval o X.env) (hf : methodCallForm ((e :: es).length + ([] : List Keyword).length) (backTo pos (starEach (e :: es) X.env)) (backToKw pos (keywordEach [] X.env)) = true) (hl : (apos.endLine == pos.line) = true)
    (hst : starEach (e :: es) X.env = (false, eval e X.env) :: starEach es X.env) (hpl : (backTo pos (starEach es X.env)).any (·.1) = false) :
    PE X (.Call (.Attribute o m apos) (e :: es) [] pos) (tMethW W C m sp dvs ta t) := by
  refine ⟨fun pins s σ H Q I h => ?_⟩
  refine PySem.W.methodCall_KW (pl := do return (← importBound o X.env).getD true) (thn (he.run pins s σ H _ I h) fun u s1 ⟨x, H1, I1, rx, a, dx, fs, ex, ea, l, q⟩ => ?_) (mcall_eq hbase hf hl)
  subst ex
  obtain rfl : u = Value.ref a := rx
  refine getmeth_ok I1 ea c hm l ?_
  refine PySem.W.callWith_K (first := [.ref a]) (h₀ := X.base) I.ok.mod.kin hm.kp (thn (ha.run pos pins s1 σ H1 _ I1 q) fun us s2 ⟨vs, H2, I2, r, q2⟩ => ⟨I2.kIn, ?_⟩) hst hpl
  exact run_fnW (us := .ref a :: us) (vs := .ref a :: vs) F hr hb hd tk I2 (.cons rfl r) q2
theorem pe_methW0 (he : PE X o ta) (c : Cls X.K C) (hm : Meth X.K C m f) (F : FnOk X.prog X.w X.K X.mg X.base (CX X.prog X.w) k f fd ps sp) (hr : Room k X.A) (hb : Binds X.K fd ps ds) (hd : Vals dvs ds) (tk : Takes X W)
    (hbase : attributeBase o m X.env (eval o X.env) = eval o X.env) (hl : (apos.endLine == pos.line) = true) :
    PE X (.Call (.Attribute o m apos) [] [] pos) (tMethW W C m sp dvs ta tNil) := by
  refine ⟨fun pins s σ H Q I h => ?_⟩
  refine PySem.W.methodCall_KW (pl := do return (← importBound o X.env).getD true) (thn (he.run pins s σ H _ I h) fun u s1 ⟨x, H1, I1, rx, a, dx, fs, ex, ea, l, q⟩ => ?_) (mcall_eq hbase rfl hl)
  subst ex
  obtain rfl : u = Value.ref a := rx
  refine getmeth_ok I1 ea c hm l ?_
  exact PySem.W.callWith_K0 (first := [.ref a]) I1.kIn hm.kp (run_fnW (us := [.ref a]) (vs := [.ref a]) F hr hb hd tk I1 (.cons rfl .nil) q)
theorem noFld_ok {K : PySem.W.Frag} {bar : Addr → Prop} {io : Io} {H : Hp} : ∀ {fs : List (Nat × D)} {fvs : List (Str × V)}, RFs K bar io H fs fvs → noFld m fs = true → fvs.lookup m = none
  | _, _, .nil, _ => rfl
  | (q, d) :: fs, (_, v) :: fvs, .cons hq r t, h => by
    have h' : (!decide (atN q = m)) = true ∧ noFld m fs = true := by simpa [noFld] using h
    have ne : (m == atN q) = false := beq_eq_false_iff_ne.mpr fun z => by
      have := h'.1
      simp [z] at this
    simp only [List.lookup_cons, ne]
    exact noFld_ok t h'.2
theorem meth_own {K : PySem.W.Frag} {cN : Nat} {σ : S} {H : Hp} {Q : VK} (hn : ∀ ds R, ds.length ≠ n → F ds R = .err) (hdv : ∀ bar io H, RDs K bar io H dfl dvs) (h : tE K W (cMeth1 cN m F dfl ma mas) σ H Q) :
    tMethW W (He.ga K (clN cN)) m (spF K n F) dvs (tE K W ma) (tA K W mas) σ H Q := by
  have h0 := Told.eval (vs := []) (m := ma) (F := fun ds s R => match ds with
    | [x] => (match insOf R x with
      | some (c', fs) => if c' = cN ∧ noFld m fs = true then (mas s R).bind fun ds R2 => F (x :: (ds ++ dfl)) R2 else .err
      | none => .err)
    | _ => .err) (rel := RD K) (Q := Q) (Told.conv h fun _ _ => rfl)
  refine h0.imp fun v H1 ⟨B, io, R, s, ds, rep, rs, rd, t⟩ => ?_
  obtain ⟨d, ds, rfl, r, rd⟩ := RDs.cons_inv rd
  cases rd.nil_inv
  have t : Pst K B io H1 W σ (RD K) (match insOf R d with
      | some (c', fs) => if c' = cN ∧ noFld m fs = true then (mas s R).bind fun ds R2 => F (d :: (ds ++ dfl)) R2 else .err
      | none => .err) Q := t
  cases ei : insOf R d with
  | none => rw [ei] at t; exact t.elim
  | some z =>
    obtain ⟨c', fs⟩ := z
    rw [ei] at t
    have t2 : Pst K B io H1 W σ (RD K) (if c' = cN ∧ noFld m fs = true then (mas s R).bind fun ds R2 => F (d :: (ds ++ dfl)) R2 else .err) Q := t
    clear t
    by_cases hk : c' = cN ∧ noFld m fs = true
    · rw [if_pos hk] at t2
      obtain ⟨hc, hf⟩ := hk
      subst hc
      obtain ⟨p, dx, fvs, rfl, hp, rf⟩ := RD.inst rep r ei
      refine ⟨p, dx, fvs, rfl, hp, noFld_ok rf hf, ?_⟩
      have h1 := Told.evalA (K := K) (W := W) (σ := σ) (H := H1) (vs := [.ref p]) (m := mas) (F := fun ds _ R => match ds with
        | x :: ds => F (x :: (ds ++ dfl)) R
        | [] => .err) (rel := RD K) (Q := Q) ⟨B, io, R, s, [d], rep, rs, .cons r .nil, t2⟩
      refine h1.imp fun us H2 ⟨B, io, R, s, ds, rep, rs, rd, t⟩ => ?_
      obtain ⟨d2, ds, rfl, r2, rd⟩ := RDs.cons_inv rd
      have t : Pst K B io H2 W σ (RD K) (F (d2 :: (ds ++ dfl)) R) Q := t
      refine ⟨B, io, R, d2 :: (ds ++ dfl), rep, .cons r2 (RDs.append rd (hdv _ _ _)), ?_, ?_⟩
      · exact Classical.byContradiction fun z => by
          rw [hn _ R z] at t
          exact t
      · unfold PstF
        revert t
        cases F (d2 :: (ds ++ dfl)) R with
        | ok d R' => exact fun t => t
        | exc c x R' => exact fun t => t
        | err => exact fun t => t
    · rw [if_neg hk] at t2
      exact t2.elim
end
/-! ### new instances -/
def nonOr (v : D) (r : Res D) : Res D := match v with
  | .non => r
  | _ => .err
def cMake (c : Nat) (F : SF) (dfl : List D) (as : SA) : SE := fun s R => (as s R).bind fun ds R1 => (F (.ref R1.length :: (ds ++ dfl)) (R1 ++ [.ins c []])).bind fun v R2 => nonOr v (.ok (.ref R1.length) R2)
def tMakeW (W : WX) (C : Addr) (sp : Sp) (dvs : List V) (t : TA) : TE := fun σ H Q => t σ H fun vs H1 => ∀ x dx, H1 x = none → H1 dx = none → dx ≠ x →
  sp (.ref x :: (vs ++ dvs)) (upd (upd H1 dx (.own x)) x (.ins C dx [])) (fun v H2 => v = .non ∧ Q (.ref x) H2) fun cls d H' => W cls d σ H'
section
variable {X : Cx} {W : WX} {a b c e o : Expr} {es : List Expr} {ma mb mc mo : SE} {mas : SA} {pos apos p : Pos} {k n : Nat} {f C : Addr} {fd : FuncData} {ps : List Str} {sp : Sp} {dvs : List V} {ds : List Value} {m x : Str} {F : SF} {dfl : List D} {ta : TE} {t : TA}
theorem run_makeW {pins : List (Addr × Obj)} {σ : S} {H : Hp} {s : Shared} {Q : VK} {us : List Value} {vs : List V} (M : Mk X.K C f) (F : FnOk X.prog X.w X.K X.mg X.base (CX X.prog X.w) k f fd ps sp) (hr : Room (k + 1) X.A) (hb : Binds X.K fd ps ds) (hd : Vals dvs ds)
    (tk : Takes X W) (I : Inv X pins σ H s) (r : Vals vs us)
    (h : ∀ x dx, H x = none → H dx = none → dx ≠ x → sp (.ref x :: (vs ++ dvs)) (upd (upd H dx (.own x)) x (.ins C dx [])) (fun v H2 => v = .non ∧ Q (.ref x) H2) fun cls d H' => W cls d σ H') :
    wpAny (model X.prog X.w) X.A (call (.ref C) us) (EP X pins σ Q) X.xe s := by
  have hq := h (s.heap.objs.size + 1) s.heap.objs.size (I.hok.fresh (Nat.le_succ _)) (I.hok.fresh (Nat.le_refl _)) (Nat.ne_of_lt (Nat.lt_succ_self _))
  have I2 := Inv.made (C := C) I
  have r2 : Vals (V.ref (s.heap.objs.size + 1) :: (vs ++ dvs)) (Value.ref (s.heap.objs.size + 1) :: (us ++ ds)) := .cons rfl (r.append hd)
  have hl : (Value.ref (s.heap.objs.size + 1) :: us ++ ds).length = ps.length := by
    have e := r2.length
    rw [F.len _ _ _ _ hq] at e
    exact e.symm
  refine wpAny_call (make_map (f := f) I.kIn M.makes M.init (beq_iff_eq.mp M.fn) (codeAny_mono (F.run _ X.stack _ _ ⟨Value.ref (s.heap.objs.size + 1) :: us, []⟩ (Value.ref (s.heap.objs.size + 1) :: (us ++ ds)) _ _ _ (hr.make C us [])
    (I2.env0.make C us []) (hb _ (Value.ref (s.heap.objs.size + 1) :: us) I2.kIn hl) r2 hq) fun r s' hq' => ?_))
  cases r with
  | error e => exact tk e s' (XE.of_call (W := W) I2 (fun cls d H' h => h) hq')
  | ok fl =>
    cases fl with
    | ret u =>
      obtain ⟨v, H', I3, rv, ev, q3⟩ := I2.after hq'
      subst ev
      exact ⟨rv, ⟨V.ref (s.heap.objs.size + 1), H', I3, rfl, q3⟩⟩
    | next => exact False.elim hq'
    | brk => exact False.elim hq'
    | cont => exact False.elim hq'
theorem pe_makeW (M : Mk X.K C f) (F : FnOk X.prog X.w X.K X.mg X.base (CX X.prog X.w) k f fd ps sp) (hr : Room (k + 1) X.A) (hg : Gl X x) (hm : X.mg x = some (.ref C)) (hb : Binds X.K fd ps ds) (hd : Vals dvs ds) (tk : Takes X W)
    (ha : PA X (e :: es) t) (hdb : (x == ("__debug__" : Str)) = false) (he : starEach (e :: es) X.env = (false, eval e X.env) :: starEach es X.env) (hpl : (backTo pos (starEach es X.env)).any (·.1) = false) :
    PE X (.Call (.Name x p) (e :: es) [] pos) (tMakeW W C sp dvs t) := by
  refine ⟨fun pins s σ H Q I h => ?_⟩
  refine wpAny_Call_Name_kw (ld_glob I hg hm ?_ hdb)
  refine PySem.W.callWith_K (h₀ := X.base) I.ok.mod.kin M.kp (thn (ha.run pos pins s σ H _ I h) fun us s1 ⟨vs, H1, I1, r, q⟩ => ⟨I1.kIn, ?_⟩) he hpl
  exact run_makeW M F hr hb hd tk I1 r q
theorem pe_makeW0 (M : Mk X.K C f) (F : FnOk X.prog X.w X.K X.mg X.base (CX X.prog X.w) k f fd ps sp) (hr : Room (k + 1) X.A) (hg : Gl X x) (hm : X.mg x = some (.ref C)) (hb : Binds X.K fd ps ds) (hd : Vals dvs ds) (tk : Takes X W)
    (hdb : (x == ("__debug__" : Str)) = false) : PE X (.Call (.Name x p) [] [] pos) (tMakeW W C sp dvs tNil) := by
  refine ⟨fun pins s σ H Q I h => ?_⟩
  refine wpAny_Call_Name_kw (ld_glob I hg hm ?_ hdb)
  exact PySem.W.callWith_K0 I.kIn M.kp (run_makeW (us := []) M F hr hb hd tk I .nil h)
theorem make_core {K : PySem.W.Frag} {cN : Nat} {σ : S} {H : Hp} {Q : VK} (hn : ∀ ds R, ds.length ≠ n → F ds R = .err) (hdv : ∀ bar io H, RDs K bar io H dfl dvs) (h : tE K W (cMake cN F dfl mas) σ H Q) :
    tMakeW W (He.ga K (clN cN)) (spF K n F) dvs (tA K W mas) σ H Q := by
  have h0 := Told.evalA (vs := []) (m := mas) (F := fun ds _ R => (F (.ref R.length :: (ds ++ dfl)) (R ++ [.ins cN []])).bind fun v R2 => nonOr v (.ok (.ref R.length) R2)) (rel := RD K) (Told.conv h fun _ _ => rfl)
  refine h0.imp fun us H1 ⟨B, io, R, s, ds, rep, rs, rd, t⟩ x dx hx hdx hne => ?_
  have rd : RDs K (bars B io) io H1 ds us := rd
  have t : Pst K B io H1 W σ (RD K) ((F (.ref R.length :: (ds ++ dfl)) (R ++ [.ins cN []])).bind fun v R2 => nonOr v (.ok (.ref R.length) R2)) Q := t
  have st1 : Step io H1 io (upd H1 dx (.own x)) := Step.add hdx
  have rep1 : Rep K B io R (upd H1 dx (.own x)) := rep.add hdx
  have hx1 : upd H1 dx (.own x) x = none := by rw [upd_ne (fun z => hne z.symm)]; exact hx
  have st2 : Step io (upd H1 dx (.own x)) (io ++ [some x]) (upd (upd H1 dx (.own x)) x (.ins (He.ga K (clN cN)) dx [])) := Step.push rep1 hx1
  have at_ : (io ++ [some x])[io.length]? = some (some x) := by simp
  have rep2 : Rep K B (io ++ [some x]) (R ++ [.ins cN []]) (upd (upd H1 dx (.own x)) x (.ins (He.ga K (clN cN)) dx [])) := rep1.push hx1 ⟨x, dx, [], at_, upd_same, .nil⟩
  have st := st1.trans st2
  have hl := rep.len
  have rr : RD K (bars B (io ++ [some x])) (io ++ [some x]) (upd (upd H1 dx (.own x)) x (.ins (He.ga K (clN cN)) dx [])) (.ref R.length) (.ref x) := .ref (by rw [← hl]; simp) fun q hq => by
    rw [← hl, at_] at hq
    cases hq
    rfl
  refine ⟨B, io ++ [some x], R ++ [.ins cN []], .ref R.length :: (ds ++ dfl), rep2, .cons rr (RDs.append (rd.car (st.car rep)) (hdv _ _ _)), ?_, ?_⟩
  · exact Classical.byContradiction fun z => by
      rw [hn _ _ z] at t
      exact t
  · unfold PstF
    revert t
    cases F (.ref R.length :: (ds ++ dfl)) (R ++ [.ins cN []]) with
    | ok d R' =>
      intro t io' H' v st' rep' rd'
      have t : Pst K B io H1 W σ (RD K) (nonOr d (.ok (.ref R.length) R')) Q := t
      cases rd' with
      | non =>
        refine ⟨rfl, t io' H' (.ref x) (st.trans st') rep' (.ref ?_ fun q hq => ?_)⟩
        · have := st'.le
          rw [List.length_append] at this
          simp at this
          omega
        · rcases st'.ix R.length (by rw [List.length_append, hl]; simp) with z | z
          · rw [← hl, at_] at z
            rw [← hl, z] at hq
            cases hq
            rfl
          · rw [z] at hq
            cases hq
      | _ => exact t.elim
    | exc c y R' => exact fun t io' H' cls d st' rep' q => t io' H' cls d (st.trans st') rep' q
    | err => exact fun t => t
end
end Om
/-! Om, part Rn: != of instances with an own ==. -/
namespace Om
open PySem PySem.Spec PyProof.Rows L2 RZ PySem.W
theorem ne_slot : Slot "object" "__ne__" "object.__ne__" := Slot.of (T := "object") (name := "__ne__") (owner := "object") (n := "__ne__") (by rw [typeLookup_type, builtinLookup_eq_fast]; kernel_rfl) (by decide +kernel) (by decide +kernel) (by decide +kernel)
    (.inl (by decide +kernel)) (by rw [isSubtype_type]; kernel_rfl)
section
variable {K : Frag} {prog : Program} {w : World} {A : Around} {E : Value → Shared → Prop} {s : Shared} {x C : Addr} {ox : Obj} {od : Option Obj} {name : Str} {id : String} {f : Addr} {b tb : Value} {h₀ : Heap} {L : Addr} {m : Str → Option Value}
theorem ifBoundB {M : Model} {args : List Value} {Q : Option Value → Shared → Prop} (X : K.In s.heap) (I : PySem.W.InstAt s.heap x ox C od) (hs : findIn K (.ref C) name = some (some (.builtin id))) (hb : bindSpecial (.builtin id) (.ref x) = pure (.builtin id, [.ref x]))
    (h : wpAny M A (call (.builtin id) (.ref x :: args)) (fun v => Q (some v)) E s) : wpAny M A (callSpecialIfBound? (.ref x) name args) Q E s := by
  simp only [callSpecialIfBound?, bindSpecialIfBound?]
  refine wpAny_holding (wpAny_bind (wpAny_bind (wpAny_bind (I.type.here ((looks_findIn X hs).here ?_)))))
  refine wpAny_bind (wpAny_askSetting (wpAny_ite ?_))
  have fin : wpAny M A (call (.builtin id) ([.ref x] ++ args) >>= fun v => pure (some v)) Q E s := wpAny_bind (wpAny_mono h (fun v s' h' => wpAny_pure h') fun _ _ h' => h')
  rw [hb]
  split
  · exact wpAny_bind (wpAny_pure (wpAny_pure (by exact fin)))
  · exact wpAny_tryCatch (wpAny_bind (wpAny_pure (wpAny_pure (by exact fin))))
theorem ne_entry {Q : Fin → Shared → Prop} (X : K.In s.heap) (I : PySem.W.InstAt s.heap x ox C od) (hs : findIn K (.ref C) "__eq__" = some (some (.ref f))) (hf : isFn K (.ref f) = true) (hu : A.units < cLine)
    (hcall : wpAny (model prog w) A (call (.ref f) [.ref x, b]) (fun v s' => ∃ k, v = .bool k ∧ Q (.done (.ret (.bool (!k)))) s') E s) :
    wpAny (model prog w) A (Builtin.«object.__ne__» ⟨[.ref x, b], []⟩) Q E s := by
  unfold Builtin.«object.__ne__»
  repeat (first
    | with_reducible refine wpAny_cRoomFor hu ?_
    | (refine wpAny_bind (m := callSpecialIfBound? (.ref x) (Str.ofString "__eq__") [b])
        (ifBound_K X I hs hf (wpAny_mono hcall (fun v s' hr => by
          obtain ⟨b, rfl, hq⟩ := hr
          repeat (first | exact hq | exact wpAny_pure hq | exact wpAny_truthy_bool hq | (refine wpAny_bind (m := truthy (.bool _)) (wpAny_truthy_bool ?_)) | wp_step)) fun _ _ e => e)))
    | wp_step)
theorem ne_K {Q : Value → Shared → Prop} (hu : A.units + 1 < cLine) (F : Fr h₀ L s.heap m) (X₀ : K.In h₀) (I : PySem.W.InstAt s.heap x ox C od) (hb : Looks (model prog w) s.heap (typeOf b) tb) (hn : notFirst K C tb = true)
    (hs1 : findIn K (.ref C) "__ne__" = some (some (.builtin "object.__ne__"))) (hob : subIn K (.ref C) (.type "object") = some true) (hs : findIn K (.ref C) "__eq__" = some (some (.ref f))) (hf : isFn K (.ref f) = true)
    (h : wpAny (model prog w) A.in1 (call (.ref f) [.ref x, b]) (fun v s' => ∃ k, v = .bool k ∧ Q (.bool (!k)) s') E s) : wpAny (model prog w) A (richCompare .NotEq (.ref x) b) Q E s := by
  have X := X₀.keeps F.keep
  have one : wpAny (model prog w) A (tryCompare (.ref x) "__ne__" b) (fun r s' => ∃ v, r = some v ∧ Q v s') E s := by
    unfold tryCompare
    refine wpAny_bind (ifBoundB X I hs1 (ne_slot.bind _) (wpAny_call (codeAny_call_builtin ne_slot.plain PySem.F.cmpEntry_ne (PySem.W.check_slot PySem.F.cmpKind_ne PySem.F.cmpSplit_ne ?_ (PySem.F.cmpArgs_ne _ _) (ne_entry (A := A.in1) X I hs hf hu (wpAny_mono h (fun v s' hv => ?_) fun _ _ e => e))))))
    · exact I.type.andThen (looks_subIn X hob)
    · obtain ⟨k, rfl, hq⟩ := hv
      exact ⟨k, rfl, wpAny_pure ⟨_, rfl, hq⟩⟩
  unfold richCompare
  simp only [oneThing_ref]
  refine wpAny_holding (wpAny_bind (wpAny_cRoomFor (Nat.lt_of_succ_lt hu) ?_))
  refine wpAny_bind (I.type.here (wpAny_bind (hb.here ?_)))
  split
  · rename_i q
    have e : subIn K tb (.ref C) = some false := by
      rcases Bool.or_eq_true_iff.mp hn with e | e
      · rw [beq_iff_eq.mp e] at q; simp at q
      · exact beq_iff_eq.mp e
    refine wpAny_bind ((looks_subIn X e).here ?_)
    simp only [Bool.false_eq_true, if_false]
    refine wpAny_bind (wpAny_mono one (fun r s' z => ?_) fun _ _ e => e)
    obtain ⟨v, rfl, hq⟩ := z
    exact wpAny_pure hq
  · refine wpAny_bind (wpAny_pure ?_)
    simp only [Bool.false_eq_true, if_false]
    refine wpAny_bind (wpAny_mono one (fun r s' z => ?_) fun _ _ e => e)
    obtain ⟨v, rfl, hq⟩ := z
    exact wpAny_pure hq
end
end Om
/-! Om, part Re: == and != by an own __eq__. -/
namespace Om
open PySem PySem.Spec PyProof.Rows L2 RZ
theorem cx_false {P : Program} {w : World} {st : List Env} {H : Hp} {s s' : Shared} {e : Value} (h : CX P w st H s (fun _ _ _ => False) e s') : False := by
  obtain ⟨_, _, _, _, _, _, _, _, _, _, _, _, z⟩ := h
  exact z
/-- instances of C, C' may be asked for == by the def at f -/
structure EqCls (K : PySem.W.Frag) (C C' f : Addr) : Prop where
  eq : PySem.W.findIn K (.ref C) "__eq__" = some (some (.ref f))
  fn : PySem.W.isFn K (.ref f) = true
  nf : PySem.W.notFirst K C (.ref C') = true
  ne : PySem.W.findIn K (.ref C) "__ne__" = some (some (.builtin "object.__ne__"))
  ob : PySem.W.subIn K (.ref C) (.type "object") = some true
def rOwn (K : PySem.W.Frag) (C C' : Addr) (sp : Sp) (neg : Bool) : R2 := fun x y H Q => ∃ a b dx dy fs gs, x = .ref a ∧ y = .ref b ∧ H a = some (.ins C dx fs) ∧ H b = some (.ins C' dy gs) ∧
  sp [.ref a, .ref b] H (fun v H' => ∃ k, v = .bl k ∧ Q (.bl (k != neg)) H') fun _ _ _ => False
section
variable {X : Cx} {n : Nat} {f C C' : Addr} {fd : FuncData} {ps : List Str} {sp : Sp}
theorem op_own (neg : Bool) (F : FnOk X.prog X.w X.K X.mg X.base (CX X.prog X.w) n f fd ps sp) (q : EqCls X.K C C' f) (hb : Binds X.K fd ps []) (hr : Room (n + 1) X.A) (hu : X.A.units + 1 < cLine) :
    OpR X (compareOp (if neg = true then .NotEq else .Eq)) (rOwn X.K C C' sp neg) := by
  intro pins s σ H x y u v Q I rx ry h
  obtain ⟨a, b, dx, dy, fs, gs, rfl, rfl, ha, hb', hsp⟩ := h
  cases rx
  cases ry
  obtain ⟨mA, J, _⟩ := ins_get I.hok ha
  obtain ⟨mB, J', _⟩ := ins_get I.hok hb'
  obtain ⟨od, J, _⟩ := J.look
  obtain ⟨od', J', _⟩ := J'.look
  obtain ⟨m, hF⟩ := I.fr
  have hl := F.len _ _ _ _ hsp
  have r2 : Vals [V.ref a, V.ref b] [Value.ref a, Value.ref b] := .cons rfl (.cons rfl .nil)
  have run : ∀ (A : Around), Room n A → A.frames = X.A.frames → wpAny (model X.prog X.w) A (call (.ref f) [.ref a, .ref b]) (fun v s' => ∃ k, v = .bool k ∧ EP X pins σ Q (.bool (k != neg)) s') X.xe s := by
    intro A hrA fr
    have e0 : Env0 X.prog X.w X.K X.mg X.base A X.stack s H := by
      have e := I.env0
      exact ⟨by rw [fr]; exact e.frames, e.mod, e.bs, e.bsz, e.funs, e.frf, e.hok, e.bare⟩
    refine wpAny_call (codeAny_mono (F.run A X.stack s H ⟨[.ref a, .ref b], []⟩ [.ref a, .ref b] [.ref a, .ref b] _ _ hrA e0 (by
      have := hb s [.ref a, .ref b] I.kIn (by simpa using hl)
      simpa using this) r2 hsp) fun r s' hq => ?_)
    cases r with
    | error e => exact (cx_false hq).elim
    | ok fl =>
      cases fl with
      | ret w =>
        obtain ⟨z, H', I', rz, k, ez, ex⟩ := I.after hq
        subst ez
        cases rz
        exact ⟨k, rfl, .bl (k != neg), H', I', rfl, ex⟩
      | next => exact False.elim hq
      | brk => exact False.elim hq
      | cont => exact False.elim hq
  cases neg with
  | false =>
    show wpAny (model X.prog X.w) X.A (richCompare .Eq (.ref a) (.ref b)) (EP X pins σ Q) X.xe s
    refine PySem.W.cmp_K (op := .Eq) (tb := .ref C') (Nat.lt_of_succ_lt hu) hF I.ok.mod.kin J J'.type q.nf q.eq q.fn (wpAny_mono (run X.A (hr.mono (Nat.le_succ n)) rfl) (fun v s' hv => ?_) fun _ _ e => e)
    obtain ⟨k, rfl, h⟩ := hv
    rw [show (k != false) = k from by cases k <;> rfl] at h
    exact h
  | true =>
    show wpAny (model X.prog X.w) X.A (richCompare .NotEq (.ref a) (.ref b)) (EP X pins σ Q) X.xe s
    refine ne_K (tb := .ref C') hu hF I.ok.mod.kin J J'.type q.nf q.ne q.ob q.eq q.fn (wpAny_mono (run X.A.in1 hr.in1 rfl) (fun v s' hv => ?_) fun _ _ e => e)
    obtain ⟨k, rfl, h⟩ := hv
    rw [show (k != true) = !k from by cases k <;> rfl] at h
    exact ⟨k, rfl, h⟩
/-! ### by what they compute -/
/-- x == y, x != y: eqs tells which classes' instances are compared by which def -/
abbrev EqT := Nat → Nat → Option SF
def eqX (neg : Bool) (eqs : EqT) : P2 := fun x y R => match insOf R x, insOf R y with
  | some (c, _), some (c', _) => (match eqs c c' with
    | some F => (match F [x, y] R with
      | .ok (.bl k) R3 => some (.bl (k != neg), R3)
      | _ => none)
    | none => none)
  | none, none => eqD' neg x y R
  | _, _ => none
structure EqOk (X : Cx) (eqs : EqT) : Prop where
  ok : ∀ c c' F, eqs c c' = some F → ∃ n f fd ps, FnOk X.prog X.w X.K X.mg X.base (CX X.prog X.w) n f fd ps (spF X.K 2 F) ∧ EqCls X.K (He.ga X.K (clN c)) (He.ga X.K (clN c')) f ∧ Binds X.K fd ps [] ∧ Room (n + 1) X.A
theorem ok_eqX (hu : X.A.units + 64 < cLine) {eqs : EqT} (he : EqOk X eqs) (neg : Bool) : OpR X (compareOp (if neg = true then .NotEq else .Eq)) (fun x y H Q => rN X.K (pn2 (eqX neg eqs)) [x, y] H Q) := by
  intro pins s σ H x y u v Q I rx ry h
  obtain ⟨B, io, R, dx, dy, d, R', rep, r1, r2, e, q⟩ := rN2 h
  unfold eqX at e
  cases e1 : insOf R dx with
  | none =>
    cases e2 : insOf R dy with
    | none =>
      rw [e1, e2] at e
      have e : eqD' neg dx dy R = some (d, R') := e
      refine ok_eq hu neg pins s σ H x y u v Q I rx ry ⟨B, io, R, [dx, dy], rep, .cons r1 (.cons r2 .nil), ?_⟩
      show match eqD' neg dx dy R with
        | some (d, R') => ∀ io' H' v, Step io H io' H' → Rep X.K B io' R' H' → RD X.K (bars B io') io' H' d v → Q v H'
        | none => False
      rw [e]
      exact q
    | some z => rw [e1, e2] at e; cases e
  | some z =>
    obtain ⟨c, fs⟩ := z
    cases e2 : insOf R dy with
    | none => rw [e1, e2] at e; cases e
    | some z =>
      obtain ⟨c', gs⟩ := z
      rw [e1, e2] at e
      have e : (match eqs c c' with
        | some F => (match F [dx, dy] R with
          | .ok (.bl k) R3 => some (D.bl (k != neg), R3)
          | _ => none)
        | none => none) = some (d, R') := e
      cases e3 : eqs c c' with
      | none => rw [e3] at e; cases e
      | some F =>
        rw [e3] at e
        have e : (match F [dx, dy] R with
          | .ok (.bl k) R3 => some (D.bl (k != neg), R3)
          | _ => none) = some (d, R') := e
        obtain ⟨n, f, fd, ps, hF, qc, hb, hr⟩ := he.ok c c' F e3
        obtain ⟨a, dx', fvs, rfl, ha, _⟩ := RD.inst rep r1 e1
        obtain ⟨b, dy', gvs, rfl, hb', _⟩ := RD.inst rep r2 e2
        refine op_own neg hF qc hb hr (by omega) pins s σ H _ _ u v Q I rx ry ⟨a, b, dx', dy', fvs, gvs, rfl, rfl, ha, hb', B, io, R, [dx, dy], rep, .cons r1 (.cons r2 .nil), rfl, ?_⟩
        unfold PstF
        revert e
        cases F [dx, dy] R with
        | ok z R3 =>
          intro e io' H' w st rep' rz
          cases z with
          | bl k =>
            cases e
            cases rz
            exact ⟨k, rfl, q io' H' _ st rep' (.bl _)⟩
          | _ => cases e
        | exc _ _ _ => exact fun e => by cases e
        | err => exact fun e => by cases e
end
end Om
/-! Om, part Rf: what the head tells of classes. -/
namespace Om
open PySem PySem.Spec PyProof.Rows L2 RZ
section
variable {X : Cx} {W : WX} {a b c e : Expr} {pos : Pos} {ma mb : SE}
theorem se_cmpO {op : CmpOp} {p : P2} (ho : OpR X (compareOp op) (fun x y H Q => rN X.K (pn2 p) [x, y] H Q)) (h1 : PE X a (tE X.K W ma)) (h2 : PE X b (tE X.K W mb)) (hm : behindInMarks op b = false) : PE X (.Compare a [op] [b] pos) (tE X.K W (cOp2 p ma mb)) :=
  se_op2 (fun _ _ _ x y z => pe_cmpR z x y hm) ho h1 h2
theorem sb_cmpO {op : CmpOp} {p : P2} (ho : OpR X (compareOp op) (fun x y H Q => rN X.K (pn2 p) [x, y] H Q)) (h1 : PE X a (tE X.K W ma)) (h2 : PE X b (tE X.K W mb)) (hm : behindInMarks op b = false) : PT X (.Compare a [op] [b] pos) (tB X.K W (bOf (cOp2 p ma mb))) := by
  refine (pt_cmpR ho h1 h2 hm).imp fun σ H Q h => ?_
  have h1 := tst_of h
  have z := Told.eval (K := X.K) (W := W) (σ := σ) (H := H) (rel := RD X.K) (vs := []) (m := ma) (F := fun ds s R => (mb s R).bind fun y R2 => lift (pn2 p (ds ++ [y]) R2)) (Told.conv h1 fun _ _ => rfl)
  exact z.imp fun v H1 t => (Told.eval (vs := [v]) (m := mb) (F := fun ds s R => lift (pn2 p ds R)) t).imp fun w H2 t => Told.op t
end
/-! ### rows of facts -/
structure CRow where
  c : Nat
  ats : List Nat
  ms : List Str
  /-- made by an own __init__ -/
  ini : Bool
  /-- compared by an own __eq__ -/
  eq : Bool
def dB (p : Prop) [Decidable p] : Bool := decide p
def cA (K : PySem.W.Frag) (c : Nat) : Addr := He.ga K (clN c)
def mA (K : PySem.W.Frag) (c : Nat) (m : Str) : Addr := He.ma K (cA K c) m
structure ClsX (K : PySem.W.Frag) (C : Addr) : Prop where
  cls : Cls K C
  ha : PySem.W.findIn K (.ref C) "__class__" = some (some (.builtin "object.__class__"))
  hn : PySem.W.specialIn K (.builtin "object.__class__") "__get__" = some (some (.builtin "getset_descriptor.__get__"))
  ht : PySem.W.takesIn K (.builtin "object.__class__") = some true
  hm : PySem.W.mroIn K C (.type "object") = some true
def clsXB (K : PySem.W.Frag) (C : Addr) : Bool := PySem.W.plainGet K C Str.empty && (PySem.W.hasDictIn K C && (PySem.W.plainOver K C && (decide (PySem.W.findIn K (.ref C) "__setattr__" = some (some (.builtin "object.__setattr__"))) &&
  (decide (PySem.W.findIn K (.ref C) "__class__" = some (some (.builtin "object.__class__"))) && (decide (PySem.W.specialIn K (.builtin "object.__class__") "__get__" = some (some (.builtin "getset_descriptor.__get__"))) &&
  (decide (PySem.W.takesIn K (.builtin "object.__class__") = some true) && decide (PySem.W.mroIn K C (.type "object") = some true)))))))
theorem clsXB_ok {K : PySem.W.Frag} {C : Addr} (h : clsXB K C = true) : ClsX K C := by
  unfold clsXB at h
  obtain ⟨h1, h⟩ := He.ba h
  obtain ⟨h2, h⟩ := He.ba h
  obtain ⟨h3, h⟩ := He.ba h
  obtain ⟨h4, h⟩ := He.ba h
  obtain ⟨h5, h⟩ := He.ba h
  obtain ⟨h6, h⟩ := He.ba h
  obtain ⟨h7, h8⟩ := He.ba h
  exact ⟨⟨h1, h2, h3, of_decide_eq_true h4⟩, of_decide_eq_true h5, of_decide_eq_true h6, of_decide_eq_true h7, of_decide_eq_true h8⟩
def methB (K : PySem.W.Frag) (C : Addr) (m : Str) : Bool := decide (PySem.W.findIn K (.ref C) m = some (some (.ref (He.ma K C m)))) && (PySem.W.isFn K (.ref (He.ma K C m)) && PySem.W.keepIn K (.ref (He.ma K C m)))
theorem methB_ok {K : PySem.W.Frag} {C : Addr} {m : Str} (h : methB K C m = true) : Meth K C m (He.ma K C m) := by
  obtain ⟨h1, h⟩ := He.ba h
  obtain ⟨h2, h3⟩ := He.ba h
  exact ⟨of_decide_eq_true h1, h2, h3⟩
def mkB (K : PySem.W.Frag) (C : Addr) : Bool := PySem.W.makesIn K C && (decide (PySem.W.findIn K (.ref C) "__init__" = some (some (.ref (He.ma K C "__init__")))) && (PySem.W.isFn K (.ref (He.ma K C "__init__")) && PySem.W.keepIn K (.ref C)))
theorem mkB_ok {K : PySem.W.Frag} {C : Addr} (h : mkB K C = true) : Mk K C (He.ma K C "__init__") := by
  obtain ⟨h1, h⟩ := He.ba h
  obtain ⟨h2, h⟩ := He.ba h
  obtain ⟨h3, h4⟩ := He.ba h
  exact ⟨h1, of_decide_eq_true h2, h3, h4⟩
def eqB (K : PySem.W.Frag) (C C' : Addr) : Bool := decide (PySem.W.findIn K (.ref C) "__eq__" = some (some (.ref (He.ma K C "__eq__")))) && (PySem.W.isFn K (.ref (He.ma K C "__eq__")) && (PySem.W.notFirst K C (.ref C') &&
  (decide (PySem.W.findIn K (.ref C) "__ne__" = some (some (.builtin "object.__ne__"))) && decide (PySem.W.subIn K (.ref C) (.type "object") = some true))))
theorem eqB_ok {K : PySem.W.Frag} {C C' : Addr} (h : eqB K C C' = true) : EqCls K C C' (He.ma K C "__eq__") := by
  obtain ⟨h1, h⟩ := He.ba h
  obtain ⟨h2, h⟩ := He.ba h
  obtain ⟨h3, h⟩ := He.ba h
  obtain ⟨h4, h5⟩ := He.ba h
  exact ⟨of_decide_eq_true h1, h2, h3, of_decide_eq_true h4, of_decide_eq_true h5⟩
/-- which answers isinstance gives: own classes' instances, built-in classes' values, against own classes -/
structure Kit where
  own : List (Nat × Nat × Bool)
  blt : List (String × Nat × Bool)
def CRow.ok (K : PySem.W.Frag) (r : CRow) : Bool := clsXB K (cA K r.c) && ((r.ats.all fun n => decide (PySem.W.findIn K (.ref (cA K r.c)) (atN n) = some none) && decide (n < atTab.length)) && ((r.ms.all fun m => methB K (cA K r.c) m) && (!r.ini || mkB K (cA K r.c))))
def factsB (K : PySem.W.Frag) (cr : List CRow) (eqs : List (Nat × Nat)) (kit : Kit) : Bool :=
  (cr.all fun r => r.ok K) && ((eqs.all fun p => eqB K (cA K p.1) (cA K p.2)) && ((kit.own.all fun p => decide (PySem.W.kitOne K (.ref (cA K p.1)) (.ref (cA K p.2.1)) = some p.2.2)) && (kit.blt.all fun p => decide (PySem.W.kitOne K (.type p.1) (.ref (cA K p.2.1)) = some p.2.2))))
section
variable {K : PySem.W.Frag} {cr : List CRow} {eqs : List (Nat × Nat)} {kit : Kit}
structure Facts (K : PySem.W.Frag) (cr : List CRow) (eqs : List (Nat × Nat)) (kit : Kit) : Prop where
  cls : ∀ r, r ∈ cr → ClsX K (cA K r.c)
  at_ : ∀ r, r ∈ cr → ∀ n, n ∈ r.ats → CaOk K r.c n
  me : ∀ r, r ∈ cr → ∀ m, m ∈ r.ms → Meth K (cA K r.c) m (mA K r.c m)
  make : ∀ r, r ∈ cr → r.ini = true → Mk K (cA K r.c) (mA K r.c "__init__")
  eq : ∀ p, p ∈ eqs → EqCls K (cA K p.1) (cA K p.2) (mA K p.1 "__eq__")
  ko : ∀ p, p ∈ kit.own → PySem.W.kitOne K (.ref (cA K p.1)) (.ref (cA K p.2.1)) = some p.2.2
  kb : ∀ p, p ∈ kit.blt → PySem.W.kitOne K (.type p.1) (.ref (cA K p.2.1)) = some p.2.2
theorem facts_ok (h : factsB K cr eqs kit = true) : Facts K cr eqs kit := by
  obtain ⟨h1, h⟩ := He.ba h
  obtain ⟨h2, h⟩ := He.ba h
  obtain ⟨h3, h4⟩ := He.ba h
  have row : ∀ r, r ∈ cr → r.ok K = true := fun r hr => List.all_eq_true.mp h1 r hr
  refine ⟨fun r hr => ?_, fun r hr n hn => ?_, fun r hr m hm => ?_, fun r hr hk => ?_, fun p hp => ?_, fun p hp => ?_, fun p hp => ?_⟩
  · exact clsXB_ok (He.ba (row r hr)).1
  · obtain ⟨k1, k⟩ := He.ba (row r hr)
    obtain ⟨k2, k⟩ := He.ba k
    obtain ⟨k3, k4⟩ := He.ba (List.all_eq_true.mp k2 n hn)
    have k5 : PySem.W.findIn K (.ref (cA K r.c)) (atN n) = some none := of_decide_eq_true k3
    exact ⟨(clsXB_ok k1).cls, k5, of_decide_eq_true k4⟩
  · obtain ⟨k1, k⟩ := He.ba (row r hr)
    obtain ⟨k2, k⟩ := He.ba k
    obtain ⟨k3, k4⟩ := He.ba k
    exact methB_ok (List.all_eq_true.mp k3 m hm)
  · obtain ⟨k1, k⟩ := He.ba (row r hr)
    obtain ⟨k2, k⟩ := He.ba k
    obtain ⟨k3, k4⟩ := He.ba k
    rw [hk] at k4
    exact mkB_ok k4
  · exact eqB_ok (List.all_eq_true.mp h2 p hp)
  · exact of_decide_eq_true (List.all_eq_true.mp h3 p hp)
  · exact of_decide_eq_true (List.all_eq_true.mp h4 p hp)
end
/-! ### isinstance against own classes -/
def clCps (j : Nat) : List Nat := (clN j).cps.toList
def clsIx (g : List Nat) : Option Nat := (List.range clTab.length).find? fun j => decide (clCps j = g)
theorem clsIx_ok {g : List Nat} {j : Nat} (h : clsIx g = some j) : strOf g = clN j := by
  have := List.find?_some h
  have e : clCps j = g := of_decide_eq_true this
  subst e
  unfold strOf clCps
  rw [Array.toArray_toList]
def kitO (kit : Kit) (c j : Nat) : Option Bool := (kit.own.find? fun p => decide (p.1 = c ∧ p.2.1 = j)).map fun p => p.2.2
def kitT (kit : Kit) (t : String) (j : Nat) : Option Bool := (kit.blt.find? fun p => decide (p.1 = t ∧ p.2.1 = j)).map fun p => p.2.2
def isiX (cls : List Nat) (kit : Kit) : PN := pn2 fun x y R => match y with
  | .glo g => (match clsIx g with
    | some j => (match insOf R x with
      | some (c, _) => if c ∈ cls then (kitO kit c j).map fun k => (D.bl k, R) else none
      | none => (match tyD R x with
        | some t => (kitT kit t j).map fun k => (D.bl k, R)
        | none => none))
    | none => none)
  | y => isiD [x, y] R
theorem ok_isiX {X : Cx} {cr : List CRow} {eqs : List (Nat × Nat)} {kit : Kit} (F : Facts X.K cr eqs kit) : CallR X (.builtin "isinstance") (rN X.K (isiX (cr.map (·.c)) kit)) := by
  intro pins s σ H xs us Q I r h
  obtain ⟨x, y, rfl⟩ := rN_2 h
  obtain ⟨B, io, R, dx, dy, d, R', rep, rx, ry, e, q⟩ := rN2 h
  split at e
  · rename_i g
    cases ej : clsIx g with
    | none => rw [ej] at e; cases e
    | some j =>
      rw [ej] at e
      have e : (match insOf R dx with
        | some (c, _) => if c ∈ cr.map (·.c) then (kitO kit c j).map fun k => (D.bl k, R) else none
        | none => (match tyD R dx with
          | some t => (kitT kit t j).map fun k => (D.bl k, R)
          | none => none)) = some (d, R') := e
      cases ry
      rw [clsIx_ok ej] at r
      cases ei : insOf R dx with
      | some z =>
        obtain ⟨c, fs⟩ := z
        rw [ei] at e
        have e : (if c ∈ cr.map (·.c) then (kitO kit c j).map fun k => (D.bl k, R) else none) = some (d, R') := e
        split at e
        · rename_i hc
          obtain ⟨k, ek, e2⟩ := Option.map_eq_some_iff.mp e
          cases e2
          obtain ⟨row, hr, hrc⟩ := List.mem_map.mp hc
          subst hrc
          obtain ⟨p, ep, e3⟩ := Option.map_eq_some_iff.mp ek
          have hp0 := List.find?_some ep
          have hp : p.1 = row.c ∧ p.2.1 = j := by simpa using hp0
          have hk := F.ko p (List.mem_of_find?_eq_some ep)
          rw [hp.1, hp.2, e3] at hk
          obtain ⟨a, dx', fvs, rfl, ha, _⟩ := RD.inst rep rx ei
          have cx := F.cls row hr
          exact call_isi pins s σ H _ us Q I r ⟨.ref a, _, _, _, k, rfl, .own _, .base (.ins ha cx.cls cx.ha cx.hn cx.ht cx.hm), hk, q io H _ (Step.refl _ _) rep (.bl _)⟩
        · cases e
      | none =>
        rw [ei] at e
        have e : (match tyD R dx with
          | some t => (kitT kit t j).map fun k => (D.bl k, R)
          | none => none) = some (d, R') := e
        cases et : tyD R dx with
        | none => rw [et] at e; cases e
        | some t =>
          rw [et] at e
          obtain ⟨k, ek, e2⟩ := Option.map_eq_some_iff.mp e
          cases e2
          obtain ⟨p, ep, e3⟩ := Option.map_eq_some_iff.mp ek
          have hp0 := List.find?_some ep
          have hp : p.1 = t ∧ p.2.1 = j := by simpa using hp0
          have hk := F.kb p (List.mem_of_find?_eq_some ep)
          rw [hp.1, hp.2, e3] at hk
          exact call_isi pins s σ H _ us Q I r ⟨x, _, _, _, k, rfl, .own _, tyD_ty I rep rx et, hk, q io H _ (Step.refl _ _) rep (.bl _)⟩
  · refine ok_isi pins s σ H _ us Q I r ⟨B, io, R, [dx, dy], rep, .cons rx (.cons ry .nil), ?_⟩
    rw [e]
    exact q
/-! ### the Hook -/
def obsO (φ : PySem.W.Frag → Bool) (fa : List He.Fa) (fn : List He.DefD) (K : PySem.W.Frag) : He.AlD := (φ K && (He.obsD fa fn K).1, (He.obsD fa fn K).2)
def SaysO (φ : PySem.W.Frag → Bool) (fa : List He.Fa) (fn : List He.DefD) (K : PySem.W.Frag) : Prop := obsO φ fa fn K = He.valD fn
def obsOG (n : Nat) (φ : PySem.W.Frag → Bool) (fa : List He.Fa) (fn : List He.DefD) (g : Addr → Option Obj) : He.AlD := obsO φ fa fn (He.frG g (He.asD g n))
def hookO (n : Nat) (φ : PySem.W.Frag → Bool) (fa : List He.Fa) (fn : List He.DefD) : PySem.W.Hook where
  α := He.AlD
  obs := fun s => obsOG n φ fa fn s.heap.get?
  val := fun _ => He.valD fn
  says := fun _ h => ∃ K : PySem.W.Frag, K.In h ∧ SaysO φ fa fn K
  of := fun _ _ e => ⟨_, He.frG_in, e⟩
  keeps := fun _ _ _ ⟨K, hK, c⟩ k => ⟨K, PySem.W.Frag.In.keeps hK k, c⟩
theorem obsOG_eq {n : Nat} {φ : PySem.W.Frag → Bool} {fa : List He.Fa} {fn : List He.DefD} {g : Addr → Option Obj} {s : Shared} (h : ∀ a, g a = s.heap.get? a) : obsOG n φ fa fn g = (hookO n φ fa fn).obs s := by
  have e : g = s.heap.get? := funext h
  rw [e] <;> rfl
theorem SaysO.says {φ : PySem.W.Frag → Bool} {fa : List He.Fa} {fn : List He.DefD} {K : PySem.W.Frag} (c : SaysO φ fa fn K) : φ K = true ∧ He.SaysD fa fn K := by
  have c' : obsO φ fa fn K = He.valD fn := c
  have h1 : (φ K && (He.obsD fa fn K).1) = true := congrArg (fun z : He.AlD => z.1) c'
  have h2 : (obsO φ fa fn K).2 = (He.valD fn).2 := by rw [c']
  obtain ⟨k1, k2⟩ := He.ba h1
  exact ⟨k1, Prod.ext k2 h2⟩
end Om
/-! Om, part N: the evaluator. -/
namespace Om
open PySem PySem.Spec PyProof.Rows L2 RZ
/-! ### by truth -/
def cAndT (a b : SE) : SE := fun s R => (a s R).bind fun x R1 => match truD R1 x with
  | some true => b s R1
  | some false => .ok x R1
  | none => .err
def cOrT (a b : SE) : SE := fun s R => (a s R).bind fun x R1 => match truD R1 x with
  | some true => .ok x R1
  | some false => b s R1
  | none => .err
def cNotT (a : SE) : SE := fun s R => (a s R).bind fun x R1 => match truD R1 x with
  | some k => .ok (.bl (!k)) R1
  | none => .err
def cDNew (m : Bool) : SE := fun _ R => lift (mkK m [] R)
section
variable {X : Cx} {W : WX} {a b c e : Expr} {es : List Expr} {ma mb mc : SE} {mas : SA} {pos : Pos}
theorem tru_core {K : PySem.W.Frag} {σ : S} {H : Hp} {f : D → Bool → SE} {Q : VK} (h : tE K W (fun s R => (ma s R).bind fun x R1 => match truD R1 x with
    | some k => f x k s R1
    | none => .err) σ H Q) : tE K W ma σ H fun v H1 => ∃ k, TruV K v H1 k ∧ ∃ B io R s d, Rep K B io R H1 ∧ RS K (bars B io) io H1 s σ ∧ RD K (bars B io) io H1 d v ∧ Pst K B io H1 W σ (RD K) (f d k s R) Q := by
  have h0 := Told.eval (vs := []) (m := ma) (F := fun ds s R => match ds with
    | [x] => (match truD R x with
      | some k => f x k s R
      | none => .err)
    | _ => .err) (rel := RD K) (Q := Q) (Told.conv h fun _ _ => rfl)
  refine h0.imp fun v H1 ⟨B, io, R, s, ds, rep, rs, rd, t⟩ => ?_
  obtain ⟨d, ds, rfl, r, rd⟩ := RDs.cons_inv rd
  cases rd.nil_inv
  have t : Pst K B io H1 W σ (RD K) (match truD R d with
      | some k => f d k s R
      | none => .err) Q := t
  cases e : truD R d with
  | none => rw [e] at t; exact t.elim
  | some k =>
    rw [e] at t
    exact ⟨k, tru_rd rep r e, B, io, R, s, d, rep, rs, r, t⟩
theorem se_andT {r : List Expr} (h1 : PE X a (tE X.K W ma)) (h2 : PE X (.BoolOp .And (b :: r) pos) (tE X.K W mb)) : PE X (.BoolOp .And (a :: b :: r) pos) (tE X.K W (cAndT ma mb)) := (pe_andT h1 h2).imp fun σ H Q h => by
  refine (tru_core (ma := ma) (f := fun x k s R => if k = true then mb s R else .ok x R) (Told.conv h fun s R => ?_)).imp fun v H1 ⟨k, tv, B, io, R, s, d, rep, rs, r, t⟩ => ⟨k, tv, ?_⟩
  · show (ma s R).bind _ = (ma s R).bind _
    congr 1
    funext d R1
    cases truD R1 d with
    | none => rfl
    | some k => cases k <;> rfl
  · cases k with
    | true =>
      rw [if_pos rfl] at t ⊢
      exact ⟨B, io, R, s, [], rep, rs, .nil, t⟩
    | false =>
      rw [if_neg (by decide)] at t ⊢
      exact t io H1 v (Step.refl _ _) rep r
theorem se_orT {r : List Expr} (h1 : PE X a (tE X.K W ma)) (h2 : PE X (.BoolOp .Or (b :: r) pos) (tE X.K W mb)) : PE X (.BoolOp .Or (a :: b :: r) pos) (tE X.K W (cOrT ma mb)) := (pe_orT h1 h2).imp fun σ H Q h => by
  refine (tru_core (ma := ma) (f := fun x k s R => if k = true then .ok x R else mb s R) (Told.conv h fun s R => ?_)).imp fun v H1 ⟨k, tv, B, io, R, s, d, rep, rs, r, t⟩ => ⟨k, tv, ?_⟩
  · show (ma s R).bind _ = (ma s R).bind _
    congr 1
    funext d R1
    cases truD R1 d with
    | none => rfl
    | some k => cases k <;> rfl
  · cases k with
    | true =>
      rw [if_pos rfl] at t ⊢
      exact t io H1 v (Step.refl _ _) rep r
    | false =>
      rw [if_neg (by decide)] at t ⊢
      exact ⟨B, io, R, s, [], rep, rs, .nil, t⟩
theorem se_notT (h1 : PE X a (tE X.K W ma)) : PE X (.UnaryOp .Not a pos) (tE X.K W (cNotT ma)) := (pe_notT h1).imp fun σ H Q h => by
  refine (tru_core (ma := ma) (f := fun x k s R => .ok (.bl (!k)) R) (Told.conv h fun s R => rfl)).imp fun v H1 ⟨k, tv, B, io, R, s, d, rep, rs, r, t⟩ => ⟨k, tv, ?_⟩
  exact t io H1 _ (Step.refl _ _) rep (.bl _)
theorem se_one {op : BoolOp} {t : TE} (h : PE X a t) : PE X (.BoolOp op [a] pos) t := ⟨fun pins s σ H Q I q => h.run pins s σ H Q I q⟩
theorem se_dnew {m : Bool} : PE X (.Dict [] [] pos) (tE X.K W (cDNew m)) := pe_dnewK.imp fun σ H Q ⟨B, io, R, s, ds, rep, rs, rd, t⟩ p hp => by
  have t : Pst X.K B io H W σ (RD X.K) (lift (mkK m [] R)) Q := t
  cases e : mkK m [] R with
  | none => rw [e] at t; exact t.elim
  | some z =>
    obtain ⟨d, R'⟩ := z
    rw [e] at t
    obtain ⟨io', st, rep', r'⟩ := mkK_ok rep hp .nil e
    exact t io' _ _ st rep' r'
end
/-! ### the static context -/
inductive Gi where
  | con (d : D) | fn (n : Nat) (dfl : List D) | blt
  /-- an own class: n its __init__'s parameters but the first -/
  | cls (c n : Nat) (dfl : List D)
/-- the classes of a text -/
structure Sc where
  cr : List CRow
  eqs : List (Nat × Nat)
  kit : Kit
  /-- methods: name, class, parameters, defaults -/
  ms : List (Str × Nat × Nat × List D)
def Sc.none : Sc := ⟨[], [], ⟨[], []⟩, []⟩
def Sc.ca (z : Sc) : CaT := z.cr.map fun r => (r.c, r.ats)
def Sc.cls (z : Sc) : List Nat := z.cr.map (·.c)
def mkey (c : Nat) (m : Str) : Str := clN c ++ ("." : Str) ++ m
def eqF (call : Str → SF) (l : List (Nat × Nat)) : EqT := fun c c' => if (c, c') ∈ l then some (call (mkey c "__eq__")) else none
structure Cn where
  N : List Str
  sc : Scope
  glob : List (Str × Gi)
  st : Sc
  call : Str → SF
  mu : Pos → Bool
  /-- a def's own block -/
  top : Bool
def idxN : List Str → Str → Option Nat
  | [], _ => none
  | y :: r, x => if y = x then some 0 else (idxN r x).map (· + 1)
theorem idxN_ok : ∀ {N : List Str} {x : Str} {i : Nat}, idxN N x = some i → N[i]? = some x
  | [], _, _, h => by cases h
  | y :: r, x, i, h => by
    unfold idxN at h
    split at h
    · rename_i e
      cases h
      rw [e]
      rfl
    · obtain ⟨j, e1, e2⟩ := Option.map_eq_some_iff.mp h
      subst e2
      exact idxN_ok (N := r) e1
def Cn.kind (C : Cn) (x : Str) : Option NameKind := C.sc.names.lookup x
def okName (x : Str) : Bool := !(x == ("__debug__" : Str)) && !(x == ("__classdict__" : Str))
def Cn.var (C : Cn) (x : Str) : Option Nat := match C.kind x with
  | some .local => if okName x = true then idxN C.N x else none
  | some .cell => if okName x = true then idxN C.N x else none
  | some .free => if okName x = true then idxN C.N x else none
  | _ => none
def Cn.own (C : Cn) (x : Str) : Option Nat := match C.kind x with
  | some .local => idxN C.N x
  | some .cell => idxN C.N x
  | _ => none
def Cn.loc (C : Cn) (x : Str) : Option Nat := match C.kind x with
  | some .local => idxN C.N x
  | _ => none
def Cn.gl (C : Cn) (x : Str) : Option Gi := match C.kind x with
  | some .globalImplicit => C.glob.lookup x
  | _ => none
def GOk (X : Cx) (C : Cn) (x : Str) (g : Gi) : Prop := match g with
  | .con d => (x == ("__debug__" : Str)) = false ∧ ∃ u v, X.mg x = some u ∧ RelV v u ∧ ∀ bar io H, RD X.K bar io H d v
  | .blt => X.mg x = none
  | .cls c n dfl => (x == ("__debug__" : Str)) = false ∧ X.mg x = some (.ref (cA X.K c)) ∧ Mk X.K (cA X.K c) (mA X.K c "__init__") ∧ ∃ k, DfOk X.prog X.w X.K X.mg X.base (C.call (mkey c "__init__")) (n + 1) dfl k (mA X.K c "__init__") ∧ Room (k + 1) X.A
  | .fn n dfl => (x == ("__debug__" : Str)) = false ∧ ∃ k f fd ps, X.mg x = some (.ref f) ∧ PySem.W.keepIn X.K (.ref f) = true ∧ FnOk X.prog X.w X.K X.mg X.base (CX X.prog X.w) k f fd ps (spF X.K n (C.call x)) ∧ Room k X.A ∧
    (∀ ds R, ds.length ≠ n → C.call x ds R = .err) ∧ ∀ m, m ≤ n → n ≤ m + dfl.length → ∃ dvs ds, (∀ bar io H, RDs X.K bar io H (dfl.drop (m + dfl.length - n)) dvs) ∧ Vals dvs ds ∧ Binds X.K fd ps ds
def MsOk (X : Cx) (C : Cn) (m : Str) (c n : Nat) (dfl : List D) : Prop := Meth X.K (cA X.K c) m (mA X.K c m) ∧ Cls X.K (cA X.K c) ∧ ∃ k, DfOk X.prog X.w X.K X.mg X.base (C.call (mkey c m)) n dfl k (mA X.K c m) ∧ Room k X.A
structure XOk (C : Cn) (X : Cx) (W : WX) : Prop where
  N : X.N = C.N
  nd : C.N.Nodup
  kf : X.env.scope.kind = .function
  lo : ∀ x, C.kind x = some .local → X.env.scope.names.lookup x = some .local
  ce : ∀ x, C.kind x = some .cell → X.env.scope.names.lookup x = some .cell ∧ X.fn x = true
  fr : ∀ x, C.kind x = some .free → X.env.scope.names.lookup x = some .cell ∨ X.env.scope.names.lookup x = some .free
  gi : ∀ x, C.kind x = some .globalImplicit → X.env.scope.names.lookup x = some .globalImplicit
  top : C.top = true → ∀ x, X.env.kindOf x = C.kind x
  calm : X.calm = true
  hu : X.A.units + 65 < cLine
  tk : Takes X W
  po : PassesOwn (model X.prog X.w) X.A X.env X.xe
  gl : ∀ x g, C.glob.lookup x = some g → GOk X C x g
  fa : Facts X.K C.st.cr C.st.eqs C.st.kit
  ms : ∀ m c n dfl, (m, c, n, dfl) ∈ C.st.ms → MsOk X C m c n dfl
  eq : EqOk X (eqF C.call C.st.eqs)
theorem takes_no {X : Cx} : Takes X noX := fun _ _ ⟨_, _, _, _, _, _, _, _, _, _, _, _, _, _, _, _, w⟩ => w.elim
theorem XOk.no {C : Cn} {X : Cx} {W : WX} (h : XOk C X W) : XOk C X noX := ⟨h.N, h.nd, h.kf, h.lo, h.ce, h.fr, h.gi, h.top, h.calm, h.hu, takes_no, h.po, h.gl, h.fa, h.ms, ⟨h.eq.ok⟩⟩
theorem XOk.nox {C : Cn} {X : Cx} {W : WX} (h : XOk C X W) : XOk C X.nox noX := ⟨h.N, h.nd, h.kf, h.lo, h.ce, h.fr, h.gi, h.top, h.calm, h.hu, takes_no, PassesOwn.never, h.gl, h.fa, h.ms, ⟨h.eq.ok⟩⟩
theorem XOk.blk {C : Cn} {X : Cx} {W : WX} (h : XOk C X W) {scope : Scope} (hk : scope.kind = .function) (hfr : ∀ x, scope.names.lookup x = some .free → X.env.scope.names.lookup x = some .cell ∨ X.env.scope.names.lookup x = some .free) (s : Shared) (H : Hp) (a : Addr) (cl : List (Str × Addr)) (fp : List Addr) :
    XOk { C with sc := scope, top := false } (X.blk s H scope (compEnvC scope cl a X.env) fp) noX where
  N := h.N
  nd := h.nd
  kf := hk
  lo := fun x e => lookup_relS_keep (sc := X.env.scope) (by decide) e
  ce := fun x e => ⟨lookup_relS_keep (sc := X.env.scope) (by decide) e, by
    have e : scope.names.lookup x = some .cell := e
    show (scope.names.lookup x == some .cell) = true
    rw [e]
    rfl⟩
  fr := fun x e => by
    have go : ∀ names : List (Str × NameKind), names.lookup x = some .free → (names.map fun (n, k) => if (k == NameKind.free && X.env.scope.kind == .function && X.env.scope.names.lookup n == some .cell) then (n, NameKind.cell) else (n, k)).lookup x = some .cell ∨
        (names.map fun (n, k) => if (k == NameKind.free && X.env.scope.kind == .function && X.env.scope.names.lookup n == some .cell) then (n, NameKind.cell) else (n, k)).lookup x = some .free := by
      intro names
      induction names with
      | nil => intro h; cases h
      | cons p r ih =>
        obtain ⟨n, k⟩ := p
        intro e
        show List.lookup x ((if (k == NameKind.free && X.env.scope.kind == .function && X.env.scope.names.lookup n == some .cell) = true then (n, NameKind.cell) else (n, k)) :: (r.map _)) = _ ∨ List.lookup x ((if (k == NameKind.free && X.env.scope.kind == .function && X.env.scope.names.lookup n == some .cell) = true then (n, NameKind.cell) else (n, k)) :: (r.map _)) = _
        cases hx : x == n with
        | true =>
          simp only [List.lookup_cons, hx] at e
          cases e
          by_cases hc : (NameKind.free == NameKind.free && X.env.scope.kind == .function && X.env.scope.names.lookup n == some .cell) = true
          · rw [if_pos hc]
            exact .inl (by simp only [List.lookup_cons, hx])
          · rw [if_neg hc]
            exact .inr (by simp only [List.lookup_cons, hx])
        | false =>
          simp only [List.lookup_cons, hx] at e
          by_cases hc : (k == NameKind.free && X.env.scope.kind == .function && X.env.scope.names.lookup n == some .cell) = true
          · rw [if_pos hc]
            simp only [List.lookup_cons, hx]
            exact ih e
          · rw [if_neg hc]
            simp only [List.lookup_cons, hx]
            exact ih e
    exact go scope.names e
  gi := fun x e => lookup_relS_keep (sc := X.env.scope) (by decide) e
  top := fun z => nomatch z
  calm := h.calm
  hu := h.hu
  tk := takes_no
  po := PassesOwn.never
  gl := h.gl
  fa := h.fa
  ms := h.ms
  eq := ⟨h.eq.ok⟩
/-! ### the evaluators -/
structure Ev where
  E : Cn → Expr → SE
  B : Cn → Expr → SB
  G : Cn → List Nat → Expr → SG
  I : Cn → Expr → Expr → SI
  S : Cn → Stmt → SS
structure Sound (v : Ev) : Prop where
  E : ∀ {C : Cn} {X : Cx} {W : WX}, XOk C X W → ∀ e, PE X e (tE X.K W (v.E C e))
  B : ∀ {C : Cn} {X : Cx} {W : WX}, XOk C X W → ∀ e, PT X e (tB X.K W (v.B C e))
  G : ∀ {C : Cn} {X : Cx} {W : WX}, XOk C X W → ∀ ws e, PG X e (tG X.K ws (v.G C ws e))
  I : ∀ {C : Cn} {X : Cx} {W : WX}, XOk C X W → ∀ tg e, PI X tg e (tI X.K W (v.I C tg e))
  S : ∀ {C : Cn} {X : Cx} {W : WX}, XOk C X W → ∀ st, PS X st (tS X.K W (v.S C st))
def isStar : Expr → Bool
  | .Starred _ _ => true
  | _ => false
def isSlice : Expr → Bool
  | .Slice _ _ _ _ => true
  | _ => false
def isComp : Expr → Bool
  | .ListComp _ _ _ _ => true
  | .SetComp _ _ _ _ => true
  | .DictComp _ _ _ _ _ => true
  | _ => false
def isSet : Expr → Bool
  | .Set _ _ _ => true
  | _ => false
def isSup : Expr → Bool
  | .Call (.Name _ _) [] [] _ => true
  | _ => false
def noStar : List Expr → Bool
  | [] => true
  | e :: es => !isStar e && noStar es
section
variable {env : Env}
theorem star1 {e : Expr} {es : List Expr} (h : isStar e = false) : starEach (e :: es) env = (false, eval e env) :: starEach es env := by
  cases e <;> first | rfl | cases h
theorem star_any {pos : Pos} : ∀ {es : List Expr}, noStar es = true → (backTo pos (starEach es env)).any (·.1) = false
  | [], _ => rfl
  | e :: es, h => by
    have h' : isStar e = false ∧ noStar es = true := by simpa [noStar] using h
    rw [star1 h'.1]
    show (false || (backTo pos (starEach es env)).any (·.1)) = false
    rw [star_any h'.2]
    rfl
theorem star_all {pos : Pos} : ∀ {es : List Expr}, noStar es = true → (backTo pos (starEach es env)).all (fun x => !x.1) = true
  | [], _ => rfl
  | e :: es, h => by
    have h' : isStar e = false ∧ noStar es = true := by simpa [noStar] using h
    rw [star1 h'.1]
    show (true && (backTo pos (starEach es env)).all (fun x => !x.1)) = true
    rw [star_all h'.2]
    rfl
theorem fold_id {e : Expr} (h : isSet e = false) (x : Value) : foldedSetIterable e env x = pure x := by
  cases e <;> first | rfl | cases h
theorem plain_ix {b : Expr} (h : isSlice b = false) : PlainIx b := fun o i => by
  cases b <;> first | rfl | cases h
theorem marks_no {op : CmpOp} {b : Expr} (h : isSet b = false) : behindInMarks op b = false := by
  cases b <;> first | rfl | cases h
theorem asg_ix {a b : Expr} {pos : Pos} (h : isSlice b = false) (v : Value) : assign (.Subscript a b pos) env v = (do
      let ov ← holding [v] (eval a env)
      let iv ← holding [v, ov] (eval b env)
      standAt pos
      holding [v, ov, iv] (setItem ov iv v)
      release [v, ov, iv] []) := by
  cases b <;> first | rfl | cases h
theorem swaps_no {e : Expr} {t : Option Expr} {l : Nat} (h : isComp e = false) : swapsWith e t l env = pure false := by
  cases e <;> first | rfl | cases h
theorem base_id {o : Expr} {m : Str} (h : isSup o = false) : attributeBase o m env (eval o env) = eval o env := by
  cases o with
  | Call f args kws pos =>
    cases f with
    | Name x p => cases args with
      | nil => cases kws with
        | nil => cases h
        | cons _ _ => rfl
      | cons _ _ => rfl
    | _ => rfl
  | _ => rfl
theorem asg1 {t : Expr} (h : isStar t = false) : (assignEach [t] env).map (·.2) = [assign t env] := by
  cases t <;> first | rfl | cases h
theorem asgs {t : Expr} {ts : List Expr} (h : isStar t = false) : assignEach (t :: ts) env = (false, assign t env) :: assignEach ts env := by
  cases t <;> first | rfl | cases h
end
end Om
/-! Om, part O: one step of the evaluator, and that it is sound. -/
namespace Om
open PySem PySem.Spec PyProof.Rows L2 RZ
/-! ### expressions -/
def eConst (c : Const) : SE := match c with
  | .int i => cCon (.int i)
  | .bool b => cCon (.bl b)
  | .none => cCon .non
  | .str x => cCon (.str x.cps.toList)
  | .bytes b => cCon (.byt b)
  | _ => cErr
def eName (C : Cn) (x : Str) : SE := match C.var x with
  | some i => cVar i
  | none => match C.gl x with
    | some (.con d) => cCon d
    | some .blt => (match tyB x with
      | some T => cCon (.ty T)
      | none => cErr)
    | some (.cls c _ _) => cCon (.glo (clCps c))
    | _ => cErr
def eUn (v : Ev) (C : Cn) (op : UnaryOp) (a : Expr) : SE := match op with
  | .USub => cOp1 negD (v.E C a)
  | .Not => cNotT (v.E C a)
  | _ => cErr
def eBin (v : Ev) (C : Cn) (a : Expr) (op : Operator) (b : Expr) (pos : Pos) : SE := match binP (C.mu pos) op with
  | some p => cOp2 p (v.E C a) (v.E C b)
  | none => cErr
def eAnd (f : Expr → SE) : List Expr → SE
  | [] => cErr
  | [a] => f a
  | a :: b :: r => cAndT (f a) (eAnd f (b :: r))
def eOr (f : Expr → SE) : List Expr → SE
  | [] => cErr
  | [a] => f a
  | a :: b :: r => cOrT (f a) (eOr f (b :: r))
def eBool (v : Ev) (C : Cn) (op : BoolOp) (es : List Expr) : SE := match op with
  | .And => eAnd (v.E C) es
  | .Or => eOr (v.E C) es
def cmpO (C : Cn) : CmpOp → Option P2
  | .Eq => some (eqX false (eqF C.call C.st.eqs))
  | .NotEq => some (eqX true (eqF C.call C.st.eqs))
  | op => cmpP op
def eCmp (v : Ev) (C : Cn) (a : Expr) (ops : List CmpOp) (cs : List Expr) : SE := match ops, cs with
  | [op], [b] => if isSet b = true then cErr else (match cmpO C op with
    | some p => cOp2 p (v.E C a) (v.E C b)
    | none => cErr)
  | [op, op'], [b, c] => if isSet c = true then cErr else (match cmpP op, cmpP op' with
    | some p, some q => cCh p q (v.E C a) (v.E C b) (v.E C c)
    | _, _ => cErr)
  | _, _ => cErr
def eArgs (v : Ev) (C : Cn) : List Expr → SA
  | [] => cNil
  | e :: es => cCons (if isStar e = true then cErr else v.E C e) (eArgs v C es)
def eOpt (v : Ev) (C : Cn) : Option Expr → Option SE
  | none => none
  | some e => some (v.E C e)
def eSub (v : Ev) (C : Cn) (a b : Expr) (pos : Pos) : SE := match b with
  | .Slice lo hi none _ => cSl (C.mu pos) (v.E C a) (eOpt v C lo) (eOpt v C hi)
  | .Slice none none (some (.UnaryOp .USub (.Constant (.int 1) _ _) _)) _ => cOp1 (revD (C.mu pos)) (v.E C a)
  | b => if isSlice b = true then cErr else cOp2 ixD (v.E C a) (v.E C b)
def ownOf (C : Cn) (scope : Scope) : List (Str × Nat) := scope.names.filterMap fun y => match y.2 with
  | .local => (idxN C.N y.1).map fun i => (y.1, i)
  | .cell => (idxN C.N y.1).map fun i => (y.1, i)
  | _ => none
/-- the block may be entered -/
def blkB (C : Cn) (scope : Scope) : Bool := blkC C.N C.sc scope (ownOf C scope)
def eIfs (v : Ev) (C : Cn) : List Expr → SB
  | [] => fun _ R => .ok true R
  | [c] => v.B C c
  | _ => fun _ _ => .err
def eComp (v : Ev) (C : Cn) (elt : Expr) (gs : List Comprehension) (scope : Scope) (pos : Pos) : SE := match gs with
  | [⟨tg, iter, ifs, 0⟩] => if blkB C scope = true ∧ isSet iter = false then
      cComp (v.I C tg iter) (v.G { C with sc := scope, top := false } ((ownOf C scope).map (·.2)) tg) (eIfs v { C with sc := scope, top := false } ifs) (v.E { C with sc := scope, top := false } elt) ((ownOf C scope).map (·.2)) (C.mu pos)
    else cErr
  | _ => cErr
def eCallN (v : Ev) (C : Cn) (x : Str) (args : List Expr) (pos : Pos) : SE := match C.gl x with
  | some (.fn n dfl) => if noStar args = true ∧ args.length ≤ n ∧ n ≤ args.length + dfl.length then cCall (C.call x) (dfl.drop (args.length + dfl.length - n)) (eArgs v C args) else cErr
  | some .blt => (match args with
    | [] => cErr
    | a :: r => if noStar (a :: r) = true then (if x = "isinstance" then cOpN (isiX C.st.cls C.st.kit) (eArgs v C (a :: r)) else (match bltP (C.mu pos) x with
      | some p => cOpN p (eArgs v C (a :: r))
      | none => cErr)) else cErr)
  | some (.cls c n dfl) => if noStar args = true ∧ args.length ≤ n ∧ n ≤ args.length + dfl.length then cMake c (C.call (mkey c "__init__")) (dfl.drop (args.length + dfl.length - n)) (eArgs v C args) else cErr
  | _ => cErr
/-- the first kind of receiver that fits -/
def eMetL (ps : List (Nat × PM)) (a : SE) (as : SA) : SE := fun s R => (a s R).bind fun x R1 => match ps.find? fun p => isT p.1 x R1 with
  | some p => (as s R1).bind fun ds R2 => lift (p.2 x ds R2)
  | none => .err
/-- the own method of the receiver's class -/
def eMetO (l : List (Nat × SF × List D)) (m : Str) (a : SE) (as : SA) : SE := fun s R => (a s R).bind fun x R1 => match insOf R1 x with
  | some (c, fs) => (match l.find? fun p => decide (p.1 = c) with
    | some p => if noFld m fs = true then (as s R1).bind fun ds R2 => p.2.1 (x :: (ds ++ p.2.2)) R2 else .err
    | none => .err)
  | none => .err
def msOf (C : Cn) (m : Str) (k : Nat) : List (Nat × SF × List D) := C.st.ms.filterMap fun p => if p.1 = m ∧ 1 + k ≤ p.2.2.1 ∧ p.2.2.1 ≤ 1 + k + p.2.2.2.length then some (p.2.1, C.call (mkey p.2.1 m), p.2.2.2.drop (1 + k + p.2.2.2.length - p.2.2.1)) else none
def eMetOwn (v : Ev) (C : Cn) (o : Expr) (m : Str) (apos : Pos) (args : List Expr) (cpos : Pos) : SE :=
  if isSup o = false ∧ noStar args = true ∧ args.length < 30 ∧ (apos.endLine == cpos.line) = true ∧ msOf C m args.length ≠ [] then eMetO (msOf C m args.length) m (v.E C o) (eArgs v C args) else cErr
def eMet (v : Ev) (C : Cn) (o : Expr) (m : Str) (apos : Pos) (args : List Expr) (cpos : Pos) : SE :=
  if isSup o = false ∧ noStar args = true ∧ args.length < 30 ∧ (apos.endLine == cpos.line) = true ∧ metP (C.mu cpos) m ≠ [] then eMetL (metP (C.mu cpos) m) (v.E C o) (eArgs v C args) else cErr
def eCall (v : Ev) (C : Cn) (f : Expr) (args : List Expr) (kws : List Keyword) (pos : Pos) : SE := match f, kws with
  | .Name x _, [] => eCallN v C x args pos
  | .Attribute o m apos, [] => if metP (C.mu pos) m = [] then eMetOwn v C o m apos args pos else eMet v C o m apos args pos
  | _, _ => cErr
def eDict (C : Cn) (ks : List (Option Expr)) (vs : List Expr) (pos : Pos) : SE := match ks, vs with
  | [], [] => cDNew (C.mu pos)
  | _, _ => cErr
def atIx (f : Str) : Option Nat := idxN atTab f
def eAttr (v : Ev) (C : Cn) (o : Expr) (f : Str) : SE := match atIx f with
  | some n => if isSup o = true then cErr else cOp1 (fldD C.st.ca n) (v.E C o)
  | none => cErr
def stepE (v : Ev) (C : Cn) (e : Expr) : SE := match e with
  | .Constant c _ _ => eConst c
  | .Name x _ => eName C x
  | .UnaryOp op a _ => eUn v C op a
  | .BinOp a op b pos => eBin v C a op b pos
  | .BoolOp op es _ => eBool v C op es
  | .Compare a ops cs _ => eCmp v C a ops cs
  | .IfExp c a b _ => cIf (v.B C c) (v.E C a) (v.E C b)
  | .Tuple es _ _ => if noStar es = true then cTup (eArgs v C es) else cErr
  | .List es pos => if noStar es = true then cLst (C.mu pos) (eArgs v C es) else cErr
  | .Dict ks vs pos => eDict C ks vs pos
  | .Subscript a b pos => eSub v C a b pos
  | .ListComp elt gs scope pos => eComp v C elt gs scope pos
  | .Call f args kws pos => eCall v C f args kws pos
  | .Attribute o f _ => eAttr v C o f
  | _ => cErr
section
variable {v : Ev} {C : Cn} {X : Cx} {W : WX}
theorem XOk.vis (h : XOk C X W) {x : Str} {i : Nat} (e : C.var x = some i) : X.N[i]? = some x ∧ Vis X.env.scope x ∧ (x == ("__debug__" : Str)) = false ∧ (x == ("__classdict__" : Str)) = false := by
  unfold Cn.var at e
  have two : okName x = true → (x == ("__debug__" : Str)) = false ∧ (x == ("__classdict__" : Str)) = false := fun h => by
    unfold okName at h
    rw [Bool.and_eq_true] at h
    exact ⟨by simpa using h.1, by simpa using h.2⟩
  have go : (if okName x = true then idxN C.N x else none) = some i → X.N[i]? = some x ∧ (x == ("__debug__" : Str)) = false ∧ (x == ("__classdict__" : Str)) = false := fun e => by
    split at e
    · rename_i hk
      exact ⟨by rw [h.N]; exact idxN_ok e, two hk⟩
    · cases e
  split at e
  · rename_i k
    exact ⟨(go e).1, .inl (h.lo x k), (go e).2⟩
  · rename_i k
    exact ⟨(go e).1, .inr (.inl (h.ce x k).1), (go e).2⟩
  · rename_i k
    exact ⟨(go e).1, .inr (h.fr x k), (go e).2⟩
  · cases e
theorem XOk.glo (h : XOk C X W) {x : Str} {g : Gi} (e : C.gl x = some g) : Gl X x ∧ GOk X C x g := by
  unfold Cn.gl at e
  split at e
  · rename_i k
    exact ⟨h.gi x k, h.gl x g e⟩
  · cases e
theorem str_rd {K : PySem.W.Frag} {bar : Addr → Prop} {io : Io} {H : Hp} (x : Str) : RD K bar io H (.str x.cps.toList) (.str x) := by
  have e : strOf x.cps.toList = x := by
    unfold strOf
    rw [Array.toArray_toList]
  have := RD.str (K := K) (bar := bar) (io := io) (H := H) x.cps.toList
  rw [e] at this
  exact this
theorem eConst_ok (c : Const) (k : Nat) (pos : Pos) : PE X (.Constant c k pos) (tE X.K W (eConst c)) := by
  cases c with
  | int i => exact se_con pe_int fun _ _ _ => .int i
  | bool b => exact se_con pe_bl fun _ _ _ => .bl b
  | none => exact se_con pe_non fun _ _ _ => .non
  | str x => exact se_con pe_str fun _ _ _ => str_rd x
  | bytes b => exact se_con pe_byt fun _ _ _ => .byt b
  | _ => exact se_err
theorem eName_ok (h : XOk C X W) (x : Str) (pos : Pos) : PE X (.Name x pos) (tE X.K W (eName C x)) := by
  unfold eName
  split
  · rename_i i e
    obtain ⟨h1, h2, h3, h4⟩ := h.vis e
    exact se_var (pe_var h1 h2 h3 h4)
  · split
    · rename_i d e
      obtain ⟨hg, h1, u, w, h2, h3, h4⟩ := h.glo e
      exact se_con (pe_glob hg h2 h3 h1) h4
    · rename_i e
      obtain ⟨hg, h1⟩ := h.glo e
      split
      · rename_i T et
        obtain ⟨k1, k2, k3⟩ := tyB_ok et
        exact se_con (v := .ty T) (pe_bltn hg h1 k3 rfl k1 k2) fun _ _ _ => .ty T
      · exact se_err
    · rename_i c n dfl e
      obtain ⟨hg, h1, h2, _⟩ := h.glo e
      refine se_con (v := .ref (cA X.K c)) (pe_glob hg h2 rfl h1) fun _ _ _ => ?_
      have e : strOf (clCps c) = clN c := by
        unfold strOf clCps
        rw [Array.toArray_toList]
      unfold cA
      rw [← e]
      exact .glo _
    · exact se_err
theorem eUn_ok (hv : Sound v) (h : XOk C X W) (op : UnaryOp) (a : Expr) (pos : Pos) : PE X (.UnaryOp op a pos) (tE X.K W (eUn v C op a)) := by
  cases op with
  | USub => exact se_neg (hv.E h a)
  | Not => exact se_notT (hv.E h a)
  | _ => exact se_err
theorem eBin_ok (hv : Sound v) (h : XOk C X W) (a : Expr) (op : Operator) (b : Expr) (pos : Pos) : PE X (.BinOp a op b pos) (tE X.K W (eBin v C a op b pos)) := by
  unfold eBin
  split
  · rename_i p e
    exact se_bin e (hv.E h a) (hv.E h b)
  · exact se_err
theorem eAnd_ok {f : Expr → SE} (hf : ∀ e, PE X e (tE X.K W (f e))) (pos : Pos) : ∀ es, PE X (.BoolOp .And es pos) (tE X.K W (eAnd f es))
  | [] => se_err
  | [a] => se_one (hf a)
  | a :: b :: r => se_andT (hf a) (eAnd_ok hf pos (b :: r))
theorem eOr_ok {f : Expr → SE} (hf : ∀ e, PE X e (tE X.K W (f e))) (pos : Pos) : ∀ es, PE X (.BoolOp .Or es pos) (tE X.K W (eOr f es))
  | [] => se_err
  | [a] => se_one (hf a)
  | a :: b :: r => se_orT (hf a) (eOr_ok hf pos (b :: r))
theorem eBool_ok (hv : Sound v) (h : XOk C X W) (op : BoolOp) (es : List Expr) (pos : Pos) : PE X (.BoolOp op es pos) (tE X.K W (eBool v C op es)) := by
  cases op with
  | And => exact eAnd_ok (hv.E h) pos es
  | Or => exact eOr_ok (hv.E h) pos es
theorem cmpO_ok (h : XOk C X W) {op : CmpOp} {p : P2} (e : cmpO C op = some p) : OpR X (compareOp op) (fun x y H Q => rN X.K (pn2 p) [x, y] H Q) := by
  have hu := h.hu
  have q : ∀ neg, OpR X (compareOp (if neg = true then .NotEq else .Eq)) (fun x y H Q => rN X.K (pn2 (eqX neg (eqF C.call C.st.eqs))) [x, y] H Q) := fun neg => ok_eqX (by omega) h.eq neg
  cases op <;> first
    | (cases e; exact q false)
    | (cases e; exact q true)
    | exact ok_cmp hu e
theorem eCmp_ok (hv : Sound v) (h : XOk C X W) (a : Expr) (ops : List CmpOp) (cs : List Expr) (pos : Pos) : PE X (.Compare a ops cs pos) (tE X.K W (eCmp v C a ops cs)) := by
  unfold eCmp
  split
  · split
    · exact se_err
    · rename_i hs
      split
      · rename_i p e
        exact se_cmpO (cmpO_ok h e) (hv.E h _) (hv.E h _) (marks_no (by simpa using hs))
      · exact se_err
  · split
    · exact se_err
    · rename_i hs
      split
      · rename_i p q e1 e2
        exact se_ch h.hu e1 e2 (hv.E h _) (hv.E h _) (hv.E h _) (marks_no (by simpa using hs))
      · exact se_err
  · exact se_err
theorem eArgs_ok (hv : Sound v) (h : XOk C X W) : ∀ es : List Expr, noStar es = true → PA X es (tA X.K W (eArgs v C es))
  | [], _ => sa_nil
  | e :: es, hs => by
    have h' : isStar e = false ∧ noStar es = true := by simpa [noStar] using hs
    have e1 : (if isStar e = true then cErr else v.E C e) = v.E C e := if_neg (by rw [h'.1]; decide)
    show PA X (e :: es) (tA X.K W (cCons (if isStar e = true then cErr else v.E C e) (eArgs v C es)))
    rw [e1]
    exact sa_cons (hv.E h e) (eArgs_ok hv h es h'.2) (star1 h'.1)
theorem eOpt_ok (hv : Sound v) (h : XOk C X W) (o : Option Expr) : PO X o (tO X.K W (eOpt v C o)) := by
  cases o with
  | none => exact so_none
  | some e => exact so_some (hv.E h e)
theorem eSub_ok (hv : Sound v) (h : XOk C X W) (a b : Expr) (pos : Pos) : PE X (.Subscript a b pos) (tE X.K W (eSub v C a b pos)) := by
  unfold eSub
  split
  · exact se_slice (hv.E h a) (eOpt_ok hv h _) (eOpt_ok hv h _)
  · exact se_rev (hv.E h a)
  · split
    · exact se_err
    · rename_i hs
      have := h.hu
      exact se_ix (by omega) (hv.E h a) (hv.E h _) (plain_ix (by simpa using hs))
theorem XOk.blkOk (h : XOk C X W) {scope : Scope} (hb : blkB C scope = true) : BlkOk X.N X.env.scope scope (ownOf C scope) ∧ scope.kind = .function ∧ ∀ x, scope.names.lookup x = some .free → X.env.scope.names.lookup x = some .cell ∨ X.env.scope.names.lookup x = some .free := by
  have b := blkOk_by hb
  have fr : ∀ y ∈ scope.names, y.2 = .free → X.env.scope.names.lookup y.1 = some .cell ∨ X.env.scope.names.lookup y.1 = some .free := fun y hy e => by
    rcases b.free y hy e with k | k
    · exact .inl (h.ce _ k).1
    · exact h.fr _ k
  refine ⟨⟨b.kind, b.uniq, ?_, fr, ?_⟩, b.kind, fun x e => fr (x, .free) (PySem.mem_of_lookup e) rfl⟩
  · rw [h.N]
    exact b.ix
  · rw [h.N]
    exact b.own
theorem eIfs_ok (hv : Sound v) (h : XOk C X W) (ifs : List Expr) : PTs X ifs (tB X.K W (eIfs v C ifs)) := by
  match ifs with
  | [] => exact ⟨fun pins s σ H Q I ⟨B, io, R, sd, ds, rep, rs, rd, p⟩ => pts_nil.run pins s σ H Q I (p io H true (Step.refl _ _) rep rfl)⟩
  | [c] => exact pts_one (hv.B h c)
  | _ :: _ :: _ => exact ⟨fun _ _ _ _ _ _ ⟨_, _, _, _, _, _, _, _, p⟩ => p.elim⟩
theorem eComp_ok (hv : Sound v) (h : XOk C X W) (elt : Expr) (gs : List Comprehension) (scope : Scope) (pos : Pos) : PE X (.ListComp elt gs scope pos) (tE X.K W (eComp v C elt gs scope pos)) := by
  unfold eComp
  split
  · split
    · rename_i hb
      obtain ⟨ok, hk, hfr⟩ := h.blkOk hb.1
      have hx := fun s H a cl fp => h.blk hk hfr s H a cl fp
      exact se_comp h.calm (by rw [h.N]; exact h.nd) (hv.I h _ _) ok (fun s H a cl fp => hv.G (hx s H a cl fp) _ _) (fun s H a cl fp => eIfs_ok hv (hx s H a cl fp) _) (fun s H a cl fp => hv.E (hx s H a cl fp) _) (fold_id hb.2)
    · exact se_err
  · exact se_err
theorem tMake_nil {K : PySem.W.Frag} {C : Addr} {sp : Sp} {dvs : List V} {σ : S} {H : Hp} {Q : VK} (h : tMakeW W C sp dvs (tA K W cNil) σ H Q) : tMakeW W C sp dvs tNil σ H Q := tA_nil h
theorem eCallN_ok (hv : Sound v) (h : XOk C X W) (x : Str) (p : Pos) (args : List Expr) (pos : Pos) : PE X (.Call (.Name x p) args [] pos) (tE X.K W (eCallN v C x args pos)) := by
  unfold eCallN
  split
  · rename_i n dfl e
    obtain ⟨hg, hdb, k, f, fd, ps, h1, h2, h3, h4, h5, h6⟩ := h.glo e
    split
    · rename_i hs
      obtain ⟨dvs, ds, r1, r2, r3⟩ := h6 args.length hs.2.1 hs.2.2
      cases args with
      | nil => exact se_call0 h3 h4 hg h1 h2 r3 r2 h.tk h5 r1 hdb
      | cons a r =>
        have hs' : isStar a = false ∧ noStar r = true := by simpa [noStar] using hs.1
        exact se_call h3 h4 hg h1 h2 r3 r2 h.tk h5 r1 (eArgs_ok hv h _ hs.1) hdb (star1 hs'.1) (star_any hs'.2)
    · exact se_err
  · rename_i e
    obtain ⟨hg, h1⟩ := h.glo e
    split
    · exact se_err
    · rename_i a r
      split
      · rename_i hs
        have hs' : isStar a = false ∧ noStar r = true := by simpa [noStar] using hs
        split
        · rename_i ex
          subst ex
          exact (pe_callB (ok_isiX h.fa) hg h1 (by decide +kernel : bootBuiltins ("isinstance" : Str) = some (.builtin "isinstance")) (eArgs_ok hv h _ hs) (by decide +kernel) (by decide +kernel) (star1 hs'.1) (star_any hs'.2)).imp fun σ H Q h => cb_core h
        · split
          · rename_i q eq
            obtain ⟨⟨k1, k2⟩, k3⟩ := bltP_ok h.calm eq
            rcases k3 with ⟨id, k4, k5⟩ | ⟨T, k4, k5⟩
            · exact (pe_callB k5 hg h1 k4 (eArgs_ok hv h _ hs) k1 k2 (star1 hs'.1) (star_any hs'.2)).imp fun σ H Q h => cb_core h
            · exact (pe_callTy k5 hg h1 k4 (eArgs_ok hv h _ hs) k1 k2 (star1 hs'.1) (star_any hs'.2)).imp fun σ H Q h => cb_core h
          · exact se_err
      · exact se_err
  · rename_i c n dfl e
    obtain ⟨hg, hdb, hm, M, k, D, hr⟩ := h.glo e
    split
    · rename_i hs
      obtain ⟨fd, ps, F, hb⟩ := D.ex
      have h6 := hb (args.length + 1) (by omega) (by omega)
      have en : args.length + 1 + dfl.length - (n + 1) = args.length + dfl.length - n := by omega
      rw [en] at h6
      obtain ⟨dvs, ds, r1, r2, r3⟩ := h6
      cases args with
      | nil => exact (pe_makeW0 M F hr hg hm r3 r2 h.tk hdb).imp fun σ H Q h => tMake_nil (make_core D.len r1 h)
      | cons a r =>
        have hs' : isStar a = false ∧ noStar r = true := by simpa [noStar] using hs.1
        exact (pe_makeW M F hr hg hm r3 r2 h.tk (eArgs_ok hv h _ hs.1) hdb (star1 hs'.1) (star_any hs'.2)).imp fun σ H Q h => make_core D.len r1 h
    · exact se_err
  · exact se_err
theorem _root_.L2.PE.any {ι : Type} {e : Expr} {t : ι → TE} (h : ∀ i, PE X e (t i)) : PE X e (fun σ H Q => ∃ i, t i σ H Q) := ⟨fun pins s σ H Q I ⟨i, q⟩ => (h i).run pins s σ H Q I q⟩
theorem eMet_ok (hv : Sound v) (h : XOk C X W) (o : Expr) (m : Str) (apos : Pos) (args : List Expr) (cpos : Pos) : PE X (.Call (.Attribute o m apos) args [] cpos) (tE X.K W (eMet v C o m apos args cpos)) := by
  unfold eMet
  split
  · rename_i hs
    obtain ⟨h1, h2, h3, h4, h5⟩ := hs
    have each : ∀ z : { z : Nat × PM // z ∈ metP (C.mu cpos) m }, PE X (.Call (.Attribute o m apos) args [] cpos) (tE X.K W (cMeth z.1.1 z.1.2 (v.E C o) (eArgs v C args))) := fun ⟨⟨T, p⟩, hz⟩ => by
      obtain ⟨pa, id, sl, ty, mt⟩ := metP_ok (X := X) h.hu hz
      cases args with
      | nil => exact (pe_bm0 pa sl ty mt (hv.E h o) (base_id h1) h4).imp fun σ H Q h => meth0_core h
      | cons a r =>
        have hs' : isStar a = false ∧ noStar r = true := by simpa [noStar] using h2
        refine (pe_bm pa sl ty mt (hv.E h o) (eArgs_ok hv h _ h2) (base_id h1) ?_ h4 (star1 hs'.1) (star_any hs'.2)).imp fun σ H Q h => meth_core h
        rw [star_all h2]
        show (true && (([] : List (Option Str × Sem Value)).all (fun x => x.1.isSome)) && decide ((a :: r).length + 0 + 0 < 30)) = true
        simp only [List.all_nil, Bool.true_and, decide_eq_true_eq]
        exact h3
    refine (PE.any (X := X) (ι := Option { z : Nat × PM // z ∈ metP (C.mu cpos) m }) (t := fun i => match i with
      | some z => tE X.K W (cMeth z.1.1 z.1.2 (v.E C o) (eArgs v C args))
      | none => tE X.K W cErr) (fun i => by
        cases i with
        | none => exact se_err
        | some z => exact each z)).imp fun σ H Q ⟨B, io, R, s, ds, rep, rs, rd, p⟩ => ?_
    have p : Pst X.K B io H W σ (RD X.K) ((v.E C o s R).bind fun x R1 => match (metP (C.mu cpos) m).find? fun p => isT p.1 x R1 with
      | some p => (eArgs v C args s R1).bind fun ds R2 => lift (p.2 x ds R2)
      | none => .err) Q := p
    cases e : v.E C o s R with
    | err => rw [e] at p; exact p.elim
    | exc c f R1 =>
      obtain ⟨z, hz⟩ := List.exists_mem_of_ne_nil _ h5
      refine ⟨some ⟨z, hz⟩, B, io, R, s, ds, rep, rs, rd, ?_⟩
      show Pst X.K B io H W σ (RD X.K) ((v.E C o s R).bind _) Q
      rw [e] at p ⊢
      exact p
    | ok x R1 =>
      rw [e, Res.bind_ok] at p
      cases ef : (metP (C.mu cpos) m).find? fun p => isT p.1 x R1 with
      | none => simp only [ef] at p; exact p.elim
      | some z =>
        simp only [ef] at p
        refine ⟨some ⟨z, List.mem_of_find?_eq_some ef⟩, B, io, R, s, ds, rep, rs, rd, ?_⟩
        show Pst X.K B io H W σ (RD X.K) ((v.E C o s R).bind fun x R1 => if isT z.1 x R1 = true then (eArgs v C args s R1).bind fun ds R2 => lift (z.2 x ds R2) else .err) Q
        rw [e, Res.bind_ok, if_pos (List.find?_some ef)]
        exact p
  · exact se_err
theorem msOf_ok (h : XOk C X W) {m : Str} {k : Nat} {p : Nat × SF × List D} (hp : p ∈ msOf C m k) : ∃ n dfl, (m, p.1, n, dfl) ∈ C.st.ms ∧ 1 + k ≤ n ∧ n ≤ 1 + k + dfl.length ∧ p.2.1 = C.call (mkey p.1 m) ∧ p.2.2 = dfl.drop (1 + k + dfl.length - n) := by
  unfold msOf at hp
  obtain ⟨q, hq, e⟩ := List.mem_filterMap.mp hp
  split at e
  · rename_i hk
    cases e
    obtain ⟨m', c, n, dfl⟩ := q
    obtain ⟨rfl, h1, h2⟩ := hk
    exact ⟨n, dfl, hq, h1, h2, rfl, rfl⟩
  · cases e
theorem eMetOwn_ok (hv : Sound v) (h : XOk C X W) (o : Expr) (m : Str) (apos : Pos) (args : List Expr) (cpos : Pos) : PE X (.Call (.Attribute o m apos) args [] cpos) (tE X.K W (eMetOwn v C o m apos args cpos)) := by
  unfold eMetOwn
  split
  · rename_i hs
    obtain ⟨h1, h2, h3, h4, h5⟩ := hs
    generalize hl : msOf C m args.length = l at h5
    have each : ∀ z : { z : Nat × SF × List D // z ∈ l }, PE X (.Call (.Attribute o m apos) args [] cpos) (tE X.K W (cMeth1 z.1.1 m z.1.2.1 z.1.2.2 (v.E C o) (eArgs v C args))) := fun ⟨⟨c, F, dfl'⟩, hz⟩ => by
      rw [← hl] at hz
      obtain ⟨n, dfl, hm, hk1, hk2, e1, e2⟩ := msOf_ok h hz
      simp only at hm e1 e2
      subst e1 e2
      obtain ⟨M, cl, k, D, hr⟩ := h.ms _ _ _ _ hm
      obtain ⟨fd, ps, F, hb⟩ := D.ex
      obtain ⟨dvs, ds, r1, r2, r3⟩ := hb (1 + args.length) hk1 hk2
      cases args with
      | nil => exact (pe_methW0 (hv.E h o) cl M F hr r3 r2 h.tk (base_id h1) h4).imp fun σ H Q h => (meth_own D.len r1 h).imp fun x H1 ⟨a, dx, fs, e1, e2, e3, q⟩ => ⟨a, dx, fs, e1, e2, e3, tA_nil q⟩
      | cons a r =>
        have hs' : isStar a = false ∧ noStar r = true := by simpa [noStar] using h2
        refine (pe_methW (hv.E h o) cl M F hr r3 r2 h.tk (eArgs_ok hv h _ h2) (base_id h1) ?_ h4 (star1 hs'.1) (star_any hs'.2)).imp fun σ H Q h => meth_own D.len r1 h
        unfold methodCallForm
        rw [star_all h2]
        show (true && (([] : List (Option Str × Sem Value)).all (fun x => x.1.isSome)) && decide ((a :: r).length + 0 + 0 < 30)) = true
        simp only [List.all_nil, Bool.true_and, decide_eq_true_eq]
        exact h3
    refine (PE.any (X := X) (ι := Option { z : Nat × SF × List D // z ∈ l }) (t := fun i => match i with
      | some z => tE X.K W (cMeth1 z.1.1 m z.1.2.1 z.1.2.2 (v.E C o) (eArgs v C args))
      | none => tE X.K W cErr) (fun i => by
        cases i with
        | none => exact se_err
        | some z => exact each z)).imp fun σ H Q ⟨B, io, R, s, ds, rep, rs, rd, p⟩ => ?_
    have p : Pst X.K B io H W σ (RD X.K) ((v.E C o s R).bind fun x R1 => match insOf R1 x with
      | some (c, fs) => (match l.find? fun p => decide (p.1 = c) with
        | some p => if noFld m fs = true then (eArgs v C args s R1).bind fun ds R2 => p.2.1 (x :: (ds ++ p.2.2)) R2 else .err
        | none => .err)
      | none => .err) Q := p
    cases e : v.E C o s R with
    | err => rw [e] at p; exact p.elim
    | exc c f R1 =>
      obtain ⟨z, hz⟩ := List.exists_mem_of_ne_nil _ h5
      refine ⟨some ⟨z, hz⟩, B, io, R, s, ds, rep, rs, rd, ?_⟩
      show Pst X.K B io H W σ (RD X.K) ((v.E C o s R).bind _) Q
      rw [e] at p ⊢
      exact p
    | ok x R1 =>
      rw [e, Res.bind_ok] at p
      cases ei : insOf R1 x with
      | none => simp only [ei] at p; exact p.elim
      | some z =>
        obtain ⟨c, fs⟩ := z
        simp only [ei] at p
        cases ef : l.find? fun p => decide (p.1 = c) with
        | none => simp only [ef] at p; exact p.elim
        | some z =>
          simp only [ef] at p
          have hc : z.1 = c := by simpa using List.find?_some ef
          refine ⟨some ⟨z, List.mem_of_find?_eq_some ef⟩, B, io, R, s, ds, rep, rs, rd, ?_⟩
          show Pst X.K B io H W σ (RD X.K) ((v.E C o s R).bind fun x R1 => match insOf R1 x with
            | some (c', fs) => if c' = z.1 ∧ noFld m fs = true then (eArgs v C args s R1).bind fun ds R2 => z.2.1 (x :: (ds ++ z.2.2)) R2 else .err
            | none => .err) Q
          rw [e, Res.bind_ok]
          simp only [ei]
          by_cases hf : noFld m fs = true
          · rw [if_pos hf] at p
            rw [if_pos ⟨hc.symm, hf⟩]
            exact p
          · rw [if_neg hf] at p
            exact p.elim
  · exact se_err
theorem eAttr_ok (hv : Sound v) (h : XOk C X W) (o : Expr) (f : Str) (pos : Pos) : PE X (.Attribute o f pos) (tE X.K W (eAttr v C o f)) := by
  unfold eAttr
  split
  · rename_i n en
    split
    · exact se_err
    · rename_i hs
      refine se_fld (fun c n hk => ?_) ?_ (hv.E h o) (base_id (by simpa using hs))
      · obtain ⟨p, hp, hq⟩ := List.any_eq_true.mp hk
        obtain ⟨r, hr, rfl⟩ := List.mem_map.mp hp
        rw [Bool.and_eq_true] at hq
        have h1 : r.c = c := of_decide_eq_true hq.1
        have h2 : n ∈ r.ats := of_decide_eq_true hq.2
        rw [← h1]
        exact h.fa.at_ r hr n h2
      · have := idxN_ok en
        unfold atN
        rw [List.getD_eq_getElem?_getD, this]
        rfl
  · exact se_err
theorem eCall_ok (hv : Sound v) (h : XOk C X W) (f : Expr) (args : List Expr) (kws : List Keyword) (pos : Pos) : PE X (.Call f args kws pos) (tE X.K W (eCall v C f args kws pos)) := by
  unfold eCall
  split
  · exact eCallN_ok hv h _ _ _ _
  · split
    · exact eMetOwn_ok hv h _ _ _ _ _
    · exact eMet_ok hv h _ _ _ _ _
  · exact se_err
theorem eDict_ok (ks : List (Option Expr)) (vs : List Expr) (pos : Pos) : PE X (.Dict ks vs pos) (tE X.K W (eDict C ks vs pos)) := by
  unfold eDict
  split
  · exact se_dnew
  · exact se_err
theorem stepE_ok (hv : Sound v) (h : XOk C X W) (e : Expr) : PE X e (tE X.K W (stepE v C e)) := by
  unfold stepE
  split
  · exact eConst_ok _ _ _
  · exact eName_ok h _ _
  · exact eUn_ok hv h _ _ _
  · exact eBin_ok hv h _ _ _ _
  · exact eBool_ok hv h _ _ _
  · exact eCmp_ok hv h _ _ _ _
  · exact se_if (hv.B h _) (hv.E h _) (hv.E h _)
  · split
    · rename_i hs
      exact se_tup (eArgs_ok hv h _ hs)
    · exact se_err
  · split
    · rename_i hs
      exact se_lst (eArgs_ok hv h _ hs)
    · exact se_err
  · exact eDict_ok _ _ _
  · exact eSub_ok hv h _ _ _
  · exact eComp_ok hv h _ _ _ _
  · exact eCall_ok hv h _ _ _ _
  · exact eAttr_ok hv h _ _ _
  · exact se_err
end
end Om
/-! Om, part P: tests, targets, sources, statements; the evaluator, sound. -/
namespace Om
open PySem PySem.Spec PyProof.Rows L2 RZ
/-! ### tests -/
def bErr : SB := fun _ _ => .err
def bAndL (f : Expr → SB) : List Expr → SB
  | [] => bErr
  | [a] => f a
  | a :: b :: r => bAnd (f a) (bAndL f (b :: r))
def bOrL (f : Expr → SB) : List Expr → SB
  | [] => bErr
  | [a] => f a
  | a :: b :: r => bOr (f a) (bOrL f (b :: r))
def bCmp (v : Ev) (C : Cn) (a : Expr) (ops : List CmpOp) (cs : List Expr) : SB := match ops, cs with
  | [op], [b] => if isSet b = true then bErr else (match cmpO C op with
    | some p => bOf (cOp2 p (v.E C a) (v.E C b))
    | none => bErr)
  | [op, op'], [b, c] => if isSet c = true then bErr else (match cmpP op, cmpP op' with
    | some p, some q => bOf (cCh p q (v.E C a) (v.E C b) (v.E C c))
    | _, _ => bErr)
  | _, _ => bErr
def stepB (v : Ev) (C : Cn) (e : Expr) : SB := match e with
  | .UnaryOp .Not a _ => bNot (v.B C a)
  | .BoolOp .And es _ => bAndL (v.B C) es
  | .BoolOp .Or es _ => bOrL (v.B C) es
  | .Compare a ops cs _ => bCmp v C a ops cs
  | .IfExp _ _ _ _ => bErr
  | e => bVal (v.E C e)
section
variable {v : Ev} {C : Cn} {X : Cx} {W : WX}
theorem sb_err {e : Expr} : PT X e (tB X.K W bErr) := ⟨fun _ _ _ _ _ _ ⟨_, _, _, _, _, _, _, _, p⟩ => p.elim⟩
theorem sw_err {e : Expr} : PW X e (tB X.K W bErr) := ⟨fun _ _ _ _ _ _ _ ⟨_, _, _, _, _, _, _, _, p⟩ => p.elim⟩
theorem bAndL_ok {f : Expr → SB} (hf : ∀ e, PT X e (tB X.K W (f e))) (pos : Pos) : ∀ es, PW X (.BoolOp .And es pos) (tB X.K W (bAndL f es))
  | [] => sw_err
  | [a] => pw_and1 (hf a)
  | a :: b :: r => sb_and (hf a) (bAndL_ok hf pos (b :: r))
theorem bOrL_ok {f : Expr → SB} (hf : ∀ e, PT X e (tB X.K W (f e))) (pos : Pos) : ∀ es, PW X (.BoolOp .Or es pos) (tB X.K W (bOrL f es))
  | [] => sw_err
  | [a] => pw_or1 (hf a)
  | a :: b :: r => sb_or (hf a) (bOrL_ok hf pos (b :: r))
theorem bCmp_ok (hv : Sound v) (h : XOk C X W) (a : Expr) (ops : List CmpOp) (cs : List Expr) (pos : Pos) : PT X (.Compare a ops cs pos) (tB X.K W (bCmp v C a ops cs)) := by
  unfold bCmp
  split
  · split
    · exact sb_err
    · rename_i hs
      split
      · rename_i p e
        exact sb_cmpO (cmpO_ok h e) (hv.E h _) (hv.E h _) (marks_no (by simpa using hs))
      · exact sb_err
  · split
    · exact sb_err
    · rename_i hs
      split
      · rename_i p q e1 e2
        exact sb_ch h.hu e1 e2 (hv.E h _) (hv.E h _) (hv.E h _) (marks_no (by simpa using hs))
      · exact sb_err
  · exact sb_err
theorem stepB_ok (hv : Sound v) (h : XOk C X W) (e : Expr) : PT X e (tB X.K W (stepB v C e)) := by
  cases e with
  | UnaryOp op a pos =>
    cases op with
    | Not => exact sb_not (hv.B h a)
    | _ => exact sb_val (hv.E h _) fun _ => rfl
  | BoolOp op es pos =>
    cases op with
    | And => exact (bAndL_ok (hv.B h) pos es).pt
    | Or => exact (bOrL_ok (hv.B h) pos es).pt
  | Compare a ops cs pos => exact bCmp_ok hv h a ops cs pos
  | IfExp => exact sb_err
  | _ => exact sb_val (hv.E h _) fun _ => rfl
end
/-! ### targets -/
def gGs (v : Ev) (C : Cn) (ws : List Nat) : List Expr → SGs
  | [] => gN
  | e :: es => gC (v.G C ws e) (gGs v C ws es)
def stepG (v : Ev) (C : Cn) (ws : List Nat) (e : Expr) : SG := match e with
  | .Name x _ => (match C.own x with
    | some i => if i ∈ ws then gVar i else gErr
    | none => gErr)
  | .Tuple es _ _ => if noStar es = true then gT es.length (gGs v C ws es) else gErr
  | .Subscript a b _ => if isSlice b = true then gErr else gIx (v.E C a) (v.E C b)
  | _ => gErr
section
variable {v : Ev} {C : Cn} {X : Cx} {W : WX} {ws : List Nat}
theorem XOk.ownOk (h : XOk C X W) {x : Str} {i : Nat} (e : C.own x = some i) : X.N[i]? = some x ∧ Loc X.env.scope x ∧ (X.fn x = true ∨ X.env.scope.names.lookup x = some .local) := by
  unfold Cn.own at e
  split at e
  · rename_i k
    exact ⟨by rw [h.N]; exact idxN_ok e, .inl (h.lo x k), .inr (h.lo x k)⟩
  · rename_i k
    exact ⟨by rw [h.N]; exact idxN_ok e, .inr (h.ce x k).1, .inl (h.ce x k).2⟩
  · cases e
theorem asg_len {env : Env} : ∀ {es : List Expr}, noStar es = true → (assignEach es env).length = es.length ∧ (assignEach es env).findIdx? (·.1) = none
  | [], _ => ⟨rfl, rfl⟩
  | e :: es, h => by
    have h' : isStar e = false ∧ noStar es = true := by simpa [noStar] using h
    obtain ⟨h1, h2⟩ := asg_len (env := env) h'.2
    rw [asgs h'.1]
    refine ⟨congrArg (· + 1) h1, ?_⟩
    rw [List.findIdx?_cons]
    simp only [Bool.false_eq_true, if_false, h2, Option.map_none]
theorem gGs_ok (hv : Sound v) (h : XOk C X W) : ∀ es : List Expr, noStar es = true → PGs X es (tGs X.K ws (gGs v C ws es))
  | [], _ => sgs_nil
  | e :: es, hs => by
    have h' : isStar e = false ∧ noStar es = true := by simpa [noStar] using hs
    exact sgs_cons (hv.G h ws e) (gGs_ok hv h es h'.2) (by rw [asgs h'.1]; rfl)
theorem stepG_ok (hv : Sound v) (h : XOk C X W) (e : Expr) : PG X e (tG X.K ws (stepG v C ws e)) := by
  unfold stepG
  split
  · split
    · rename_i i ei
      obtain ⟨h1, h2, h3⟩ := h.ownOk ei
      split
      · rename_i hi
        exact sg_var (pg_name (by rw [h.N]; exact h.nd) h1 h2 h3) hi
      · exact sg_err
    · exact sg_err
  · split
    · rename_i hs
      obtain ⟨h1, h2⟩ := asg_len (env := X.env) hs
      exact sg_tup h.calm (gGs_ok hv h _ hs) h1 h2
    · exact sg_err
  · split
    · exact sg_err
    · rename_i hs
      have := h.hu
      exact sg_ix (by omega) (hv.E h.no _) (hv.E h.no _) (asg_ix (by simpa using hs))
  · exact sg_err
end
/-! ### sources -/
def iErr : SI := fun _ _ => .err
def iBlt (v : Ev) (C : Cn) (tg : Expr) (x : Str) (args : List Expr) : Option SI :=
  if x = "range" then (match args with
    | [a] => if isStar a = false then some (iArgs rng1 (eArgs v C [a])) else none
    | [a, b] => if noStar [a, b] = true then some (iArgs rng2 (eArgs v C [a, b])) else none
    | _ => none)
  else if x = "enumerate" then (match tg, args with
    | .Tuple _ _ _, [a] => if isStar a = false then some (iArgs enum1 (eArgs v C [a])) else none
    | _, _ => none)
  else if x = "zip" then (match tg, args with
    | .Tuple _ _ _, [a, b] => if noStar [a, b] = true then some (iArgs zip2 (eArgs v C [a, b])) else none
    | _, _ => none)
  else none
def stepI (v : Ev) (C : Cn) (tg e : Expr) : SI := match e with
  | .Call (.Name x _) args [] _ => (match C.gl x, iBlt v C tg x args with
    | some .blt, some m => m
    | _, _ => iSeq (v.E C e))
  | _ => iSeq (v.E C e)
section
variable {v : Ev} {C : Cn} {X : Cx} {W : WX}
theorem iBlt_ok (hv : Sound v) (h : XOk C X W) {tg : Expr} {x : Str} {p : Pos} {args : List Expr} {pos : Pos} {m : SI} (hg : Gl X x) (hm : X.mg x = none) (e : iBlt v C tg x args = some m) : PI X tg (.Call (.Name x p) args [] pos) (tI X.K W m) := by
  unfold iBlt at e
  split at e
  · rename_i ex
    subst ex
    split at e
    · rename_i a
      split at e
      · rename_i hs
        cases e
        exact si_range1 hg hm (eArgs_ok hv h [a] (by simp [noStar, hs])) (star1 hs)
      · cases e
    · rename_i a b
      split at e
      · rename_i hs
        cases e
        have hs' : isStar a = false ∧ isStar b = false := by simpa [noStar] using hs
        exact si_range2 hg hm (eArgs_ok hv h [a, b] hs) (by rw [star1 hs'.1, star1 hs'.2]; rfl) (star1 hs'.2)
      · cases e
    · cases e
  · split at e
    · rename_i ex
      subst ex
      split at e
      · rename_i a
        split at e
        · rename_i hs
          cases e
          exact si_enum hg hm (eArgs_ok hv h [a] (by simp [noStar, hs])) (star1 hs)
        · cases e
      · cases e
    · split at e
      · rename_i ex
        subst ex
        split at e
        · rename_i a b
          split at e
          · rename_i hs
            cases e
            have hs' : isStar a = false ∧ isStar b = false := by simpa [noStar] using hs
            exact si_zip hg hm (eArgs_ok hv h [a, b] hs) (star1 hs'.1) (star_any (by simp [noStar, hs'.2]))
          · cases e
        · cases e
      · cases e
theorem stepI_ok (hv : Sound v) (h : XOk C X W) (tg e : Expr) : PI X tg e (tI X.K W (stepI v C tg e)) := by
  unfold stepI
  split
  · split
    · rename_i e1 e2
      obtain ⟨hg, hm⟩ := h.glo e1
      exact iBlt_ok hv h hg hm e2
    · exact si_seq (hv.E h _)
  · exact si_seq (hv.E h _)
end
/-! ### statements -/
def eSs (v : Ev) (C : Cn) : List Stmt → SS
  | [] => sPass
  | st :: sts => sSeq (v.S C st) (eSs v C sts)
/-- a, b = x, y: which names are stored from the right; none: nothing is known -/
def swapNames (C : Cn) (ts : List Expr) : List Str := ts.filterMap fun
  | .Name id pos => if (C.kind id == some .local && pos.line == (ts.head?.map (·.pos.line)).getD 0) = true then some id else none
  | _ => none
def swapN (C : Cn) (ts vs : List Expr) : Option (Option (List Str)) :=
  if (!(ts.length == 2 || ts.length == 3) || vs.length != ts.length) = true then some none
  else if ((swapNames C ts).length != ts.length || (swapNames C ts).eraseDups.length != (swapNames C ts).length) = true then some none
  else if vs.all (foldedForSure 8) = true then some none
  else if vs.all (constantsAlone 8) = true then none
  else some (some (swapNames C ts))
theorem no_star_any : ∀ {es : List Expr}, noStar es = true → (es.any fun | .Starred .. => true | _ => false) = false
  | [], _ => rfl
  | e :: es, h => by
    have h' : isStar e = false ∧ noStar es = true := by simpa [noStar] using h
    rw [List.any_cons, no_star_any h'.2]
    cases e <;> first | rfl | cases h'.1
theorem swapN_ok {C : Cn} {X : Cx} {W : WX} (h : XOk C X W) (ht : C.top = true) {ts vs : List Expr} {k k2 : Nat} {p p2 : Pos} {r : Option (List Str)} (hs : noStar vs = true) (e : swapN C ts vs = some r) : swappedStores [.Tuple ts k p] (.Tuple vs k2 p2) X.env = pure r := by
  have hb : X.env.blockKind = .function := by
    unfold Env.blockKind
    rw [h.kf]
    rfl
  have hn : (ts.filterMap fun
      | .Name id pos => if X.env.kindOf id == some .local && pos.line == (ts.head?.map (·.pos.line)).getD 0 then some id else none
      | _ => none) = swapNames C ts := by
    unfold swapNames
    congr 1
    funext e
    cases e <;> first
      | rfl
      | simp only [h.top ht]
  unfold swappedStores
  simp only [hb, no_star_any hs, hn]
  unfold swapN at e
  split at e
  · rename_i c
    cases e
    have c' : (!(ts.length == 2 || ts.length == 3) || vs.length != ts.length || ScopeKind.function != ScopeKind.function) = true := by rw [c]; rfl
    simp only [c', if_true]
  · rename_i c
    have c' : (!(ts.length == 2 || ts.length == 3) || vs.length != ts.length || ScopeKind.function != ScopeKind.function) = false := by
      rw [Bool.not_eq_true] at c
      rw [c]
      rfl
    simp only [c', Bool.false_eq_true, if_false]
    refine (if_neg (fun z => Bool.noConfusion ((no_star_any hs).symm.trans z))).trans ?_
    refine (congrArg (fun l : List Str => (if (l.length != ts.length || l.eraseDups.length != l.length) = true then pure none else if vs.all (foldedForSure 8) = true then pure none else if vs.all (constantsAlone 8) = true then (do
      unsupported "assign.tuple-of-constant-expressions:order-of-the-stores"
      pure (some l)) else pure (some l) : Sem (Option (List Str)))) hn).trans ?_
    show (if ((swapNames C ts).length != ts.length || (swapNames C ts).eraseDups.length != (swapNames C ts).length) = true then _ else _) = _
    split at e
    · rename_i c2
      cases e
      rw [if_pos c2]
    · rename_i c2
      rw [if_neg c2]
      split at e
      · rename_i c3
        cases e
        rw [if_pos c3]
      · rename_i c3
        rw [if_neg c3]
        split at e
        · cases e
        · rename_i c4
          cases e
          rw [if_neg c4]
def isNm : Expr → Bool
  | .Name _ _ => true
  | _ => false
theorem swaps_tg {e tg : Expr} {l : Nat} {env : Env} (h : isNm tg = false) : swapsWith e (some tg) l env = pure false := by
  cases tg <;> first | (cases h; done) | (cases e <;> rfl)
def isLst : Expr → Bool
  | .List _ _ => true
  | _ => false
def wsAll (C : Cn) : List Nat := List.range C.N.length
def sAsgN (v : Ev) (C : Cn) (tg e : Expr) (l : Nat) : SS := match tg, e with
  | .Tuple ts _ _, .Tuple vs _ _ => if noStar vs = true ∧ C.top = true then (match swapN C ts vs with
    | some none => sAsg (v.E C e) (v.G C (wsAll C) tg)
    | some (some ns) => (match ts, vs with
      | [.Name x _, .Name y _], [a, b] => (match C.loc x, C.loc y with
        | some i, some j => if i = j ∨ ns ≠ [x, y] then sErr else sPar2 i j (eArgs v C [a, b])
        | _, _ => sErr)
      | [.Name x _, .Name y _, .Name z _], [a, b, c] => (match C.loc x, C.loc y, C.loc z with
        | some i, some j, some k => if i = j ∨ i = k ∨ j = k ∨ ns ≠ [x, y, z] then sErr else sPar3 i j k (eArgs v C [a, b, c])
        | _, _, _ => sErr)
      | _, _ => sErr)
    | none => sErr) else sErr
  | .Name x px, .ListComp elt gs scope pos => (match C.kind x with
    | some .local => (match C.loc x with
      | some i => if (px.line == pos.line) = true then (if (scope.names.any fun (n, k) => n == x && (k == .local || k == .cell)) = false then sAsg (eComp v C elt gs scope pos) (gVar i) else sErr) else sAsg (v.E C e) (v.G C (wsAll C) tg)
      | none => sErr)
    | some .cell => sAsg (v.E C e) (v.G C (wsAll C) tg)
    | _ => sErr)
  | tg, e => if isStar tg = true ∨ (isComp e = true ∧ isNm tg = true) ∨ isLst tg = true then sErr else sAsg (v.E C e) (v.G C (wsAll C) tg)
/-- x op= y of whole numbers -/
def addI : P2 := fun x y R => match x, y with
  | .int i, .int j => some (.int (i + j), R)
  | _, _ => none
def subI : P2 := fun x y R => match x, y with
  | .int i, .int j => some (.int (i - j), R)
  | _, _ => none
theorem ip_addI {X : Cx} : PIp X .Add (fun x y H Q => rN X.K (pn2 addI) [x, y] H Q) := fun pins s σ H x y v u Q I r1 r2 h => by
  obtain ⟨B, io, R, dx, dy, d, R', rep, rx, ry, e, q⟩ := rN2 h
  unfold addI at e
  split at e
  · cases e
    cases rx
    cases ry
    exact ip_add pins s σ H _ _ v u Q I r1 r2 ⟨_, _, rfl, rfl, q io H _ (Step.refl _ _) rep (.int _)⟩
  · cases e
theorem ip_subI {X : Cx} : PIp X .Sub (fun x y H Q => rN X.K (pn2 subI) [x, y] H Q) := fun pins s σ H x y v u Q I r1 r2 h => by
  obtain ⟨B, io, R, dx, dy, d, R', rep, rx, ry, e, q⟩ := rN2 h
  unfold subI at e
  split at e
  · cases e
    cases rx
    cases ry
    exact ip_sub pins s σ H _ _ v u Q I r1 r2 ⟨_, _, rfl, rfl, q io H _ (Step.refl _ _) rep (.int _)⟩
  · cases e
def augP : Operator → Option P2
  | .Add => some addI
  | .Sub => some subI
  | _ => none
theorem augP_ok {X : Cx} {op : Operator} {p : P2} (h : augP op = some p) : PIp X op (fun x y H Q => rN X.K (pn2 p) [x, y] H Q) := by
  cases op <;> cases h
  · exact ip_addI
  · exact ip_subI
def sAugN (v : Ev) (C : Cn) (tg : Expr) (op : Operator) (e : Expr) : SS := match tg with
  | .Name x _ => (match C.own x, augP op with
    | some i, some p => sAug i p (v.E C e)
    | _, _ => sErr)
  | _ => sErr
def sAttrN (v : Ev) (C : Cn) (o : Expr) (f : Str) (e : Expr) : SS := match atIx f with
  | some n => sSetF C.st.ca n (v.E C e) (v.E C o)
  | none => sErr
/-- a try whose body raises nothing -/
def sTryN (m : SS) : SS := fun s R => match m s R with
  | .exc _ _ _ _ => .err
  | o => o
def stepS (v : Ev) (C : Cn) (st : Stmt) : SS := match st with
  | .Return none _ => sRetN
  | .Return (some e) _ => sRet (v.E C e)
  | .Expr e _ => if isComp e = true then sErr else sExpr (v.E C e)
  | .Assign [.Attribute o f _] e _ => sAttrN v C o f e
  | .Assign [tg] e pos => sAsgN v C tg e pos.line
  | .AugAssign tg op e _ => sAugN v C tg op e
  | .If c p q _ => sIf (v.B C c) (eSs v C p) (eSs v C q)
  | .For tg it body [] _ => if isSet it = true then sErr else sFor (v.I C tg it) (v.G C (wsAll C) tg) (eSs v C body)
  | .While c body [] _ => sWhile (v.B C c) (eSs v C body)
  | .Pass _ => sPass
  | .Break _ => sBrk
  | .Continue _ => sCont
  | .Try body (_ :: _) [] [] _ => sTryN (eSs v C body)
  | _ => sErr
section
variable {v : Ev} {C : Cn} {X : Cx} {W : WX}
theorem XOk.locOk (h : XOk C X W) {x : Str} {i : Nat} (e : C.loc x = some i) : X.N[i]? = some x ∧ X.env.scope.names.lookup x = some .local := by
  unfold Cn.loc at e
  split at e
  · rename_i k
    exact ⟨by rw [h.N]; exact idxN_ok e, h.lo x k⟩
  · cases e
theorem eSs_ok (hv : Sound v) (h : XOk C X W) : ∀ sts : List Stmt, PSs X sts (tS X.K W (eSs v C sts))
  | [] => ss_nil
  | st :: sts => ss_cons (hv.S h st) (eSs_ok hv h sts)
theorem asg_any (hv : Sound v) (h : XOk C X W) {tg e : Expr} {pos : Pos} (h1 : isStar tg = false) (hs : swapsWithSole [tg] e pos.line X.env = pure false) (hw : swappedStores [tg] e X.env = pure none) :
    PS X (.Assign [tg] e pos) (tS X.K W (sAsg (v.E C e) (v.G C (wsAll C) tg))) := ss_asg (hv.E h e) (hv.G h (wsAll C) tg) hs hw (asg1 h1)
theorem asg_comp (hv : Sound v) (h : XOk C X W) {i : Nat} {x : Str} {px pos p2 : Pos} {elt : Expr} {gs : List Comprehension} {scope : Scope} (h1 : X.N[i]? = some x) (h2 : X.env.scope.names.lookup x = some .local) (hl : (px.line == p2.line) = true)
    (hn : (scope.names.any fun (n, k) => n == x && (k == .local || k == .cell)) = false) : PS X (.Assign [.Name x px] (.ListComp elt gs scope p2) pos) (tS X.K W (sAsg (eComp v C elt gs scope p2) (gVar i))) := by
  have er : PS X (.Assign [.Name x px] (.ListComp elt gs scope p2) pos) (tS X.K W (sAsg cErr (gVar i))) := ⟨fun _ _ _ _ _ _ ⟨_, _, _, _, _, _, p⟩ => p.elim⟩
  unfold eComp
  split
  · split
    · rename_i hb
      obtain ⟨ok, hk, hfr⟩ := h.blkOk hb.1
      have hx := fun s H a cl fp => h.blk hk hfr s H a cl fp
      exact ss_setComp h.calm (by rw [h.N]; exact h.nd) h1 h2 (sw_true h.kf h2 hl hn) (hv.I h _ _) ok (fun s H a cl fp => hv.G (hx s H a cl fp) _ _) (fun s H a cl fp => eIfs_ok hv (hx s H a cl fp) _) (fun s H a cl fp => hv.E (hx s H a cl fp) _) (fold_id hb.2)
    · exact er
  · exact er
theorem sAsgN_ok (hv : Sound v) (h : XOk C X W) (tg e : Expr) (pos : Pos) : PS X (.Assign [tg] e pos) (tS X.K W (sAsgN v C tg e pos.line)) := by
  unfold sAsgN
  split
  · rename_i ts k p vs k2 p2
    split
    · rename_i hs
      split
      · rename_i e1
        exact asg_any hv h rfl rfl (swapN_ok h hs.2 hs.1 e1)
      · rename_i ns e1
        have hw := swapN_ok (k := k) (p := p) (k2 := k2) (p2 := p2) h hs.2 hs.1 e1
        split
        · rename_i x px y py a b
          split
          · rename_i i j ei ej
            split
            · exact ss_err
            · rename_i hij
              rw [not_or, Classical.not_not] at hij
              obtain ⟨h1, h2⟩ := h.locOk ei
              obtain ⟨h3, h4⟩ := h.locOk ej
              rw [hij.2] at hw
              exact (ps_par h.calm (by rw [h.N]; exact h.nd) h1 h3 hij.1 h2 h4 (eArgs_ok hv h _ hs.1) hw rfl).imp fun D σ H h => par2_core h
          · exact ss_err
        · rename_i x px y py z pz a b c
          split
          · rename_i i j l ei ej el
            split
            · exact ss_err
            · rename_i hij
              rw [not_or, not_or, not_or, Classical.not_not] at hij
              obtain ⟨h1, h2⟩ := h.locOk ei
              obtain ⟨h3, h4⟩ := h.locOk ej
              obtain ⟨h5, h6⟩ := h.locOk el
              rw [hij.2.2.2] at hw
              exact (ps_par3 h.calm (by rw [h.N]; exact h.nd) h1 h3 h5 hij.1 hij.2.1 hij.2.2.1 h2 h4 h6 (eArgs_ok hv h _ hs.1) hw rfl).imp fun D σ H h => par3_core h
          · exact ss_err
        · exact ss_err
      · exact ss_err
    · exact ss_err
  · rename_i x px elt gs scope p2
    have hb : X.env.blockKind = .function := by
      unfold Env.blockKind
      rw [h.kf]
      rfl
    have e0 : ∀ e l, swapsWithSole [.Name x px] e l X.env = swapsWith e (some (.Name x px)) l X.env := fun _ _ => by rw [swapsWithSole]
    split
    · split
      · rename_i i ei
        obtain ⟨h1, h2⟩ := h.locOk ei
        split
        · rename_i hl
          split
          · rename_i hn
            exact asg_comp hv h h1 h2 hl hn
          · exact ss_err
        · rename_i hl
          refine asg_any hv h rfl ?_ rfl
          rw [e0]
          unfold swapsWith
          have hl' : (px.line == p2.line) = false := by simpa using hl
          simp only [Expr.pos, hl', Bool.and_false, Bool.false_and]
      · exact ss_err
    · rename_i hk
      refine asg_any hv h rfl ?_ rfl
      rw [e0]
      unfold swapsWith
      have h2 : X.env.kindOf x = some .cell := (h.ce x hk).1
      have h3 : ((some NameKind.cell : Option NameKind) == some .local) = false := by decide
      simp only [h2, h3, Bool.and_false, Bool.false_and]
    · exact ss_err
  · split
    · exact ss_err
    · rename_i hs
      rw [not_or, not_or] at hs
      have h1 : isStar tg = false := by simpa using hs.1
      have h2 : isComp e = false ∨ isNm tg = false := by
        have := hs.2.1
        rw [Classical.not_and_iff_not_or_not] at this
        simpa using this
      have h3 : isLst tg = false := by simpa using hs.2.2
      rename_i hno1 hno2
      refine asg_any hv h h1 (by
        rw [swapsWithSole]
        rcases h2 with h2 | h2
        · exact swaps_no h2
        · exact swaps_tg h2) ?_
      unfold swappedStores
      cases tg <;> first
        | rfl
        | (cases e <;> first | rfl | exact (hno1 _ _ _ _ _ _ rfl rfl).elim | cases h3)
theorem try_core {K : PySem.W.Frag} {m : SS} {D : Ends} {σ : S} {H : Hp} (h : tS K W (sTryN m) D σ H) : tS K noX m D σ H := by
  obtain ⟨B, io, R, s, rep, rs, p⟩ := h
  refine ⟨B, io, R, s, rep, rs, ?_⟩
  unfold sTryN at p
  revert p
  cases m s R with
  | exc _ _ _ _ => exact fun p => p.elim
  | err => exact fun p => p
  | nx _ _ => exact fun p => p
  | rt _ _ => exact fun p => p
  | bk _ _ => exact fun p => p
  | ct _ _ => exact fun p => p
theorem sAugN_ok (hv : Sound v) (h : XOk C X W) (tg : Expr) (op : Operator) (e : Expr) (pos : Pos) : PS X (.AugAssign tg op e pos) (tS X.K W (sAugN v C tg op e)) := by
  unfold sAugN
  split
  · split
    · rename_i i p ei ep
      obtain ⟨h1, h2, h3⟩ := h.ownOk ei
      exact ss_aug (by rw [h.N]; exact h.nd) h1 h2 h3 (augP_ok ep) (hv.E h e)
    · exact ss_err
  · exact ss_err
theorem sAttrN_ok (hv : Sound v) (h : XOk C X W) (o : Expr) (f : Str) (p : Pos) (e : Expr) (pos : Pos) : PS X (.Assign [.Attribute o f p] e pos) (tS X.K W (sAttrN v C o f e)) := by
  unfold sAttrN
  split
  · rename_i n en
    refine ss_setF (fun c n hk => ?_) ?_ (hv.E h o) (hv.E h e) (swaps_tg rfl)
    · obtain ⟨p, hp, hq⟩ := List.any_eq_true.mp hk
      obtain ⟨r, hr, rfl⟩ := List.mem_map.mp hp
      rw [Bool.and_eq_true] at hq
      have h1 : r.c = c := of_decide_eq_true hq.1
      have h2 : n ∈ r.ats := of_decide_eq_true hq.2
      rw [← h1]
      exact h.fa.at_ r hr n h2
    · have := idxN_ok en
      unfold atN
      rw [List.getD_eq_getElem?_getD, this]
      rfl
  · exact ss_err
theorem stepS_ok (hv : Sound v) (h : XOk C X W) (st : Stmt) : PS X st (tS X.K W (stepS v C st)) := by
  unfold stepS
  split
  · exact ss_retN
  · exact ss_ret (hv.E h _)
  · split
    · exact ss_err
    · rename_i hs
      exact ss_expr (hv.E h _) (swaps_no (by simpa using hs))
  · exact sAttrN_ok hv h _ _ _ _ _
  · exact sAsgN_ok hv h _ _ _
  · exact sAugN_ok hv h _ _ _ _
  · exact ss_if (hv.B h _) (eSs_ok hv h _) (eSs_ok hv h _)
  · split
    · exact ss_err
    · rename_i hs
      exact ss_for h.po h.calm (hv.I h _ _) (hv.G h _ _) (eSs_ok hv h _) (fold_id (by simpa using hs))
  · exact ss_while h.po (hv.B h _) (eSs_ok hv h _)
  · exact ss_pass
  · exact ss_break
  · exact ss_continue
  · exact (ps_try_thru0 (eSs_ok hv h.nox _)).imp fun D σ H h => try_core h
  · exact ss_err
end
def step (v : Ev) : Ev := ⟨stepE v, stepB v, stepG v, stepI v, stepS v⟩
def ev0 : Ev := ⟨fun _ _ => cErr, fun _ _ => bErr, fun _ _ _ => gErr, fun _ _ _ => iErr, fun _ _ => sErr⟩
def ev : Nat → Ev
  | 0 => ev0
  | n + 1 => step (ev n)
theorem ev_ok : ∀ n : Nat, Sound (ev n)
  | 0 => ⟨fun _ _ => se_err, fun _ _ => sb_err, fun _ _ _ => sg_err, fun _ _ _ => si_err, fun _ _ => ss_err⟩
  | n + 1 => ⟨fun h e => stepE_ok (ev_ok n) h e, fun h e => stepB_ok (ev_ok n) h e, fun h ws e => stepG_ok (ev_ok n) h e, fun h tg e => stepI_ok (ev_ok n) h tg e, fun h st => stepS_ok (ev_ok n) h st⟩
end Om
/-! Om, part Q: the defs of a text. -/
namespace Om
open PySem PySem.Spec PyProof.Rows L2 RZ
structure Fi where
  nm : Str
  qual : Str
  ps : List Str
  N : List Str
  dfl : List D
  live : Bool
  /-- called one level below: __init__, __eq__ -/
  low : Bool
  body : List Stmt
  scope : Scope
  mu : Pos → Bool
def cnOf (glob : List (Str × Gi)) (st : Sc) (call : Str → SF) (fi : Fi) : Cn := ⟨fi.N, fi.scope, glob, st, call, fi.mu, true⟩
abbrev EVN : Nat := 60
/-- a def's body, by what its calls compute -/
def bodyF (glob : List (Str × Gi)) (st : Sc) (call : Str → SF) (fi : Fi) : SS := eSs (ev EVN) (cnOf glob st call fi) fi.body
def runF (glob : List (Str × Gi)) (st : Sc) (call : Str → SF) (fi : Fi) : SF := fun ds R =>
  if ds.length = fi.ps.length then fin fi.live R (bodyF glob st call fi (ds ++ List.replicate (fi.N.length - fi.ps.length) .undef) R) else .err
def findF : List Fi → Str → Option Fi
  | [], _ => none
  | fi :: r, x => if fi.nm = x then some fi else findF r x
theorem findF_nm : ∀ {T : List Fi} {x : Str} {fi : Fi}, findF T x = some fi → fi.nm = x
  | [], _, _, h => by cases h
  | g :: r, x, fi, h => by
    unfold findF at h
    split at h
    · rename_i e
      cases h
      exact e
    · exact findF_nm h
/-- which def a name calls, at which level -/
def lowF (T : List Fi) (x : Str) : Bool := match findF T x with
  | some fi => fi.low
  | none => false
def errF : Str → SF := fun _ _ _ => .err
def callQ (glob : List (Str × Gi)) (st : Sc) (T : List Fi) : Nat → (Str → SF) × (Str → SF)
  | 0 => (errF, errF)
  | k + 1 => (match k with
    | 0 => errF
    | _ + 1 => fun x => match findF T x with
      | some fi => runF glob st (fun y => if lowF T y = true then (callQ glob st T k).2 y else (callQ glob st T k).1 y) fi
      | none => fun _ _ => .err, (callQ glob st T k).1)
def callF (glob : List (Str × Gi)) (st : Sc) (T : List Fi) (k : Nat) : Str → SF := (callQ glob st T k).1
/-- .. from within a body of the level k + 1 -/
def callW (glob : List (Str × Gi)) (st : Sc) (T : List Fi) (k : Nat) (y : Str) : SF := if lowF T y = true then (callQ glob st T k).2 y else (callQ glob st T k).1 y
theorem callF_run {glob : List (Str × Gi)} {st : Sc} {T : List Fi} {k : Nat} {x : Str} {fi : Fi} (e : findF T x = some fi) : callF glob st T (k + 2) x = runF glob st (callW glob st T (k + 1)) fi := by
  show (match findF T x with
    | some fi => runF glob st (callW glob st T (k + 1)) fi
    | none => fun _ _ => .err) = _
  rw [e]
theorem callW_std {glob : List (Str × Gi)} {st : Sc} {T : List Fi} {k : Nat} {y : Str} (h : lowF T y = false) : callW glob st T k y = callF glob st T k y := by
  unfold callW
  rw [h]
  rfl
theorem callW_low {glob : List (Str × Gi)} {st : Sc} {T : List Fi} {k : Nat} {y : Str} (h : lowF T y = true) : callW glob st T (k + 1) y = callF glob st T k y := by
  unfold callW
  rw [if_pos h]
  rfl
section
variable {P : Program} {w : World} {K : PySem.W.Frag} {mg : Str → Option Value} {base : Heap} {glob : List (Str × Gi)} {st : Sc} {T : List Fi}
/-- what the head tells of a def that stands at f -/
structure FiD (K : PySem.W.Frag) (fi : Fi) (f : Addr) : Prop where
  sc : FnScope fi.N fi.ps fi.scope
  ex : ∃ fd x params dvs kws, FunD K x fi.qual params fi.body fi.scope dvs kws f fd ∧
    ∀ m, m ≤ fi.ps.length → fi.ps.length ≤ m + fi.dfl.length → ∃ dvs' ds, (∀ bar io H, RDs K bar io H (fi.dfl.drop (m + fi.dfl.length - fi.ps.length)) dvs') ∧ Vals dvs' ds ∧ Binds K fd fi.ps ds
structure FiOk (K : PySem.W.Frag) (mg : Str → Option Value) (fi : Fi) : Prop where
  nd : (fi.nm == ("__debug__" : Str)) = false
  ex : ∃ f, FiD K fi f ∧ mg fi.nm = some (.ref f)
def GlOk (K : PySem.W.Frag) (mg : Str → Option Value) (T : List Fi) (x : Str) (g : Gi) : Prop := match g with
  | .con d => (x == ("__debug__" : Str)) = false ∧ ∃ u v, mg x = some u ∧ RelV v u ∧ ∀ bar io H, RD K bar io H d v
  | .blt => mg x = none
  | .fn n dfl => ∃ fi, findF T x = some fi ∧ FiOk K mg fi ∧ fi.ps.length = n ∧ fi.dfl = dfl ∧ fi.low = false
  | .cls c n dfl => (x == ("__debug__" : Str)) = false ∧ mg x = some (.ref (cA K c)) ∧ Mk K (cA K c) (mA K c "__init__") ∧ ∃ fi, findF T (mkey c "__init__") = some fi ∧ FiD K fi (mA K c "__init__") ∧ fi.ps.length = n + 1 ∧ fi.dfl = dfl ∧ fi.low = true
/-- methods, own == -/
structure MsAll (K : PySem.W.Frag) (st : Sc) (T : List Fi) : Prop where
  fa : Facts K st.cr st.eqs st.kit
  ms : ∀ m c n dfl, (m, c, n, dfl) ∈ st.ms → Meth K (cA K c) m (mA K c m) ∧ Cls K (cA K c) ∧ ∃ fi, findF T (mkey c m) = some fi ∧ FiD K fi (mA K c m) ∧ fi.ps.length = n ∧ fi.dfl = dfl ∧ fi.low = false
  eq : ∀ p, p ∈ st.eqs → ∃ fi, findF T (mkey p.1 "__eq__") = some fi ∧ FiD K fi (mA K p.1 "__eq__") ∧ fi.ps.length = 2 ∧ fi.dfl = [] ∧ fi.low = true
theorem callF_len {k : Nat} {x : Str} {fi : Fi} (e : findF T x = some fi) (ds : List D) (R : Rg) (h : ds.length ≠ fi.ps.length) : callF glob st T k x ds R = .err := by
  match k with
  | 0 => rfl
  | 1 => rfl
  | k + 2 =>
    rw [callF_run e]
    exact if_neg h
theorem start_rs {bar : Addr → Prop} {io : Io} {H : Hp} {N : List Str} {n : Nat} : ∀ {ds : List D} {vs : List V}, RDs K bar io H ds vs → ds.length = n → n ≤ N.length → RS K bar io H (ds ++ List.replicate (N.length - n) .undef) (L2.start N vs) := by
  intro ds vs rd hn hN
  have hl := rd.len
  refine ⟨?_, fun i d e => ?_⟩
  · unfold L2.start
    simp only [List.length_append, List.length_replicate, List.length_map]
    omega
  · by_cases hi : i < ds.length
    · rw [List.getElem?_append_left hi] at e
      obtain ⟨v, ev, rv⟩ := rds_at rd e
      refine ⟨some v, ?_, .inr ⟨v, rfl, rv⟩⟩
      unfold L2.start
      rw [List.getElem?_append_left (by rw [List.length_map]; omega), List.getElem?_map, ev]
      rfl
    · rw [List.getElem?_append_right (by omega)] at e
      have hlt := (List.getElem?_eq_some_iff.mp e).1
      rw [List.length_replicate] at hlt
      rw [List.getElem?_replicate, if_pos hlt] at e
      cases e
      refine ⟨none, ?_, .inl rfl⟩
      unfold L2.start
      rw [List.getElem?_append_right (by rw [List.length_map]; omega), List.length_map, List.getElem?_replicate, if_pos (by omega)]
theorem sp_len {n : Nat} {F : SF} {vs : List V} {H : Hp} {Q : VK} {E : XK} (h : spF K n F vs H Q E) : vs.length = n := by
  obtain ⟨B, io, R, ds, rep, rd, hl, _⟩ := h
  rw [← rd.len, hl]
theorem sp_err {n : Nat} {x : Str} {f : Addr} {fd : FuncData} {ps : List Str} {k : Nat} (hn : n = ps.length) : FnOk P w K mg base (CX P w) k f fd ps (spF K n (errF x)) := by
  subst hn
  exact ⟨fun vs H Q E h => sp_len h, fun A outer s H args us vs Q E hr he hbi hv hs => by
    obtain ⟨_, _, _, _, _, _, _, p⟩ := hs
    exact p.elim⟩
def FnAll (P : Program) (w : World) (K : PySem.W.Frag) (mg : Str → Option Value) (base : Heap) (glob : List (Str × Gi)) (st : Sc) (T : List Fi) (k : Nat) : Prop := ∀ (x : Str) (fi : Fi), findF T x = some fi → FnScope fi.N fi.ps fi.scope → ∀ {f : Addr} {fd : FuncData} {y : Str} {params : Arguments} {dvs : List V} {kws : List (Str × V)}, FunD K y fi.qual params fi.body fi.scope dvs kws f fd →
    FnOk P w K mg base (CX P w) k f fd fi.ps (spF K fi.ps.length (callF glob st T k x))
theorem df_of {k : Nat} (A : FnAll P w K mg base glob st T k) {x : Str} {fi : Fi} (e : findF T x = some fi) {f : Addr} (d : FiD K fi f) : DfOk P w K mg base (callF glob st T k x) fi.ps.length fi.dfl k f := by
  obtain ⟨fd, y, pr, dv, kw, F, hb⟩ := d.ex
  exact ⟨⟨fd, fi.ps, A x fi e d.sc F, hb⟩, fun ds R hl => callF_len e ds R hl⟩
theorem fn_step (hg : ∀ x g, glob.lookup x = some g → GlOk K mg T x g) (hm : MsAll K st T) {k : Nat} (A0 : FnAll P w K mg base glob st T k) (A1 : FnAll P w K mg base glob st T (k + 1)) : FnAll P w K mg base glob st T (k + 2) := by
  intro x fi e sc f fd _ _ _ _ F
  refine F.ok sc (fun vs H Q E h => sp_len h) fun cdv A outer s H vs Q E hr hsp => ?_
  rw [callF_run e] at hsp
  have std : ∀ {z : Str} {fi2 : Fi}, findF T z = some fi2 → fi2.low = false → callW glob st T (k + 1) z = callF glob st T (k + 1) z := fun e2 hl => callW_std (by unfold lowF; rw [e2]; exact hl)
  have low : ∀ {z : Str} {fi2 : Fi}, findF T z = some fi2 → fi2.low = true → callW glob st T (k + 1) z = callF glob st T k z := fun e2 hl => callW_low (by unfold lowF; rw [e2]; exact hl)
  have hX : XOk (cnOf glob st (callW glob st T (k + 1)) fi) (cxOf (CX P w) P w K mg base fi.N fi.qual fi.scope f cdv A outer s H E) (fun cls d _ H => E cls d H) := {
    N := rfl
    nd := sc.nd
    kf := sc.kind
    lo := fun _ h => h
    ce := fun _ h => ⟨h, rfl⟩
    fr := fun _ h => .inr h
    gi := fun _ h => h
    top := fun _ _ => rfl
    calm := rfl
    hu := by
      have := hr.un
      show (A.deeper (envOfC fi.qual fi.scope s.heap.objs.size f cdv)).units + 65 < cLine
      omega
    tk := takes_of rfl rfl rfl rfl
    po := passes_of rfl
    fa := hm.fa
    ms := fun m c n dfl h => by
      obtain ⟨q1, q2, fi2, e2, d2, e3, e4, e5⟩ := hm.ms m c n dfl h
      subst e3 e4
      refine ⟨q1, q2, k + 1, ?_, hr⟩
      show DfOk P w K mg base (callW glob st T (k + 1) (mkey c m)) fi2.ps.length fi2.dfl (k + 1) (mA K c m)
      rw [std e2 e5]
      exact df_of A1 e2 d2
    eq := ⟨fun c c' G hG => by
      unfold eqF at hG
      split at hG
      · rename_i hin
        cases hG
        obtain ⟨fi2, e2, d2, e3, e4, e5⟩ := hm.eq _ hin
        have D := df_of A0 e2 d2
        rw [e3, e4] at D
        obtain ⟨fd2, ps2, F2, hb⟩ := D.ex
        obtain ⟨dvs, ds, r1, r2, r3⟩ := hb 2 (Nat.le_refl _) (by simp)
        have : dvs = [] := by
          have := (r1 (fun _ => False) [] (fun _ => none)).len
          simp at this
          exact List.length_eq_zero_iff.mp this.symm
        subst this
        cases r2
        refine ⟨k, mA K c "__eq__", fd2, ps2, ?_, hm.fa.eq _ hin, r3, hr⟩
        show FnOk P w K mg base (CX P w) k (mA K c "__eq__") fd2 ps2 (spF K 2 (callW glob st T (k + 1) (mkey c "__eq__")))
        rw [low e2 e5]
        exact F2
      · cases hG⟩
    gl := fun z g ez => by
      have q := hg z g ez
      cases g with
      | con d => exact q
      | blt => exact q
      | fn n dfl =>
        obtain ⟨fi2, e2, ok2, e3, e4, e5⟩ := q
        obtain ⟨f2, d2, hm2⟩ := ok2.ex
        obtain ⟨fd2, y2, pr2, dv2, kw2, F2, hb2⟩ := d2.ex
        have en2 : fi2.nm = z := findF_nm e2
        subst e3
        subst e4
        rw [en2] at hm2
        refine ⟨by rw [← en2]; exact ok2.nd, k + 1, f2, fd2, fi2.ps, hm2, F2.kp, ?_, hr, ?_, hb2⟩
        · show FnOk P w K mg base (CX P w) (k + 1) f2 fd2 fi2.ps (spF K fi2.ps.length (callW glob st T (k + 1) z))
          rw [std e2 e5]
          exact A1 z fi2 e2 d2.sc F2
        · show ∀ ds R, ds.length ≠ fi2.ps.length → callW glob st T (k + 1) z ds R = .err
          rw [std e2 e5]
          exact fun ds R hl => callF_len e2 ds R hl
      | cls c n dfl =>
        obtain ⟨q1, q2, q3, fi2, e2, d2, e3, e4, e5⟩ := q
        refine ⟨q1, q2, q3, k, ?_, hr⟩
        show DfOk P w K mg base (callW glob st T (k + 1) (mkey c "__init__")) (n + 1) dfl k (mA K c "__init__")
        rw [low e2 e5, ← e3, ← e4]
        exact df_of A0 e2 d2 }
  refine ⟨_, eSs_ok (ev_ok EVN) hX fi.body, ?_⟩
  obtain ⟨B, io, R, ds, rep, rd, hl, p⟩ := hsp
  unfold runF at p
  rw [if_pos hl] at p
  have hpre : fi.ps.length ≤ fi.N.length := by
    have := congrArg List.length sc.pre
    rw [List.length_take] at this
    omega
  exact ⟨B, io, R, _, rep, start_rs rd hl hpre, fin_ok rep p⟩
theorem fn_two (hg : ∀ x g, glob.lookup x = some g → GlOk K mg T x g) (hm : MsAll K st T) : ∀ k : Nat, FnAll P w K mg base glob st T k ∧ FnAll P w K mg base glob st T (k + 1)
  | 0 => ⟨fun x fi e sc _ _ _ _ _ _ F => sp_err (x := x) rfl, fun x fi e sc _ _ _ _ _ _ F => sp_err (x := x) rfl⟩
  | k + 1 => ⟨(fn_two hg hm k).2, fn_step hg hm (fn_two hg hm k).1 (fn_two hg hm k).2⟩
theorem fn_ok (hg : ∀ x g, glob.lookup x = some g → GlOk K mg T x g) (hm : MsAll K st T) (k : Nat) : FnAll P w K mg base glob st T k := (fn_two hg hm k).1
/-! ### a law -/
theorem int_rds {bar : Addr → Prop} {io : Io} {H : Hp} : ∀ ns : List Int, RDs K bar io H (ns.map D.int) (ns.map V.int)
  | [] => .nil
  | n :: r => .cons (.int n) (int_rds r)
theorem rep_nil {H : Hp} : Rep K (fun _ => False) [] [] H where
  len := rfl
  inj := fun i j p h => by cases h
  bt := fun a h => h.elim
  bd := fun a h => by cases h
  obj := fun i o h => by cases h
theorem law_sp {F : SF} {H : Hp} {a : Addr} {ns : List Int} (h : ∃ R, F [.lst (ns.map .int)] [] = .ok (.bl true) R) (hs : SqL K H a (ns.map V.int)) : spF K 1 F [.ref a] H (fun v _ => v = .bl true) fun _ _ _ => False := by
  obtain ⟨R, e⟩ := h
  have nb : ¬ bars (fun _ => False) [] a := fun z => by
    rcases z with z | z
    · exact z
    · cases z
  refine ⟨fun _ => False, [], [], [.lst (ns.map .int)], rep_nil, .cons (.lst ?_ (int_rds ns)) .nil, rfl, ?_⟩
  · rcases hs with hs | hs
    · exact .inl ⟨nb, hs⟩
    · exact .inr hs
  · rw [e]
    intro io' H' v st rep r
    cases r
    rfl
theorem cx_no {H : Hp} {s s' : Shared} {e : Value} (h : CX P w [] H s (fun _ _ _ => False) e s') : False := by
  obtain ⟨_, _, _, _, _, _, _, _, _, _, _, _, z⟩ := h
  exact z
end
theorem walk_om {l : PySem.W.OpenLaw} {n k : Nat} {q : Program} {loose : List Str} {XP : (Str → Option Value) → Heap → Prop} {YP : World → Heap → Prop} {d : DefRec} {x : Str} (hn : l.most = some n) (hn2 : n ≤ sizeLine) (hdf : d.params.defaults = []) (hr : Room k callerA)
    (F : ∀ (u : World) (m : Str → Option Value) (f : Addr) (h : Heap), YP u h → h.Ns mainGlobals m → m d.name = some (.ref f) → ∃ (K : PySem.W.Frag) (fd : FuncData) (sp : Sp), K.In h ∧ (∀ (s : Shared) (v : Value), BindsTo s fd ⟨[v], []⟩ [(x, v)]) ∧
      (∀ (H : Hp) (a : Addr) (ns : List Int), ns.length ≤ n → SqL K H a (ns.map V.int) → sp [.ref a] H (fun v _ => v = .bl true) fun _ _ _ => False) ∧ ∀ b : Heap, K.In b → b.Ns mainGlobals m → FnOk l.prog u K m b (CX l.prog u) k f fd [x] sp) :
    PySem.W.WalkO q loose XP YP l.row.toRowW d [] (fun f vs => PySem.call f vs) := by
  refine Att.attach_call hn hdf fun u s0 s1 m mb f ob pm cd doc a vs ns G Y g1 g2 g3 g4 g5 g6 g7 g8 => ?_
  obtain ⟨K, fd, sp, h1, h2, h3, h4⟩ := F u m f _ Y G.T.g g4
  exact law_call h1 G.T.g G.T.b G.T.builtins G.T.nolimit g8 g5 g6 (Nat.le_trans g7 hn2) hr h4 h2 (fun H _ h => h3 H a ns g7 h) fun _ _ _ h => cx_no h
end Om
/-! Om, part S: reckoning with what the evaluator computes. -/
namespace Om
open PySem PySem.Spec PyProof.Rows L2 RZ
section
variable {a b c : SE} {k l : SB} {m n : SS} {es : SA} {s : List D} {R : Rg} {x y z : D} {xs ys : List D} {i j : Int}
/-! ### combinators, applied -/
@[simp] theorem a_con : cCon x s R = .ok x R := rfl
@[simp] theorem a_nil : cNil s R = .ok [] R := rfl
@[simp] theorem a_cons : cCons a es s R = (a s R).bind fun d R1 => (es s R1).bind fun ds R2 => .ok (d :: ds) R2 := rfl
@[simp] theorem a_op1 {p : P1} : cOp1 p a s R = (a s R).bind fun x R1 => lift (p x R1) := rfl
@[simp] theorem a_op2 {p : P2} : cOp2 p a b s R = (a s R).bind fun x R1 => (b s R1).bind fun y R2 => lift (p x y R2) := rfl
@[simp] theorem a_opN {p : PN} : cOpN p es s R = (es s R).bind fun xs R1 => lift (p xs R1) := rfl
@[simp] theorem a_if : cIf k a b s R = (k s R).bind fun t R1 => if t = true then a s R1 else b s R1 := rfl
@[simp] theorem a_and : cAndT a b s R = (a s R).bind fun x R1 => match truD R1 x with
  | some true => b s R1
  | some false => .ok x R1
  | none => .err := rfl
@[simp] theorem a_or : cOrT a b s R = (a s R).bind fun x R1 => match truD R1 x with
  | some true => .ok x R1
  | some false => b s R1
  | none => .err := rfl
@[simp] theorem a_not : cNotT a s R = (a s R).bind fun x R1 => match truD R1 x with
  | some k => .ok (.bl (!k)) R1
  | none => .err := rfl
@[simp] theorem a_val : bVal a s R = (a s R).bind fun x R1 => match truD R1 x with
  | some k => .ok k R1
  | none => .err := rfl
@[simp] theorem a_bof : bOf a s R = (a s R).bind fun x R1 => match x with
  | .bl k => .ok k R1
  | _ => .err := rfl
@[simp] theorem a_bnot : bNot k s R = (k s R).bind fun t R1 => .ok (!t) R1 := rfl
@[simp] theorem a_band : bAnd k l s R = (k s R).bind fun t R1 => if t = true then l s R1 else .ok false R1 := rfl
@[simp] theorem a_bor : bOr k l s R = (k s R).bind fun t R1 => if t = true then .ok true R1 else l s R1 := rfl
@[simp] theorem a_tup : cTup es s R = (es s R).bind fun xs R1 => if xs.length ≤ LINE then .ok (.tup xs) R1 else .err := rfl
@[simp] theorem a_lst {t : Bool} : cLst t es s R = (es s R).bind fun xs R1 => lift (mkL t xs R1) := rfl
@[simp] theorem a_dnew {t : Bool} : cDNew t s R = lift (mkK t [] R) := rfl
@[simp] theorem a_ch {p q : P2} : cCh p q a b c s R = (a s R).bind fun x R1 => (b s R1).bind fun y R2 => (lift (p x y R2)).bind fun z R3 => match z with
  | .bl true => (c s R3).bind fun w R4 => lift (q y w R4)
  | .bl false => .ok (.bl false) R3
  | _ => .err := rfl
@[simp] theorem a_call {F : SF} {dfl : List D} : cCall F dfl es s R = (es s R).bind fun ds R1 => F (ds ++ dfl) R1 := rfl
@[simp] theorem a_lift {A : Type} {t : A} : lift (some (t, R)) = .ok t R := rfl
@[simp] theorem a_lift0 {A : Type} : lift (none : Option (A × Rg)) = .err := rfl
theorem a_seq : sSeq m n s R = match m s R with
  | .nx s1 R1 => n s1 R1
  | o => o := rfl
@[simp] theorem a_pass : sPass s R = .nx s R := rfl
@[simp] theorem a_brk : sBrk s R = .bk s R := rfl
@[simp] theorem a_cont : sCont s R = .ct s R := rfl
@[simp] theorem a_err : sErr s R = .err := rfl
@[simp] theorem a_bind_ok {A : Type} {t : A} {f : A → Rg → Out} : sBind (.ok t R) s f = f t R := rfl
@[simp] theorem a_bind_err {A : Type} {f : A → Rg → Out} : sBind (.err : Res A) s f = .err := rfl
@[simp] theorem a_ret : sRet a s R = sBind (a s R) s fun d R1 => .rt d R1 := rfl
@[simp] theorem a_retN : sRetN s R = .rt .non R := rfl
@[simp] theorem a_expr : sExpr a s R = sBind (a s R) s fun _ R1 => .nx s R1 := rfl
@[simp] theorem a_asg {g : SG} : sAsg a g s R = sBind (a s R) s fun d R1 => sGo g d s R1 := rfl
@[simp] theorem a_go {i : Nat} : sGo (gVar i) x s R = .nx (s.set i x) R := rfl
theorem a_sif : sIf k m n s R = sBind (k s R) s fun t R1 => if t = true then m s R1 else n s R1 := rfl
@[simp] theorem a_tryN : sTryN m s R = match m s R with
  | .exc _ _ _ _ => .err
  | o => o := rfl
@[simp] theorem a_gvar {i : Nat} : gVar i x s R = .ok (s.set i x) R := rfl
theorem a_var {i : Nat} (h : s[i]? = some x) (hu : x ≠ .undef) : cVar i s R = .ok x R := by
  unfold cVar
  rw [h]
  cases x <;> first | rfl | exact absurd rfl hu
theorem v_int {i : Nat} {n : Int} (h : s[i]? = some (.int n)) : cVar i s R = .ok (.int n) R := a_var h (by simp)
theorem v_tup {i : Nat} (h : s[i]? = some (.tup xs)) : cVar i s R = .ok (.tup xs) R := a_var h (by simp)
theorem v_lst {i : Nat} (h : s[i]? = some (.lst xs)) : cVar i s R = .ok (.lst xs) R := a_var h (by simp)
theorem v_ref {i n : Nat} (h : s[i]? = some (.ref n)) : cVar i s R = .ok (.ref n) R := a_var h (by simp)
theorem v_bl {i : Nat} {t : Bool} (h : s[i]? = some (.bl t)) : cVar i s R = .ok (.bl t) R := a_var h (by simp)
theorem v_non {i : Nat} (h : s[i]? = some .non) : cVar i s R = .ok .non R := a_var h (by simp)
theorem v_str {i : Nat} {t : List Nat} (h : s[i]? = some (.str t)) : cVar i s R = .ok (.str t) R := a_var h (by simp)
def isU : D → Bool
  | .undef => true
  | _ => false
def look : List D → Nat → D
  | [], _ => .undef
  | x :: _, 0 => x
  | _ :: s, n + 1 => look s n
theorem look_eq : ∀ (s : List D) (i : Nat), look s i = (s[i]?).getD .undef
  | [], i => by simp [look]
  | x :: s, 0 => rfl
  | x :: s, n + 1 => by
    rw [look, look_eq s n]
    rfl
@[simp low] theorem a_cvar {i : Nat} : cVar i s R = if isU (look s i) = true then .err else .ok (look s i) R := by
  unfold cVar
  rw [look_eq]
  cases s[i]? with
  | none => rfl
  | some d => cases d <;> rfl
@[simp] theorem look_zero : look (x :: xs) 0 = x := rfl
@[simp] theorem look_succ {n : Nat} : look (x :: xs) (n + 1) = look xs n := rfl
@[simp] theorem u_int : isU (.int i) = false := rfl
@[simp] theorem u_bl {t : Bool} : isU (.bl t) = false := rfl
@[simp] theorem u_non : isU .non = false := rfl
@[simp] theorem u_tup : isU (.tup xs) = false := rfl
@[simp] theorem u_lst : isU (.lst xs) = false := rfl
@[simp] theorem u_dct {t : List (D × D)} : isU (.dct t) = false := rfl
@[simp] theorem u_ref {t : Nat} : isU (.ref t) = false := rfl
@[simp] theorem u_str {t : List Nat} : isU (.str t) = false := rfl
@[simp] theorem u_byt {t : List UInt8} : isU (.byt t) = false := rfl
@[simp] theorem u_ins {c : Nat} {t : List (Nat × D)} : isU (.ins c t) = false := rfl
/-! ### operators on whole numbers and truths -/
@[simp] theorem t_bl {t : Bool} : truD R (.bl t) = some t := rfl
@[simp] theorem t_int : truD R (.int i) = some (i != 0) := rfl
@[simp] theorem p_add {t : Bool} : addD t (.int i) (.int j) R = some (.int (i + j), R) := rfl
@[simp] theorem p_sub : subD (.int i) (.int j) R = some (.int (i - j), R) := rfl
theorem p_mul {t : Bool} (h : mulOk i j = true) : mulD t (.int i) (.int j) R = some (.int (i * j), R) := if_pos h
theorem p_mod (h : 0 < j) : modD (.int i) (.int j) R = some (.int (i % j), R) := by
  show (if 0 < j then _ else _) = _
  rw [if_pos h]
theorem pure_lst : pureD (.lst xs) = pureDs xs := by simp only [pureD]
theorem pure_tup : pureD (.tup xs) = pureDs xs := by simp only [pureD]
theorem snap_pure (h : pureD x = true) : snapD R x = some x := if_pos h
theorem p_eq {neg : Bool} (h1 : pureD x = true) (h2 : pureD y = true) (h3 : eqOk 12 x = true) (h4 : eqOk 12 y = true) : eqD' neg x y R = some (.bl (decide (x = y) != neg), R) := by
  have e : eqD R x y = some (decide (x = y)) := by
    have go : (match snapD R x, snapD R y with
      | some a, some b => if eqOk 12 a = true ∧ eqOk 12 b = true then some (decide (a = b)) else none
      | _, _ => none) = some (decide (x = y)) := by
      rw [snap_pure h1, snap_pure h2]
      exact if_pos ⟨h3, h4⟩
    cases x <;> cases y <;> first
      | exact go
      | (simp [eqOk] at h3; done)
      | (simp [eqOk] at h4; done)
  unfold eqD'
  rw [e]
@[simp] theorem p_eq_int {neg : Bool} : eqD' neg (.int i) (.int j) R = some (.bl (decide (i = j) != neg), R) := by
  rw [p_eq rfl rfl rfl rfl]
  simp
theorem p_lt {o : LtOp} (h1 : pureD x = true) (h2 : pureD y = true) (h3 : eqOk 12 x = true) (h4 : eqOk 12 y = true) (h5 : ltOk x y = true) (h6 : ltOk y x = true) : ltD' o x y R = some (.bl (ltR o x y), R) := by
  unfold ltD'
  rw [snap_pure h1, snap_pure h2]
  exact if_pos ⟨h3, h4, h5, h6⟩
@[simp] theorem p_lt_int : ltD' .lt (.int i) (.int j) R = some (.bl (decide (i < j)), R) := p_lt rfl rfl rfl rfl rfl rfl
@[simp] theorem p_gt_int : ltD' .gt (.int i) (.int j) R = some (.bl (decide (j < i)), R) := p_lt rfl rfl rfl rfl rfl rfl
@[simp] theorem p_le_int : ltD' .le (.int i) (.int j) R = some (.bl (decide (i ≤ j)), R) := by
  rw [p_lt rfl rfl rfl rfl rfl rfl]
  show some (D.bl (!decide (j < i)), R) = _
  by_cases h : i ≤ j
  · rw [decide_eq_true h, decide_eq_false (by omega)]; rfl
  · rw [decide_eq_false h, decide_eq_true (by omega)]; rfl
@[simp] theorem p_ge_int : ltD' .ge (.int i) (.int j) R = some (.bl (decide (j ≤ i)), R) := by
  rw [p_lt rfl rfl rfl rfl rfl rfl]
  show some (D.bl (!decide (i < j)), R) = _
  by_cases h : j ≤ i
  · rw [decide_eq_true h, decide_eq_false (by omega)]; rfl
  · rw [decide_eq_false h, decide_eq_true (by omega)]; rfl
@[simp] theorem p_int : intD [.int i] R = some (.int i, R) := rfl
@[simp] theorem p_len_lst : lenD [.lst xs] R = some (.int xs.length, R) := rfl
@[simp] theorem p_len_tup : lenD [.tup xs] R = some (.int xs.length, R) := rfl
@[simp] theorem p_tuple_lst : tupleD [.lst xs] R = some (.tup xs, R) := rfl
@[simp] theorem p_tuple_tup : tupleD [.tup xs] R = some (.tup xs, R) := rfl
theorem isi_of {t u : String} {k : Bool} (h : tyD R x = some t) (hk : kitB t u = some k) : isiD [x, .ty u] R = some (.bl k, R) := by
  show (match tyD R x, D.ty u with
    | some a, .ty b => (kitB a b).map fun k => (D.bl k, R)
    | _, _ => none) = _
  rw [h]
  show (kitB t u).map _ = _
  rw [hk]
  rfl
@[simp] theorem isi_ii : isiD [.int i, .ty "int"] R = some (.bl true, R) := isi_of (t := "int") rfl (by decide +kernel)
@[simp] theorem isi_ib : isiD [.int i, .ty "bool"] R = some (.bl false, R) := isi_of (t := "int") rfl (by decide +kernel)
@[simp] theorem isi_tt : isiD [.tup xs, .ty "tuple"] R = some (.bl true, R) := isi_of (t := "tuple") rfl (by decide +kernel)
@[simp] theorem isi_ll : isiD [.lst xs, .ty "list"] R = some (.bl true, R) := isi_of (t := "list") rfl (by decide +kernel)
@[simp] theorem isi_lt : isiD [.lst xs, .ty "tuple"] R = some (.bl false, R) := isi_of (t := "list") rfl (by decide +kernel)
@[simp] theorem isi_tl : isiD [.tup xs, .ty "list"] R = some (.bl false, R) := isi_of (t := "tuple") rfl (by decide +kernel)
/-- a place of a tuple, of a list -/
@[simp] theorem ix_tup {n : Nat} (h : xs[n]? = some x) : ixD (.tup xs) (.int (n : Int)) R = some (x, R) := by
  have hn := (List.getElem?_eq_some_iff.mp h).1
  have e : atI xs ((n : Nat) : Int) = some x := by
    unfold atI ixN
    rw [if_pos (by omega), if_pos (by omega)]
    simpa using h
  show (atI xs ((n : Nat) : Int)).map (fun d => (d, R)) = _
  rw [e]
  rfl
@[simp] theorem ix_lst {n : Nat} (h : xs[n]? = some x) : ixD (.lst xs) (.int (n : Int)) R = some (x, R) := by
  have hn := (List.getElem?_eq_some_iff.mp h).1
  have e : atI xs ((n : Nat) : Int) = some x := by
    unfold atI ixN
    rw [if_pos (by omega), if_pos (by omega)]
    simpa using h
  show (atI xs ((n : Nat) : Int)).map (fun d => (d, R)) = _
  rw [e]
  rfl
@[simp] theorem ix_tup0 : ixD (.tup (x :: xs)) (.int 0) R = some (x, R) := ix_tup (n := 0) rfl
@[simp] theorem ix_tup1 : ixD (.tup (y :: x :: xs)) (.int 1) R = some (x, R) := ix_tup (n := 1) rfl
@[simp] theorem ix_tup2 : ixD (.tup (y :: z :: x :: xs)) (.int 2) R = some (x, R) := ix_tup (n := 2) rfl
theorem ix_ref {n r : Nat} (hr : R[r]? = some (.lst xs)) (h : xs[n]? = some x) : ixD (.ref r) (.int (n : Int)) R = some (x, R) := by
  have hn := (List.getElem?_eq_some_iff.mp h).1
  have e : atI xs ((n : Nat) : Int) = some x := by
    unfold atI ixN
    rw [if_pos (by omega), if_pos (by omega)]
    simpa using h
  have e1 : dctOf R (.ref r) = none := by rw [dctOf_ref, hr]
  have e2 : seqOf R (.ref r) = some xs := by
    show lstOf R (.ref r) = _
    rw [lstOf_ref, hr]
  show (match dctOf R (.ref r) with
    | some ks => if keyOk (.int (n : Int)) = true then (lookD ks (.int (n : Int))).map fun d => (d, R) else none
    | none => match seqOf R (.ref r), D.int (n : Int) with
      | some xs, .int i => (atI xs i).map fun d => (d, R)
      | _, _ => none) = _
  rw [e1, e2]
  show (atI xs ((n : Nat) : Int)).map (fun d => (d, R)) = _
  rw [e]
  rfl
/-- the end of a def that leaves the region as it found it -/
theorem fin_pure (h : pureD x = true) : fin false R (.rt x R) = .ok x R := by
  have e1 : frzN R.length R.length R FZ x = some x := by
    show frzN R.length R.length R (7 + 1) x = some x
    unfold frzN
    exact if_pos h
  have e2 : keepR R.length R.length R R = some R := by
    unfold keepR
    rw [List.take_length]
    exact if_pos rfl
  show (match frzN R.length R.length R FZ x, keepR R.length R.length R R with
      | some d', some R1 => .ok d' R1
      | _, _ => .err : Res D) = _
  rw [e1, e2]
theorem fin_none : fin false R (.nx s R) = .ok .non R := by
  have e2 : keepR R.length R.length R R = some R := by
    unfold keepR
    rw [List.take_length]
    exact if_pos rfl
  show (match keepR R.length R.length R R with
    | some R1 => .ok .non R1
    | none => .err : Res D) = _
  rw [e2]
@[simp] theorem fin_bl {t : Bool} : fin false R (.rt (.bl t) R) = .ok (.bl t) R := fin_pure rfl
@[simp] theorem fin_int : fin false R (.rt (.int i) R) = .ok (.int i) R := fin_pure rfl
/-! ### loops over what stands still -/
def goL (g : SG) (m : SS) : List D → List D → Rg → Out
  | [], s, R => .nx s R
  | d :: ds, s, R => match g d s R with
    | .ok s1 R1 => turnO (goL g m ds) (m s1 R1)
    | _ => .err
theorem forL_fix {g : SG} {m : SS} {xs : List D} : ∀ (n i : Nat) (s : List D) (R : Rg), xs.length ≤ i + n → forL g m (fixS xs) n i s R = goL g m (xs.drop i) s R
  | 0, i, s, R, h => by
    rw [List.drop_eq_nil_of_le (by omega), forL]
    show (match (some xs[i]? : Option (Option D)) with
      | some none => Out.nx s R
      | _ => .err) = _
    rw [List.getElem?_eq_none (by omega)]
    rfl
  | n + 1, i, s, R, h => by
    rw [forL]
    show (match (some xs[i]? : Option (Option D)) with
      | none => Out.err
      | some none => .nx s R
      | some (some d) => match g d s R with
        | .ok s1 R1 => turnO (forL g m (fixS xs) n (i + 1)) (m s1 R1)
        | _ => .err) = _
    by_cases hi : i < xs.length
    · rw [List.getElem?_eq_getElem hi, List.drop_eq_getElem_cons hi, goL]
      show (match g xs[i] s R with
        | .ok s1 R1 => turnO (forL g m (fixS xs) n (i + 1)) (m s1 R1)
        | _ => .err) = _
      have ih : forL g m (fixS xs) n (i + 1) = goL g m (xs.drop (i + 1)) := by
        funext s R
        exact forL_fix n (i + 1) s R (by omega)
      rw [ih]
    · rw [List.getElem?_eq_none (by omega), List.drop_eq_nil_of_le (by omega)]
      rfl
theorem for_fix {it : SI} {g : SG} {m : SS} {R1 : Rg} (h : it s R = .ok (fixS xs) R1) (hl : xs.length ≤ FUEL) : sFor it g m s R = goL g m xs s R1 := by
  unfold sFor
  rw [h, a_bind_ok, forL_fix FUEL 0 s R1 (by omega), List.drop_zero]
/-- what a range, an enumeration, a zip walk -/
theorem rng_fix (lo : Int) (n : Nat) : rngS lo n = fixS ((List.range n).map fun i => D.int (lo + (i : Nat))) := by
  funext R i
  unfold rngS fixS
  by_cases h : i < n
  · rw [if_pos h, List.getElem?_map, List.getElem?_range h]
    rfl
  · rw [if_neg h, List.getElem?_eq_none (by simp; omega)]
def enumL : Nat → List D → List D
  | _, [] => []
  | i, x :: xs => .tup [.int i, x] :: enumL (i + 1) xs
theorem enumL_at : ∀ (xs : List D) (k i : Nat), (enumL k xs)[i]? = (xs[i]?).map fun d => .tup [.int ((k + i : Nat) : Int), d]
  | [], k, i => by simp [enumL]
  | x :: xs, k, 0 => by simp [enumL]
  | x :: xs, k, i + 1 => by
    show (enumL (k + 1) xs)[i]? = (xs[i]?).map _
    rw [enumL_at xs (k + 1) i, show k + 1 + i = k + (i + 1) by omega]
theorem enu_fix (xs : List D) : enuS (fixS xs) = fixS (enumL 0 xs) := by
  funext R i
  unfold enuS fixS
  rw [enumL_at]
  cases xs[i]? with
  | none => rfl
  | some d => simp
def zipL : List D → List D → List D
  | x :: xs, y :: ys => .tup [x, y] :: zipL xs ys
  | _, _ => []
theorem zip_fix (xs ys : List D) : zipS (fixS xs) (fixS ys) = fixS (zipL xs ys) := by
  funext R i
  unfold zipS fixS
  show (match (some xs[i]? : Option (Option D)), (some ys[i]? : Option (Option D)) with
    | some (some d), some (some e) => some (some (D.tup [d, e]))
    | some none, some _ => some none
    | some (some _), some none => some none
    | _, _ => none) = some (zipL xs ys)[i]?
  induction xs generalizing ys i with
  | nil => cases ys <;> simp [zipL]
  | cons x xs ih =>
    cases ys with
    | nil =>
      cases i with
      | zero => simp [zipL]
      | succ i =>
        simp only [zipL, List.getElem?_nil, List.getElem?_cons_succ]
        cases xs[i]? <;> rfl
    | cons y ys =>
      cases i with
      | zero => simp [zipL]
      | succ i =>
        simp only [zipL, List.getElem?_cons_succ]
        exact ih ys i
/-! ### comprehensions over what stands still -/
def goC (g : SG) (t : SB) (e : SE) (s0 : List D) : List D → List D → Rg → Option (List D × Rg)
  | [], acc, R => some (acc, R)
  | d :: ds, acc, R => match g d s0 R with
    | .ok s1 R1 => (match t s1 R1 with
      | .ok k R2 => if k = true then (match e s1 R2 with
        | .ok y R3 => if acc.length < LINE then goC g t e s0 ds (acc ++ [y]) R3 else none
        | _ => none) else goC g t e s0 ds acc R2
      | _ => none)
    | _ => none
theorem compL_fix {g : SG} {t : SB} {e : SE} {s0 : List D} {xs : List D} : ∀ (n i : Nat) (acc : List D) (R : Rg), xs.length ≤ i + n → compL g t e (fixS xs) s0 n i acc R = goC g t e s0 (xs.drop i) acc R
  | 0, i, acc, R, h => by
    rw [List.drop_eq_nil_of_le (by omega), compL]
    show (match (some xs[i]? : Option (Option D)) with
      | some none => some (acc, R)
      | _ => none) = _
    rw [List.getElem?_eq_none (by omega)]
    rfl
  | n + 1, i, acc, R, h => by
    rw [compL]
    by_cases hi : i < xs.length
    · have e1 : fixS xs R i = some (some xs[i]) := by
        unfold fixS
        rw [List.getElem?_eq_getElem hi]
      rw [e1, List.drop_eq_getElem_cons hi, goC]
      have ih : ∀ acc R, compL g t e (fixS xs) s0 n (i + 1) acc R = goC g t e s0 (xs.drop (i + 1)) acc R := fun acc R => compL_fix n (i + 1) acc R (by omega)
      simp only [ih] <;> rfl
    · have e1 : fixS xs R i = some none := by
        unfold fixS
        rw [List.getElem?_eq_none (by omega)]
      rw [e1, List.drop_eq_nil_of_le (by omega)]
      rfl
theorem comp_fix {it : SI} {g : SG} {t : SB} {e : SE} {vs : List Nat} {mm : Bool} {R1 : Rg} (h : it s R = .ok (fixS xs) R1) (hl : xs.length ≤ FUEL) : cComp it g t e vs mm s R = lift ((goC g t e (wipeD s vs) xs [] R1).bind fun z => mkL mm z.1 z.2) := by
  unfold cComp
  rw [h, Res.bind_ok, compL_fix FUEL 0 [] R1 (by omega), List.drop_zero]
/-- each thing to a thing, the region as it stands -/
theorem goC_map {g : SG} {t : SB} {e : SE} {s0 : List D} {A : Type} {f : A → D} {w : A → D} {p : A → Bool} : ∀ (as : List A) (acc : List D) (R : Rg), (∀ a ∈ as, ∃ s1, g (f a) s0 R = .ok s1 R ∧ t s1 R = .ok (p a) R ∧ (p a = true → e s1 R = .ok (w a) R)) →
    acc.length + as.length ≤ LINE → goC g t e s0 (as.map f) acc R = some (acc ++ (as.filter p).map w, R)
  | [], acc, R, _, _ => by simp [goC]
  | a :: as, acc, R, h, hl => by
    obtain ⟨s1, h1, h2, h3⟩ := h a List.mem_cons_self
    have hl' : acc.length + (as.length + 1) ≤ LINE := hl
    rw [List.map_cons, goC, h1]
    show (match t s1 R with
      | .ok k R2 => if k = true then (match e s1 R2 with
        | .ok y R3 => if acc.length < LINE then goC g t e s0 (as.map f) (acc ++ [y]) R3 else none
        | _ => none) else goC g t e s0 (as.map f) acc R2
      | _ => none) = _
    rw [h2]
    show (if p a = true then (match e s1 R with
        | .ok y R3 => if acc.length < LINE then goC g t e s0 (as.map f) (acc ++ [y]) R3 else none
        | _ => none) else goC g t e s0 (as.map f) acc R) = _
    cases hp : p a with
    | false =>
      rw [if_neg (by decide), goC_map as acc R (fun b hb => h b (List.mem_cons_of_mem _ hb)) (by omega), List.filter_cons, hp]
      rfl
    | true =>
      rw [if_pos rfl, h3 hp]
      show (if acc.length < LINE then goC g t e s0 (as.map f) (acc ++ [w a]) R else none) = _
      rw [if_pos (by omega), goC_map as (acc ++ [w a]) R (fun b hb => h b (List.mem_cons_of_mem _ hb)) (by rw [List.length_append]; simp; omega), List.filter_cons, hp]
      simp
@[simp] theorem wipeD_nil : wipeD s [] = s := rfl
@[simp] theorem wipeD_cons {i : Nat} {is : List Nat} : wipeD s (i :: is) = (wipeD s is).set i .undef := rfl
theorem line_fuel : LINE ≤ FUEL := by decide
theorem comp_lst {A : Type} {g : SG} {t : SB} {e : SE} {vs : List Nat} {as : List A} {f w : A → D} {p : A → Bool} (h : a s R = .ok (.lst (as.map f)) R) (hl : as.length ≤ LINE)
    (he : ∀ a ∈ as, ∃ s1, g (f a) (wipeD s vs) R = .ok s1 R ∧ t s1 R = .ok (p a) R ∧ (p a = true → e s1 R = .ok (w a) R)) : cComp (iSeq a) g t e vs false s R = .ok (.lst ((as.filter p).map w)) R := by
  have hf := List.length_filter_le p as
  have lf := line_fuel
  rw [comp_fix (xs := as.map f) (R1 := R) (by show (a s R).bind srcD = _; rw [h]; rfl) (by rw [List.length_map]; omega), goC_map as [] R he (by simpa using hl)]
  show lift (mkL false (as.filter p |>.map w) R) = _
  unfold mkL
  rw [if_pos (by rw [List.length_map]; omega), if_neg (by decide)]
  rfl
theorem comp_tup {A : Type} {g : SG} {t : SB} {e : SE} {vs : List Nat} {as : List A} {f w : A → D} {p : A → Bool} (h : a s R = .ok (.tup (as.map f)) R) (hl : as.length ≤ LINE)
    (he : ∀ a ∈ as, ∃ s1, g (f a) (wipeD s vs) R = .ok s1 R ∧ t s1 R = .ok (p a) R ∧ (p a = true → e s1 R = .ok (w a) R)) : cComp (iSeq a) g t e vs false s R = .ok (.lst ((as.filter p).map w)) R := by
  have hf := List.length_filter_le p as
  have lf := line_fuel
  rw [comp_fix (xs := as.map f) (R1 := R) (by show (a s R).bind srcD = _; rw [h]; rfl) (by rw [List.length_map]; omega), goC_map as [] R he (by simpa using hl)]
  show lift (mkL false (as.filter p |>.map w) R) = _
  unfold mkL
  rw [if_pos (by rw [List.length_map]; omega), if_neg (by decide)]
  rfl
theorem comp_src {A : Type} {it : SI} {g : SG} {t : SB} {e : SE} {vs : List Nat} {as : List A} {f w : A → D} {p : A → Bool} (h : it s R = .ok (fixS (as.map f)) R) (hl : as.length ≤ LINE)
    (he : ∀ a ∈ as, ∃ s1, g (f a) (wipeD s vs) R = .ok s1 R ∧ t s1 R = .ok (p a) R ∧ (p a = true → e s1 R = .ok (w a) R)) : cComp it g t e vs false s R = .ok (.lst ((as.filter p).map w)) R := by
  have hf := List.length_filter_le p as
  have lf := line_fuel
  rw [comp_fix (xs := as.map f) (R1 := R) h (by rw [List.length_map]; omega), goC_map as [] R he (by simpa using hl)]
  show lift (mkL false (as.filter p |>.map w) R) = _
  unfold mkL
  rw [if_pos (by rw [List.length_map]; omega), if_neg (by decide)]
  rfl
theorem bools_map {A : Type} (f : A → Bool) : ∀ as : List A, boolsOf (as.map fun a => D.bl (f a)) = some (as.map f)
  | [] => rfl
  | a :: as => by
    show (boolsOf (as.map fun a => D.bl (f a))).map (f a :: ·) = _
    rw [bools_map f as]
    rfl
theorem p_all {A : Type} (f : A → Bool) (as : List A) : allD [.lst (as.map fun a => .bl (f a))] R = some (.bl (as.all f), R) := by
  show (boolsOf (as.map fun a => D.bl (f a))).map (fun bs => (D.bl (bs.all id), R)) = _
  rw [bools_map]
  simp [List.all_map, Function.comp_def]
theorem p_any {A : Type} (f : A → Bool) (as : List A) : anyD [.lst (as.map fun a => .bl (f a))] R = some (.bl (as.any f), R) := by
  show (boolsOf (as.map fun a => D.bl (f a))).map (fun bs => (D.bl (bs.any id), R)) = _
  rw [bools_map]
  simp [List.any_map, Function.comp_def]
/-! ### slices, zips -/
theorem cut_from (n : Nat) : cutD xs (some (n : Int)) none = xs.drop n := by
  unfold cutD
  rw [HT.sIx_nat, HT.sIx_none]
  by_cases h : n ≤ xs.length
  · rw [Nat.min_eq_left h, List.take_of_length_le (by rw [List.length_drop]; omega)]
  · rw [Nat.min_eq_right (by omega), List.drop_eq_nil_of_le (Nat.le_refl _), List.drop_eq_nil_of_le (by omega), List.take_nil]
theorem cut_to (n : Nat) : cutD xs none (some (n : Int)) = xs.take n := by
  unfold cutD
  rw [HT.sIx_nat, HT.sIx_none, List.drop_zero, Nat.sub_zero]
  by_cases h : n ≤ xs.length
  · rw [Nat.min_eq_left h]
  · rw [Nat.min_eq_right (by omega), List.take_length, List.take_of_length_le (by omega)]
theorem sl_tup1 {t : Bool} (h : a s R = .ok (.tup xs) R) : cSl t a (some (cCon (.int 1))) none s R = .ok (.tup (xs.drop 1)) R := by
  unfold cSl
  rw [h]
  show lift (slD t (.tup xs) (some 1) none R) = _
  show lift (some (D.tup (cutD xs (some 1) none), R)) = _
  rw [show (1 : Int) = ((1 : Nat) : Int) from rfl, cut_from]
  rfl
theorem sl_lst1 (h : a s R = .ok (.lst xs) R) (hl : xs.length ≤ LINE) : cSl false a (some (cCon (.int 1))) none s R = .ok (.lst (xs.drop 1)) R := by
  unfold cSl
  rw [h]
  show lift (mkL false (cutD xs (some 1) none) R) = _
  rw [show (1 : Int) = ((1 : Nat) : Int) from rfl, cut_from]
  unfold mkL
  rw [if_pos (by rw [List.length_drop]; omega), if_neg (by decide)]
  rfl
theorem zipL_map {A B : Type} (f : A → D) (g : B → D) : ∀ (as : List A) (bs : List B), zipL (as.map f) (bs.map g) = (as.zip bs).map fun z => .tup [f z.1, g z.2]
  | [], _ => by cases ‹List B› <;> rfl
  | _ :: _, [] => rfl
  | a :: as, b :: bs => by
    show D.tup [f a, g b] :: zipL (as.map f) (bs.map g) = _
    rw [zipL_map f g as bs]
    rfl
/-! ### new things that are changed -/
theorem frz_map (n k f : Nat) (R : Rg) : ∀ {xs : List D}, pureDs xs = true → xs.mapM (frzN n k R f) = some xs
  | [], _ => rfl
  | x :: xs, h => by
    have h' : pureD x = true ∧ pureDs xs = true := by simpa [pureDs] using h
    rw [List.mapM_cons, frz_map n k f R h'.2]
    have e : frzN n k R f x = some x := by
      cases f with
      | zero => exact if_pos h'.1
      | succ f =>
        unfold frzN
        exact if_pos h'.1
    rw [e]
    rfl
theorem keep_take {k : Nat} {R0 R1 : Rg} (h : R1.take R0.length = R0) : keepR R0.length k R0 R1 = some R0 := if_pos h
/-- the end of a def that hands back its own list -/
theorem fin_lst {i : Nat} {R1 : Rg} (hi : R.length ≤ i) (h1 : R1[i]? = some (.lst xs)) (ht : R1.take R.length = R) (hp : pureDs xs = true) : fin false R (.rt (.ref i) R1) = .ok (.lst xs) R := by
  have hl := (List.getElem?_eq_some_iff.mp h1).1
  have e1 : frzN R.length R1.length R1 FZ (.ref i) = some (.lst xs) := by
    show frzN R.length R1.length R1 (7 + 1) (.ref i) = _
    unfold frzN
    rw [if_neg (by simp [pureD])]
    show (if i < R.length then some (D.ref i) else if i = R1.length then none else (match R1[i]? with
      | some (.lst xs) => (xs.mapM (frzN R.length R1.length R1 7)).map D.lst
      | some (.dct ks) => (ks.mapM fun p => (frzN R.length R1.length R1 7 p.2).map fun v => (p.1, v)).map .dct
      | some (.ins c fs) => (fs.mapM fun p => (frzN R.length R1.length R1 7 p.2).map fun v => (p.1, v)).map (.ins c)
      | _ => none)) = _
    rw [if_neg (by omega), if_neg (by omega), h1]
    show (xs.mapM (frzN R.length R1.length R1 7)).map D.lst = _
    rw [frz_map _ _ _ _ hp]
    rfl
  show (match frzN R.length R1.length R1 FZ (.ref i), keepR R.length R1.length R R1 with
      | some d', some R1 => .ok d' R1
      | _, _ => .err : Res D) = _
  rw [e1, keep_take ht]
/-- .. that hands back a tree -/
theorem fin_tree {R1 : Rg} (ht : R1.take R.length = R) (hp : pureD x = true) : fin false R (.rt x R1) = .ok x R := by
  have e1 : frzN R.length R1.length R1 FZ x = some x := by
    show frzN R.length R1.length R1 (7 + 1) x = some x
    unfold frzN
    exact if_pos hp
  show (match frzN R.length R1.length R1 FZ x, keepR R.length R1.length R R1 with
      | some d', some R1 => .ok d' R1
      | _, _ => .err : Res D) = _
  rw [e1, keep_take ht]
/-- .. that hands it back to be changed -/
theorem fin_live {i : Nat} {R1 : Rg} (hi : R.length ≤ i) (h1 : R1[i]? = some (.lst xs)) (ht : R1.take R.length = R) (hp : pureDs xs = true) : fin true R (.rt (.ref i) R1) = .ok (.ref R.length) (R ++ [.lst xs]) := by
  show (if R.length ≤ i then (match R1[i]? with
      | some o => match frzO R.length i R1 o, keepR R.length i R R1 with
        | some o', some R1 => .ok (.ref R.length) (R1 ++ [o'])
        | _, _ => .err
      | none => .err) else .err : Res D) = _
  rw [if_pos hi, h1, keep_take ht]
  show (match (xs.mapM (frzN R.length i R1 FZ)).map O.lst, some R with
    | some o', some R1 => .ok (.ref R.length) (R1 ++ [o'])
    | _, _ => .err : Res D) = _
  rw [frz_map _ _ _ _ hp]
  rfl
@[simp] theorem mkL_new (h : xs.length ≤ LINE) : mkL true xs R = some (.ref R.length, R ++ [.lst xs]) := by
  unfold mkL
  rw [if_pos h, if_pos rfl]
@[simp] theorem mkL_old (h : xs.length ≤ LINE) : mkL false xs R = some (.lst xs, R) := by
  unfold mkL
  rw [if_pos h, if_neg (by decide)]
@[simp] theorem p_list_lst {t : Bool} : listD t [.lst xs] R = mkL t xs R := rfl
@[simp] theorem p_list_tup {t : Bool} : listD t [.tup xs] R = mkL t xs R := rfl
/-- a store at a place of a list -/
theorem set_ref {n r : Nat} (hr : R[r]? = some (.lst xs)) (h : n < xs.length) : setD (.ref r) (.int (n : Int)) x R = some (R.set r (.lst (xs.set n x))) := by
  have e : ixN xs.length ((n : Nat) : Int) = some n := by
    unfold ixN
    rw [if_pos (by omega), if_pos (by omega)]
    simp
  show (match R[r]?, D.int (n : Int) with
    | some (.lst xs), .int k => (ixN xs.length k).map fun j => R.set r (.lst (xs.set j x))
    | some (.dct ks), k => if keyOk k = true ∧ ks.length < LINE then some (R.set r (.dct (setK ks k x))) else none
    | _, _ => none) = _
  rw [hr]
  show (ixN xs.length ((n : Nat) : Int)).map _ = _
  rw [e]
  rfl
theorem go_ix {i : D} {R1 R2 R3 : Rg} (h1 : a s R = .ok y R1) (h2 : b s R1 = .ok i R2) (h3 : setD y i x R2 = some R3) : sGo (gIx a b) x s R = .nx s R3 := by
  have e : gIx a b x s R = .ok s R3 := by
    unfold gIx
    rw [h1, Res.bind_ok, h2, Res.bind_ok, h3]
  unfold sGo
  rw [e]
theorem at_end {o : O} : (R ++ [o])[R.length]? = some o := by simp
theorem set_end {o o' : O} : (R ++ [o]).set R.length o' = R ++ [o'] := by simp
/-- a turn whose target is three names, two names, one name -/
theorem goL_t3 {m : SS} {i1 i2 i3 : Nat} {x1 x2 x3 : D} {ds : List D} : goL (gT 3 (gC (gVar i1) (gC (gVar i2) (gC (gVar i3) gN)))) m (.tup [x1, x2, x3] :: ds) s R = turnO (goL (gT 3 (gC (gVar i1) (gC (gVar i2) (gC (gVar i3) gN)))) m ds) (m (((s.set i1 x1).set i2 x2).set i3 x3) R) := rfl
theorem goL_t2 {m : SS} {i1 i2 : Nat} {x1 x2 : D} {ds : List D} : goL (gT 2 (gC (gVar i1) (gC (gVar i2) gN))) m (.tup [x1, x2] :: ds) s R = turnO (goL (gT 2 (gC (gVar i1) (gC (gVar i2) gN))) m ds) (m ((s.set i1 x1).set i2 x2) R) := rfl
theorem goL_t1 {m : SS} {i1 : Nat} {x1 : D} {ds : List D} : goL (gVar i1) m (x1 :: ds) s R = turnO (goL (gVar i1) m ds) (m (s.set i1 x1) R) := rfl
/-! ### dicts by whole numbers -/
def lookN {A : Type} : List (Nat × A) → Nat → Option A
  | [], _ => none
  | e :: es, p => if e.1 = p then some e.2 else lookN es p
def putN {A : Type} : List (Nat × A) → Nat → A → List (Nat × A)
  | [], p, t => [(p, t)]
  | e :: es, p, t => if e.1 = p then (e.1, t) :: es else e :: putN es p t
def dctN {A : Type} (f : A → D) (es : List (Nat × A)) : List (D × D) := es.map fun e => (.int (e.1 : Int), f e.2)
theorem look_map {A : Type} (f : A → D) (p : Nat) : ∀ es : List (Nat × A), lookD (dctN f es) (.int (p : Int)) = (lookN es p).map f
  | [] => rfl
  | e :: es => by
    show (if D.int (e.1 : Int) = .int (p : Int) then some (f e.2) else lookD (dctN f es) (.int (p : Int))) = _
    unfold lookN
    by_cases h : e.1 = p
    · rw [if_pos (by rw [h]), if_pos h]; rfl
    · rw [if_neg (fun z => h (by have := D.int.inj z; omega)), if_neg h]
      exact look_map f p es
theorem put_map {A : Type} (f : A → D) (p : Nat) (t : A) : ∀ es : List (Nat × A), setK (dctN f es) (.int (p : Int)) (f t) = dctN f (putN es p t)
  | [] => rfl
  | e :: es => by
    show (if D.int (e.1 : Int) = .int (p : Int) then (D.int (e.1 : Int), f t) :: dctN f es else (D.int (e.1 : Int), f e.2) :: setK (dctN f es) (.int (p : Int)) (f t)) = _
    unfold putN
    by_cases h : e.1 = p
    · rw [if_pos (by rw [h]), if_pos h]; rfl
    · rw [if_neg (fun z => h (by have := D.int.inj z; omega)), if_neg h, put_map f p t es]
      rfl
theorem ixd_ref {A : Type} {f : A → D} {es : List (Nat × A)} {p r : Nat} {t : A} (hr : R[r]? = some (.dct (dctN f es))) (h : lookN es p = some t) : ixD (.ref r) (.int (p : Int)) R = some (f t, R) := by
  have e1 : dctOf R (.ref r) = some (dctN f es) := by rw [dctOf_ref, hr]
  show (match dctOf R (.ref r) with
    | some ks => if keyOk (.int (p : Int)) = true then (lookD ks (.int (p : Int))).map fun d => (d, R) else none
    | none => match seqOf R (.ref r), D.int (p : Int) with
      | some xs, .int i => (atI xs i).map fun d => (d, R)
      | _, _ => none) = _
  rw [e1]
  show (if keyOk (.int (p : Int)) = true then (lookD (dctN f es) (.int (p : Int))).map fun d => (d, R) else none) = _
  rw [if_pos (show keyOk (.int (p : Int)) = true from rfl), look_map, h]
  rfl
theorem ind_ref {A : Type} {f : A → D} {es : List (Nat × A)} {p r : Nat} {neg : Bool} (hr : R[r]? = some (.dct (dctN f es))) : inD neg (.int (p : Int)) (.ref r) R = some (.bl ((lookN es p).isSome != neg), R) := by
  have e1 : dctOf R (.ref r) = some (dctN f es) := by rw [dctOf_ref, hr]
  unfold inD
  rw [e1]
  show (if keyOk (.int (p : Int)) = true then some (D.bl (hasD (dctN f es) (.int (p : Int)) != neg), R) else none) = _
  rw [if_pos (show keyOk (.int (p : Int)) = true from rfl)]
  unfold hasD
  rw [look_map]
  cases lookN es p <;> rfl
theorem setd_ref {A : Type} {f : A → D} {es : List (Nat × A)} {p r : Nat} {t : A} (hr : R[r]? = some (.dct (dctN f es))) (h : es.length < LINE) : setD (.ref r) (.int (p : Int)) (f t) R = some (R.set r (.dct (dctN f (putN es p t)))) := by
  show (match R[r]?, D.int (p : Int) with
    | some (.lst xs), .int k => (ixN xs.length k).map fun j => R.set r (.lst (xs.set j (f t)))
    | some (.dct ks), k => if keyOk k = true ∧ ks.length < LINE then some (R.set r (.dct (setK ks k (f t)))) else none
    | _, _ => none) = _
  rw [hr]
  show (if keyOk (.int (p : Int)) = true ∧ (dctN f es).length < LINE then some (R.set r (.dct (setK (dctN f es) (.int (p : Int)) (f t)))) else none) = _
  rw [if_pos ⟨rfl, by unfold dctN; rw [List.length_map]; exact h⟩, put_map]
@[simp] theorem line_eq : LINE = 16777216 := rfl
end
end Om
/-! Om, part W: what holds behind what is computed. -/
namespace Om
open PySem PySem.Spec PyProof.Rows L2 RZ
structure wpR {A : Type} (r : Res A) (P : A → Rg → Prop) (E : Nat → D → Rg → Prop) : Prop where
  run : match r with
    | .ok a R => P a R
    | .exc c f R => E c f R
    | .err => False
structure Po where
  rt : D → Rg → Prop
  bk : List D → Rg → Prop
  ct : List D → Rg → Prop
  ex : Nat → D → List D → Rg → Prop
structure wpS (o : Out) (N : List D → Rg → Prop) (p : Po) : Prop where
  run : match o with
    | .nx s R => N s R
    | .rt d R => p.rt d R
    | .bk s R => p.bk s R
    | .ct s R => p.ct s R
    | .exc c f s R => p.ex c f s R
    | .err => False
def noE : Nat → D → Rg → Prop := fun _ _ _ => False
section
variable {A Z : Type} {a b c : SE} {k l : SB} {m n : SS} {es : SA} {s : List D} {R R' : Rg} {x y z : D} {P : A → Rg → Prop} {E : Nat → D → Rg → Prop} {Q : D → Rg → Prop} {N : List D → Rg → Prop} {p : Po}
@[simp] theorem wp_ok {t : A} : wpR (.ok t R) P E = P t R := propext ⟨fun h => h.run, fun h => ⟨h⟩⟩
@[simp] theorem wp_exc {c : Nat} {f : D} : wpR (.exc c f R : Res A) P E = E c f R := propext ⟨fun h => h.run, fun h => ⟨h⟩⟩
@[simp] theorem wp_err : wpR (.err : Res A) P E = False := propext ⟨fun h => h.run, fun h => ⟨h⟩⟩
@[simp] theorem wp_bind {r : Res Z} {f : Z → Rg → Res A} : wpR (r.bind f) P E = wpR r (fun z R1 => wpR (f z R1) P E) E := by cases r <;> simp only [Res.bind_ok, Res.bind_exc, Res.bind_err, wp_ok, wp_exc, wp_err]
@[simp] theorem wp_sbind {r : Res Z} {f : Z → Rg → Out} : wpS (sBind r s f) N p = wpR r (fun z R1 => wpS (f z R1) N p) (fun c f R => p.ex c f s R) := by
  cases r with
  | ok a R => rw [a_bind_ok, wp_ok]
  | exc c f R => exact propext ⟨fun h => ⟨h.run⟩, fun h => ⟨h.run⟩⟩
  | err => exact propext ⟨fun h => h.run.elim, fun h => h.run.elim⟩
@[simp] theorem ws_nx : wpS (.nx s R) N p = N s R := propext ⟨fun h => h.run, fun h => ⟨h⟩⟩
@[simp] theorem ws_rt : wpS (.rt x R) N p = p.rt x R := propext ⟨fun h => h.run, fun h => ⟨h⟩⟩
@[simp] theorem ws_bk : wpS (.bk s R) N p = p.bk s R := propext ⟨fun h => h.run, fun h => ⟨h⟩⟩
@[simp] theorem ws_ct : wpS (.ct s R) N p = p.ct s R := propext ⟨fun h => h.run, fun h => ⟨h⟩⟩
@[simp] theorem ws_exc {c : Nat} {f : D} : wpS (.exc c f s R) N p = p.ex c f s R := propext ⟨fun h => h.run, fun h => ⟨h⟩⟩
@[simp] theorem ws_err : wpS .err N p = False := propext ⟨fun h => h.run, fun h => ⟨h⟩⟩
@[simp] theorem ws_seq : wpS (sSeq m n s R) N p = wpS (m s R) (fun s R => wpS (n s R) N p) p := by
  unfold sSeq
  cases m s R <;> first | rfl | exact propext ⟨fun h => ⟨h⟩, fun h => h.run⟩ | exact propext ⟨fun h => ⟨h.run⟩, fun h => ⟨h.run⟩⟩
@[simp] theorem ws_if : wpS (sIf k m n s R) N p = wpR (k s R) (fun t R1 => if t = true then wpS (m s R1) N p else wpS (n s R1) N p) (fun c f R => p.ex c f s R) := by
  unfold sIf
  rw [wp_sbind]
  congr 1
  funext t R1
  cases t <;> rfl
theorem ws_go {g : SG} : wpS (sGo g x s R) N p = wpR (g x s R) N noE := by
  unfold sGo
  cases g x s R <;> exact propext ⟨fun h => ⟨h.run⟩, fun h => ⟨h.run⟩⟩
@[simp] theorem ws_turn {k : List D → Rg → Out} {o : Out} : wpS (turnO k o) N p = wpS o (fun s R => wpS (k s R) N p) { rt := p.rt, bk := N, ct := fun s R => wpS (k s R) N p, ex := p.ex } := by cases o <;> first | exact propext ⟨fun h => ⟨h⟩, fun h => h.run⟩ | exact propext ⟨fun h => ⟨h.run⟩, fun h => ⟨h.run⟩⟩
theorem wpR_mono {r : Res A} {P' : A → Rg → Prop} {E' : Nat → D → Rg → Prop} (h : wpR r P E) (hp : ∀ a R, P a R → P' a R) (he : ∀ c f R, E c f R → E' c f R) : wpR r P' E' := by
  cases r with
  | ok a R => exact ⟨hp _ _ h.run⟩
  | exc c f R => exact ⟨he _ _ _ h.run⟩
  | err => exact ⟨h.run⟩
theorem wpR_imp {r : Res A} {P' : A → Rg → Prop} (h : wpR r P noE) (hp : ∀ a R, P a R → P' a R) : wpR r P' E := wpR_mono h hp fun _ _ _ h => h.elim
theorem wpS_mono {o : Out} {N' : List D → Rg → Prop} {p' : Po} (h : wpS o N p) (h1 : ∀ s R, N s R → N' s R) (h2 : ∀ d R, p.rt d R → p'.rt d R) (h3 : ∀ s R, p.bk s R → p'.bk s R) (h4 : ∀ s R, p.ct s R → p'.ct s R) (h5 : ∀ c f s R, p.ex c f s R → p'.ex c f s R) : wpS o N' p' := by
  cases o with
  | nx s R => exact ⟨h1 _ _ h.run⟩
  | rt d R => exact ⟨h2 _ _ h.run⟩
  | bk s R => exact ⟨h3 _ _ h.run⟩
  | ct s R => exact ⟨h4 _ _ h.run⟩
  | exc c f s R => exact ⟨h5 _ _ _ _ h.run⟩
  | err => exact ⟨h.run⟩
theorem ws_cut {o : Out} (I : List D → Rg → Prop) (h1 : wpS o I p) (h2 : ∀ s R, I s R → N s R) : wpS o N p := wpS_mono h1 h2 (fun _ _ h => h) (fun _ _ h => h) (fun _ _ h => h) (fun _ _ _ _ h => h)
/-- a statement, then the rest -/
theorem ws_then (I : List D → Rg → Prop) (h1 : wpS (m s R) I p) (h2 : ∀ s R, I s R → wpS (n s R) N p) : wpS (sSeq m n s R) N p := by
  rw [ws_seq]
  exact ws_cut I h1 h2
theorem ws_then2 {m2 : SS} (I : List D → Rg → Prop) (h1 : wpS (sSeq m m2 s R) I p) (h2 : ∀ s R, I s R → wpS (n s R) N p) : wpS (sSeq m (sSeq m2 n) s R) N p := by
  rw [ws_seq] at h1 ⊢
  refine ws_cut _ h1 fun s R h => ?_
  rw [ws_seq]
  exact ws_cut I h h2
theorem ws_then3 {m2 m3 : SS} (I : List D → Rg → Prop) (h1 : wpS (sSeq m (sSeq m2 m3) s R) I p) (h2 : ∀ s R, I s R → wpS (n s R) N p) : wpS (sSeq m (sSeq m2 (sSeq m3 n)) s R) N p := by
  rw [ws_seq] at h1 ⊢
  refine ws_cut _ h1 fun s R h => ?_
  exact ws_then2 I h h2
theorem ws_then4 {m2 m3 m4 : SS} (I : List D → Rg → Prop) (h1 : wpS (sSeq m (sSeq m2 (sSeq m3 m4)) s R) I p) (h2 : ∀ s R, I s R → wpS (n s R) N p) : wpS (sSeq m (sSeq m2 (sSeq m3 (sSeq m4 n))) s R) N p := by
  rw [ws_seq] at h1 ⊢
  refine ws_cut _ h1 fun s R h => ?_
  exact ws_then3 I h h2
theorem eq_of_wp {r : Res A} {t : A} (h : wpR r (fun a R1 => a = t ∧ R1 = R') noE) : r = .ok t R' := by
  cases r with
  | ok a R => obtain ⟨e1, e2⟩ := h.run; rw [e1, e2]
  | exc c f R => exact h.run.elim
  | err => exact h.run.elim
theorem wp_of_eq {r : Res A} {t : A} (h : r = .ok t R') (hp : P t R') : wpR r P E := by rw [h]; exact ⟨hp⟩
theorem ex_of_wp {r : Res A} (h : wpR r P noE) : ∃ a R1, r = .ok a R1 ∧ P a R1 := by
  cases r with
  | ok a R => exact ⟨a, R, rfl, h.run⟩
  | exc c f R => exact h.run.elim
  | err => exact h.run.elim
theorem go_ixv {i j : Nat} {y z : D} {R3 : Rg} (h1 : s[i]? = some y) (h2 : s[j]? = some z) (h3 : setD y z x R = some R3) (hy : y ≠ .undef) (hz : z ≠ .undef) : sGo (gIx (cVar i) (cVar j)) x s R = .nx s R3 := go_ix (a_var h1 hy) (a_var h2 hz) h3
@[simp] theorem mkK_nil : mkK true [] R = some (.ref R.length, R ++ [.dct []]) := rfl
@[simp] theorem t_pass : wpS (.nx s R) N p = N s R := propext ⟨fun h => h.run, fun h => ⟨h⟩⟩
theorem p_add_tup {t : Bool} {xs ys : List D} (h : xs.length + ys.length ≤ LINE) : addD t (.tup xs) (.tup ys) R = some (.tup (xs ++ ys), R) := if_pos h
@[simp] theorem a_iseq : iSeq a s R = (a s R).bind srcD := rfl
@[simp] theorem src_tup_ok {xs : List D} : srcD (.tup xs) R = .ok (fixS xs) R := rfl
@[simp] theorem src_lst_ok {xs : List D} : srcD (.lst xs) R = .ok (fixS xs) R := rfl
theorem p_list_dct {t : Bool} {r : Nat} {ks : List (D × D)} (h : R[r]? = some (.dct ks)) : listD t [.ref r] R = mkL t (ks.map (·.1)) R := by
  have e1 : dctOf R (.ref r) = some ks := by rw [dctOf_ref, h]
  show (match dctOf R (.ref r) with
    | some ks => mkL t (List.map (fun p : D × D => p.1) ks) R
    | none => match seqOf R (.ref r) with
      | some xs => mkL t xs R
      | none => none) = _
  rw [e1]
theorem ints_int (ns : List Int) : intsOf (ns.map D.int) = some ns := by
  induction ns with
  | nil => rfl
  | cons n ns ih =>
    show (intsOf (ns.map D.int)).map (n :: ·) = _
    rw [ih]
    rfl
theorem sortI_len (ns : List Int) : (sortI ns).length = ns.length := (sortI_perm ns).length_eq
theorem p_sorted_lst {t : Bool} {ns : List Int} (h : ns.length < 64) : sortedX t [.lst (ns.map .int)] R = mkL t ((sortI ns).map .int) R := by
  show (match intsOf (ns.map D.int) with
    | some ns => if ns.length < 64 then mkL t ((sortI ns).map .int) R else none
    | none => none) = _
  rw [ints_int]
  exact if_pos h
theorem keys_dctN {A : Type} {f : A → D} : ∀ es : List (Nat × A), (dctN f es).map (fun p => p.1) = (es.map fun e => (e.1 : Int)).map D.int
  | [] => rfl
  | e :: es => by
    show D.int (e.1 : Int) :: (dctN f es).map (·.1) = _
    rw [keys_dctN es]
    rfl
theorem snap_map {n : Nat} : ∀ {xs : List D}, pureDs xs = true → xs.mapM (snapN n R) = some xs
  | [], _ => rfl
  | x :: xs, h => by
    have h' : pureD x = true ∧ pureDs xs = true := by simpa [pureDs] using h
    have e : snapN n R x = some x := by
      cases n with
      | zero => exact if_pos h'.1
      | succ n => unfold snapN; exact if_pos h'.1
    rw [List.mapM_cons, e, snap_map h'.2]
    rfl
theorem snap_ref {r : Nat} {xs : List D} (h : R[r]? = some (.lst xs)) (hp : pureDs xs = true) : snapD R (.ref r) = some (.lst xs) := by
  show snapN (5 + 1) R (.ref r) = _
  unfold snapN
  rw [if_neg (by simp [pureD])]
  simp only [h]
  rw [snap_map hp]
  rfl
theorem p_eq_ref {r : Nat} {xs : List D} {neg : Bool} (h : R[r]? = some (.lst xs)) (hp : pureDs xs = true) (h1 : pureD y = true) (h2 : eqOk 12 (.lst xs) = true) (h3 : eqOk 12 y = true) : eqD' neg (.ref r) y R = some (.bl (decide (D.lst xs = y) != neg), R) := by
  have e : eqD R (.ref r) y = some (decide (D.lst xs = y)) := by
    have go : (match snapD R (.ref r), snapD R y with
      | some a, some b => if eqOk 12 a = true ∧ eqOk 12 b = true then some (decide (a = b)) else none
      | _, _ => none) = some (decide (D.lst xs = y)) := by
      rw [snap_ref h hp, snap_pure h1]
      exact if_pos ⟨h2, h3⟩
    exact go
  unfold eqD'
  rw [e]
theorem pure_ints : ∀ ns : List Int, pureDs (ns.map .int) = true
  | [] => rfl
  | n :: ns => by
    show (pureD (.int n) && pureDs (ns.map .int)) = true
    rw [pure_ints ns]
    rfl
theorem eqOks_ints (n : Nat) : ∀ ns : List Int, eqOks n (ns.map .int) = true
  | [] => rfl
  | i :: ns => by
    show (eqOk n (.int i) && eqOks n (ns.map .int)) = true
    rw [eqOks_ints n ns]
    cases n <;> rfl
theorem pop0_ref {r : Nat} {xs : List D} (h : R[r]? = some (.lst (x :: xs))) : popD (.ref r) [.int 0] R = some (x, R.set r (.lst xs)) := by
  show (match R[r]? with
    | some (.lst xs) => (ixN xs.length 0).bind fun j => (xs[j]?).map fun y => (y, R.set r (.lst (xs.eraseIdx j)))
    | _ => none) = _
  rw [h]
  show (ixN (x :: xs).length 0).bind _ = _
  have e : ixN (x :: xs).length 0 = some 0 := by
    unfold ixN
    rw [if_pos (by omega), if_pos (by rw [List.length_cons]; omega)]
    rfl
  rw [e]
  rfl
theorem isT_lst {r : Nat} {xs : List D} (h : R[r]? = some (.lst xs)) : isT 0 (.ref r) R = true := by
  have e : lstOf R (.ref r) = some xs := by rw [lstOf_ref, h]
  show (lstOf R (.ref r)).isSome = true
  rw [e]
  rfl
@[simp] theorem a_meth1 {ps : List (Nat × PM)} : eMetL ps a es s R = (a s R).bind fun x R1 => match ps.find? fun p => isT p.1 x R1 with
  | some p => (es s R1).bind fun ds R2 => lift (p.2 x ds R2)
  | none => .err := rfl
theorem app_ref {r : Nat} {xs : List D} (h : R[r]? = some (.lst xs)) (hl : xs.length < LINE) : appendD (.ref r) [x] R = some (.non, R.set r (.lst (xs ++ [x]))) := by
  show (match R[r]? with
    | some (.lst xs) => if xs.length < LINE then some (D.non, R.set r (.lst (xs ++ [x]))) else none
    | _ => none) = _
  rw [h]
  exact if_pos hl
/-! ### loops -/
/-- a loop over a list of things: what holds behind each part of it -/
theorem ws_goL {B : Type} {enc : B → D} {g : SG} (I : List B → List D → Rg → Prop) (as : List B) (h0 : I [] s R)
    (step : ∀ done a rest, as = done ++ a :: rest → ∀ s R, I done s R → wpR (g (enc a) s R) (fun s1 R1 => wpS (m s1 R1) (I (done ++ [a])) { ct := I (done ++ [a]), bk := N, rt := p.rt, ex := p.ex }) noE)
    (he : ∀ s R, I as s R → N s R) : wpS (goL g m (as.map enc) s R) N p := by
  have go : ∀ (rest done : List B), as = done ++ rest → ∀ s R, I done s R → wpS (goL g m (rest.map enc) s R) N p := by
    intro rest
    induction rest with
    | nil =>
      intro done e s R h
      rw [List.append_nil] at e
      subst e
      exact ⟨he s R h⟩
    | cons a rest ih =>
      intro done e s R h
      have q := step done a rest e s R h
      rw [List.map_cons, goL]
      cases eg : g (enc a) s R with
      | ok s1 R1 =>
        rw [eg] at q
        show wpS (turnO _ _) N p
        rw [ws_turn]
        have ih' := ih (done ++ [a]) (by rw [e]; simp)
        exact wpS_mono (show wpS (m s1 R1) _ _ from q.run) ih' (fun _ _ h => h) (fun _ _ h => h) ih' (fun _ _ _ _ h => h)
      | exc c f R1 => rw [eg] at q; exact q.run.elim
      | err => rw [eg] at q; exact q.run.elim
  exact go as [] rfl s R h0
theorem ws_for {B : Type} {enc : B → D} {it : SI} {g : SG} {R1 : Rg} (as : List B) (hi : it s R = .ok (fixS (as.map enc)) R1) (hl : as.length ≤ FUEL) (I : List B → List D → Rg → Prop) (h0 : I [] s R1)
    (step : ∀ done a rest, as = done ++ a :: rest → ∀ s R, I done s R → wpR (g (enc a) s R) (fun s1 R1 => wpS (m s1 R1) (I (done ++ [a])) { ct := I (done ++ [a]), bk := N, rt := p.rt, ex := p.ex }) noE)
    (he : ∀ s R, I as s R → N s R) : wpS (sFor it g m s R) N p := by
  rw [for_fix hi (by rw [List.length_map]; exact hl)]
  exact ws_goL I as h0 step he
/-- a while, by what holds and what falls -/
theorem ws_while {c : SB} (I : Nat → List D → Rg → Prop) (n : Nat) (hn : n < FUEL) (h0 : I n s R)
    (step : ∀ n s R, I n s R → wpR (c s R) (fun t R1 => if t = true then wpS (m s R1) (fun s R => ∃ n', n' < n ∧ I n' s R) { ct := fun s R => ∃ n', n' < n ∧ I n' s R, bk := N, rt := p.rt, ex := p.ex } else N s R1) (fun c f R => p.ex c f s R)) : wpS (sWhile c m s R) N p := by
  have go : ∀ (f n : Nat), n < f → ∀ s R, I n s R → wpS (whileL c m f s R) N p := by
    intro f
    induction f with
    | zero => exact fun n h => absurd h (Nat.not_lt_zero n)
    | succ f ih =>
      intro n hn s R h
      rw [whileL, wp_sbind]
      refine wpR_mono (step n s R h) (fun t R1 q => ?_) (fun _ _ _ h => h)
      cases t with
      | true =>
        rw [if_pos rfl] at q ⊢
        rw [ws_turn]
        have nx : ∀ s R, (∃ n', n' < n ∧ I n' s R) → wpS (whileL c m f s R) N p := fun s R ⟨n', h1, h2⟩ => ih n' (by omega) s R h2
        exact wpS_mono q nx (fun _ _ h => h) (fun _ _ h => h) nx (fun _ _ _ _ h => h)
      | false => exact ⟨q⟩
  exact go FUEL n hn s R h0
/-- a comprehension, by what holds of what was made -/
theorem wp_goC {B : Type} {enc : B → D} {g : SG} {t : SB} {e : SE} {s0 : List D} (I : List B → List D → Rg → Prop) (as : List B) (h0 : I [] [] R) (hl : as.length ≤ LINE)
    (step : ∀ done a rest, as = done ++ a :: rest → ∀ ys R, I done ys R → wpR (g (enc a) s0 R) (fun s1 R1 => wpR (t s1 R1) (fun k R2 => if k = true then wpR (e s1 R2) (fun y R3 => I (done ++ [a]) (ys ++ [y]) R3) noE else I (done ++ [a]) ys R2) noE) noE) :
    ∃ ys R', goC g t e s0 (as.map enc) [] R = some (ys, R') ∧ I as ys R' ∧ ys.length ≤ as.length := by
  have go : ∀ (rest done : List B), as = done ++ rest → ∀ ys R, ys.length ≤ done.length → I done ys R → ∃ zs R', goC g t e s0 (rest.map enc) ys R = some (zs, R') ∧ I as zs R' ∧ zs.length ≤ as.length := by
    intro rest
    induction rest with
    | nil =>
      intro done e ys R hy h
      rw [List.append_nil] at e
      subst e
      exact ⟨ys, R, rfl, h, hy⟩
    | cons a rest ih =>
      intro done e' ys R hy h
      have q := step done a rest e' ys R h
      have hd : done.length + (rest.length + 1) ≤ LINE := by rw [e', List.length_append] at hl; exact hl
      have e2 : as = (done ++ [a]) ++ rest := by rw [e']; simp
      rw [List.map_cons, goC]
      cases eg : g (enc a) s0 R with
      | ok s1 R1 =>
        rw [eg] at q
        simp only [wp_ok] at q
        cases et : t s1 R1 with
        | ok k R2 =>
          rw [et] at q
          simp only [wp_ok] at q
          cases k with
          | true =>
            rw [if_pos rfl] at q
            cases ee : e s1 R2 with
            | ok y R3 =>
              rw [ee] at q
              have hq : I (done ++ [a]) (ys ++ [y]) R3 := q.run
              simp only [et, ee, if_true]
              rw [if_pos (show ys.length < LINE by omega)]
              exact ih (done ++ [a]) e2 (ys ++ [y]) R3 (by simp; exact hy) hq
            | exc c f R3 => rw [ee] at q; exact q.run.elim
            | err => rw [ee] at q; exact q.run.elim
          | false =>
            rw [if_neg (by decide)] at q
            simp only [et]
            rw [if_neg (by decide)]
            exact ih (done ++ [a]) e2 ys R2 (by simp; omega) q
        | exc c f R2 => rw [et] at q; exact q.run.elim
        | err => rw [et] at q; exact q.run.elim
      | exc c f R1 => rw [eg] at q; exact q.run.elim
      | err => rw [eg] at q; exact q.run.elim
  exact go as [] rfl [] R (Nat.le_refl _) h0
theorem wp_comp {B : Type} {enc : B → D} {it : SI} {g : SG} {t : SB} {e : SE} {vs : List Nat} {mm : Bool} {R1 : Rg} (as : List B) (hi : it s R = .ok (fixS (as.map enc)) R1) (hl : as.length ≤ LINE) (I : List B → List D → Rg → Prop) (h0 : I [] [] R1)
    (step : ∀ done a rest, as = done ++ a :: rest → ∀ ys R, I done ys R → wpR (g (enc a) (wipeD s vs) R) (fun s1 R1 => wpR (t s1 R1) (fun k R2 => if k = true then wpR (e s1 R2) (fun y R3 => I (done ++ [a]) (ys ++ [y]) R3) noE else I (done ++ [a]) ys R2) noE) noE)
    (he : ∀ ys R, I as ys R → ys.length ≤ as.length → wpR (lift (mkL mm ys R)) Q E) : wpR (cComp it g t e vs mm s R) Q E := by
  have lf := line_fuel
  rw [comp_fix hi (by rw [List.length_map]; omega)]
  obtain ⟨ys, R', e1, e2, e3⟩ := wp_goC (R := R1) I as h0 hl step
  rw [e1]
  exact he ys R' e2 e3
/-! ### ends of defs -/
theorem wp_fin {P : D → Rg → Prop} (h : wpS (m s R) (fun _ R1 => R1.take R.length = R ∧ P .non R) (.mk (fun d R1 => ∃ d', frzN R.length R1.length R1 FZ d = some d' ∧ R1.take R.length = R ∧ P d' R) (fun _ _ => False) (fun _ _ => False)
    (fun c f _ R1 => f = .undef ∧ R1.take R.length = R ∧ E c f R))) : wpR (fin false R (m s R)) P E := by
  cases e : m s R with
  | nx s1 R1 =>
    rw [e] at h
    obtain ⟨h1, h2⟩ := h.run
    show wpR (match keepR R.length R1.length R R1 with
      | some R1 => .ok .non R1
      | none => .err : Res D) P E
    rw [keep_take h1]
    exact ⟨h2⟩
  | rt d R1 =>
    rw [e] at h
    obtain ⟨d', h0, h1, h2⟩ := h.run
    have e2 : fin false R (.rt d R1) = (match frzN R.length R1.length R1 FZ d, keepR R.length R1.length R R1 with
      | some d', some R1 => .ok d' R1
      | _, _ => .err : Res D) := by cases d <;> rfl
    rw [e2, h0, keep_take h1]
    exact ⟨h2⟩
  | exc c f s1 R1 =>
    rw [e] at h
    obtain ⟨h0, h1, h2⟩ := h.run
    subst h0
    show wpR (match (if D.undef = .undef then some D.undef else frzN R.length R1.length R1 FZ .undef), keepR R.length R1.length R R1 with
      | some f', some R1 => .exc c f' R1
      | _, _ => .err : Res D) P E
    rw [if_pos rfl, keep_take h1]
    exact ⟨h2⟩
  | bk s1 R1 => rw [e] at h; exact h.run.elim
  | ct s1 R1 => rw [e] at h; exact h.run.elim
  | err => rw [e] at h; exact h.run.elim
theorem frz_pure {n k f : Nat} (h : pureD x = true) : frzN n k R f x = some x := by
  cases f with
  | zero => exact if_pos h
  | succ f =>
    unfold frzN
    exact if_pos h
theorem frz_lst {i n k : Nat} {xs : List D} (hn : n ≤ i) (hk : i ≠ k) (h : R[i]? = some (.lst xs)) (hp : pureDs xs = true) : frzN n k R FZ (.ref i) = some (.lst xs) := by
  show frzN n k R (7 + 1) (.ref i) = _
  unfold frzN
  rw [if_neg (by simp [pureD])]
  show (if i < n then some (D.ref i) else if i = k then none else (match R[i]? with
    | some (.lst xs) => (xs.mapM (frzN n k R 7)).map D.lst
    | some (.dct ks) => (ks.mapM fun p => (frzN n k R 7 p.2).map fun v => (p.1, v)).map .dct
    | some (.ins c fs) => (fs.mapM fun p => (frzN n k R 7 p.2).map fun v => (p.1, v)).map (.ins c)
    | _ => none)) = _
  rw [if_neg (by omega), if_neg hk, h]
  show (xs.mapM (frzN n k R 7)).map D.lst = _
  rw [frz_map _ _ _ _ hp]
  rfl
/-! ### what a def changed -/
def pureO : O → Bool
  | .lst xs => pureDs xs
  | .dct ks => ks.all fun p => pureD p.2
  | .ins _ fs => fs.all fun p => pureD p.2
  | .dead => false
theorem frzO_pure {n k : Nat} {o : O} (h : pureO o = true) : frzO n k R o = some o := by
  cases o with
  | lst xs =>
    show (xs.mapM (frzN n k R FZ)).map O.lst = _
    rw [frz_map _ _ _ _ h]
    rfl
  | dct ks =>
    have go : ∀ ks : List (D × D), (ks.all fun p => pureD p.2) = true → (ks.mapM fun p => (frzN n k R FZ p.2).map fun v => (p.1, v)) = some ks := by
      intro ks
      induction ks with
      | nil => exact fun _ => rfl
      | cons p ks ih =>
        intro h
        rw [List.all_cons, Bool.and_eq_true] at h
        rw [List.mapM_cons, frz_pure h.1, ih h.2]
        rfl
    show (ks.mapM fun p => (frzN n k R FZ p.2).map fun v => (p.1, v)).map O.dct = _
    rw [go ks h]
    rfl
  | ins c ks =>
    have go : ∀ ks : List (Nat × D), (ks.all fun p => pureD p.2) = true → (ks.mapM fun p => (frzN n k R FZ p.2).map fun v => (p.1, v)) = some ks := by
      intro ks
      induction ks with
      | nil => exact fun _ => rfl
      | cons p ks ih =>
        intro h
        rw [List.all_cons, Bool.and_eq_true] at h
        rw [List.mapM_cons, frz_pure h.1, ih h.2]
        rfl
    show (ks.mapM fun p => (frzN n k R FZ p.2).map fun v => (p.1, v)).map (O.ins c) = _
    rw [go ks h]
    rfl
  | dead => cases h
/-- the places of R behind a def: as they stood, or trees -/
def kept (R R1 : Rg) : Prop := R.length ≤ R1.length ∧ ∀ (i : Nat) (o : O), i < R.length → R1[i]? = some o → R[i]? = some o ∨ pureO o = true
theorem keepG_kept {n k : Nat} {R2 : Rg} : ∀ {R0 R1 : Rg}, kept R0 R1 → keepG n k R2 R0 R1 = some (R1.take R0.length)
  | [], _, _ => by rw [keepG]; rfl
  | o :: R0, [], h => absurd h.1 (by simp)
  | o :: R0, o1 :: R1, h => by
    have h0 := h.2 0 o1 (by simp) rfl
    have ht : kept R0 R1 := ⟨by have := h.1; simpa using this, fun i u hi e => h.2 (i + 1) u (by simpa using hi) e⟩
    rw [keepG, keepG_kept ht]
    have e : (if o = o1 then some o1 else frzO n k R2 o1) = some o1 := by
      rcases h0 with h0 | h0
      · have : o = o1 := by simpa using h0
        rw [if_pos this]
      · split
        · rfl
        · exact frzO_pure h0
    rw [e]
    rfl
theorem keepR_kept {k : Nat} {R1 : Rg} (h : kept R R1) : keepR R.length k R R1 = some (R1.take R.length) := by
  unfold keepR
  split
  · rename_i e
    rw [e]
  · exact keepG_kept h
theorem kept_refl : kept R R := ⟨Nat.le_refl _, fun _ _ _ h => .inl h⟩
theorem kept_app {R1 T : Rg} (h : kept R R1) : kept R (R1 ++ T) := ⟨by have := h.1; rw [List.length_append]; omega, fun i o hi e => h.2 i o hi (by rw [List.getElem?_append_left (by have := h.1; omega)] at e; exact e)⟩
theorem kept_set {R1 : Rg} {j : Nat} {o : O} (h : kept R R1) (hp : pureO o = true) : kept R (R1.set j o) := ⟨by rw [List.length_set]; exact h.1, fun i u hi e => by
  by_cases hj : j = i
  · subst hj
    rw [List.getElem?_set_self (by have := h.1; omega)] at e
    cases e
    exact .inr hp
  · rw [List.getElem?_set_ne hj] at e
    exact h.2 i u hi e⟩
theorem wp_fin2 {P : D → Rg → Prop} (h : wpS (m s R) (fun _ R1 => kept R R1 ∧ P .non (R1.take R.length)) (.mk (fun d R1 => ∃ d', frzN R.length R1.length R1 FZ d = some d' ∧ kept R R1 ∧ P d' (R1.take R.length)) (fun _ _ => False) (fun _ _ => False)
    (fun c f _ R1 => f = .undef ∧ kept R R1 ∧ E c f (R1.take R.length)))) : wpR (fin false R (m s R)) P E := by
  cases e : m s R with
  | nx s1 R1 =>
    rw [e] at h
    obtain ⟨h1, h2⟩ := h.run
    show wpR (match keepR R.length R1.length R R1 with
      | some R1 => .ok .non R1
      | none => .err : Res D) P E
    rw [keepR_kept h1]
    exact ⟨h2⟩
  | rt d R1 =>
    rw [e] at h
    obtain ⟨d', h0, h1, h2⟩ := h.run
    have e2 : fin false R (.rt d R1) = (match frzN R.length R1.length R1 FZ d, keepR R.length R1.length R R1 with
      | some d', some R1 => .ok d' R1
      | _, _ => .err : Res D) := by cases d <;> rfl
    rw [e2, h0, keepR_kept h1]
    exact ⟨h2⟩
  | exc c f s1 R1 =>
    rw [e] at h
    obtain ⟨h0, h1, h2⟩ := h.run
    subst h0
    show wpR (match (if D.undef = .undef then some D.undef else frzN R.length R1.length R1 FZ .undef), keepR R.length R1.length R R1 with
      | some f', some R1 => .exc c f' R1
      | _, _ => .err : Res D) P E
    rw [if_pos rfl, keepR_kept h1]
    exact ⟨h2⟩
  | bk s1 R1 => rw [e] at h; exact h.run.elim
  | ct s1 R1 => rw [e] at h; exact h.run.elim
  | err => rw [e] at h; exact h.run.elim
theorem p_fdiv {i j : Int} (h : divOk j = true) : fdivD (.int i) (.int j) R = some (.int (i / j), R) := if_pos h
theorem p_pow {i j : Int} (h : 0 ≤ j ∧ j ≤ 1000000 ∧ i.natAbs < 18446744073709551616) : powD (.int i) (.int j) R = some (.int (i ^ j.toNat), R) := if_pos h
theorem it_rng1 {n : Nat} {R1 : Rg} (h : a s R = .ok (.int (n : Int)) R1) (hn : n < 4000000000000000000) : iArgs rng1 (cCons a cNil) s R = .ok (fixS ((List.range n).map fun i : Nat => D.int (i : Int))) R1 := by
  unfold iArgs
  rw [a_cons, h, Res.bind_ok, a_nil, Res.bind_ok, Res.bind_ok]
  show (if rngOk (n : Int) = true then Res.ok (rngS 0 (n : Int).toNat) R1 else .err) = _
  rw [if_pos (by unfold rngOk; simp; omega), rng_fix]
  simp
theorem add_lst {t : Bool} {xs ys : List D} (h1 : lstOf R x = some xs) (h2 : lstOf R y = some ys) : addD t x y R = mkL t (xs ++ ys) R := by
  unfold addD
  split
  · cases h1
  · cases h1
  · cases h1
  · rw [h1, h2]
theorem lst_ref {r : Nat} {xs : List D} (h : R[r]? = some (.lst xs)) : lstOf R (.ref r) = some xs := by rw [lstOf_ref, h]
theorem at_n {n : Nat} {o : O} (h : R.length = n) : (R ++ [o])[n]? = some o := by rw [← h]; exact at_end
theorem set_n {n : Nat} {o o' : O} (h : R.length = n) : (R ++ [o]).set n o' = R ++ [o'] := by rw [← h]; exact set_end
theorem tuple_ref {r : Nat} {xs : List D} (h : R[r]? = some (.lst xs)) : tupleD [.ref r] R = some (.tup xs, R) := by
  have e : seqOf R (.ref r) = some xs := lst_ref h
  show (seqOf R (.ref r)).map (fun xs => (D.tup xs, R)) = _
  rw [e]
  rfl
theorem set_same {r : Nat} {o : O} (h : R[r]? = some o) : R.set r o = R := by
  apply List.ext_getElem?
  intro i
  by_cases hi : r = i
  · subst hi
    rw [List.getElem?_set_self (List.getElem?_eq_some_iff.mp h).1, h]
  · rw [List.getElem?_set_ne hi]
theorem take_set {r : Nat} {o : O} : (R.set r o).take R.length = R.set r o := List.take_of_length_le (by rw [List.length_set]; exact Nat.le_refl _)
theorem wp_fin_live {P : D → Rg → Prop} (h : wpS (m s R) (fun _ _ => False) (.mk (fun d R1 => ∃ i xs, d = .ref i ∧ R.length ≤ i ∧ R1[i]? = some (.lst xs) ∧ pureDs xs = true ∧ R1.take R.length = R ∧ P (.ref R.length) (R ++ [.lst xs])) (fun _ _ => False) (fun _ _ => False)
    (fun _ _ _ _ => False))) : wpR (fin true R (m s R)) P E := by
  cases e : m s R with
  | rt d R1 =>
    rw [e] at h
    obtain ⟨i, xs, h0, h1, h2, h3, h4, h5⟩ := h.run
    subst h0
    rw [fin_live h1 h2 h4 h3]
    exact ⟨h5⟩
  | nx s1 R1 => rw [e] at h; exact h.run.elim
  | exc c f s1 R1 => rw [e] at h; exact h.run.elim
  | bk s1 R1 => rw [e] at h; exact h.run.elim
  | ct s1 R1 => rw [e] at h; exact h.run.elim
  | err => rw [e] at h; exact h.run.elim
end
end Om
/-! Om, part X: own classes and more, as rules of simp. -/
namespace Om
open PySem PySem.Spec PyProof.Rows L2 RZ
section
variable {A Z : Type} {a b c : SE} {k l : SB} {m n : SS} {es : SA} {s : List D} {R R' : Rg} {x y z : D} {xs ys : List D} {i j : Int} {P : A → Rg → Prop} {E : Nat → D → Rg → Prop} {Q : D → Rg → Prop} {N : List D → Rg → Prop} {p : Po}
theorem x_data {neg : Bool} {eqs : EqT} (h1 : insOf R x = none) (h2 : insOf R y = none) : eqX neg eqs x y R = eqD' neg x y R := by
  unfold eqX
  rw [h1, h2]
@[simp] theorem x_int {neg : Bool} {eqs : EqT} : eqX neg eqs (.int i) (.int j) R = some (.bl (decide (i = j) != neg), R) := (x_data rfl rfl).trans p_eq_int
theorem ok_str {n : Nat} {t : List Nat} (h : (t.all fun c => decide (c < 1114112)) = true) : eqOk n (.str t) = true := by
  have h' : ∀ c ∈ t, c < 1114112 := fun c hc => of_decide_eq_true (List.all_eq_true.mp h c hc)
  cases n <;> simpa [eqOk] using h'
theorem p_eq_str {neg : Bool} {t u : List Nat} (h1 : (t.all fun c => decide (c < 1114112)) = true) (h2 : (u.all fun c => decide (c < 1114112)) = true) : eqD' neg (.str t) (.str u) R = some (.bl (decide (t = u) != neg), R) := (p_eq rfl rfl (ok_str h1) (ok_str h2)).trans (by simp)
@[simp] theorem x_str {neg : Bool} {eqs : EqT} {t u : List Nat} (h1 : (t.all fun c => decide (c < 1114112)) = true) (h2 : (u.all fun c => decide (c < 1114112)) = true) : eqX neg eqs (.str t) (.str u) R = some (.bl (decide (t = u) != neg), R) := (x_data rfl rfl).trans (p_eq_str h1 h2)
@[simp] theorem x_lst {neg : Bool} {eqs : EqT} : eqX neg eqs (.lst xs) (.lst ys) R = eqD' neg (.lst xs) (.lst ys) R := x_data rfl rfl
@[simp] theorem x_tup {neg : Bool} {eqs : EqT} : eqX neg eqs (.tup xs) (.tup ys) R = eqD' neg (.tup xs) (.tup ys) R := x_data rfl rfl
@[simp] theorem isx_ty {cls : List Nat} {kit : Kit} {t : String} : isiX cls kit [x, .ty t] R = isiD [x, .ty t] R := rfl
@[simp] theorem isi_ss {t : List Nat} : isiD [.str t, .ty "str"] R = some (.bl true, R) := isi_of (t := "str") rfl (by decide +kernel)
@[simp] theorem isi_si {t : List Nat} : isiD [.str t, .ty "int"] R = some (.bl false, R) := isi_of (t := "str") rfl (by decide +kernel)
@[simp] theorem ins_ins {c : Nat} {fs : List (Nat × D)} : insOf R (.ins c fs) = some (c, fs) := rfl
theorem ins_ref {r c : Nat} {fs : List (Nat × D)} (h : R[r]? = some (.ins c fs)) : insOf R (.ref r) = some (c, fs) := by
  show (match (R[r]?).getD O.dead with
    | .ins c fs => some (c, fs)
    | _ => none) = _
  rw [h]
  rfl
theorem fld_of {ca : CaT} {n c : Nat} {fs : List (Nat × D)} (h : insOf R x = some (c, fs)) (hk : okAt ca c n = true) (hl : lookF fs n = some y) : fldD ca n x R = some (y, R) := by
  unfold fldD
  rw [h]
  show (if okAt ca c n = true then (lookF fs n).map fun d => (d, R) else none) = _
  rw [if_pos hk, hl]
  rfl
@[simp] theorem ixp {n : Nat} (h : xs[n + 1]? = some x) : ixD (.lst xs) (.int ((n : Int) + 1)) R = some (x, R) := ix_lst (n := n + 1) h
@[simp] theorem ix_lst0 : ixD (.lst (x :: xs)) (.int 0) R = some (x, R) := ix_lst (n := 0) rfl
theorem ix_0 (h : xs[0]? = some x) : ixD (.lst xs) (.int 0) R = some (x, R) := ix_lst (n := 0) h
theorem ix_last (h : xs[xs.length - 1]? = some x) : ixD (.lst xs) (.int (-1)) R = some (x, R) := by
  have hn : 0 < xs.length := by
    cases xs with
    | nil => cases h
    | cons _ _ => simp
  have e : atI xs (-1) = some x := by
    unfold atI ixN
    rw [if_neg (by omega), if_pos (by omega)]
    show xs[(((xs.length : Nat) : Int) + (-1)).toNat]? = _
    rw [show (((xs.length : Nat) : Int) + (-1)).toNat = xs.length - 1 by omega]
    exact h
  show (atI xs (-1)).map (fun d => (d, R)) = _
  rw [e]
  rfl
@[simp] theorem a_neg : negD (.int i) R = some (.int (-i), R) := rfl
@[simp] theorem p_addI : addI (.int i) (.int j) R = some (.int (i + j), R) := rfl
@[simp] theorem a_par2 {i j : Nat} : sPar2 i j es s R = sBind (es s R) s fun ds R1 => match ds with
  | [x, y] => .nx ((s.set i x).set j y) R1
  | _ => .err := rfl
@[simp] theorem a_rev {t : Bool} : revD t (.lst xs) R = mkL t xs.reverse R := rfl
theorem p_in_tup {neg : Bool} (h1 : pureD x = true) (h2 : pureDs ys = true) (h3 : eqOk 12 x = true) (h4 : eqOk 12 (.tup ys) = true) : inD neg x (.tup ys) R = some (.bl (decide (x ∈ ys) != neg), R) := by
  have go : (match snapD R x, snapD R (.tup ys) with
    | some a, some (.lst ys) => if eqOk 12 a = true ∧ eqOk 12 (.lst ys) = true then some (.bl (decide (a ∈ ys) != neg), R) else none
    | some a, some (.tup ys) => if eqOk 12 a = true ∧ eqOk 12 (.tup ys) = true then some (.bl (decide (a ∈ ys) != neg), R) else none
    | _, _ => none : Option (D × Rg)) = some (.bl (decide (x ∈ ys) != neg), R) := by
    rw [snap_pure h1, snap_pure (show pureD (.tup ys) = true by rw [pure_tup]; exact h2)]
    exact if_pos ⟨h3, h4⟩
  exact go
theorem p_in_lst {neg : Bool} (h1 : pureD x = true) (h2 : pureDs ys = true) (h3 : eqOk 12 x = true) (h4 : eqOk 12 (.lst ys) = true) : inD neg x (.lst ys) R = some (.bl (decide (x ∈ ys) != neg), R) := by
  have go : (match snapD R x, snapD R (.lst ys) with
    | some a, some (.lst ys) => if eqOk 12 a = true ∧ eqOk 12 (.lst ys) = true then some (.bl (decide (a ∈ ys) != neg), R) else none
    | some a, some (.tup ys) => if eqOk 12 a = true ∧ eqOk 12 (.tup ys) = true then some (.bl (decide (a ∈ ys) != neg), R) else none
    | _, _ => none : Option (D × Rg)) = some (.bl (decide (x ∈ ys) != neg), R) := by
    rw [snap_pure h1, snap_pure (show pureD (.lst ys) = true by rw [pure_lst]; exact h2)]
    exact if_pos ⟨h3, h4⟩
  exact go
theorem ints_map {B : Type} (f : B → Int) : ∀ as : List B, intsOf (as.map fun a => D.int (f a)) = some (as.map f)
  | [] => rfl
  | a :: as => by
    show (intsOf (as.map fun a => D.int (f a))).map (f a :: ·) = _
    rw [ints_map f as]
    rfl
theorem it_zip {t u : List D} (h1 : a s R = .ok (.lst t) R) (h2 : b s R = .ok (.lst u) R) : iArgs zip2 (cCons a (cCons b cNil)) s R = .ok (fixS (zipL t u)) R := by
  unfold iArgs
  rw [a_cons, h1, Res.bind_ok, a_cons, h2, Res.bind_ok, a_nil, Res.bind_ok, Res.bind_ok, Res.bind_ok, ← zip_fix]
  rfl
theorem it_zipM {B C : Type} {f : B → D} {g : C → D} {as : List B} {bs : List C} (h1 : a s R = .ok (.lst (as.map f)) R) (h2 : b s R = .ok (.lst (bs.map g)) R) : iArgs zip2 (cCons a (cCons b cNil)) s R = .ok (fixS ((as.zip bs).map fun z => .tup [f z.1, g z.2])) R := by
  rw [it_zip h1 h2, zipL_map]
theorem enumL_map {B : Type} (f : B → D) : ∀ (as : List B) (k : Nat), enumL k (as.map f) = (as.zipIdx k).map fun z => .tup [.int (z.2 : Int), f z.1]
  | [], _ => rfl
  | a :: as, k => by
    show D.tup [.int (k : Int), f a] :: enumL (k + 1) (as.map f) = _
    rw [enumL_map f as (k + 1)]
    rfl
theorem it_enumM {B : Type} {f : B → D} {as : List B} (h1 : a s R = .ok (.lst (as.map f)) R) : iArgs enum1 (cCons a cNil) s R = .ok (fixS ((as.zipIdx).map fun z => .tup [.int (z.2 : Int), f z.1])) R := by
  unfold iArgs
  rw [a_cons, h1, Res.bind_ok, a_nil, Res.bind_ok, Res.bind_ok]
  show (Res.ok (enuS (fixS (as.map f))) R : Res Src) = _
  rw [enu_fix, enumL_map]
theorem idx_split {B : Type} {as : List B} {done rest : List (B × Nat)} {z : B × Nat} (e : as.zipIdx = done ++ z :: rest) : z.2 = done.length ∧ as[done.length]? = some z.1 := by
  have h : (as.zipIdx)[done.length]? = some z := by rw [e]; simp
  rw [List.getElem?_zipIdx] at h
  obtain ⟨x, h1, h2⟩ := Option.map_eq_some_iff.mp h
  subst h2
  exact ⟨by simp, h1⟩
theorem it_rngN {n : Nat} {R1 : Rg} (h : a s R = .ok (.int (n : Int)) R1) (hn : n < 4000000000000000000) : iArgs rng1 (cCons a cNil) s R = .ok (fixS ((List.range n).map fun i : Nat => D.int (i : Int))) R1 := it_rng1 h hn
theorem kept_last {o o' : O} (h : pureO o' = true) : kept (R ++ [o]) (R ++ [o']) := ⟨by simp, fun i u hi e => by
  by_cases hj : i < R.length
  · rw [List.getElem?_append_left hj] at e ⊢
    exact .inl e
  · have hl : i = R.length := by rw [List.length_append] at hi; simp at hi; omega
    subst hl
    rw [at_end] at e
    cases e
    exact .inr h⟩
theorem setF_last {ca : CaT} {n c : Nat} {fs : List (Nat × D)} (hk : okAt ca c n = true) (hl : fs.length < 1000) : setF ca n (.ref R.length) x (R ++ [.ins c fs]) = some (R ++ [.ins c (putFD fs n x)]) := by
  have e := @set_end R (.ins c fs) (.ins c (putFD fs n x))
  unfold setF
  simp only [at_end]
  rw [if_pos ⟨hk, hl⟩, e]
theorem frz_ins {i n k c : Nat} {fs : List (Nat × D)} (hn : n ≤ i) (hk : i ≠ k) (h : R[i]? = some (.ins c fs)) (hp : (fs.all fun p => pureD p.2) = true) : frzN n k R FZ (.ref i) = some (.ins c fs) := by
  show frzN n k R (7 + 1) (.ref i) = _
  unfold frzN
  rw [if_neg (by simp [pureD])]
  show (if i < n then some (D.ref i) else if i = k then none else (match R[i]? with
    | some (.lst xs) => (xs.mapM (frzN n k R 7)).map D.lst
    | some (.dct ks) => (ks.mapM fun p => (frzN n k R 7 p.2).map fun v => (p.1, v)).map .dct
    | some (.ins c fs) => (fs.mapM fun p => (frzN n k R 7 p.2).map fun v => (p.1, v)).map (.ins c)
    | _ => none)) = _
  rw [if_neg (by omega), if_neg hk, h]
  have go : ∀ ks : List (Nat × D), (ks.all fun p => pureD p.2) = true → (ks.mapM fun p => (frzN n k R 7 p.2).map fun v => (p.1, v)) = some ks := by
    intro ks
    induction ks with
    | nil => exact fun _ => rfl
    | cons p ks ih =>
      intro h
      rw [List.all_cons, Bool.and_eq_true] at h
      rw [List.mapM_cons, frz_pure h.1, ih h.2]
      rfl
  show (fs.mapM fun p => (frzN n k R 7 p.2).map fun v => (p.1, v)).map (D.ins c) = _
  rw [go fs hp]
  rfl
@[simp] theorem a_setF {ca : CaT} {n : Nat} : sSetF ca n a b s R = sBind (a s R) s fun v R1 => sBind (b s R1) s fun x R2 => match setF ca n x v R2 with
  | some R3 => .nx s R3
  | none => .err := rfl
theorem len_ref {r : Nat} {xs : List D} (h : R[r]? = some (.lst xs)) : lenD [.ref r] R = some (.int xs.length, R) := by
  have e : seqOf R (.ref r) = some xs := lst_ref h
  show (match dctOf R (.ref r) with
    | some ks => some (D.int ks.length, R)
    | none => (seqOf R (.ref r)).map fun xs : List D => (D.int xs.length, R)) = _
  rw [dctOf_ref, h, e]
  rfl
theorem map_erase {B C : Type} (f : B → C) : ∀ (l : List B) (i : Nat), (l.map f).eraseIdx i = (l.eraseIdx i).map f
  | [], _ => rfl
  | a :: l, 0 => rfl
  | a :: l, i + 1 => by
    show f a :: (l.map f).eraseIdx i = f a :: (l.eraseIdx i).map f
    rw [map_erase f l i]
theorem perm_erase {B : Type} : ∀ (l : List B) (i : Nat) (h : i < l.length), (l[i] :: l.eraseIdx i).Perm l
  | [], i, h => absurd h (by simp)
  | a :: l, 0, _ => List.Perm.refl _
  | a :: l, i + 1, h => by
    show (l[i]'(by simpa using h) :: a :: l.eraseIdx i).Perm (a :: l)
    exact (List.Perm.swap _ _ _).trans ((perm_erase l i (by simpa using h)).cons a)
theorem idxL_at {y : D} : ∀ {xs : List D} {j : Nat}, xs[j]? = some y → (∀ m, m < j → xs[m]? ≠ some y) → idxL xs y = some j
  | [], _, h, _ => by cases h
  | z :: xs, 0, h, _ => by
    have : z = y := by simpa using h
    subst this
    unfold idxL
    rw [if_pos rfl]
  | z :: xs, j + 1, h, hm => by
    have hz : z ≠ y := fun e => hm 0 (by omega) (by simp [e])
    unfold idxL
    rw [if_neg hz, idxL_at (xs := xs) (j := j) (by simpa using h) fun m hl => by have := hm (m + 1) (by omega); simpa using this]
    rfl
end
end Om
namespace Lw
open PySem PySem.Spec PyProof.Rows L2 RZ Om
def top (i : Nat) : Stmt := PySem.Challenge.pw_onememory_k16_whole_tours.main.body.getD i (.Pass ⟨0, 0, 0, 0⟩)
def d_is_number : He.DefD := ⟨("is_number", none), "is_number", "is_number", defArgs (top 5), defBody (top 5), defScope (top 5), [], []⟩
def f_is_number : Fi := ⟨"is_number", "is_number", ["thing", "least", "most"], ["thing", "least", "most"], [], false, false, defBody (top 5), defScope (top 5), fun _ => false⟩
def d_is_pair : He.DefD := ⟨("is_pair", none), "is_pair", "is_pair", defArgs (top 12), defBody (top 12), defScope (top 12), [], []⟩
def f_is_pair : Fi := ⟨"is_pair", "is_pair", ["thing"], ["thing"], [], false, false, defBody (top 12), defScope (top 12), fun _ => false⟩
def d_check_tour : He.DefD := ⟨("check_tour", none), "check_tour", "check_tour", defArgs (top 13), defBody (top 13), defScope (top 13), [], []⟩
def f_check_tour : Fi := ⟨"check_tour", "check_tour", ["tour", "first"], ["tour", "first", "pair"], [], false, false, defBody (top 13), defScope (top 13), fun _ => false⟩
def d_price : He.DefD := ⟨("price", none), "price", "price", defArgs (top 14), defBody (top 14), defScope (top 14), [], []⟩
def f_price : Fi := ⟨"price", "price", ["pair", "before", "home"], ["pair", "before", "home", "leads"], [], false, false, defBody (top 14), defScope (top 14), fun _ => false⟩
def d_letters_of : He.DefD := ⟨("letters_of", none), "letters_of", "letters_of", defArgs (top 15), defBody (top 15), defScope (top 15), [], []⟩
def f_letters_of : Fi := ⟨"letters_of", "letters_of", ["tour", "first", "places"], ["tour", "first", "places", "total", "before", "pair", "home"], [], false, false, defBody (top 15), defScope (top 15), fun _ => false⟩
def d_Homes___init__ : He.DefD := ⟨("Homes", some "__init__"), "__init__", "Homes.__init__", defArgs (inClass (top 16) 0), defBody (inClass (top 16) 0), defScope (inClass (top 16) 0), [], []⟩
def f_Homes___init__ : Fi := ⟨"Homes.__init__", "Homes.__init__", ["self", "places", "costs"], ["self", "places", "costs", "row"], [], false, true, defBody (inClass (top 16) 0), defScope (inClass (top 16) 0), fun _ => false⟩
def d_Homes_shows : He.DefD := ⟨("Homes", some "shows"), "shows", "Homes.shows", defArgs (inClass (top 16) 2), defBody (inClass (top 16) 2), defScope (inClass (top 16) 2), [], []⟩
def f_Homes_shows : Fi := ⟨"Homes.shows", "Homes.shows", ["self", "tour", "first"], ["self", "tour", "first", "at", "pair", "before", "home", "cost", "row"], [], false, false, defBody (inClass (top 16) 2), defScope (inClass (top 16) 2), fun _ => false⟩
def d_homes : He.DefD := ⟨("homes", none), "homes", "homes", defArgs (top 17), defBody (top 17), defScope (top 17), [], []⟩
def f_homes : Fi := ⟨"homes", "homes", ["tour", "first"], ["tour", "first", "costs", "pair", "later", "places", "before", "at", "totals", "home"], [], false, false, defBody (top 17), defScope (top 17), fun p => decide (p ∈ ([⟨65, 22, 65, 24⟩] : List Pos))⟩
def d__law_cell_at : He.DefD := ⟨("_law_cell_at", none), "_law_cell_at", "_law_cell_at", defArgs (top 19), defBody (top 19), defScope (top 19), [], []⟩
def f__law_cell_at : Fi := ⟨"_law_cell_at", "_law_cell_at", ["_law_script", "_law_at"], ["_law_script", "_law_at", "_law_cells", "_law_mixed", "_law_cell", "_law_spot", "_law_low", "_law_high"], [], false, false, defBody (top 19), defScope (top 19), fun _ => false⟩
def d__law_ends_right : He.DefD := ⟨("_law_ends_right", none), "_law_ends_right", "_law_ends_right", defArgs (top 20), defBody (top 20), defScope (top 20), [], []⟩
def f__law_ends_right : Fi := ⟨"_law_ends_right", "_law_ends_right", ["_law_tour_here", "_law_first", "_law_found", "_law_cut"], ["_law_tour_here", "_law_first", "_law_found", "_law_cut", "_law_home", "_law_end", "_law_start"], [], false, false, defBody (top 20), defScope (top 20), fun _ => false⟩
def d__law_more_right : He.DefD := ⟨("_law_more_right", none), "_law_more_right", "_law_more_right", defArgs (top 21), defBody (top 21), defScope (top 21), [], []⟩
def f__law_more_right : Fi := ⟨"_law_more_right", "_law_more_right", ["_law_tour_here", "_law_first", "_law_found", "_law_number"], ["_law_tour_here", "_law_first", "_law_found", "_law_number", "_law_pair", "_law_most", "_law_own", "_law_some", "_law_home", "_law_more"], [], false, false, defBody (top 21), defScope (top 21), fun _ => false⟩
def d__law_renamed_right : He.DefD := ⟨("_law_renamed_right", none), "_law_renamed_right", "_law_renamed_right", defArgs (top 22), defBody (top 22), defScope (top 22), [], []⟩
def f__law_renamed_right : Fi := ⟨"_law_renamed_right", "_law_renamed_right", ["_law_tour_here", "_law_first", "_law_found", "_law_number"], ["_law_tour_here", "_law_first", "_law_found", "_law_number", "_law_turn_at", "_law_other", "_law_places", "_law_some", "_law_names", "_law_rest", "_law_mine", "_law_yours", "_law_home", "_law_word", "_law_machine"], [], false, false, defBody (top 22), defScope (top 22), fun p => decide (p ∈ ([⟨97, 29, 97, 31⟩, ⟨97, 33, 97, 45⟩] : List Pos))⟩
def d__law_tour : He.DefD := ⟨("_law_tour", none), "_law_tour", "_law_tour", defArgs (top 23), defBody (top 23), defScope (top 23), [], []⟩
def f__law_tour : Fi := ⟨"_law_tour", "_law_tour", ["_law_script", "_law_at", "_law_many"], ["_law_script", "_law_at", "_law_many", "_law_turn_at", "_law_found", "_law_last", "_law_number"], [], false, false, defBody (top 23), defScope (top 23), fun p => decide (p ∈ ([⟨108, 29, 108, 31⟩] : List Pos))⟩
def d__law_letters : He.DefD := ⟨("_law_letters", none), "_law_letters", "_law_letters", defArgs (top 24), defBody (top 24), defScope (top 24), [], []⟩
def f__law_letters : Fi := ⟨"_law_letters", "_law_letters", ["_law_tour_here", "_law_places", "_law_first"], ["_law_tour_here", "_law_places", "_law_first", "_law_total", "_law_home", "_law_other", "_law_word", "_law_machine"], [], false, false, defBody (top 24), defScope (top 24), fun _ => false⟩
def d_law : He.DefD := ⟨("law", none), "law", "law", defArgs (top 25), defBody (top 25), defScope (top 25), [], []⟩
def f_law : Fi := ⟨"law", "law", ["_law_script"], ["_law_script", "_law_by", "_law_costs", "_law_cut", "_law_home", "_law_tour_here", "_law_first", "_law_found", "_law_number", "_law_one"], [], false, false, defBody (top 25), defScope (top 25), fun _ => false⟩
def r_Homes : CRow := ⟨11, [15, 16], ["shows"], true, false⟩
def scl : Sc := ⟨[r_Homes], [], ⟨[], []⟩, [("shows", 11, 3, [])]⟩
def fn : List He.DefD := ([d_is_number, d_is_pair, d_check_tour, d_price, d_letters_of, d_Homes___init__, d_Homes_shows, d_homes, d__law_cell_at, d__law_ends_right, d__law_more_right, d__law_renamed_right, d__law_tour, d__law_letters, d_law] : List He.DefD)
def fa : List He.Fa := ([.glo "is_number", .glo "is_pair", .glo "check_tour", .glo "price", .glo "letters_of", .glo "homes", .glo "_law_cell_at", .glo "_law_ends_right", .glo "_law_more_right", .glo "_law_renamed_right", .glo "_law_tour", .glo "_law_letters", .glo "law", .glo "Homes", .int "MACHINES" (4), .int "MOST_TOUR" (60), .int "LEADS" (3), .int "NEEDS" (2), .int "SENDS" (1), .free "isinstance", .free "int", .free "bool", .free "tuple", .free "len", .free "str", .free "list", .free "all", .free "zip", .free "any", .free "enumerate"] : List He.Fa) ++ ([.free "range", .free "min", .free "max"] : List He.Fa)
def T : List Fi := ([f_is_number, f_is_pair, f_check_tour, f_price, f_letters_of, f_Homes___init__, f_Homes_shows, f_homes, f__law_cell_at, f__law_ends_right, f__law_more_right, f__law_renamed_right, f__law_tour, f__law_letters, f_law] : List Fi)
def glob : List (Str × Gi) := ([("is_number", .fn 3 []), ("is_pair", .fn 1 []), ("check_tour", .fn 2 []), ("price", .fn 3 []), ("letters_of", .fn 3 []), ("homes", .fn 2 []), ("_law_cell_at", .fn 2 []), ("_law_ends_right", .fn 4 []), ("_law_more_right", .fn 4 []), ("_law_renamed_right", .fn 4 []), ("_law_tour", .fn 3 []), ("_law_letters", .fn 3 []), ("law", .fn 1 []), ("Homes", .cls 11 2 []), ("MACHINES", .con (.int (4))), ("MOST_TOUR", .con (.int (60))), ("LEADS", .con (.int (3))), ("NEEDS", .con (.int (2))), ("SENDS", .con (.int (1))), ("isinstance", .blt), ("int", .blt), ("bool", .blt), ("tuple", .blt), ("len", .blt), ("str", .blt), ("list", .blt), ("all", .blt), ("zip", .blt), ("any", .blt), ("enumerate", .blt)] : List (Str × Gi)) ++ ([("range", .blt), ("min", .blt), ("max", .blt)] : List (Str × Gi))
end Lw
namespace Lw
open PySem PySem.Spec PyProof.Rows L2 RZ Om
section
variable {K : PySem.W.Frag} {mg : Str → Option Value} {h : Heap}
theorem s_is_number : FnScope f_is_number.N f_is_number.ps f_is_number.scope := ⟨rfl, rfl, rfl, by decide +kernel, rfl, by decide +kernel, by decide +kernel⟩
theorem e_is_number (c : He.SaysD fa fn K) : FiD K f_is_number (He.ga K "is_number") := by
  obtain ⟨fd, F⟩ := c.def_ 0 (d := d_is_number) rfl
  refine ⟨s_is_number, fd, _, _, _, _, F, fun m _ _ => ⟨[], [], fun _ _ _ => ?_, .nil, F.bindsN fun _ _ _ _ _ _ us hl => match us, hl with | [_, _, _], _ => rfl⟩⟩
  rw [show f_is_number.dfl = [] from rfl, List.drop_nil]
  exact .nil
theorem o_is_number (X : K.In h) (G : h.Ns mainGlobals mg) (c : He.SaysD fa fn K) : FiOk K mg f_is_number := ⟨by decide +kernel, _, e_is_number c, He.glo_ok X G (c.fact 0 (f := .glo "is_number") rfl)⟩
theorem s_is_pair : FnScope f_is_pair.N f_is_pair.ps f_is_pair.scope := ⟨rfl, rfl, rfl, by decide +kernel, rfl, by decide +kernel, by decide +kernel⟩
theorem e_is_pair (c : He.SaysD fa fn K) : FiD K f_is_pair (He.ga K "is_pair") := by
  obtain ⟨fd, F⟩ := c.def_ 1 (d := d_is_pair) rfl
  refine ⟨s_is_pair, fd, _, _, _, _, F, fun m _ _ => ⟨[], [], fun _ _ _ => ?_, .nil, F.bindsN fun _ _ _ _ _ _ us hl => match us, hl with | [_], _ => rfl⟩⟩
  rw [show f_is_pair.dfl = [] from rfl, List.drop_nil]
  exact .nil
theorem o_is_pair (X : K.In h) (G : h.Ns mainGlobals mg) (c : He.SaysD fa fn K) : FiOk K mg f_is_pair := ⟨by decide +kernel, _, e_is_pair c, He.glo_ok X G (c.fact 1 (f := .glo "is_pair") rfl)⟩
theorem s_check_tour : FnScope f_check_tour.N f_check_tour.ps f_check_tour.scope := ⟨rfl, rfl, rfl, by decide +kernel, rfl, by decide +kernel, by decide +kernel⟩
theorem e_check_tour (c : He.SaysD fa fn K) : FiD K f_check_tour (He.ga K "check_tour") := by
  obtain ⟨fd, F⟩ := c.def_ 2 (d := d_check_tour) rfl
  refine ⟨s_check_tour, fd, _, _, _, _, F, fun m _ _ => ⟨[], [], fun _ _ _ => ?_, .nil, F.bindsN fun _ _ _ _ _ _ us hl => match us, hl with | [_, _], _ => rfl⟩⟩
  rw [show f_check_tour.dfl = [] from rfl, List.drop_nil]
  exact .nil
theorem o_check_tour (X : K.In h) (G : h.Ns mainGlobals mg) (c : He.SaysD fa fn K) : FiOk K mg f_check_tour := ⟨by decide +kernel, _, e_check_tour c, He.glo_ok X G (c.fact 2 (f := .glo "check_tour") rfl)⟩
theorem s_price : FnScope f_price.N f_price.ps f_price.scope := ⟨rfl, rfl, rfl, by decide +kernel, rfl, by decide +kernel, by decide +kernel⟩
theorem e_price (c : He.SaysD fa fn K) : FiD K f_price (He.ga K "price") := by
  obtain ⟨fd, F⟩ := c.def_ 3 (d := d_price) rfl
  refine ⟨s_price, fd, _, _, _, _, F, fun m _ _ => ⟨[], [], fun _ _ _ => ?_, .nil, F.bindsN fun _ _ _ _ _ _ us hl => match us, hl with | [_, _, _], _ => rfl⟩⟩
  rw [show f_price.dfl = [] from rfl, List.drop_nil]
  exact .nil
theorem o_price (X : K.In h) (G : h.Ns mainGlobals mg) (c : He.SaysD fa fn K) : FiOk K mg f_price := ⟨by decide +kernel, _, e_price c, He.glo_ok X G (c.fact 3 (f := .glo "price") rfl)⟩
theorem s_letters_of : FnScope f_letters_of.N f_letters_of.ps f_letters_of.scope := ⟨rfl, rfl, rfl, by decide +kernel, rfl, by decide +kernel, by decide +kernel⟩
theorem e_letters_of (c : He.SaysD fa fn K) : FiD K f_letters_of (He.ga K "letters_of") := by
  obtain ⟨fd, F⟩ := c.def_ 4 (d := d_letters_of) rfl
  refine ⟨s_letters_of, fd, _, _, _, _, F, fun m _ _ => ⟨[], [], fun _ _ _ => ?_, .nil, F.bindsN fun _ _ _ _ _ _ us hl => match us, hl with | [_, _, _], _ => rfl⟩⟩
  rw [show f_letters_of.dfl = [] from rfl, List.drop_nil]
  exact .nil
theorem o_letters_of (X : K.In h) (G : h.Ns mainGlobals mg) (c : He.SaysD fa fn K) : FiOk K mg f_letters_of := ⟨by decide +kernel, _, e_letters_of c, He.glo_ok X G (c.fact 4 (f := .glo "letters_of") rfl)⟩
theorem s_Homes___init__ : FnScope f_Homes___init__.N f_Homes___init__.ps f_Homes___init__.scope := ⟨rfl, rfl, rfl, by decide +kernel, rfl, by decide +kernel, by decide +kernel⟩
theorem e_Homes___init__ (c : He.SaysD fa fn K) : FiD K f_Homes___init__ (mA K 11 "__init__") := by
  obtain ⟨fd, F⟩ := c.def_ 5 (d := d_Homes___init__) rfl
  refine ⟨s_Homes___init__, fd, _, _, _, _, F, fun m _ _ => ⟨[], [], fun _ _ _ => ?_, .nil, F.bindsN fun _ _ _ _ _ _ us hl => match us, hl with | [_, _, _], _ => rfl⟩⟩
  rw [show f_Homes___init__.dfl = [] from rfl, List.drop_nil]
  exact .nil
theorem s_Homes_shows : FnScope f_Homes_shows.N f_Homes_shows.ps f_Homes_shows.scope := ⟨rfl, rfl, rfl, by decide +kernel, rfl, by decide +kernel, by decide +kernel⟩
theorem e_Homes_shows (c : He.SaysD fa fn K) : FiD K f_Homes_shows (mA K 11 "shows") := by
  obtain ⟨fd, F⟩ := c.def_ 6 (d := d_Homes_shows) rfl
  refine ⟨s_Homes_shows, fd, _, _, _, _, F, fun m _ _ => ⟨[], [], fun _ _ _ => ?_, .nil, F.bindsN fun _ _ _ _ _ _ us hl => match us, hl with | [_, _, _], _ => rfl⟩⟩
  rw [show f_Homes_shows.dfl = [] from rfl, List.drop_nil]
  exact .nil
theorem s_homes : FnScope f_homes.N f_homes.ps f_homes.scope := ⟨rfl, rfl, rfl, by decide +kernel, rfl, by decide +kernel, by decide +kernel⟩
theorem e_homes (c : He.SaysD fa fn K) : FiD K f_homes (He.ga K "homes") := by
  obtain ⟨fd, F⟩ := c.def_ 7 (d := d_homes) rfl
  refine ⟨s_homes, fd, _, _, _, _, F, fun m _ _ => ⟨[], [], fun _ _ _ => ?_, .nil, F.bindsN fun _ _ _ _ _ _ us hl => match us, hl with | [_, _], _ => rfl⟩⟩
  rw [show f_homes.dfl = [] from rfl, List.drop_nil]
  exact .nil
theorem o_homes (X : K.In h) (G : h.Ns mainGlobals mg) (c : He.SaysD fa fn K) : FiOk K mg f_homes := ⟨by decide +kernel, _, e_homes c, He.glo_ok X G (c.fact 5 (f := .glo "homes") rfl)⟩
theorem s__law_cell_at : FnScope f__law_cell_at.N f__law_cell_at.ps f__law_cell_at.scope := ⟨rfl, rfl, rfl, by decide +kernel, rfl, by decide +kernel, by decide +kernel⟩
theorem e__law_cell_at (c : He.SaysD fa fn K) : FiD K f__law_cell_at (He.ga K "_law_cell_at") := by
  obtain ⟨fd, F⟩ := c.def_ 8 (d := d__law_cell_at) rfl
  refine ⟨s__law_cell_at, fd, _, _, _, _, F, fun m _ _ => ⟨[], [], fun _ _ _ => ?_, .nil, F.bindsN fun _ _ _ _ _ _ us hl => match us, hl with | [_, _], _ => rfl⟩⟩
  rw [show f__law_cell_at.dfl = [] from rfl, List.drop_nil]
  exact .nil
theorem o__law_cell_at (X : K.In h) (G : h.Ns mainGlobals mg) (c : He.SaysD fa fn K) : FiOk K mg f__law_cell_at := ⟨by decide +kernel, _, e__law_cell_at c, He.glo_ok X G (c.fact 6 (f := .glo "_law_cell_at") rfl)⟩
theorem s__law_ends_right : FnScope f__law_ends_right.N f__law_ends_right.ps f__law_ends_right.scope := ⟨rfl, rfl, rfl, by decide +kernel, rfl, by decide +kernel, by decide +kernel⟩
theorem e__law_ends_right (c : He.SaysD fa fn K) : FiD K f__law_ends_right (He.ga K "_law_ends_right") := by
  obtain ⟨fd, F⟩ := c.def_ 9 (d := d__law_ends_right) rfl
  refine ⟨s__law_ends_right, fd, _, _, _, _, F, fun m _ _ => ⟨[], [], fun _ _ _ => ?_, .nil, F.bindsN fun _ _ _ _ _ _ us hl => match us, hl with | [_, _, _, _], _ => rfl⟩⟩
  rw [show f__law_ends_right.dfl = [] from rfl, List.drop_nil]
  exact .nil
theorem o__law_ends_right (X : K.In h) (G : h.Ns mainGlobals mg) (c : He.SaysD fa fn K) : FiOk K mg f__law_ends_right := ⟨by decide +kernel, _, e__law_ends_right c, He.glo_ok X G (c.fact 7 (f := .glo "_law_ends_right") rfl)⟩
theorem s__law_more_right : FnScope f__law_more_right.N f__law_more_right.ps f__law_more_right.scope := ⟨rfl, rfl, rfl, by decide +kernel, rfl, by decide +kernel, by decide +kernel⟩
theorem e__law_more_right (c : He.SaysD fa fn K) : FiD K f__law_more_right (He.ga K "_law_more_right") := by
  obtain ⟨fd, F⟩ := c.def_ 10 (d := d__law_more_right) rfl
  refine ⟨s__law_more_right, fd, _, _, _, _, F, fun m _ _ => ⟨[], [], fun _ _ _ => ?_, .nil, F.bindsN fun _ _ _ _ _ _ us hl => match us, hl with | [_, _, _, _], _ => rfl⟩⟩
  rw [show f__law_more_right.dfl = [] from rfl, List.drop_nil]
  exact .nil
theorem o__law_more_right (X : K.In h) (G : h.Ns mainGlobals mg) (c : He.SaysD fa fn K) : FiOk K mg f__law_more_right := ⟨by decide +kernel, _, e__law_more_right c, He.glo_ok X G (c.fact 8 (f := .glo "_law_more_right") rfl)⟩
theorem s__law_renamed_right : FnScope f__law_renamed_right.N f__law_renamed_right.ps f__law_renamed_right.scope := ⟨rfl, rfl, rfl, by decide +kernel, rfl, by decide +kernel, by decide +kernel⟩
theorem e__law_renamed_right (c : He.SaysD fa fn K) : FiD K f__law_renamed_right (He.ga K "_law_renamed_right") := by
  obtain ⟨fd, F⟩ := c.def_ 11 (d := d__law_renamed_right) rfl
  refine ⟨s__law_renamed_right, fd, _, _, _, _, F, fun m _ _ => ⟨[], [], fun _ _ _ => ?_, .nil, F.bindsN fun _ _ _ _ _ _ us hl => match us, hl with | [_, _, _, _], _ => rfl⟩⟩
  rw [show f__law_renamed_right.dfl = [] from rfl, List.drop_nil]
  exact .nil
theorem o__law_renamed_right (X : K.In h) (G : h.Ns mainGlobals mg) (c : He.SaysD fa fn K) : FiOk K mg f__law_renamed_right := ⟨by decide +kernel, _, e__law_renamed_right c, He.glo_ok X G (c.fact 9 (f := .glo "_law_renamed_right") rfl)⟩
theorem s__law_tour : FnScope f__law_tour.N f__law_tour.ps f__law_tour.scope := ⟨rfl, rfl, rfl, by decide +kernel, rfl, by decide +kernel, by decide +kernel⟩
theorem e__law_tour (c : He.SaysD fa fn K) : FiD K f__law_tour (He.ga K "_law_tour") := by
  obtain ⟨fd, F⟩ := c.def_ 12 (d := d__law_tour) rfl
  refine ⟨s__law_tour, fd, _, _, _, _, F, fun m _ _ => ⟨[], [], fun _ _ _ => ?_, .nil, F.bindsN fun _ _ _ _ _ _ us hl => match us, hl with | [_, _, _], _ => rfl⟩⟩
  rw [show f__law_tour.dfl = [] from rfl, List.drop_nil]
  exact .nil
theorem o__law_tour (X : K.In h) (G : h.Ns mainGlobals mg) (c : He.SaysD fa fn K) : FiOk K mg f__law_tour := ⟨by decide +kernel, _, e__law_tour c, He.glo_ok X G (c.fact 10 (f := .glo "_law_tour") rfl)⟩
theorem s__law_letters : FnScope f__law_letters.N f__law_letters.ps f__law_letters.scope := ⟨rfl, rfl, rfl, by decide +kernel, rfl, by decide +kernel, by decide +kernel⟩
theorem e__law_letters (c : He.SaysD fa fn K) : FiD K f__law_letters (He.ga K "_law_letters") := by
  obtain ⟨fd, F⟩ := c.def_ 13 (d := d__law_letters) rfl
  refine ⟨s__law_letters, fd, _, _, _, _, F, fun m _ _ => ⟨[], [], fun _ _ _ => ?_, .nil, F.bindsN fun _ _ _ _ _ _ us hl => match us, hl with | [_, _, _], _ => rfl⟩⟩
  rw [show f__law_letters.dfl = [] from rfl, List.drop_nil]
  exact .nil
theorem o__law_letters (X : K.In h) (G : h.Ns mainGlobals mg) (c : He.SaysD fa fn K) : FiOk K mg f__law_letters := ⟨by decide +kernel, _, e__law_letters c, He.glo_ok X G (c.fact 11 (f := .glo "_law_letters") rfl)⟩
theorem s_law : FnScope f_law.N f_law.ps f_law.scope := ⟨rfl, rfl, rfl, by decide +kernel, rfl, by decide +kernel, by decide +kernel⟩
theorem e_law (c : He.SaysD fa fn K) : FiD K f_law (He.ga K "law") := by
  obtain ⟨fd, F⟩ := c.def_ 14 (d := d_law) rfl
  refine ⟨s_law, fd, _, _, _, _, F, fun m _ _ => ⟨[], [], fun _ _ _ => ?_, .nil, F.bindsN fun _ _ _ _ _ _ us hl => match us, hl with | [_], _ => rfl⟩⟩
  rw [show f_law.dfl = [] from rfl, List.drop_nil]
  exact .nil
theorem o_law (X : K.In h) (G : h.Ns mainGlobals mg) (c : He.SaysD fa fn K) : FiOk K mg f_law := ⟨by decide +kernel, _, e_law c, He.glo_ok X G (c.fact 12 (f := .glo "law") rfl)⟩
def GAll (K : PySem.W.Frag) (mg : Str → Option Value) : List (Str × Gi) → Prop
  | [] => True
  | p :: r => GlOk K mg T p.1 p.2 ∧ GAll K mg r
theorem GAll.look : ∀ {l : List (Str × Gi)} {x : Str} {g : Gi}, GAll K mg l → l.lookup x = some g → GlOk K mg T x g
  | [], _, _, _, e => by cases e
  | (y, g') :: r, x, g, ⟨h1, h2⟩, e => by
    rw [List.lookup_cons] at e
    cases hx : x == y with
    | true =>
      rw [hx] at e
      have e1 : g' = g := Option.some.inj e
      have e2 : x = y := eq_of_beq hx
      subst e1 e2
      exact h1
    | false =>
      rw [hx] at e
      exact h2.look e
theorem g_int (X : K.In h) (G : h.Ns mainGlobals mg) {x : Str} {i : Int} (hx : (x == ("__debug__" : Str)) = false) (c : (He.Fa.int x i).ok K = true) : GlOk K mg T x (.con (.int i)) := by
  obtain ⟨t, e⟩ := He.int_ok X G c
  exact ⟨hx, .int i t, .int i, e, ⟨t, rfl⟩, fun _ _ _ => .int i⟩
theorem g_all (X : K.In h) (G : h.Ns mainGlobals mg) (F : Facts K scl.cr scl.eqs scl.kit) (c : He.SaysD fa fn K) : GAll K mg glob := by
  exact ⟨⟨f_is_number, by kernel_rfl, o_is_number X G c, rfl, rfl, rfl⟩,
    ⟨f_is_pair, by kernel_rfl, o_is_pair X G c, rfl, rfl, rfl⟩,
    ⟨f_check_tour, by kernel_rfl, o_check_tour X G c, rfl, rfl, rfl⟩,
    ⟨f_price, by kernel_rfl, o_price X G c, rfl, rfl, rfl⟩,
    ⟨f_letters_of, by kernel_rfl, o_letters_of X G c, rfl, rfl, rfl⟩,
    ⟨f_homes, by kernel_rfl, o_homes X G c, rfl, rfl, rfl⟩,
    ⟨f__law_cell_at, by kernel_rfl, o__law_cell_at X G c, rfl, rfl, rfl⟩,
    ⟨f__law_ends_right, by kernel_rfl, o__law_ends_right X G c, rfl, rfl, rfl⟩,
    ⟨f__law_more_right, by kernel_rfl, o__law_more_right X G c, rfl, rfl, rfl⟩,
    ⟨f__law_renamed_right, by kernel_rfl, o__law_renamed_right X G c, rfl, rfl, rfl⟩,
    ⟨f__law_tour, by kernel_rfl, o__law_tour X G c, rfl, rfl, rfl⟩,
    ⟨f__law_letters, by kernel_rfl, o__law_letters X G c, rfl, rfl, rfl⟩,
    ⟨f_law, by kernel_rfl, o_law X G c, rfl, rfl, rfl⟩,
    ⟨by decide +kernel, He.glo_ok X G (c.fact 13 (f := .glo "Homes") rfl), F.make r_Homes (by simp [scl]) rfl, f_Homes___init__, by kernel_rfl, e_Homes___init__ c, rfl, rfl, rfl⟩,
    g_int X G (x := "MACHINES") (by decide +kernel) (c.fact 14 (f := .int "MACHINES" (4)) rfl),
    g_int X G (x := "MOST_TOUR") (by decide +kernel) (c.fact 15 (f := .int "MOST_TOUR" (60)) rfl),
    g_int X G (x := "LEADS") (by decide +kernel) (c.fact 16 (f := .int "LEADS" (3)) rfl),
    g_int X G (x := "NEEDS") (by decide +kernel) (c.fact 17 (f := .int "NEEDS" (2)) rfl),
    g_int X G (x := "SENDS") (by decide +kernel) (c.fact 18 (f := .int "SENDS" (1)) rfl),
    He.free_ok X G (x := "isinstance") (c.fact 19 (f := .free "isinstance") rfl),
    He.free_ok X G (x := "int") (c.fact 20 (f := .free "int") rfl),
    He.free_ok X G (x := "bool") (c.fact 21 (f := .free "bool") rfl),
    He.free_ok X G (x := "tuple") (c.fact 22 (f := .free "tuple") rfl),
    He.free_ok X G (x := "len") (c.fact 23 (f := .free "len") rfl),
    He.free_ok X G (x := "str") (c.fact 24 (f := .free "str") rfl),
    He.free_ok X G (x := "list") (c.fact 25 (f := .free "list") rfl),
    He.free_ok X G (x := "all") (c.fact 26 (f := .free "all") rfl),
    He.free_ok X G (x := "zip") (c.fact 27 (f := .free "zip") rfl),
    He.free_ok X G (x := "any") (c.fact 28 (f := .free "any") rfl),
    He.free_ok X G (x := "enumerate") (c.fact 29 (f := .free "enumerate") rfl),
    He.free_ok X G (x := "range") (c.fact 30 (f := .free "range") rfl),
    He.free_ok X G (x := "min") (c.fact 31 (f := .free "min") rfl),
    He.free_ok X G (x := "max") (c.fact 32 (f := .free "max") rfl), True.intro⟩
theorem ms_all (F : Facts K scl.cr scl.eqs scl.kit) (c : He.SaysD fa fn K) : MsAll K scl T := by
  refine ⟨F, fun m c0 n dfl hm => ?_, fun p hp => ?_⟩
  · rcases List.mem_cons.mp hm with e | e
    · cases e
      exact ⟨F.me r_Homes (by simp [scl]) _ (by simp [r_Homes]), (F.cls r_Homes (by simp [scl])).cls, f_Homes_shows, by kernel_rfl, e_Homes_shows c, rfl, rfl, rfl⟩
    · cases e
  · cases hp
end
end Lw
namespace Lw
open PySem PySem.Spec PyProof.Rows L2 RZ Om
def m_is_number (call : Str → SF) : SS := (sSeq (sRet (cAndT (cOpN (isiX scl.cls scl.kit) (cCons (cVar 0) (cCons (cCon (.ty "int")) cNil))) (cAndT (cNotT (cOpN (isiX scl.cls scl.kit) (cCons (cVar 0) (cCons (cCon (.ty "bool")) cNil)))) (cCh (ltD' .le) (ltD' .le) (cVar 1) (cVar 0) (cVar 2)))))
  sPass)
theorem b_is_number (call : Str → SF) : bodyF glob scl call f_is_number = m_is_number call := by kernel_rfl
theorem c_is_number (k : Nat) (ds : List D) (R : Rg) (h : ds.length = 3) : callF glob scl T (k + 2) "is_number" ds R = fin false R (m_is_number (callW glob scl T (k + 1)) (ds ++ List.replicate 0 .undef) R) := by
  rw [callF_run (fi := f_is_number) (by kernel_rfl)]
  unfold runF
  rw [if_pos (show ds.length = f_is_number.ps.length from h), b_is_number]
  rfl
theorem w_is_number (k : Nat) : callW glob scl T k "is_number" = callF glob scl T k "is_number" := callW_std (by kernel_rfl)
def m_is_pair (call : Str → SF) : SS := (sSeq (sIf (bOr (bNot (bVal (cOpN (isiX scl.cls scl.kit) (cCons (cVar 0) (cCons (cCon (.ty "tuple")) cNil))))) (bOr (bOf (cOp2 (eqX true (eqF call scl.eqs)) (cOpN lenD (cCons (cVar 0) cNil)) (cCon (.int 2)))) (bNot (bVal (cOpN (isiX scl.cls scl.kit) (cCons (cOp2 ixD (cVar 0) (cCon (.int 0))) (cCons (cCon (.ty "str")) cNil))))))) (sSeq (sRet (cCon (.bl false)))
  sPass) sPass)
  (sSeq (sRet (cAndT (cOp2 (inD false) (cOp2 ixD (cVar 0) (cCon (.int 0))) (cTup (cCons (cCon (.str [110, 101, 101, 100])) (cCons (cCon (.str [115, 101, 110, 100])) cNil)))) (cCall (call "is_number") [] (cCons (cOp2 ixD (cVar 0) (cCon (.int 1))) (cCons (cCon (.int 0)) (cCons (cOp2 subD (cCon (.int (4))) (cCon (.int 1))) cNil))))))
  sPass))
theorem b_is_pair (call : Str → SF) : bodyF glob scl call f_is_pair = m_is_pair call := by kernel_rfl
theorem c_is_pair (k : Nat) (ds : List D) (R : Rg) (h : ds.length = 1) : callF glob scl T (k + 2) "is_pair" ds R = fin false R (m_is_pair (callW glob scl T (k + 1)) (ds ++ List.replicate 0 .undef) R) := by
  rw [callF_run (fi := f_is_pair) (by kernel_rfl)]
  unfold runF
  rw [if_pos (show ds.length = f_is_pair.ps.length from h), b_is_pair]
  rfl
theorem w_is_pair (k : Nat) : callW glob scl T k "is_pair" = callF glob scl T k "is_pair" := callW_std (by kernel_rfl)
def m_check_tour_e1 (call : Str → SF) : SE := (cCall (call "is_pair") [] (cCons (cVar 2) cNil))
def m_check_tour (call : Str → SF) : SS := (sSeq (sIf (bOr (bNot (bVal (cOpN (isiX scl.cls scl.kit) (cCons (cVar 0) (cCons (cCon (.ty "list")) cNil))))) (bOr (bOf (cOp2 (ltD' .gt) (cOpN lenD (cCons (cVar 0) cNil)) (cCon (.int (60))))) (bNot (bVal (cOpN allD (cCons (cComp (iSeq (cVar 0)) (gVar 2) (fun _ R => .ok true R) (m_check_tour_e1 call) [2] false) cNil)))))) (sSeq sErr
  sPass) sPass)
  (sSeq (sIf (bNot (bVal (cCall (call "is_number") [] (cCons (cVar 1) (cCons (cCon (.int 0)) (cCons (cOp2 subD (cCon (.int (4))) (cCon (.int 1))) cNil)))))) (sSeq sErr
  sPass) sPass)
  sPass))
theorem b_check_tour (call : Str → SF) : bodyF glob scl call f_check_tour = m_check_tour call := by kernel_rfl
theorem c_check_tour (k : Nat) (ds : List D) (R : Rg) (h : ds.length = 2) : callF glob scl T (k + 2) "check_tour" ds R = fin false R (m_check_tour (callW glob scl T (k + 1)) (ds ++ List.replicate 1 .undef) R) := by
  rw [callF_run (fi := f_check_tour) (by kernel_rfl)]
  unfold runF
  rw [if_pos (show ds.length = f_check_tour.ps.length from h), b_check_tour]
  rfl
theorem w_check_tour (k : Nat) : callW glob scl T k "check_tour" = callF glob scl T k "check_tour" := callW_std (by kernel_rfl)
def m_price (call : Str → SF) : SS := (sSeq (sAsg (cIf (bOf (cOp2 (eqX true (eqF call scl.eqs)) (cVar 1) (cVar 2))) (cCon (.int (3))) (cCon (.int 0))) (gVar 3))
  (sSeq (sIf (bOf (cOp2 (eqX false (eqF call scl.eqs)) (cOp2 ixD (cVar 0) (cCon (.int 1))) (cVar 2))) (sSeq (sRet (cVar 3))
  sPass) sPass)
  (sSeq (sRet (cOp2 (addD false) (cVar 3) (cIf (bOf (cOp2 (eqX false (eqF call scl.eqs)) (cOp2 ixD (cVar 0) (cCon (.int 0))) (cCon (.str [110, 101, 101, 100])))) (cCon (.int (2))) (cCon (.int (1))))))
  sPass)))
theorem b_price (call : Str → SF) : bodyF glob scl call f_price = m_price call := by kernel_rfl
theorem c_price (k : Nat) (ds : List D) (R : Rg) (h : ds.length = 3) : callF glob scl T (k + 2) "price" ds R = fin false R (m_price (callW glob scl T (k + 1)) (ds ++ List.replicate 1 .undef) R) := by
  rw [callF_run (fi := f_price) (by kernel_rfl)]
  unfold runF
  rw [if_pos (show ds.length = f_price.ps.length from h), b_price]
  rfl
theorem w_price (k : Nat) : callW glob scl T k "price" = callF glob scl T k "price" := callW_std (by kernel_rfl)
def m_letters_of_b1 (call : Str → SF) : SS := (sSeq (sAug 3 addI (cCall (call "price") [] (cCons (cVar 5) (cCons (cVar 4) (cCons (cVar 6) cNil)))))
  (sSeq (sAsg (cVar 6) (gVar 4))
  sPass))
def m_letters_of (call : Str → SF) : SS := (sSeq (sPar2 3 4 (cCons (cCon (.int 0)) (cCons (cVar 1) cNil)))
  (sSeq (sFor (iArgs zip2 (cCons (cVar 0) (cCons (cVar 2) cNil))) (gT 2 (gC (gVar 5) (gC (gVar 6) gN))) (m_letters_of_b1 call))
  (sSeq (sRet (cVar 3))
  sPass)))
theorem b_letters_of (call : Str → SF) : bodyF glob scl call f_letters_of = m_letters_of call := by kernel_rfl
theorem c_letters_of (k : Nat) (ds : List D) (R : Rg) (h : ds.length = 3) : callF glob scl T (k + 2) "letters_of" ds R = fin false R (m_letters_of (callW glob scl T (k + 1)) (ds ++ List.replicate 4 .undef) R) := by
  rw [callF_run (fi := f_letters_of) (by kernel_rfl)]
  unfold runF
  rw [if_pos (show ds.length = f_letters_of.ps.length from h), b_letters_of]
  rfl
theorem w_letters_of (k : Nat) : callW glob scl T k "letters_of" = callF glob scl T k "letters_of" := callW_std (by kernel_rfl)
def m_Homes___init___e1 (call : Str → SF) : SE := (cOpN (listD false) (cCons (cVar 3) cNil))
def m_Homes___init__ (call : Str → SF) : SS := (sSeq (sSetF scl.ca 15 (cOpN (listD false) (cCons (cVar 1) cNil)) (cVar 0))
  (sSeq (sSetF scl.ca 16 (cComp (iSeq (cVar 2)) (gVar 3) (fun _ R => .ok true R) (m_Homes___init___e1 call) [3] false) (cVar 0))
  sPass))
theorem b_Homes___init__ (call : Str → SF) : bodyF glob scl call f_Homes___init__ = m_Homes___init__ call := by kernel_rfl
theorem c_Homes___init__ (k : Nat) (ds : List D) (R : Rg) (h : ds.length = 3) : callF glob scl T (k + 2) "Homes.__init__" ds R = fin false R (m_Homes___init__ (callW glob scl T (k + 1)) (ds ++ List.replicate 1 .undef) R) := by
  rw [callF_run (fi := f_Homes___init__) (by kernel_rfl)]
  unfold runF
  rw [if_pos (show ds.length = f_Homes___init__.ps.length from h), b_Homes___init__]
  rfl
theorem w_Homes___init__ (k : Nat) : callW glob scl T (k + 1) "Homes.__init__" = callF glob scl T k "Homes.__init__" := callW_low (by kernel_rfl)
def m_Homes_shows_b1 (call : Str → SF) : SS := (sSeq (sIf (bOf (cOp2 (ltD' .gt) (cOp2 ixD (cOp2 ixD (cOp1 (fldD scl.ca 16) (cVar 0)) (cVar 3)) (cVar 5)) (cOp2 (addD false) (cCall (call "price") [] (cCons (cVar 4) (cCons (cVar 5) (cCons (cVar 6) cNil)))) (cOp2 ixD (cOp2 ixD (cOp1 (fldD scl.ca 16) (cVar 0)) (cOp2 (addD false) (cVar 3) (cCon (.int 1)))) (cVar 6))))) (sSeq (sRet (cCon (.bl false)))
  sPass) sPass)
  sPass)
def m_Homes_shows_b2 (call : Str → SF) : SS := (sSeq (sFor (iArgs rng1 (cCons (cCon (.int (4))) cNil)) (gVar 6) (m_Homes_shows_b1 call))
  sPass)
def m_Homes_shows_b3 (call : Str → SF) : SS := (sSeq (sFor (iArgs rng1 (cCons (cCon (.int (4))) cNil)) (gVar 5) (m_Homes_shows_b2 call))
  sPass)
def m_Homes_shows_e1 (call : Str → SF) : SE := (cOp2 (ltD' .gt) (cVar 7) (cCon (.int 0)))
def m_Homes_shows_e2 (call : Str → SF) : SE := (cOp2 (eqX false (eqF call scl.eqs)) (cOpN lenD (cCons (cVar 8) cNil)) (cCon (.int (4))))
def m_Homes_shows_e3 (call : Str → SF) : SE := (cCh (ltD' .le) (ltD' .lt) (cCon (.int 0)) (cVar 6) (cCon (.int (4))))
def m_Homes_shows (call : Str → SF) : SS := (sSeq (sIf (bOr (bOf (cOp2 (eqX true (eqF call scl.eqs)) (cOpN lenD (cCons (cOp1 (fldD scl.ca 15) (cVar 0)) cNil)) (cOpN lenD (cCons (cVar 1) cNil)))) (bNot (bVal (cOpN allD (cCons (cComp (iSeq (cOp1 (fldD scl.ca 15) (cVar 0))) (gVar 6) (fun _ R => .ok true R) (m_Homes_shows_e3 call) [6] false) cNil))))) (sSeq (sRet (cCon (.bl false)))
  sPass) sPass)
  (sSeq (sIf (bOr (bOf (cOp2 (eqX true (eqF call scl.eqs)) (cOpN lenD (cCons (cOp1 (fldD scl.ca 16) (cVar 0)) cNil)) (cOp2 (addD false) (cOpN lenD (cCons (cVar 1) cNil)) (cCon (.int 1))))) (bNot (bVal (cOpN allD (cCons (cComp (iSeq (cOp1 (fldD scl.ca 16) (cVar 0))) (gVar 8) (fun _ R => .ok true R) (m_Homes_shows_e2 call) [8] false) cNil))))) (sSeq (sRet (cCon (.bl false)))
  sPass) sPass)
  (sSeq (sIf (bVal (cOpN anyD (cCons (cComp (iSeq (cOp2 ixD (cOp1 (fldD scl.ca 16) (cVar 0)) (cOp1 negD (cCon (.int 1))))) (gVar 7) (fun _ R => .ok true R) (m_Homes_shows_e1 call) [7] false) cNil))) (sSeq (sRet (cCon (.bl false)))
  sPass) sPass)
  (sSeq (sFor (iArgs enum1 (cCons (cVar 1) cNil)) (gT 2 (gC (gVar 3) (gC (gVar 4) gN))) (m_Homes_shows_b3 call))
  (sSeq (sRet (cOp2 (eqX false (eqF call scl.eqs)) (cCall (call "letters_of") [] (cCons (cVar 1) (cCons (cVar 2) (cCons (cOp1 (fldD scl.ca 15) (cVar 0)) cNil)))) (cOp2 ixD (cOp2 ixD (cOp1 (fldD scl.ca 16) (cVar 0)) (cCon (.int 0))) (cVar 2))))
  sPass)))))
theorem b_Homes_shows (call : Str → SF) : bodyF glob scl call f_Homes_shows = m_Homes_shows call := by kernel_rfl
theorem c_Homes_shows (k : Nat) (ds : List D) (R : Rg) (h : ds.length = 3) : callF glob scl T (k + 2) "Homes.shows" ds R = fin false R (m_Homes_shows (callW glob scl T (k + 1)) (ds ++ List.replicate 6 .undef) R) := by
  rw [callF_run (fi := f_Homes_shows) (by kernel_rfl)]
  unfold runF
  rw [if_pos (show ds.length = f_Homes_shows.ps.length from h), b_Homes_shows]
  rfl
theorem w_Homes_shows (k : Nat) : callW glob scl T k "Homes.shows" = callF glob scl T k "Homes.shows" := callW_std (by kernel_rfl)
def m_homes_e1 (call : Str → SF) : SE := (cOp2 (addD false) (cCall (call "price") [] (cCons (cVar 3) (cCons (cVar 6) (cCons (cVar 9) cNil)))) (cOp2 ixD (cOp2 ixD (cVar 2) (cOp2 (addD false) (cVar 7) (cCon (.int 1)))) (cVar 9)))
def m_homes_b1 (call : Str → SF) : SS := (sSeq (sAsg (cComp (iArgs rng1 (cCons (cCon (.int (4))) cNil)) (gVar 9) (fun _ R => .ok true R) (m_homes_e1 call) [9] false) (gVar 8))
  (sSeq (sAsg (eMetL [(0, indexD)] (cVar 8) (cCons (cOpN minD (cCons (cVar 8) cNil)) cNil)) (gVar 6))
  (sSeq (sExpr (eMetL [(0, appendD)] (cVar 5) (cCons (cVar 6) cNil)))
  sPass)))
def m_homes_e2 (call : Str → SF) : SE := (cOp2 (addD false) (cCall (call "price") [] (cCons (cVar 3) (cCons (cVar 6) (cCons (cVar 9) cNil)))) (cOp2 ixD (cVar 4) (cVar 9)))
def m_homes_e3 (call : Str → SF) : SE := (cOpN minD (cCons (cComp (iArgs rng1 (cCons (cCon (.int (4))) cNil)) (gVar 9) (fun _ R => .ok true R) (m_homes_e2 call) [9] false) cNil))
def m_homes_b2 (call : Str → SF) : SS := (sSeq (sAsg (cOp2 ixD (cVar 2) (cCon (.int 0))) (gVar 4))
  (sSeq (sAsg (cOp2 (addD false) (cLst false (cCons (cComp (iArgs rng1 (cCons (cCon (.int (4))) cNil)) (gVar 6) (fun _ R => .ok true R) (m_homes_e3 call) [6] false) cNil)) (cVar 2)) (gVar 2))
  sPass))
def m_homes (call : Str → SF) : SS := (sSeq (sExpr (cCall (call "check_tour") [] (cCons (cVar 0) (cCons (cVar 1) cNil))))
  (sSeq (sAsg (cLst false (cCons (cOp2 (mulD false) (cLst false (cCons (cCon (.int 0)) cNil)) (cCon (.int (4)))) cNil)) (gVar 2))
  (sSeq (sFor (iSeq (cOp1 (revD false) (cVar 0))) (gVar 3) (m_homes_b2 call))
  (sSeq (sAsg (cTup (cCons (cLst true cNil) (cCons (cVar 1) cNil))) (gT 2 (gC (gVar 5) (gC (gVar 6) gN))))
  (sSeq (sFor (iArgs enum1 (cCons (cVar 0) cNil)) (gT 2 (gC (gVar 7) (gC (gVar 3) gN))) (m_homes_b1 call))
  (sSeq (sRet (cMake 11 (call "Homes.__init__") [] (cCons (cVar 5) (cCons (cVar 2) cNil))))
  sPass))))))
theorem b_homes (call : Str → SF) : bodyF glob scl call f_homes = m_homes call := by kernel_rfl
theorem c_homes (k : Nat) (ds : List D) (R : Rg) (h : ds.length = 2) : callF glob scl T (k + 2) "homes" ds R = fin false R (m_homes (callW glob scl T (k + 1)) (ds ++ List.replicate 8 .undef) R) := by
  rw [callF_run (fi := f_homes) (by kernel_rfl)]
  unfold runF
  rw [if_pos (show ds.length = f_homes.ps.length from h), b_homes]
  rfl
theorem w_homes (k : Nat) : callW glob scl T k "homes" = callF glob scl T k "homes" := callW_std (by kernel_rfl)
def m__law_cell_at (call : Str → SF) : SS := (sSeq (sAsg (cIf (bOf (cOp2 (eqX true (eqF call scl.eqs)) (cVar 0) (cLst false cNil))) (cSl false (cVar 0) none (some (cCon (.int 63)))) (cLst false (cCons (cCon (.int 5)) cNil))) (gVar 2))
  (sSeq (sPar2 4 5 (cCons (cOp2 (addD false) (cOp2 modD (cOp2 ixD (cVar 2) (cOp2 modD (cVar 1) (cOpN lenD (cCons (cVar 2) cNil)))) (cOp2 powD (cCon (.int 10)) (cCon (.int 18)))) (cOp2 (mulD false) (cCon (.int 13)) (cOp2 fdivD (cVar 1) (cOpN lenD (cCons (cVar 2) cNil))))) (cCons (cVar 1) cNil)))
  (sSeq (sPar2 6 7 (cCons (cOp2 modD (cOpN intD (cCons (cVar 4) cNil)) (cCon (.int 1000003))) (cCons (cOp2 modD (cOpN intD (cCons (cOp2 fdivD (cVar 4) (cCon (.int 1000003))) cNil)) (cCon (.int 999983))) cNil)))
  (sSeq (sAsg (cOp2 modD (cOp2 (addD false) (cOp2 (addD false) (cOp2 (mulD false) (cOp2 (addD false) (cVar 6) (cOp2 (mulD false) (cCon (.int 977)) (cVar 5))) (cCon (.int 48271))) (cOp2 (mulD false) (cCon (.int 31)) (cVar 7))) (cOp2 (mulD false) (cCon (.int 7919)) (cOpN lenD (cCons (cVar 2) cNil)))) (cCon (.int 2147483647))) (gVar 3))
  (sSeq (sRet (cOp2 (addD false) (cOp2 (mulD false) (cOp2 modD (cOp2 (mulD false) (cVar 3) (cOp2 (addD false) (cOp2 (addD false) (cVar 3) (cOp2 (mulD false) (cCon (.int 31)) (cVar 5))) (cCon (.int 7)))) (cCon (.int 2147483629))) (cCon (.int 65537))) (cVar 7)))
  sPass)))))
theorem b__law_cell_at (call : Str → SF) : bodyF glob scl call f__law_cell_at = m__law_cell_at call := by kernel_rfl
theorem c__law_cell_at (k : Nat) (ds : List D) (R : Rg) (h : ds.length = 2) : callF glob scl T (k + 2) "_law_cell_at" ds R = fin false R (m__law_cell_at (callW glob scl T (k + 1)) (ds ++ List.replicate 6 .undef) R) := by
  rw [callF_run (fi := f__law_cell_at) (by kernel_rfl)]
  unfold runF
  rw [if_pos (show ds.length = f__law_cell_at.ps.length from h), b__law_cell_at]
  rfl
theorem w__law_cell_at (k : Nat) : callW glob scl T k "_law_cell_at" = callF glob scl T k "_law_cell_at" := callW_std (by kernel_rfl)
def m__law_ends_right (call : Str → SF) : SS := (sSeq (sAsg (cOp2 ixD (cOp2 (addD false) (cLst false (cCons (cVar 1) cNil)) (cOp1 (fldD scl.ca 15) (cVar 2))) (cVar 3)) (gVar 4))
  (sSeq (sAsg (cCall (call "homes") [] (cCons (cSl false (cVar 0) (some (cVar 3)) none) (cCons (cVar 4) cNil))) (gVar 5))
  (sSeq (sIf (bOr (bOf (cOp2 (eqX true (eqF call scl.eqs)) (cSl false (cOp1 (fldD scl.ca 16) (cVar 2)) (some (cVar 3)) none) (cOp1 (fldD scl.ca 16) (cVar 5)))) (bOf (cOp2 (eqX true (eqF call scl.eqs)) (cSl false (cOp1 (fldD scl.ca 15) (cVar 2)) (some (cVar 3)) none) (cOp1 (fldD scl.ca 15) (cVar 5))))) (sSeq (sRet (cCon (.bl false)))
  sPass) sPass)
  (sSeq (sAsg (cCall (call "homes") [] (cCons (cSl false (cVar 0) none (some (cVar 3))) (cCons (cVar 1) cNil))) (gVar 6))
  (sSeq (sIf (bNot (bOf (cOp2 (ltD' .le) (cOp2 (addD false) (cOp2 ixD (cOp2 ixD (cOp1 (fldD scl.ca 16) (cVar 6)) (cCon (.int 0))) (cVar 1)) (cOp2 ixD (cOp2 ixD (cOp1 (fldD scl.ca 16) (cVar 5)) (cCon (.int 0))) (cVar 4))) (cOp2 ixD (cOp2 ixD (cOp1 (fldD scl.ca 16) (cVar 2)) (cCon (.int 0))) (cVar 1))))) (sSeq (sRet (cCon (.bl false)))
  sPass) sPass)
  (sSeq (sRet (cOp2 (ltD' .le) (cOp2 ixD (cOp2 ixD (cOp1 (fldD scl.ca 16) (cVar 6)) (cCon (.int 0))) (cVar 1)) (cOp2 ixD (cOp2 ixD (cOp1 (fldD scl.ca 16) (cVar 2)) (cCon (.int 0))) (cVar 1))))
  sPass))))))
theorem b__law_ends_right (call : Str → SF) : bodyF glob scl call f__law_ends_right = m__law_ends_right call := by kernel_rfl
theorem c__law_ends_right (k : Nat) (ds : List D) (R : Rg) (h : ds.length = 4) : callF glob scl T (k + 2) "_law_ends_right" ds R = fin false R (m__law_ends_right (callW glob scl T (k + 1)) (ds ++ List.replicate 3 .undef) R) := by
  rw [callF_run (fi := f__law_ends_right) (by kernel_rfl)]
  unfold runF
  rw [if_pos (show ds.length = f__law_ends_right.ps.length from h), b__law_ends_right]
  rfl
theorem w__law_ends_right (k : Nat) : callW glob scl T k "_law_ends_right" = callF glob scl T k "_law_ends_right" := callW_std (by kernel_rfl)
def m__law_more_right_b1 (call : Str → SF) : SS := (sSeq (sAsg (cOp2 subD (cOp2 ixD (cOp2 ixD (cOp1 (fldD scl.ca 16) (cCall (call "homes") [] (cCons (cVar 7) (cCons (cVar 8) cNil)))) (cCon (.int 0))) (cVar 8)) (cOp2 ixD (cOp2 ixD (cOp1 (fldD scl.ca 16) (cVar 2)) (cCon (.int 0))) (cVar 1))) (gVar 9))
  (sSeq (sIf (bNot (bOf (cCh (ltD' .le) (ltD' .le) (cCon (.int 0)) (cVar 9) (cVar 5)))) (sSeq (sRet (cCon (.bl false)))
  sPass) sPass)
  sPass))
def m__law_more_right (call : Str → SF) : SS := (sSeq (sAsg (cTup (cCons (cOp2 ixD (cTup (cCons (cCon (.str [110, 101, 101, 100])) (cCons (cCon (.str [115, 101, 110, 100])) cNil))) (cOp2 modD (cVar 3) (cCon (.int 2)))) (cCons (cOp2 modD (cOp2 fdivD (cVar 3) (cCon (.int 2))) (cCon (.int 4))) cNil))) (gVar 4))
  (sSeq (sAsg (cIf (bOf (cOp2 (eqX false (eqF call scl.eqs)) (cOp2 ixD (cVar 4) (cCon (.int 0))) (cCon (.str [110, 101, 101, 100])))) (cCon (.int 2)) (cCon (.int 1))) (gVar 5))
  (sSeq (sFor (iSeq (cTup (cCons (cTup (cCons (cOp2 (addD false) (cVar 0) (cLst false (cCons (cVar 4) cNil))) (cCons (cVar 1) cNil))) (cCons (cTup (cCons (cOp2 (addD false) (cLst false (cCons (cVar 4) cNil)) (cVar 0)) (cCons (cVar 1) cNil))) cNil)))) (gT 2 (gC (gVar 7) (gC (gVar 8) gN))) (m__law_more_right_b1 call))
  (sSeq (sAsg (cCall (call "homes") [] (cCons (cOp2 (addD false) (cOp2 (mulD false) (cLst false (cCons (cTup (cCons (cCon (.str [110, 101, 101, 100])) (cCons (cVar 1) cNil))) cNil)) (cCon (.int 3))) (cVar 0)) (cCons (cVar 1) cNil))) (gVar 6))
  (sSeq (sRet (cAndT (cOp2 (eqX false (eqF call scl.eqs)) (cOp2 ixD (cOp2 ixD (cOp1 (fldD scl.ca 16) (cVar 6)) (cCon (.int 0))) (cVar 1)) (cOp2 ixD (cOp2 ixD (cOp1 (fldD scl.ca 16) (cVar 2)) (cCon (.int 0))) (cVar 1))) (cOp2 (eqX false (eqF call scl.eqs)) (cSl false (cOp1 (fldD scl.ca 15) (cVar 6)) none (some (cCon (.int 3)))) (cOp2 (mulD false) (cLst false (cCons (cVar 1) cNil)) (cCon (.int 3))))))
  sPass)))))
theorem b__law_more_right (call : Str → SF) : bodyF glob scl call f__law_more_right = m__law_more_right call := by kernel_rfl
theorem c__law_more_right (k : Nat) (ds : List D) (R : Rg) (h : ds.length = 4) : callF glob scl T (k + 2) "_law_more_right" ds R = fin false R (m__law_more_right (callW glob scl T (k + 1)) (ds ++ List.replicate 6 .undef) R) := by
  rw [callF_run (fi := f__law_more_right) (by kernel_rfl)]
  unfold runF
  rw [if_pos (show ds.length = f__law_more_right.ps.length from h), b__law_more_right]
  rfl
theorem w__law_more_right (k : Nat) : callW glob scl T k "_law_more_right" = callF glob scl T k "_law_more_right" := callW_std (by kernel_rfl)
def m__law_renamed_right_e1 (call : Str → SF) : SE := (cTup (cCons (cVar 13) (cCons (cOp2 ixD (cVar 8) (cVar 14)) cNil)))
def m__law_renamed_right_e2 (call : Str → SF) : SE := (cOp2 ixD (cVar 8) (cVar 12))
def m__law_renamed_right_e3 (call : Str → SF) : SE := (cOp2 ixD (cVar 11) (cOp2 ixD (cVar 8) (cVar 12)))
def m__law_renamed_right_b1 (call : Str → SF) : SS := (sSeq (sIf (bOf (cOp2 (eqX true (eqF call scl.eqs)) (cComp (iArgs rng1 (cCons (cCon (.int 4)) cNil)) (gVar 12) (fun _ R => .ok true R) (m__law_renamed_right_e3 call) [12] false) (cVar 10))) (sSeq (sRet (cCon (.bl false)))
  sPass) sPass)
  sPass)
def m__law_renamed_right_e4 (call : Str → SF) : SE := (cTup (cCons (cVar 13) (cCons (cOp2 ixD (cVar 8) (cVar 14)) cNil)))
def m__law_renamed_right_b2 (call : Str → SF) : SS := (sSeq (sExpr (eMetL [(0, appendD)] (cVar 8) (cCons (eMetL [(0, popD)] (cVar 9) (cCons (cOp2 modD (cOp2 fdivD (cVar 3) (cOp2 (addD false) (cCon (.int 1)) (cOp2 (mulD false) (cCon (.int 4)) (cVar 4)))) (cOpN lenD (cCons (cVar 9) cNil))) cNil)) cNil)))
  sPass)
def m__law_renamed_right (call : Str → SF) : SS := (sSeq (sAsg (cTup (cCons (cLst true cNil) (cCons (cLst true (cCons (cCon (.int 0)) (cCons (cCon (.int 1)) (cCons (cCon (.int 2)) (cCons (cCon (.int 3)) cNil))))) cNil))) (gT 2 (gC (gVar 8) (gC (gVar 9) gN))))
  (sSeq (sFor (iArgs rng1 (cCons (cCon (.int 4)) cNil)) (gVar 4) (m__law_renamed_right_b2 call))
  (sSeq (sAsg (cCall (call "homes") [] (cCons (cComp (iSeq (cVar 0)) (gT 2 (gC (gVar 13) (gC (gVar 14) gN))) (fun _ R => .ok true R) (m__law_renamed_right_e4 call) [13, 14] false) (cCons (cOp2 ixD (cVar 8) (cVar 1)) cNil))) (gVar 5))
  (sSeq (sFor (iArgs zip2 (cCons (cOp1 (fldD scl.ca 16) (cVar 2)) (cCons (cOp1 (fldD scl.ca 16) (cVar 5)) cNil))) (gT 2 (gC (gVar 10) (gC (gVar 11) gN))) (m__law_renamed_right_b1 call))
  (sSeq (sAsg (cComp (iSeq (cOp1 (fldD scl.ca 15) (cVar 2))) (gVar 12) (fun _ R => .ok true R) (m__law_renamed_right_e2 call) [12] false) (gVar 6))
  (sSeq (sAsg (cComp (iSeq (cVar 0)) (gT 2 (gC (gVar 13) (gC (gVar 14) gN))) (fun _ R => .ok true R) (m__law_renamed_right_e1 call) [13, 14] false) (gVar 7))
  (sSeq (sRet (cOp2 (eqX false (eqF call scl.eqs)) (cCall (call "_law_letters") [] (cCons (cVar 7) (cCons (cVar 6) (cCons (cOp2 ixD (cVar 8) (cVar 1)) cNil)))) (cOp2 ixD (cOp2 ixD (cOp1 (fldD scl.ca 16) (cVar 5)) (cCon (.int 0))) (cOp2 ixD (cVar 8) (cVar 1)))))
  sPass)))))))
theorem b__law_renamed_right (call : Str → SF) : bodyF glob scl call f__law_renamed_right = m__law_renamed_right call := by kernel_rfl
theorem c__law_renamed_right (k : Nat) (ds : List D) (R : Rg) (h : ds.length = 4) : callF glob scl T (k + 2) "_law_renamed_right" ds R = fin false R (m__law_renamed_right (callW glob scl T (k + 1)) (ds ++ List.replicate 11 .undef) R) := by
  rw [callF_run (fi := f__law_renamed_right) (by kernel_rfl)]
  unfold runF
  rw [if_pos (show ds.length = f__law_renamed_right.ps.length from h), b__law_renamed_right]
  rfl
theorem w__law_renamed_right (k : Nat) : callW glob scl T k "_law_renamed_right" = callF glob scl T k "_law_renamed_right" := callW_std (by kernel_rfl)
def m__law_tour_b1 (call : Str → SF) : SS := (sSeq (sAsg (cCall (call "_law_cell_at") [] (cCons (cVar 0) (cCons (cOp2 (addD false) (cVar 1) (cVar 3)) cNil))) (gVar 6))
  (sSeq (sAsg (cOp2 ixD (cTup (cCons (cVar 5) (cCons (cOp2 modD (cOp2 fdivD (cVar 6) (cCon (.int 8))) (cCon (.int 4))) (cCons (cVar 5) cNil)))) (cOp2 modD (cVar 6) (cCon (.int 3)))) (gVar 5))
  (sSeq (sExpr (eMetL [(0, appendD)] (cVar 4) (cCons (cTup (cCons (cOp2 ixD (cTup (cCons (cCon (.str [110, 101, 101, 100])) (cCons (cCon (.str [115, 101, 110, 100])) cNil))) (cOp2 modD (cOp2 fdivD (cVar 6) (cCon (.int 64))) (cCon (.int 2)))) (cCons (cVar 5) cNil))) cNil)))
  sPass)))
def m__law_tour (call : Str → SF) : SS := (sSeq (sPar2 4 5 (cCons (cLst true cNil) (cCons (cCon (.int 0)) cNil)))
  (sSeq (sFor (iArgs rng1 (cCons (cVar 2) cNil)) (gVar 3) (m__law_tour_b1 call))
  (sSeq (sRet (cVar 4))
  sPass)))
theorem b__law_tour (call : Str → SF) : bodyF glob scl call f__law_tour = m__law_tour call := by kernel_rfl
theorem c__law_tour (k : Nat) (ds : List D) (R : Rg) (h : ds.length = 3) : callF glob scl T (k + 2) "_law_tour" ds R = fin false R (m__law_tour (callW glob scl T (k + 1)) (ds ++ List.replicate 4 .undef) R) := by
  rw [callF_run (fi := f__law_tour) (by kernel_rfl)]
  unfold runF
  rw [if_pos (show ds.length = f__law_tour.ps.length from h), b__law_tour]
  rfl
theorem w__law_tour (k : Nat) : callW glob scl T k "_law_tour" = callF glob scl T k "_law_tour" := callW_std (by kernel_rfl)
def m__law_letters_b1 (call : Str → SF) : SS := (sSeq (sAsg (cOp2 (addD false) (cOp2 (addD false) (cVar 3) (cIf (bOf (cOp2 (eqX false (eqF call scl.eqs)) (cVar 5) (cVar 4))) (cCon (.int 0)) (cCon (.int 3)))) (cIf (bOf (cOp2 (eqX false (eqF call scl.eqs)) (cVar 5) (cVar 7))) (cCon (.int 0)) (cIf (bOf (cOp2 (eqX false (eqF call scl.eqs)) (cVar 6) (cCon (.str [110, 101, 101, 100])))) (cCon (.int 2)) (cCon (.int 1))))) (gVar 3))
  (sSeq (sAsg (cVar 5) (gVar 4))
  sPass))
def m__law_letters (call : Str → SF) : SS := (sSeq (sPar2 3 4 (cCons (cCon (.int 0)) (cCons (cVar 2) cNil)))
  (sSeq (sFor (iArgs zip2 (cCons (cVar 0) (cCons (cVar 1) cNil))) (gT 2 (gC (gT 2 (gC (gVar 6) (gC (gVar 7) gN))) (gC (gVar 5) gN))) (m__law_letters_b1 call))
  (sSeq (sRet (cVar 3))
  sPass)))
theorem b__law_letters (call : Str → SF) : bodyF glob scl call f__law_letters = m__law_letters call := by kernel_rfl
theorem c__law_letters (k : Nat) (ds : List D) (R : Rg) (h : ds.length = 3) : callF glob scl T (k + 2) "_law_letters" ds R = fin false R (m__law_letters (callW glob scl T (k + 1)) (ds ++ List.replicate 5 .undef) R) := by
  rw [callF_run (fi := f__law_letters) (by kernel_rfl)]
  unfold runF
  rw [if_pos (show ds.length = f__law_letters.ps.length from h), b__law_letters]
  rfl
theorem w__law_letters (k : Nat) : callW glob scl T k "_law_letters" = callF glob scl T k "_law_letters" := callW_std (by kernel_rfl)
def m_law_b1 (call : Str → SF) : SS := (sSeq (sIf (bOf (cOp2 (eqX true (eqF call scl.eqs)) (cOp1 (fldD scl.ca 16) (cCall (call "homes") [] (cCons (cVar 5) (cCons (cVar 4) cNil)))) (cOp1 (fldD scl.ca 16) (cVar 7)))) (sSeq (sRet (cCon (.bl false)))
  sPass) sPass)
  (sSeq (sIf (bNot (bVal (eMetO [(11, call "Homes.shows", [])] "shows" (cMake 11 (call "Homes.__init__") [] (cCons (cOp1 (fldD scl.ca 15) (cCall (call "homes") [] (cCons (cVar 5) (cCons (cVar 4) cNil)))) (cCons (cOp1 (fldD scl.ca 16) (cVar 7)) cNil))) (cCons (cVar 5) (cCons (cVar 4) cNil))))) (sSeq (sRet (cCon (.bl false)))
  sPass) sPass)
  sPass))
def m_law_b2 (call : Str → SF) : SS := (sSeq (sIf (bNot (bVal (cCall (call "_law_ends_right") [] (cCons (cVar 5) (cCons (cVar 6) (cCons (cVar 7) (cCons (cVar 3) cNil))))))) (sSeq (sRet (cCon (.bl false)))
  sPass) sPass)
  sPass)
def m_law_e1 (call : Str → SF) : SE := (cOp2 (ltD' .lt) (cVar 9) (cCon (.int 0)))
def m_law_b3 (call : Str → SF) : SS := (sSeq (sPar2 5 6 (cCons (cCall (call "_law_tour") [] (cCons (cVar 0) (cCons (cOp2 (addD false) (cCon (.int 60)) (cOp2 (mulD false) (cCon (.int 70)) (cVar 1))) (cCons (cOp2 ixD (cTup (cCons (cCon (.int 1)) (cCons (cCon (.int 3)) (cCons (cCon (.int 8)) (cCons (cCon (.int 20)) (cCons (cCon (.int 50)) (cCons (cCon (.int 12)) cNil))))))) (cVar 1)) cNil)))) (cCons (cOp2 modD (cCall (call "_law_cell_at") [] (cCons (cVar 0) (cCons (cOp2 (addD false) (cCon (.int 20)) (cVar 1)) cNil))) (cCon (.int 4))) cNil)))
  (sSeq (sPar2 7 8 (cCons (cCall (call "homes") [] (cCons (cVar 5) (cCons (cVar 6) cNil))) (cCons (cCall (call "_law_cell_at") [] (cCons (cVar 0) (cCons (cOp2 (addD false) (cCon (.int 30)) (cVar 1)) cNil))) cNil)))
  (sSeq (sAsg (cOp2 ixD (cOp1 (fldD scl.ca 16) (cVar 7)) (cCon (.int 0))) (gVar 2))
  (sSeq (sIf (bOr (bOf (cOp2 (ltD' .gt) (cOp2 subD (cOpN maxD (cCons (cVar 2) cNil)) (cOpN minD (cCons (cVar 2) cNil))) (cCon (.int 3)))) (bOr (bNot (bVal (eMetO [(11, call "Homes.shows", [])] "shows" (cVar 7) (cCons (cVar 5) (cCons (cVar 6) cNil))))) (bVal (cOpN anyD (cCons (cComp (iSeq (cVar 2)) (gVar 9) (fun _ R => .ok true R) (m_law_e1 call) [9] false) cNil))))) (sSeq (sRet (cCon (.bl false)))
  sPass) sPass)
  (sSeq (sFor (iSeq (cTup (cCons (cOp2 modD (cOpN intD (cCons (cVar 8) cNil)) (cOp2 (addD false) (cOpN lenD (cCons (cVar 5) cNil)) (cCon (.int 1)))) (cCons (cOp2 fdivD (cOpN lenD (cCons (cVar 5) cNil)) (cCon (.int 2))) (cCons (cOpN lenD (cCons (cVar 5) cNil)) cNil))))) (gVar 3) (m_law_b2 call))
  (sSeq (sIf (bNot (bVal (cCall (call "_law_more_right") [] (cCons (cVar 5) (cCons (cVar 6) (cCons (cVar 7) (cCons (cOp2 fdivD (cVar 8) (cCon (.int 60))) cNil))))))) (sSeq (sRet (cCon (.bl false)))
  sPass) sPass)
  (sSeq (sIf (bNot (bVal (cCall (call "_law_renamed_right") [] (cCons (cVar 5) (cCons (cVar 6) (cCons (cVar 7) (cCons (cOp2 fdivD (cVar 8) (cCon (.int 90))) cNil))))))) (sSeq (sRet (cCon (.bl false)))
  sPass) sPass)
  (sSeq (sFor (iArgs rng1 (cCons (cCon (.int 4)) cNil)) (gVar 4) (m_law_b1 call))
  sPass))))))))
def m_law (call : Str → SF) : SS := (sSeq (sFor (iArgs rng1 (cCons (cCon (.int 6)) cNil)) (gVar 1) (m_law_b3 call))
  (sSeq (sRet (cCon (.bl true)))
  sPass))
theorem b_law (call : Str → SF) : bodyF glob scl call f_law = m_law call := by kernel_rfl
theorem c_law (k : Nat) (ds : List D) (R : Rg) (h : ds.length = 1) : callF glob scl T (k + 2) "law" ds R = fin false R (m_law (callW glob scl T (k + 1)) (ds ++ List.replicate 9 .undef) R) := by
  rw [callF_run (fi := f_law) (by kernel_rfl)]
  unfold runF
  rw [if_pos (show ds.length = f_law.ps.length from h), b_law]
  rfl
theorem w_law (k : Nat) : callW glob scl T k "law" = callF glob scl T k "law" := callW_std (by kernel_rfl)
end Lw
/-! k16: the mathematics of tours. -/
namespace Lw
abbrev Pr := Bool × Nat
def wt (p : Pr) (h : Nat) : Int := if p.2 = h then 0 else if p.1 = true then 2 else 1
def lead (a b : Nat) : Int := if a = b then 0 else 3
def cost (p : Pr) (a h : Nat) : Int := lead a h + wt p h
def mn (f : Nat → Int) : Int := min (min (min (f 0) (f 1)) (f 2)) (f 3)
def rowB (z : Nat → Int) : List Pr → Nat → Int
  | [], a => z a
  | p :: t, a => mn fun h => cost p a h + rowB z t h
abbrev row : List Pr → Nat → Int := rowB fun _ => 0
def am (f : Nat → Int) : Nat := if f 0 = mn f then 0 else if f 1 = mn f then 1 else if f 2 = mn f then 2 else 3
def plc : List Pr → Nat → List Nat
  | [], _ => []
  | p :: t, a => am (fun h => cost p a h + row t h) :: plc t (am fun h => cost p a h + row t h)
def lets : List Pr → List Nat → Nat → Int
  | p :: t, h :: hs, a => cost p a h + lets t hs h
  | _, _, _ => 0
theorem mn_le (f : Nat → Int) {h : Nat} (hh : h < 4) : mn f ≤ f h := by
  unfold mn
  match h, hh with
  | 0, _ => omega
  | 1, _ => omega
  | 2, _ => omega
  | 3, _ => omega
theorem mn_am (f : Nat → Int) : am f < 4 ∧ mn f = f (am f) := by
  unfold am
  split
  · rename_i h; exact ⟨by omega, h.symm⟩
  · split
    · rename_i h; exact ⟨by omega, h.symm⟩
    · split
      · rename_i h; exact ⟨by omega, h.symm⟩
      · refine ⟨by omega, ?_⟩
        unfold mn at *
        omega
theorem le_mn {f : Nat → Int} {x : Int} (h : ∀ i, i < 4 → x ≤ f i) : x ≤ mn f := by
  rw [(mn_am f).2]
  exact h _ (mn_am f).1
theorem mn_mono {f g : Nat → Int} (h : ∀ i, i < 4 → f i ≤ g i) : mn f ≤ mn g := le_mn fun i hi => Int.le_trans (mn_le f hi) (h i hi)
theorem wt_0 (p : Pr) (h : Nat) : 0 ≤ wt p h := by unfold wt; split <;> (try split) <;> omega
theorem lead_0 (a h : Nat) : 0 ≤ lead a h := by unfold lead; split <;> omega
theorem lead_3 (a h : Nat) : lead a h ≤ 3 := by unfold lead; split <;> omega
theorem lead_self (a : Nat) : lead a a = 0 := if_pos rfl
theorem lead_tri (a b c : Nat) : lead a c ≤ lead a b + lead b c := by
  unfold lead
  split <;> split <;> split <;> omega
theorem cost_0 (p : Pr) (a h : Nat) : 0 ≤ cost p a h := by have := wt_0 p h; have := lead_0 a h; unfold cost; omega
theorem row_0 {z : Nat → Int} (hz : ∀ i, i < 4 → 0 ≤ z i) : ∀ (t : List Pr) (a : Nat), a < 4 → 0 ≤ rowB z t a
  | [], a, ha => hz a ha
  | p :: t, a, _ => le_mn fun i hi => by have := cost_0 p a i; have := row_0 hz t i hi; omega
theorem row_z (t : List Pr) (a : Nat) (ha : a < 4) : 0 ≤ row t a := row_0 (fun _ _ => Int.le_refl _) t a ha
theorem rowB_app (z : Nat → Int) : ∀ (t s : List Pr) (a : Nat), rowB z (t ++ s) a = rowB (rowB z s) t a
  | [], _, _ => rfl
  | p :: t, s, a => by
    show mn _ = mn _
    congr 1
    funext h
    exact congrArg (cost p a h + ·) (rowB_app z t s h)
theorem rowB_mono {z y : Nat → Int} (h : ∀ i, i < 4 → z i ≤ y i) : ∀ (t : List Pr) (a : Nat), a < 4 → rowB z t a ≤ rowB y t a
  | [], a, ha => h a ha
  | p :: t, a, _ => mn_mono fun i hi => by have := rowB_mono h t i hi; omega
theorem rowB_up {z y : Nat → Int} {c : Int} (h : ∀ i, i < 4 → y i ≤ z i + c) : ∀ (t : List Pr) (a : Nat), a < 4 → rowB y t a ≤ rowB z t a + c
  | [], a, ha => h a ha
  | p :: t, a, _ => by
    have m := mn_am fun h => cost p a h + rowB z t h
    show mn (fun h => cost p a h + rowB y t h) ≤ mn (fun h => cost p a h + rowB z t h) + c
    rw [m.2]
    have q := mn_le (fun h => cost p a h + rowB y t h) m.1
    have r := rowB_up h t _ m.1
    omega
theorem row_lip (t : List Pr) (a b : Nat) : row t a ≤ row t b + lead a b := by
  cases t with
  | nil => have := lead_0 a b; show (0 : Int) ≤ 0 + lead a b; omega
  | cons p t =>
    have m := mn_am fun h => cost p b h + row t h
    show mn (fun h => cost p a h + row t h) ≤ mn (fun h => cost p b h + row t h) + lead a b
    rw [m.2]
    generalize am (fun h => cost p b h + row t h) = j at m
    have q := mn_le (fun h => cost p a h + row t h) m.1
    have tr := lead_tri a b j
    unfold cost at *
    omega
/-! places -/
theorem plc_len : ∀ (t : List Pr) (a : Nat), (plc t a).length = t.length
  | [], _ => rfl
  | p :: t, a => by rw [plc, List.length_cons, List.length_cons, plc_len t]
theorem plc_lt : ∀ (t : List Pr) (a : Nat), ∀ h ∈ plc t a, h < 4
  | [], _, _, h => by cases h
  | p :: t, a, h, hm => by
    rw [plc] at hm
    rcases List.mem_cons.mp hm with e | e
    · subst e
      exact (mn_am _).1
    · exact plc_lt t _ h e
theorem lets_plc : ∀ (t : List Pr) (a : Nat), lets t (plc t a) a = row t a
  | [], _ => rfl
  | p :: t, a => by
    rw [plc, lets, lets_plc t]
    exact (mn_am fun h => cost p a h + row t h).2.symm
/-- the place ahead of the c-th -/
def bef (t : List Pr) (a c : Nat) : Nat := (a :: plc t a).getD c 0
theorem bef_at (t : List Pr) (a c : Nat) (hc : c ≤ t.length) : (a :: plc t a)[c]? = some (bef t a c) := by
  unfold bef
  rw [List.getD_eq_getElem?_getD]
  have : c < (a :: plc t a).length := by rw [List.length_cons, plc_len]; omega
  rw [List.getElem?_eq_getElem this]
  rfl
theorem bef_lt (t : List Pr) (a c : Nat) (ha : a < 4) (hc : c ≤ t.length) : bef t a c < 4 := by
  have h := bef_at t a c hc
  have m := List.mem_of_getElem? h
  rcases List.mem_cons.mp m with e | e
  · omega
  · exact plc_lt t a _ e
theorem plc_drop : ∀ (t : List Pr) (a c : Nat), c ≤ t.length → (plc t a).drop c = plc (t.drop c) (bef t a c)
  | t, a, 0, _ => rfl
  | [], _, c + 1, h => absurd h (by simp)
  | p :: t, a, c + 1, h => by
    have h' : c ≤ t.length := by simpa using h
    show (plc t _).drop c = plc (t.drop c) _
    rw [plc_drop t _ c h']
    rfl
theorem cut_le : ∀ (t : List Pr) (a c : Nat), a < 4 → c ≤ t.length → row (t.take c) a + row (t.drop c) (bef t a c) ≤ row t a
  | t, a, 0, _, _ => by show (0 : Int) + row t a ≤ row t a; omega
  | [], _, c + 1, _, h => absurd h (by simp)
  | p :: t, a, c + 1, ha, h => by
    have h' : c ≤ t.length := by simpa using h
    have m := mn_am fun h => cost p a h + row t h
    have ih := cut_le t (am fun h => cost p a h + row t h) c m.1 h'
    have q := mn_le (fun h => cost p a h + row (t.take c) h) m.1
    have e1 : row ((p :: t).take (c + 1)) a = mn fun h => cost p a h + row (t.take c) h := rfl
    have e2 : row (p :: t) a = mn fun h => cost p a h + row t h := rfl
    have e3 : bef (p :: t) a (c + 1) = bef t (am fun h => cost p a h + row t h) c := rfl
    rw [e1, e2, e3, m.2, List.drop_succ_cons]
    omega
theorem take_le (t : List Pr) (a c : Nat) (ha : a < 4) (hc : c ≤ t.length) : row (t.take c) a ≤ row t a := by
  have := cut_le t a c ha hc
  have := row_z (t.drop c) (bef t a c) (bef_lt t a c ha hc)
  omega
/-! a pair more -/
theorem wt_le (p : Pr) (h : Nat) : wt p h ≤ if p.1 = true then 2 else 1 := by unfold wt; split <;> split <;> omega
theorem row1 (p : Pr) (a : Nat) (ha : a < 4) : 0 ≤ row [p] a ∧ row [p] a ≤ if p.1 = true then 2 else 1 := by
  refine ⟨row_z _ _ ha, ?_⟩
  have q : mn (fun h => cost p a h + row [] h) ≤ cost p a a + row [] a := mn_le (fun h => cost p a h + row [] h) ha
  have e : row [p] a = mn fun h => cost p a h + row [] h := rfl
  have e2 : row [] a = 0 := rfl
  have := wt_le p a
  have := lead_self a
  rw [e]
  unfold cost at *
  omega
theorem more_end (t : List Pr) (p : Pr) (a : Nat) (ha : a < 4) : row t a ≤ row (t ++ [p]) a ∧ row (t ++ [p]) a ≤ row t a + if p.1 = true then 2 else 1 := by
  unfold row
  rw [rowB_app]
  exact ⟨rowB_mono (fun i hi => (row1 p i hi).1) t a ha, rowB_up (fun i hi => by have := (row1 p i hi).2; unfold row at this; omega) t a ha⟩
theorem more_fst (t : List Pr) (p : Pr) (a : Nat) (ha : a < 4) : row t a ≤ row (p :: t) a ∧ row (p :: t) a ≤ row t a + if p.1 = true then 2 else 1 := by
  have e : row (p :: t) a = mn fun h => cost p a h + row t h := rfl
  rw [e]
  constructor
  · refine le_mn fun i hi => ?_
    have := row_lip t a i
    have := wt_0 p i
    unfold cost
    omega
  · have q := mn_le (fun h => cost p a h + row t h) ha
    have := wt_le p a
    have := lead_self a
    unfold cost at *
    omega
theorem am_own (t : List Pr) (a : Nat) (ha : a < 4) : am (fun h => cost (true, a) a h + row t h) = a ∧ row ((true, a) :: t) a = row t a := by
  have m := mn_am fun h => cost (true, a) a h + row t h
  have q := mn_le (fun h => cost (true, a) a h + row t h) ha
  have e0 : cost (true, a) a a = 0 := by unfold cost wt lead; simp
  have hj : am (fun h => cost (true, a) a h + row t h) = a := by
    apply Classical.byContradiction
    intro hn
    generalize am (fun h => cost (true, a) a h + row t h) = j at m hn
    have l := row_lip t a j
    have e1 : cost (true, a) a j = 5 := by unfold cost wt lead; simp [Ne.symm hn]
    have e2 : lead a j = 3 := by unfold lead; simp [Ne.symm hn]
    have m2 := m.2
    simp only [e0] at q
    simp only [e1] at m2
    omega
  refine ⟨hj, ?_⟩
  show mn (fun h => cost (true, a) a h + row t h) = _
  rw [m.2, hj, e0]
  omega
theorem own3 (t : List Pr) (a : Nat) (ha : a < 4) : row ((true, a) :: (true, a) :: (true, a) :: t) a = row t a ∧ (plc ((true, a) :: (true, a) :: (true, a) :: t) a).take 3 = [a, a, a] := by
  have h1 := am_own t a ha
  have h2 := am_own ((true, a) :: t) a ha
  have h3 := am_own ((true, a) :: (true, a) :: t) a ha
  refine ⟨by rw [h3.2, h2.2, h1.2], ?_⟩
  rw [plc, h3.1, plc, h2.1, plc, h1.1]
  rfl
/-! machines renamed -/
def ren (σ : Nat → Nat) (t : List Pr) : List Pr := t.map fun p => (p.1, σ p.2)
structure Perm4 (σ : Nat → Nat) : Prop where
  lt : ∀ i, i < 4 → σ i < 4
  inj : ∀ i j, i < 4 → j < 4 → σ i = σ j → i = j
  sur : ∀ j, j < 4 → ∃ i, i < 4 ∧ σ i = j
theorem mn_perm {σ : Nat → Nat} (hs : Perm4 σ) (f : Nat → Int) : mn (fun h => f (σ h)) = mn f := by
  apply Int.le_antisymm
  · refine le_mn fun j hj => ?_
    obtain ⟨i, hi, e⟩ := hs.sur j hj
    rw [← e]
    exact mn_le (fun h => f (σ h)) hi
  · exact le_mn fun i hi => mn_le f (hs.lt i hi)
theorem cost_ren {σ : Nat → Nat} (hs : Perm4 σ) (p : Pr) (hp : p.2 < 4) (a h : Nat) (ha : a < 4) (hh : h < 4) : cost (p.1, σ p.2) (σ a) (σ h) = cost p a h := by
  have e1 : (σ a = σ h) = (a = h) := propext ⟨hs.inj a h ha hh, fun e => by rw [e]⟩
  have e2 : (σ p.2 = σ h) = (p.2 = h) := propext ⟨hs.inj _ h hp hh, fun e => by rw [e]⟩
  unfold cost lead wt
  simp only [e1, e2]
theorem mn_congr {f g : Nat → Int} (h : ∀ i, i < 4 → f i = g i) : mn f = mn g := Int.le_antisymm (mn_mono fun i hi => by rw [h i hi]; exact Int.le_refl _) (mn_mono fun i hi => by rw [h i hi]; exact Int.le_refl _)
theorem row_ren {σ : Nat → Nat} (hs : Perm4 σ) : ∀ (t : List Pr), (∀ p ∈ t, p.2 < 4) → ∀ a, a < 4 → row (ren σ t) (σ a) = row t a
  | [], _, _, _ => rfl
  | p :: t, ht, a, ha => by
    show mn (fun h => cost (p.1, σ p.2) (σ a) h + row (ren σ t) h) = mn fun h => cost p a h + row t h
    rw [← mn_perm hs]
    refine mn_congr fun i hi => ?_
    rw [cost_ren hs p (ht p List.mem_cons_self) a i ha hi, row_ren hs t (fun q hq => ht q (List.mem_cons_of_mem _ hq)) i hi]
theorem lets_ren {σ : Nat → Nat} (hs : Perm4 σ) : ∀ (t : List Pr) (hs' : List Nat) (a : Nat), (∀ p ∈ t, p.2 < 4) → (∀ h ∈ hs', h < 4) → a < 4 → lets (ren σ t) (hs'.map σ) (σ a) = lets t hs' a
  | [], _, _, _, _, _ => by cases ‹List Nat› <;> rfl
  | p :: t, [], _, _, _, _ => rfl
  | p :: t, h :: hs', a, ht, hh, ha => by
    show cost (p.1, σ p.2) (σ a) (σ h) + lets (ren σ t) (hs'.map σ) (σ h) = cost p a h + lets t hs' h
    rw [cost_ren hs p (ht p List.mem_cons_self) a h ha (hh h List.mem_cons_self), lets_ren hs t hs' h (fun q hq => ht q (List.mem_cons_of_mem _ hq)) (fun q hq => hh q (List.mem_cons_of_mem _ hq)) (hh h List.mem_cons_self)]
/-! rows -/
def rows : List Pr → List (Nat → Int)
  | [] => [row []]
  | p :: t => row (p :: t) :: rows t
theorem rows_len : ∀ t : List Pr, (rows t).length = t.length + 1
  | [] => rfl
  | p :: t => by rw [rows, List.length_cons, rows_len t, List.length_cons]
theorem rows_at : ∀ (t : List Pr) (c : Nat), c ≤ t.length → (rows t)[c]? = some (row (t.drop c))
  | [], 0, _ => rfl
  | [], c + 1, h => absurd h (by simp)
  | p :: t, 0, _ => rfl
  | p :: t, c + 1, h => by
    have h' : c ≤ t.length := by simpa using h
    show (rows t)[c]? = some (row (t.drop c))
    exact rows_at t c h'
theorem rows_drop : ∀ (t : List Pr) (c : Nat), c ≤ t.length → (rows t).drop c = rows (t.drop c)
  | t, 0, _ => rfl
  | [], c + 1, h => absurd h (by simp)
  | p :: t, c + 1, h => by
    have h' : c ≤ t.length := by simpa using h
    show (rows t).drop c = rows (t.drop c)
    exact rows_drop t c h'
theorem step_le (t : List Pr) (c : Nat) (p : Pr) (h : t[c]? = some p) (a i : Nat) (hi : i < 4) : row (t.drop c) a ≤ cost p a i + row (t.drop (c + 1)) i := by
  obtain ⟨hc, e⟩ := List.getElem?_eq_some_iff.mp h
  rw [List.drop_eq_getElem_cons hc, e]
  exact mn_le (fun h => cost p a h + row (t.drop (c + 1)) h) hi
end Lw
/-! k16: what the small defs compute. -/
namespace Lw
open PySem PySem.Spec PyProof.Rows L2 RZ Om
def need : List Nat := [110, 101, 101, 100]
def send : List Nat := [115, 101, 110, 100]
def eP (p : Pr) : D := .tup [.str (if p.1 = true then need else send), .int (p.2 : Int)]
def eT (t : List Pr) : D := .lst (t.map eP)
def eR (f : Nat → Int) : D := .lst ((List.range 4).map fun h => .int (f h))
def eN (ns : List Nat) : D := .lst (ns.map fun (n : Nat) => .int (n : Int))
def eRows (t : List Pr) : D := .lst ((rows t).map eR)
def eFs (ps : List Nat) (t : List Pr) : List (Nat × D) := [(15, eN ps), (16, eRows t)]
def eH (t : List Pr) (a : Nat) : D := .ins 11 (eFs (plc t a) t)
def okT (t : List Pr) : Prop := ∀ p ∈ t, p.2 < 4
@[simp] theorem u_eP (p : Pr) : isU (eP p) = false := rfl
@[simp] theorem u_eT (t : List Pr) : isU (eT t) = false := rfl
@[simp] theorem u_eR (f : Nat → Int) : isU (eR f) = false := rfl
@[simp] theorem u_eN (ns : List Nat) : isU (eN ns) = false := rfl
@[simp] theorem u_eRows (t : List Pr) : isU (eRows t) = false := rfl
@[simp] theorem u_eH (t : List Pr) (a : Nat) : isU (eH t a) = false := rfl
theorem ixR {f : Nat → Int} {h : Nat} (R : Rg) (hh : h < 4) : ixD (eR f) (.int (h : Int)) R = some (.int (f h), R) := ix_lst (by rw [List.getElem?_map, List.getElem?_range hh]; rfl)
section
variable (call : Str → SF) (R : Rg)
theorem q_is_number (a lo hi : Int) : fin false R (m_is_number call [.int a, .int lo, .int hi] R) = .ok (.bl (decide (lo ≤ a) && decide (a ≤ hi))) R := by
  by_cases h : lo ≤ a <;> simp -implicitDefEqProofs [m_is_number, a_seq, a_sif, h]
theorem q_is_pair (p : Pr) (hp : p.2 < 4) (hN : call "is_number" [.int (p.2 : Int), .int 0, .int 3] R = .ok (.bl true) R) : fin false R (m_is_pair call [eP p] R) = .ok (.bl true) R := by
  obtain ⟨b, m⟩ := p
  have e : inD false (.str (if b = true then need else send)) (.tup [.str [110, 101, 101, 100], .str [115, 101, 110, 100]]) R = some (.bl true, R) := by cases b <;> exact (p_in_tup rfl rfl (by simp [need, send, eqOk]) (by simp [eqOk, eqOks])).trans (by simp [need, send])
  have hN : call "is_number" [.int (m : Int), .int 0, .int 3] R = .ok (.bl true) R := hN
  simp -implicitDefEqProofs [m_is_pair, a_seq, a_sif, eP, e, hN]
theorem q_check_tour (t : List Pr) (a : Nat) (ht : t.length ≤ 60) (ok : okT t) (ha : a < 4) (hP : ∀ p : Pr, p.2 < 4 → call "is_pair" [eP p] R = .ok (.bl true) R) (hN : call "is_number" [.int (a : Int), .int 0, .int 3] R = .ok (.bl true) R) :
    fin false R (m_check_tour call [eT t, .int (a : Int), .undef] R) = .ok .non R := by
  have e : cComp (iSeq (cVar 0)) (gVar 2) (fun _ R => .ok true R) (m_check_tour_e1 call) [2] false [eT t, .int (a : Int), .undef] R = .ok (.lst (t.map fun p => .bl true)) R := by
    refine (comp_lst (as := t) (f := eP) (w := fun _ => .bl true) (p := fun _ => true) (by simp [eT]) (by simp; omega) ?_).trans ?_
    · intro p hp
      exact ⟨_, rfl, rfl, fun _ => by simp -implicitDefEqProofs [m_check_tour_e1, hP p (ok p hp)]⟩
    · rw [List.filter_eq_self.mpr (fun _ _ => rfl)]
  have e2 : allD [.lst (t.map fun p => D.bl true)] R = some (.bl true, R) := by
    rw [p_all (fun _ => true)]
    simp
  have h60 : ¬ (60 : Int) < (t.length : Int) := by omega
  have e3 : lenD [eT t] R = some (.int t.length, R) := by unfold eT; rw [p_len_lst, List.length_map]
  have e4 : isiD [eT t, .ty "list"] R = some (.bl true, R) := isi_ll
  simp -implicitDefEqProofs [m_check_tour, a_seq, a_sif, e, e2, e3, e4, h60, hN, fin_none]
theorem q_price (p : Pr) (a h : Nat) : fin false R (m_price call [eP p, .int (a : Int), .int (h : Int), .undef] R) = .ok (.int (cost p a h)) R := by
  obtain ⟨b, m⟩ := p
  have c1 : ((a : Int) = (h : Int)) = (a = h) := propext Int.ofNat_inj
  have c2 : ((m : Int) = (h : Int)) = (m = h) := propext Int.ofNat_inj
  by_cases e1 : a = h <;> by_cases e2 : m = h <;> cases b <;> simp -implicitDefEqProofs [m_price, a_seq, a_sif, eP, c1, c2, e1, e2, cost, lead, wt, need, send]
end
end Lw
/-! k16: letters_of, Homes.__init__, homes. -/
namespace Lw
open PySem PySem.Spec PyProof.Rows L2 RZ Om
/-! letters -/
def gl (z : Int × Nat) (q : Pr × Nat) : Int × Nat := (z.1 + cost q.1 z.2 q.2, q.2)
theorem gl_lets : ∀ (t : List Pr) (hs : List Nat) (x : Int) (a : Nat), ((t.zip hs).foldl gl (x, a)).1 = x + lets t hs a
  | [], hs, x, a => by simp [lets]
  | p :: t, [], x, a => by simp [lets]
  | p :: t, h :: hs, x, a => by
    rw [List.zip_cons_cons, List.foldl_cons]
    show ((t.zip hs).foldl gl (x + cost p a h, h)).1 = _
    rw [gl_lets t hs]
    show x + cost p a h + lets t hs h = x + (cost p a h + lets t hs h)
    omega
theorem pure_map {A : Type} {f : A → D} (h : ∀ a, pureD (f a) = true) : ∀ as : List A, pureDs (as.map f) = true
  | [] => rfl
  | a :: as => by
    show (pureD (f a) && pureDs (as.map f)) = true
    rw [h a, pure_map h as]
    rfl
theorem eqOks_map {A : Type} {f : A → D} {n : Nat} (h : ∀ a, eqOk n (f a) = true) : ∀ as : List A, eqOks n (as.map f) = true
  | [] => rfl
  | a :: as => by
    show (eqOk n (f a) && eqOks n (as.map f)) = true
    rw [h a, eqOks_map h as]
    rfl
theorem eR_pure (f : Nat → Int) : pureD (eR f) = true := by unfold eR; rw [pure_lst]; exact pure_map (fun _ => rfl) _
theorem eN_pure (ns : List Nat) : pureD (eN ns) = true := by unfold eN; rw [pure_lst]; exact pure_map (fun _ => rfl) _
theorem eRows_pure (t : List Pr) : pureD (eRows t) = true := by unfold eRows; rw [pure_lst]; exact pure_map eR_pure _
theorem eFs_pure (ps : List Nat) (t : List Pr) : ((eFs ps t).all fun p => pureD p.2) = true := by simp [eFs, eN_pure, eRows_pure]
section
variable (call : Str → SF) (R : Rg)
theorem q_letters_of (t : List Pr) (ps : List Nat) (a : Nat) (ht : t.length ≤ 100) (hP : ∀ (p : Pr) (a h : Nat), call "price" [eP p, .int (a : Int), .int (h : Int)] R = .ok (.int (cost p a h)) R) :
    fin false R (m_letters_of call [eT t, .int (a : Int), eN ps, .undef, .undef, .undef, .undef] R) = .ok (.int (lets t ps a)) R := by
  refine eq_of_wp (wp_fin ?_)
  unfold m_letters_of
  rw [ws_seq]
  simp -implicitDefEqProofs only [a_par2, a_cons, a_con, a_nil, a_cvar, look_succ, look_zero, u_int, wp_sbind, wp_bind, wp_ok, Bool.false_eq_true, if_false, Res.bind_ok, a_bind_ok, ws_nx, List.set_cons_succ, List.set_cons_zero]
  rw [ws_seq]
  refine ws_for (enc := fun z : Pr × Nat => .tup [eP z.1, .int (z.2 : Int)]) (R1 := R) (t.zip ps) (it_zipM (f := eP) (g := fun n : Nat => D.int (n : Int)) (as := t) (bs := ps) (by simp [eT]) (by simp [eN])) (by
    have := List.length_zip (l₁ := t) (l₂ := ps)
    have lf := line_fuel
    simp only [line_eq] at lf
    omega)
    (fun done s R1 => R1 = R ∧ ∃ y5 y6, s = [eT t, .int (a : Int), eN ps, .int (done.foldl gl (0, a)).1, .int ((done.foldl gl (0, a)).2 : Int), y5, y6]) ⟨rfl, _, _, rfl⟩ ?_ ?_
  · rintro done ⟨p, h⟩ rest e _ R1 ⟨rfl, y5, y6, rfl⟩
    rw [List.foldl_append]
    generalize done.foldl gl (0, a) = z
    obtain ⟨x, b⟩ := z
    have eg : gT 2 (gC (gVar 5) (gC (gVar 6) gN)) (.tup [eP p, .int (h : Int)]) [eT t, .int (a : Int), eN ps, .int x, .int (b : Int), y5, y6] R1 = .ok [eT t, .int (a : Int), eN ps, .int x, .int (b : Int), eP p, .int (h : Int)] R1 := rfl
    rw [eg]
    simp -implicitDefEqProofs [m_letters_of_b1, a_seq, sAug, hP, gl]
  · rintro _ _ ⟨rfl, y5, y6, rfl⟩
    simp -implicitDefEqProofs [gl_lets]
    exact frz_pure rfl
theorem ok_at (n : Nat) : n = 15 ∨ n = 16 → okAt scl.ca 11 n = true := by
  rintro (rfl | rfl) <;> rfl
theorem q_init (pl : D) (hu : isU pl = false) (ps : List Nat) (t : List Pr) (ht : t.length ≤ 100) (hl : ∀ o, listD false [pl] (R ++ [.ins 11 o]) = some (eN ps, R ++ [.ins 11 o])) :
    fin false (R ++ [.ins 11 []]) (m_Homes___init__ call [.ref R.length, pl, eRows t, .undef] (R ++ [.ins 11 []])) = .ok .non (R ++ [.ins 11 (eFs ps t)]) := by
  refine eq_of_wp (wp_fin2 ?_)
  unfold m_Homes___init__
  have e1 := setF_last (R := R) (ca := scl.ca) (n := 15) (c := 11) (fs := []) (x := eN ps) (ok_at 15 (.inl rfl)) (by decide)
  have e2 := setF_last (R := R) (ca := scl.ca) (n := 16) (c := 11) (fs := putFD [] 15 (eN ps)) (x := eRows t) (ok_at 16 (.inr rfl)) (by show 1 < 1000; omega)
  have ec : ∀ o, cComp (iSeq (cVar 2)) (gVar 3) (fun _ R => .ok true R) (m_Homes___init___e1 call) [3] false [.ref R.length, pl, eRows t, .undef] (R ++ [.ins 11 o]) = .ok (eRows t) (R ++ [.ins 11 o]) := by
    intro o
    have hr := rows_len t
    refine (comp_lst (as := rows t) (f := eR) (w := eR) (p := fun _ => true) (by simp [eRows]) (by simp; omega) ?_).trans ?_
    · intro f _
      refine ⟨_, rfl, rfl, fun _ => ?_⟩
      have e : ∀ R, listD false [eR f] R = some (eR f, R) := fun R => by
        unfold eR
        rw [p_list_lst, mkL_old (by simp)]
      simp -implicitDefEqProofs [m_Homes___init___e1, e]
    · rw [List.filter_eq_self.mpr (fun _ _ => rfl)]
      rfl
  have ek : kept (R ++ [.ins 11 []]) (R ++ [.ins 11 (eFs ps t)]) := kept_last (eFs_pure ps t)
  have et : (R ++ [O.ins 11 (eFs ps t)]).take (R ++ [O.ins 11 []]).length = R ++ [O.ins 11 (eFs ps t)] := List.take_of_length_le (by simp)
  have ef : putFD (putFD [] 15 (eN ps)) 16 (eRows t) = eFs ps t := rfl
  rw [ef] at e2
  have hR : R ++ [O.ins 11 []] = R ++ [O.ins 11 []] := rfl
  simp -implicitDefEqProofs only [ws_seq, a_setF, a_opN, a_cons, a_nil, a_cvar, look_succ, look_zero, hu, Bool.false_eq_true, if_false, Res.bind_ok, hl, a_lift, a_bind_ok, u_ref, e1, ws_nx, ec, e2, a_pass]
  exact ⟨ek, trivial, et⟩
end
end Lw
/-! k16: homes. -/
namespace Lw
open PySem PySem.Spec PyProof.Rows L2 RZ Om
theorem bef_0 (t : List Pr) (a : Nat) : bef t a 0 = a := rfl
theorem plc_at (t : List Pr) (a c : Nat) (p : Pr) (h : t[c]? = some p) : (plc t a)[c]? = some (bef t a (c + 1)) ∧ bef t a (c + 1) = am fun h => cost p (bef t a c) h + row (t.drop (c + 1)) h := by
  obtain ⟨hc, e⟩ := List.getElem?_eq_some_iff.mp h
  have h1 := plc_drop t a c (by omega)
  rw [List.drop_eq_getElem_cons hc, e] at h1
  have h2 : (plc t a)[c]? = some (am fun h => cost p (bef t a c) h + row (t.drop (c + 1)) h) := by
    have : ((plc t a).drop c)[0]? = (plc t a)[c]? := by rw [List.getElem?_drop]; rfl
    rw [← this, h1]
    rfl
  have h3 : bef t a (c + 1) = am fun h => cost p (bef t a c) h + row (t.drop (c + 1)) h := by
    show (plc t a).getD c 0 = _
    rw [List.getD_eq_getElem?_getD, h2]
    rfl
  exact ⟨by rw [h2, h3], h3⟩
theorem plc_take (t : List Pr) (a c : Nat) (p : Pr) (h : t[c]? = some p) : (plc t a).take (c + 1) = (plc t a).take c ++ [bef t a (c + 1)] := by
  have h1 := (plc_at t a c p h).1
  rw [List.take_succ, h1]
  rfl
theorem min_eR (f : Nat → Int) (R : Rg) : minD [eR f] R = some (.int (mn f), R) := by
  show (match intsOf ((List.range 4).map fun h => D.int (f h)) with
    | some ns => (minI ns).map fun i => (D.int i, R)
    | none => none) = _
  rw [Om.ints_map]
  rfl
theorem idx_eR (f : Nat → Int) (R : Rg) : indexD (eR f) [.int (mn f)] R = some (.int (am f : Nat), R) := by
  have h1 : snapD R (eR f) = some (eR f) := snap_pure (eR_pure f)
  have h2 : snapD R (.int (mn f)) = some (.int (mn f)) := snap_pure rfl
  have h3 : eqOks 11 ((List.range 4).map fun h => D.int (f h)) = true ∧ eqOk 12 (.int (mn f)) = true := ⟨eqOks_map (fun _ => rfl) _, rfl⟩
  have h4 : idxL ((List.range 4).map fun h => D.int (f h)) (.int (mn f)) = some (am f) := by
    refine idxL_at ?_ ?_
    · rw [List.getElem?_map, List.getElem?_range (mn_am f).1, (mn_am f).2]
      rfl
    · intro m hm e
      have h4 : m < 4 := by have := (mn_am f).1; omega
      rw [List.getElem?_map, List.getElem?_range h4] at e
      have e : f m = mn f := by simpa using e
      unfold am at hm
      split at hm
      · omega
      · rename_i h0
        split at hm
        · match m, hm with
          | 0, _ => exact h0 e
        · rename_i h1
          split at hm
          · match m, hm with
            | 0, _ => exact h0 e
            | 1, _ => exact h1 e
          · rename_i h2
            match m, hm with
            | 0, _ => exact h0 e
            | 1, _ => exact h1 e
            | 2, _ => exact h2 e
  unfold indexD
  simp only [h1, h2]
  show (if eqOks 11 ((List.range 4).map fun h => D.int (f h)) = true ∧ eqOk 12 (.int (mn f)) = true then (idxL ((List.range 4).map fun h => D.int (f h)) (.int (mn f))).map fun j => (D.int (j : Nat), R) else none) = _
  rw [if_pos h3, h4]
  rfl
theorem rows_hd (t : List Pr) : ∃ r, rows t = row t :: r := by cases t <;> exact ⟨_, rfl⟩
theorem ix_rows0 (t : List Pr) (R : Rg) : ixD (eRows t) (.int 0) R = some (eR (row t), R) := by
  obtain ⟨r, e⟩ := rows_hd t
  unfold eRows
  rw [e]
  exact ix_lst0
theorem ix_rows1 (t : List Pr) (c : Nat) (R : Rg) (hc : c + 1 ≤ t.length) : ixD (eRows t) (.int ((c : Int) + 1)) R = some (eR (row (t.drop (c + 1))), R) := ixp (by rw [List.getElem?_map, rows_at t (c + 1) hc]; rfl)
theorem isT_eR (f : Nat → Int) (R : Rg) : isT 0 (eR f) R = true := rfl
section
variable (call : Str → SF) (R : Rg)
/-- a row of costs by a comprehension -/
theorem comp_eR {s : List D} (f : Nat → Int) (e : SE) (j : Nat) (h : ∀ i : Nat, i < 4 → e ((wipeD s [j]).set j (.int (i : Int))) R = .ok (.int (f i)) R) : cComp (iArgs rng1 (cCons (cCon (.int 4)) cNil)) (gVar j) (fun _ R => .ok true R) e [j] false s R = .ok (eR f) R := by
  refine (comp_src (as := List.range 4) (f := fun p : Nat => .int (p : Int)) (w := fun i => .int (f i)) (p := fun _ => true) (it_rng1 (n := 4) (by simp) (by decide)) (by simp) ?_).trans ?_
  · intro p hp
    exact ⟨_, rfl, rfl, fun _ => h p (List.mem_range.mp hp)⟩
  · rw [List.filter_eq_self.mpr (fun _ _ => rfl)]
    rfl
theorem homes_b2 (u : List Pr) (p : Pr) (hu : u.length ≤ 100) (x0 x1 x4 : D) (N : List D → Rg → Prop) (po : Po) (hP : ∀ (p : Pr) (a h : Nat), call "price" [eP p, .int (a : Int), .int (h : Int)] R = .ok (.int (cost p a h)) R)
    (hN : N [x0, x1, eRows (p :: u), eP p, eR (row u), .undef, .undef, .undef, .undef, .undef] R) :
    wpS (m_homes_b2 call [x0, x1, eRows u, eP p, x4, .undef, .undef, .undef, .undef, .undef] R) N po := by
  have hr := rows_len u
  have e0 := ix_rows0 u R
  have ec : cComp (iArgs rng1 (cCons (cCon (.int 4)) cNil)) (gVar 6) (fun _ R => .ok true R) (m_homes_e3 call) [6] false [x0, x1, eRows u, eP p, eR (row u), .undef, .undef, .undef, .undef, .undef] R = .ok (eR (row (p :: u))) R := by
    refine comp_eR R (row (p :: u)) _ 6 fun i hi => ?_
    have ei : cComp (iArgs rng1 (cCons (cCon (.int 4)) cNil)) (gVar 9) (fun _ R => .ok true R) (m_homes_e2 call) [9] false [x0, x1, eRows u, eP p, eR (row u), .undef, .int (i : Int), .undef, .undef, .undef] R = .ok (eR fun h => cost p i h + row u h) R := by
      refine comp_eR R (fun h => cost p i h + row u h) _ 9 fun h hh => ?_
      simp -implicitDefEqProofs [m_homes_e2, hP, ixR R hh]
    have em := min_eR (fun h => cost p i h + row u h) R
    simp -implicitDefEqProofs [m_homes_e3, ei, em]
    rfl
  have ea : addD false (.lst [eR (row (p :: u))]) (eRows u) R = some (eRows (p :: u), R) := by
    rw [add_lst (xs := [eR (row (p :: u))]) (ys := (rows u).map eR) rfl rfl, mkL_old (by simp; omega)]
    rfl
  simp -implicitDefEqProofs [m_homes_b2, a_seq, e0, ec, ea]
  exact hN
theorem homes_b1 (t : List Pr) (a c : Nat) (p : Pr) (n : Nat) (ht : t.length ≤ 100) (hc : t[c]? = some p) (hn : R[n]? = some (.lst (((plc t a).take c).map fun n : Nat => D.int (n : Int)))) (x0 x1 x4 x8 x9 : D) (N : List D → Rg → Prop) (po : Po)
    (hP : ∀ (p : Pr) (a h : Nat), call "price" [eP p, .int (a : Int), .int (h : Int)] R = .ok (.int (cost p a h)) R)
    (hN : ∀ y8, N [x0, x1, eRows t, eP p, x4, .ref n, .int (bef t a (c + 1) : Int), .int (c : Int), y8, x9] (R.set n (.lst (((plc t a).take (c + 1)).map fun n : Nat => D.int (n : Int))))) :
    wpS (m_homes_b1 call [x0, x1, eRows t, eP p, x4, .ref n, .int (bef t a c : Int), .int (c : Int), x8, x9] R) N po := by
  have hlt := (List.getElem?_eq_some_iff.mp hc).1
  have h1 := (plc_at t a c p hc).2
  have h2 := plc_take t a c p hc
  have e1 := ix_rows1 t c R (by omega)
  have ec : cComp (iArgs rng1 (cCons (cCon (.int 4)) cNil)) (gVar 9) (fun _ R => .ok true R) (m_homes_e1 call) [9] false [x0, x1, eRows t, eP p, x4, .ref n, .int (bef t a c : Int), .int (c : Int), x8, x9] R = .ok (eR fun h => cost p (bef t a c) h + row (t.drop (c + 1)) h) R := by
    refine comp_eR R _ _ 9 fun h hh => ?_
    simp -implicitDefEqProofs [m_homes_e1, hP, e1, ixR R hh]
  have em := min_eR (fun h => cost p (bef t a c) h + row (t.drop (c + 1)) h) R
  have ei := idx_eR (fun h => cost p (bef t a c) h + row (t.drop (c + 1)) h) R
  have it := isT_eR (fun h => cost p (bef t a c) h + row (t.drop (c + 1)) h) R
  have it2 := isT_lst hn
  have ep := app_ref (x := .int (bef t a (c + 1) : Int)) hn (by
    have := plc_len t a
    simp
    omega)
  rw [← h1] at ei
  have hm : List.map (fun n : Nat => D.int (n : Int)) ((plc t a).take (c + 1)) = List.map (fun n : Nat => D.int (n : Int)) ((plc t a).take c) ++ [D.int (bef t a (c + 1) : Int)] := by rw [h2, List.map_append]; rfl
  have hN' := hN (eR fun h => cost p (bef t a c) h + row (t.drop (c + 1)) h)
  rw [hm, List.map_take] at hN'
  simp -implicitDefEqProofs [m_homes_b1, a_seq, ec, em, ei, it, it2, ep]
  exact hN'
end
end Lw
/-! k16: homes, joined. -/
namespace Lw
open PySem PySem.Spec PyProof.Rows L2 RZ Om
section
variable (call : Str → SF) (R : Rg)
theorem homes_back (t : List Pr) (a : Nat) (ht : t.length ≤ 100) (N : List D → Rg → Prop) (po : Po) (hP : ∀ (p : Pr) (a h : Nat), call "price" [eP p, .int (a : Int), .int (h : Int)] R = .ok (.int (cost p a h)) R)
    (hN : ∀ y3 y4, N [eT t, .int (a : Int), eRows t, y3, y4, .undef, .undef, .undef, .undef, .undef] R) :
    wpS (sFor (iSeq (cOp1 (revD false) (cVar 0))) (gVar 3) (m_homes_b2 call) [eT t, .int (a : Int), eRows [], .undef, .undef, .undef, .undef, .undef, .undef, .undef] R) N po := by
  have lf := line_fuel
  simp only [line_eq] at lf
  have er : revD false (eT t) R = some (.lst (t.reverse.map eP), R) := by
    unfold eT
    rw [a_rev, mkL_old (by simp; omega), List.map_reverse]
  refine ws_for (enc := eP) (R1 := R) t.reverse (by simp -implicitDefEqProofs [er]) (by rw [List.length_reverse]; omega)
    (fun done s R1 => R1 = R ∧ ∃ y3 y4, s = [eT t, .int (a : Int), eRows done.reverse, y3, y4, .undef, .undef, .undef, .undef, .undef]) ⟨rfl, _, _, rfl⟩ ?_ ?_
  · rintro done p rest e _ R1 ⟨rfl, y3, y4, rfl⟩
    have hl : done.length + (rest.length + 1) = t.length := by
      have := congrArg List.length e
      simpa using this.symm
    refine wp_of_eq (t := [eT t, .int (a : Int), eRows done.reverse, eP p, y4, .undef, .undef, .undef, .undef, .undef]) rfl ?_
    refine homes_b2 call R1 done.reverse p (by rw [List.length_reverse]; omega) _ _ _ _ _ hP ?_
    refine ⟨rfl, eP p, eR (row done.reverse), ?_⟩
    rw [List.reverse_append]
    rfl
  · rintro _ _ ⟨rfl, y3, y4, rfl⟩
    rw [List.reverse_reverse]
    exact hN y3 y4
theorem homes_on (t : List Pr) (a : Nat) (ht : t.length ≤ 100) (x4 x8 x9 y3 : D) (N : List D → Rg → Prop) (po : Po) (hP : ∀ (R : Rg) (p : Pr) (a h : Nat), call "price" [eP p, .int (a : Int), .int (h : Int)] R = .ok (.int (cost p a h)) R)
    (hN : ∀ y3 y6 y7 y8, N [eT t, .int (a : Int), eRows t, y3, x4, .ref R.length, y6, y7, y8, x9] (R ++ [.lst ((plc t a).map fun n : Nat => D.int (n : Int))])) :
    wpS (sFor (iArgs enum1 (cCons (cVar 0) cNil)) (gT 2 (gC (gVar 7) (gC (gVar 3) gN))) (m_homes_b1 call) [eT t, .int (a : Int), eRows t, y3, x4, .ref R.length, .int (a : Int), .undef, x8, x9] (R ++ [.lst []])) N po := by
  have lf := line_fuel
  simp only [line_eq] at lf
  refine ws_for (enc := fun z : Pr × Nat => .tup [.int (z.2 : Int), eP z.1]) (R1 := R ++ [.lst []]) t.zipIdx (it_enumM (f := eP) (as := t) (by simp [eT])) (by rw [List.length_zipIdx]; omega)
    (fun done s R1 => done.length ≤ t.length ∧ R1 = R ++ [.lst (((plc t a).take done.length).map fun n : Nat => D.int (n : Int))] ∧ ∃ y3 y7 y8, s = [eT t, .int (a : Int), eRows t, y3, x4, .ref R.length, .int (bef t a done.length : Int), y7, y8, x9]) ⟨by simp, rfl, _, _, _, rfl⟩ ?_ ?_
  · rintro done ⟨p, c⟩ rest e _ _ ⟨hd, rfl, y3, y7, y8, rfl⟩
    obtain ⟨hc, hp⟩ := idx_split e
    have hc : c = done.length := hc
    subst hc
    have hlt := (List.getElem?_eq_some_iff.mp hp).1
    refine wp_of_eq (t := [eT t, .int (a : Int), eRows t, eP p, x4, .ref R.length, .int (bef t a done.length : Int), .int (done.length : Int), y8, x9]) rfl ?_
    refine homes_b1 call _ t a done.length p R.length ht hp at_end _ _ _ _ _ _ _ (hP _) fun y8 => ?_
    rw [set_end]
    have e1 : (done ++ [(p, done.length)]).length = done.length + 1 := by simp
    rw [e1]
    exact ⟨by omega, rfl, _, _, _, rfl⟩
  · rintro _ _ ⟨_, rfl, y3, y7, y8, rfl⟩
    have e1 : (plc t a).take t.zipIdx.length = plc t a := by rw [List.length_zipIdx, ← plc_len t a, List.take_length]
    rw [e1]
    exact hN _ _ _ _
theorem q_homes (t : List Pr) (a : Nat) (ht : t.length ≤ 100) (hC : call "check_tour" [eT t, .int (a : Int)] R = .ok .non R) (hP : ∀ (R : Rg) (p : Pr) (a h : Nat), call "price" [eP p, .int (a : Int), .int (h : Int)] R = .ok (.int (cost p a h)) R)
    (hI : ∀ (R : Rg) (pl : D) (ps : List Nat) (t : List Pr), t.length ≤ 100 → isU pl = false → (∀ o, listD false [pl] (R ++ [.ins 11 o]) = some (eN ps, R ++ [.ins 11 o])) → call "Homes.__init__" [.ref R.length, pl, eRows t] (R ++ [.ins 11 []]) = .ok .non (R ++ [.ins 11 (eFs ps t)])) :
    fin false R (m_homes call [eT t, .int (a : Int), .undef, .undef, .undef, .undef, .undef, .undef, .undef, .undef] R) = .ok (eH t a) R := by
  refine eq_of_wp (wp_fin ?_)
  unfold m_homes
  have em : mulD false (.lst [.int 0]) (.int 4) R = some (.lst [.int 0, .int 0, .int 0, .int 0], R) := rfl
  have er : D.lst [.lst [.int 0, .int 0, .int 0, .int 0]] = eRows [] := rfl
  rw [ws_seq]
  simp -implicitDefEqProofs only [a_expr, a_call, a_cons, a_nil, a_cvar, look_succ, look_zero, u_int, u_eT, Bool.false_eq_true, if_false, Res.bind_ok, List.append_nil, hC, a_bind_ok, ws_nx]
  rw [ws_seq]
  simp -implicitDefEqProofs only [a_asg, a_lst, a_op2, a_con, a_cons, a_nil, Res.bind_ok, mkL_old, List.length_cons, List.length_nil, line_eq, Nat.reduceAdd, Nat.reduceLeDiff, a_lift, em, er, a_bind_ok, a_go, ws_nx, List.set_cons_succ, List.set_cons_zero]
  rw [ws_seq]
  refine homes_back call R t a ht _ _ (hP R) fun y3 y4 => ?_
  rw [ws_seq]
  have eg : ∀ R, sGo (gT 2 (gC (gVar 5) (gC (gVar 6) gN))) (.tup [.ref R.length, .int (a : Int)]) [eT t, .int (a : Int), eRows t, y3, y4, .undef, .undef, .undef, .undef, .undef] (R ++ [.lst []]) = .nx [eT t, .int (a : Int), eRows t, y3, y4, .ref R.length, .int (a : Int), .undef, .undef, .undef] (R ++ [.lst []]) := fun _ => rfl
  simp -implicitDefEqProofs only [a_asg, a_tup, a_lst, a_con, a_cons, a_nil, Res.bind_ok, mkL_new, List.length_cons, List.length_nil, line_eq, Nat.reduceAdd, Nat.reduceLeDiff, Nat.zero_le, if_true, a_lift, a_bind_ok, a_cvar, look_succ, look_zero, u_int, Bool.false_eq_true, if_false, eg, ws_nx]
  rw [ws_seq]
  refine homes_on call R t a ht _ _ _ _ _ _ hP fun y3 y6 y7 y8 => ?_
  rw [ws_seq]
  have hl : ∀ o, listD false [.ref R.length] (R ++ [.lst ((plc t a).map fun n : Nat => D.int (n : Int))] ++ [.ins 11 o]) = some (eN (plc t a), R ++ [.lst ((plc t a).map fun n : Nat => D.int (n : Int))] ++ [.ins 11 o]) := by
    intro o
    have h1 : (R ++ [O.lst ((plc t a).map fun n : Nat => D.int (n : Int))] ++ [O.ins 11 o])[R.length]? = some (.lst ((plc t a).map fun n : Nat => D.int (n : Int))) := by
      rw [List.getElem?_append_left (by simp)]
      exact at_end
    have h2 := plc_len t a
    show (match dctOf _ (.ref R.length) with
      | some ks => mkL false (List.map (fun p : D × D => p.1) ks) _
      | none => match seqOf _ (.ref R.length) with
        | some xs => mkL false xs _
        | none => none) = _
    rw [dctOf_ref, h1]
    show (match lstOf _ (.ref R.length) with
        | some xs => mkL false xs _
        | none => none) = _
    rw [lst_ref h1]
    exact mkL_old (by simp; omega)
  have hi := hI (R ++ [.lst ((plc t a).map fun n : Nat => D.int (n : Int))]) (.ref R.length) (plc t a) t ht rfl hl
  have hm : cMake 11 (call "Homes.__init__") [] (cCons (cVar 5) (cCons (cVar 2) cNil)) [eT t, .int (a : Int), eRows t, y3, y4, .ref R.length, y6, y7, y8, .undef] (R ++ [.lst ((plc t a).map fun n : Nat => D.int (n : Int))]) = .ok (.ref (R.length + 1)) (R ++ [.lst ((plc t a).map fun n : Nat => D.int (n : Int))] ++ [.ins 11 (eFs (plc t a) t)]) := by
    have hlen : (R ++ [O.lst ((plc t a).map fun n : Nat => D.int (n : Int))]).length = R.length + 1 := by simp
    unfold cMake
    simp -implicitDefEqProofs only [a_cons, a_nil, a_cvar, look_succ, look_zero, u_ref, u_eRows, Bool.false_eq_true, if_false, Res.bind_ok, List.append_nil]
    rw [hi, Res.bind_ok, hlen]
    rfl
  simp -implicitDefEqProofs only [a_ret, hm, a_bind_ok, ws_rt]
  refine ⟨eH t a, ?_, ?_, rfl, trivial⟩
  · refine frz_ins (by omega) (by simp) ?_ (eFs_pure _ _)
    have := @at_n (R ++ [.lst ((plc t a).map fun n : Nat => D.int (n : Int))]) (R.length + 1) (.ins 11 (eFs (plc t a) t)) (by simp)
    exact this
  · simp
end
end Lw
/-! k16: Homes.shows. -/
namespace Lw
open PySem PySem.Spec PyProof.Rows L2 RZ Om
section
variable (call : Str → SF) (R : Rg)
theorem comp_true {B : Type} {s : List D} {a : SE} {e : SE} {j : Nat} {f : B → D} {as : List B} (h : a s R = .ok (.lst (as.map f)) R) (hl : as.length ≤ LINE) (g : B → Bool) (he : ∀ x ∈ as, e ((wipeD s [j]).set j (f x)) R = .ok (.bl (g x)) R) :
    cComp (iSeq a) (gVar j) (fun _ R => .ok true R) e [j] false s R = .ok (.lst (as.map fun x => .bl (g x))) R := by
  refine (comp_lst (as := as) (f := f) (w := fun x => .bl (g x)) (p := fun _ => true) h hl ?_).trans ?_
  · intro x hx
    exact ⟨_, rfl, rfl, fun _ => he x hx⟩
  · rw [List.filter_eq_self.mpr (fun _ _ => rfl)]
theorem all_true {B : Type} {as : List B} {g : B → Bool} (h : ∀ x ∈ as, g x = true) : allD [.lst (as.map fun x => D.bl (g x))] R = some (.bl true, R) := by
  rw [p_all g, List.all_eq_true.mpr h]
theorem any_false {B : Type} {as : List B} {g : B → Bool} (h : ∀ x ∈ as, g x = false) : anyD [.lst (as.map fun x => D.bl (g x))] R = some (.bl false, R) := by
  rw [p_any g]
  have : as.any g = false := by
    rw [List.any_eq_false]
    intro x hx
    rw [h x hx]
    decide
  rw [this]
theorem ix_rowsN (t : List Pr) (c : Nat) (hc : c ≤ t.length) : ixD (eRows t) (.int (c : Int)) R = some (eR (row (t.drop c)), R) := ix_lst (by rw [List.getElem?_map, rows_at t c hc]; rfl)
theorem shows_loop (x : D) (hx : isU x = false) (t : List Pr) (ht : t.length ≤ 100) (hf : fldD scl.ca 16 x R = some (eRows t, R)) (hP : ∀ (p : Pr) (a h : Nat), call "price" [eP p, .int (a : Int), .int (h : Int)] R = .ok (.int (cost p a h)) R)
    (x2 x3 x4 x5 x6 x7 x8 : D) (N : List D → Rg → Prop) (po : Po) (hN : ∀ y3 y4 y5 y6, N [x, eT t, x2, y3, y4, y5, y6, x7, x8] R) :
    wpS (sFor (iArgs enum1 (cCons (cVar 1) cNil)) (gT 2 (gC (gVar 3) (gC (gVar 4) gN))) (m_Homes_shows_b3 call) [x, eT t, x2, x3, x4, x5, x6, x7, x8] R) N po := by
  have lf := line_fuel
  simp only [line_eq] at lf
  refine ws_for (enc := fun z : Pr × Nat => .tup [.int (z.2 : Int), eP z.1]) (R1 := R) t.zipIdx (it_enumM (f := eP) (as := t) (by simp [eT])) (by rw [List.length_zipIdx]; omega)
    (fun done s R1 => R1 = R ∧ ∃ y3 y4 y5 y6, s = [x, eT t, x2, y3, y4, y5, y6, x7, x8]) ⟨rfl, _, _, _, _, rfl⟩ ?_ ?_
  · rintro done ⟨p, c⟩ rest e _ R1 ⟨rfl, y3, y4, y5, y6, rfl⟩
    obtain ⟨hc, hp⟩ := idx_split e
    have hc : c = done.length := hc
    subst hc
    have hlt := (List.getElem?_eq_some_iff.mp hp).1
    generalize done.length = c at hp hlt
    refine wp_of_eq (t := [x, eT t, x2, .int (c : Int), eP p, y5, y6, x7, x8]) rfl ?_
    unfold m_Homes_shows_b3
    rw [ws_seq]
    refine ws_cut (fun s R2 => R2 = R1 ∧ ∃ y5 y6, s = [x, eT t, x2, .int (c : Int), eP p, y5, y6, x7, x8]) ?_ ?_
    · refine ws_for (enc := fun i : Nat => .int (i : Int)) (R1 := R1) (List.range 4) (it_rng1 (n := 4) (by simp) (by decide)) (by decide) (fun done s R2 => R2 = R1 ∧ ∃ y5 y6, s = [x, eT t, x2, .int (c : Int), eP p, y5, y6, x7, x8]) ⟨rfl, _, _, rfl⟩ ?_ (fun s R h => h)
      rintro _ a _ ea _ R2 ⟨rfl, y5, y6, rfl⟩
      have ha : a < 4 := List.mem_range.mp (by rw [ea]; simp)
      refine wp_of_eq (t := [x, eT t, x2, .int (c : Int), eP p, .int (a : Int), y6, x7, x8]) rfl ?_
      unfold m_Homes_shows_b2
      rw [ws_seq]
      refine ws_cut (fun s R3 => R3 = R2 ∧ ∃ y6, s = [x, eT t, x2, .int (c : Int), eP p, .int (a : Int), y6, x7, x8]) ?_ ?_
      · refine ws_for (enc := fun i : Nat => .int (i : Int)) (R1 := R2) (List.range 4) (it_rng1 (n := 4) (by simp) (by decide)) (by decide) (fun done s R3 => R3 = R2 ∧ ∃ y6, s = [x, eT t, x2, .int (c : Int), eP p, .int (a : Int), y6, x7, x8]) ⟨rfl, _, rfl⟩ ?_ (fun s R h => h)
        rintro _ h _ eh _ R3 ⟨rfl, y6, rfl⟩
        have hh : h < 4 := List.mem_range.mp (by rw [eh]; simp)
        have e1 := ix_rowsN R3 t c (by omega)
        have e2 := ix_rows1 t c R3 (by omega)
        have e3 : ¬ cost p a h + row (t.drop (c + 1)) h < row (t.drop c) a := by
          have := step_le t c p hp a h hh
          omega
        simp -implicitDefEqProofs [m_Homes_shows_b1, a_seq, a_sif, hx, hf, e1, e2, e3, hP, ixR R3 ha, ixR R3 hh]
      · rintro _ _ ⟨rfl, y6, rfl⟩
        exact ⟨⟨rfl, _, _, rfl⟩⟩
    · rintro _ _ ⟨rfl, y5, y6, rfl⟩
      exact ⟨⟨rfl, _, _, _, _, rfl⟩⟩
  · rintro _ _ ⟨rfl, y3, y4, y5, y6, rfl⟩
    exact hN _ _ _ _
theorem q_shows (x : D) (hx : isU x = false) (t : List Pr) (ps : List Nat) (a : Nat) (ha : a < 4) (ht : t.length ≤ 100) (hi : insOf R x = some (11, eFs ps t)) (hl : ps.length = t.length) (h4 : ∀ h ∈ ps, h < 4)
    (hP : ∀ (p : Pr) (a h : Nat), call "price" [eP p, .int (a : Int), .int (h : Int)] R = .ok (.int (cost p a h)) R)
    (hL : call "letters_of" [eT t, .int (a : Int), eN ps] R = .ok (.int (lets t ps a)) R) :
    fin false R (m_Homes_shows call [x, eT t, .int (a : Int), .undef, .undef, .undef, .undef, .undef, .undef] R) = .ok (.bl (decide (lets t ps a = row t a))) R := by
  refine eq_of_wp (wp_fin ?_)
  have f15 : fldD scl.ca 15 x R = some (eN ps, R) := fld_of hi rfl rfl
  have f16 : fldD scl.ca 16 x R = some (eRows t, R) := fld_of hi rfl rfl
  have l1 : lenD [eN ps] R = some (.int (t.length : Int), R) := by unfold eN; rw [p_len_lst, List.length_map, hl]
  have l2 : lenD [eT t] R = some (.int (t.length : Int), R) := by unfold eT; rw [p_len_lst, List.length_map]
  have l3 : lenD [eRows t] R = some (.int ((t.length : Int) + 1), R) := by unfold eRows; rw [p_len_lst, List.length_map, rows_len]; rfl
  have hr := rows_len t
  have c1 : ∀ s : List D, s[0]? = some x → (∀ y : Nat, ((wipeD s [6]).set 6 (.int (y : Int)))[6]? = some (.int (y : Int))) → cComp (iSeq (cOp1 (fldD scl.ca 15) (cVar 0))) (gVar 6) (fun _ R => .ok true R) (m_Homes_shows_e3 call) [6] false s R = .ok (.lst (ps.map fun h => .bl true)) R := by
    intro s hs hs6
    have hv : cVar 0 s R = .ok x R := a_var hs (by rintro rfl; cases hx)
    refine comp_true R (f := fun n : Nat => .int (n : Int)) (as := ps) (by rw [a_op1, hv, Res.bind_ok, f15]; rfl) (by simp; omega) (fun _ => true) fun h hm => ?_
    have e1 : (0 : Int) ≤ (h : Int) := by omega
    have e2 : (h : Int) < 4 := by have := h4 h hm; omega
    have hv6 := v_int (R := R) (hs6 h)
    simp -implicitDefEqProofs only [m_Homes_shows_e3, a_ch, a_con, hv6, Res.bind_ok, p_le_int, a_lift, e1, e2, decide_true, p_lt_int]
  have c2 : ∀ s : List D, s[0]? = some x → (∀ y : Nat → Int, ((wipeD s [8]).set 8 (eR y))[8]? = some (eR y)) → cComp (iSeq (cOp1 (fldD scl.ca 16) (cVar 0))) (gVar 8) (fun _ R => .ok true R) (m_Homes_shows_e2 call) [8] false s R = .ok (.lst ((rows t).map fun h => .bl true)) R := by
    intro s hs hs8
    have hv : cVar 0 s R = .ok x R := a_var hs (by rintro rfl; cases hx)
    refine comp_true R (f := eR) (as := rows t) (by rw [a_op1, hv, Res.bind_ok, f16]; rfl) (by simp; omega) (fun _ => true) fun f hm => ?_
    have hv8 : cVar 8 ((wipeD s [8]).set 8 (eR f)) R = .ok (eR f) R := a_var (hs8 f) (by simp [eR])
    have e1 : lenD [eR f] R = some (.int 4, R) := rfl
    simp -implicitDefEqProofs only [m_Homes_shows_e2, a_op2, a_opN, a_cons, a_nil, a_con, hv8, Res.bind_ok, e1, a_lift, x_int]
    rfl
  have ix1 : ixD (eRows t) (.int (-1)) R = some (eR (row []), R) := by
    refine ix_last ?_
    rw [List.length_map, rows_len, List.getElem?_map, Nat.add_sub_cancel, rows_at t t.length (Nat.le_refl _), List.drop_length]
    rfl
  have c3 : ∀ s : List D, s[0]? = some x → (∀ y : Int, ((wipeD s [7]).set 7 (.int y))[7]? = some (.int y)) → cComp (iSeq (cOp2 ixD (cOp1 (fldD scl.ca 16) (cVar 0)) (cOp1 negD (cCon (.int 1))))) (gVar 7) (fun _ R => .ok true R) (m_Homes_shows_e1 call) [7] false s R = .ok (.lst ((List.range 4).map fun h => .bl false)) R := by
    intro s hs hs7
    have hv : cVar 0 s R = .ok x R := a_var hs (by rintro rfl; cases hx)
    refine comp_true R (f := fun h => .int (row [] h)) (as := List.range 4) (by simp -implicitDefEqProofs only [a_op2, a_op1, hv, Res.bind_ok, f16, a_lift, a_con, a_neg, ix1]; rfl) (by simp) (fun _ => false) fun h hm => ?_
    have hv7 := v_int (R := R) (hs7 (row [] h))
    show m_Homes_shows_e1 call ((wipeD s [7]).set 7 (.int (row [] h))) R = _
    have e0 : row [] h = 0 := rfl
    rw [e0] at hv7 ⊢
    simp -implicitDefEqProofs only [m_Homes_shows_e1, a_op2, a_con, hv7, Res.bind_ok, p_gt_int, a_lift]
    rfl
  have a1 := all_true R (as := ps) (g := fun _ => true) fun _ _ => rfl
  have a2 := all_true R (as := rows t) (g := fun _ => true) fun _ _ => rfl
  have a3 := any_false R (as := List.range 4) (g := fun _ => false) fun _ _ => rfl
  unfold m_Homes_shows
  refine ws_then3 (fun s R1 => s = [x, eT t, .int (a : Int), .undef, .undef, .undef, .undef, .undef, .undef] ∧ R1 = R) ?_ ?_
  · simp -implicitDefEqProofs [hx, f15, f16, l1, l2, l3, c1, c2, c3, a1, a2, a3]
  rintro _ R ⟨rfl, rfl⟩
  rw [ws_seq]
  refine shows_loop call _ x hx t ht f16 hP _ _ _ _ _ _ _ _ _ fun y3 y4 y5 y6 => ?_
  have e0 := ix_rows0 t R
  simp -implicitDefEqProofs [hx, f15, f16, hL, e0, ixR R ha]
  exact frz_pure rfl
end
end Lw
/-! k16: the law's cells and tours. -/
namespace Lw
open PySem PySem.Spec PyProof.Rows L2 RZ Om
theorem mul_r (i j : Int) (h : -18446744073709551616 < j ∧ j < 18446744073709551616) : mulOk i j = true := by
  have e : smallI j = true := decide_eq_true h
  unfold mulOk
  rw [e]
  rfl
theorem mul_l (i j : Int) (h : -18446744073709551616 < i ∧ i < 18446744073709551616) : mulOk i j = true := by
  have e : smallI i = true := decide_eq_true h
  unfold mulOk
  rw [e, Bool.or_true]
  rfl
theorem div_small {j : Int} (h : 0 < j) (h2 : j < 9000) : divOk j = true := by
  refine decide_eq_true ⟨h, ?_⟩
  have := Nat.log2_le_self j.natAbs
  omega
section
variable (call : Str → SF) (R : Rg)
theorem q_cell_at (ns : List Int) (i : Nat) (hi : i < 100000) (hl : ns.length ≤ 63) : ∃ n, fin false R (m__law_cell_at call [.lst (ns.map .int), .int (i : Int), .undef, .undef, .undef, .undef, .undef, .undef] R) = .ok (.int n) R := by
  suffices h : wpR (fin false R (m__law_cell_at call [.lst (ns.map .int), .int (i : Int), .undef, .undef, .undef, .undef, .undef, .undef] R)) (fun d R1 => R1 = R ∧ ∃ n, d = .int n) noE by
    obtain ⟨d, R1, e, rfl, n, rfl⟩ := ex_of_wp h
    exact ⟨n, e⟩
  refine wp_fin ?_
  unfold m__law_cell_at
  refine ws_then (fun s R1 => R1 = R ∧ ∃ cs : List Int, 0 < cs.length ∧ cs.length ≤ 63 ∧ s = [.lst (ns.map .int), .int (i : Int), .lst (cs.map .int), .undef, .undef, .undef, .undef, .undef]) ?_ ?_
  · cases ns with
    | nil =>
      have e : eqD' true (.lst []) (.lst []) R = some (.bl false, R) := (p_eq rfl rfl rfl rfl).trans (by simp)
      simp -implicitDefEqProofs [e]
      exact ⟨[5], by decide, by decide, rfl⟩
    | cons n ns =>
      have e : eqD' true (.lst ((n :: ns).map .int)) (.lst []) R = some (.bl true, R) := (p_eq (by rw [pure_lst]; exact pure_ints _) rfl (by show eqOks 11 _ = true; exact eqOks_ints _ _) rfl).trans (by simp)
      have e2 : slD false (.lst ((n :: ns).map .int)) none (some 63) R = some (.lst ((n :: ns).map .int), R) := by
        show mkL false (cutD _ none (some ((63 : Nat) : Int))) R = _
        rw [cut_to, List.take_of_length_le (by rw [List.length_map]; omega), mkL_old (by rw [List.length_map]; simp at hl; simp; omega)]
      have e3 : cSl false (cVar 0) none (some (cCon (.int 63))) [.lst ((n :: ns).map .int), .int (i : Int), .undef, .undef, .undef, .undef, .undef, .undef] R = .ok (.lst ((n :: ns).map .int)) R := by
        unfold cSl
        rw [v_lst (by rfl), Res.bind_ok]
        show lift (slD false (.lst ((n :: ns).map .int)) none (some 63) R) = _
        rw [e2]
        rfl
      generalize hm : (n :: ns).map D.int = z at e e3
      simp -implicitDefEqProofs [e, e3]
      exact ⟨n :: ns, by simp, hl, hm.symm⟩
  rintro _ R ⟨rfl, cs, h1, h2, rfl⟩
  have hlen : lenD [.lst (cs.map .int)] R = some (.int (cs.length : Int), R) := by rw [p_len_lst, List.length_map]
  have hp : (0 : Int) < (cs.length : Int) := by omega
  refine ws_then (fun s R1 => R1 = R ∧ ∃ c : Int, s = [.lst (ns.map .int), .int (i : Int), .lst (cs.map .int), .undef, .int c, .int (i : Int), .undef, .undef]) ?_ ?_
  · have e1 := p_mod (R := R) (i := (i : Int)) hp
    obtain ⟨j, ej⟩ : ∃ j : Nat, (i : Int) % (cs.length : Int) = j := ⟨((i : Int) % (cs.length : Int)).toNat, by have := Int.emod_nonneg (i : Int) (show (cs.length : Int) ≠ 0 by omega); omega⟩
    have hj : j < cs.length := by
      have := Int.emod_lt_of_pos (i : Int) hp
      omega
    have e2 : ixD (.lst (cs.map .int)) (.int (j : Int)) R = some (.int cs[j], R) := ix_lst (by rw [List.getElem?_map, List.getElem?_eq_getElem hj]; rfl)
    have e3 : powD (.int 10) (.int 18) R = some (.int (10 ^ 18), R) := p_pow (by decide)
    have e4 := p_fdiv (R := R) (i := (i : Int)) (div_small hp (by omega))
    rw [ej] at e1
    simp -implicitDefEqProofs [hlen, e1, e2, e3, e4, p_mod, p_mul (mul_l 13 _ (by omega))]
  rintro _ R ⟨rfl, c, rfl⟩
  refine ws_then (fun s R1 => R1 = R ∧ ∃ l h : Int, s = [.lst (ns.map .int), .int (i : Int), .lst (cs.map .int), .undef, .int c, .int (i : Int), .int l, .int h]) ?_ ?_
  · have e4 := p_fdiv (R := R) (i := c) (show divOk 1000003 = true by decide +kernel)
    simp -implicitDefEqProofs [p_mod, e4]
  rintro _ R ⟨rfl, l, h, rfl⟩
  refine ws_then (fun s R1 => R1 = R ∧ ∃ m : Int, 0 ≤ m ∧ m < 2147483647 ∧ s = [.lst (ns.map .int), .int (i : Int), .lst (cs.map .int), .int m, .int c, .int (i : Int), .int l, .int h]) ?_ ?_
  · simp -implicitDefEqProofs [p_mod, hlen, p_mul (mul_l 977 _ (by omega)), p_mul (mul_r _ 48271 (by omega)), p_mul (mul_l 31 _ (by omega)), p_mul (mul_l 7919 _ (by omega))]
    exact ⟨Int.emod_nonneg _ (by decide), Int.emod_lt_of_pos _ (by decide)⟩
  rintro _ R ⟨rfl, m, hm, hm2, rfl⟩
  simp -implicitDefEqProofs [p_mod, p_mul (mul_l 31 _ (by omega)), p_mul (mul_l m _ (by omega)), p_mul (mul_r _ 65537 (by omega))]
  exact ⟨_, frz_pure rfl, _, rfl⟩
theorem q_tour (ns : List Int) (b many : Nat) (hb : b < 10000) (hm : many ≤ 60) (hC : ∀ (R : Rg) (i : Nat), i < 100000 → ∃ n, call "_law_cell_at" [.lst (ns.map .int), .int (i : Int)] R = .ok (.int n) R) :
    ∃ t : List Pr, okT t ∧ t.length = many ∧ fin false R (m__law_tour call [.lst (ns.map .int), .int (b : Int), .int (many : Int), .undef, .undef, .undef, .undef] R) = .ok (eT t) R := by
  suffices h : wpR (fin false R (m__law_tour call [.lst (ns.map .int), .int (b : Int), .int (many : Int), .undef, .undef, .undef, .undef] R)) (fun d R1 => R1 = R ∧ ∃ t : List Pr, okT t ∧ t.length = many ∧ d = eT t) noE by
    obtain ⟨d, R1, e, rfl, t, h1, h2, rfl⟩ := ex_of_wp h
    exact ⟨t, h1, h2, e⟩
  refine wp_fin ?_
  unfold m__law_tour
  rw [ws_seq]
  simp -implicitDefEqProofs only [a_par2, a_cons, a_con, a_lst, a_nil, mkL_new, List.length_nil, line_eq, Nat.zero_le, Res.bind_ok, a_lift, a_bind_ok, ws_nx, List.set_cons_succ, List.set_cons_zero]
  rw [ws_seq]
  refine ws_for (enc := fun i : Nat => .int (i : Int)) (R1 := R ++ [.lst []]) (List.range many) (it_rng1 (n := many) (v_int rfl) (by omega)) (by have lf := line_fuel; simp only [line_eq] at lf; rw [List.length_range]; omega)
    (fun done s R1 => ∃ (t : List Pr) (l : Nat) (y3 y6 : D), okT t ∧ t.length = done.length ∧ l < 4 ∧ R1 = R ++ [.lst (t.map eP)] ∧ s = [.lst (ns.map .int), .int (b : Int), .int (many : Int), y3, .ref R.length, .int (l : Int), y6]) ⟨[], 0, _, _, (fun _ h => by cases h), rfl, by omega, rfl, rfl⟩ ?_ ?_
  · rintro done i rest e _ _ ⟨t, l, y3, y6, h1, h2, h3, rfl, rfl⟩
    have hi : i < many := List.mem_range.mp (by rw [e]; simp)
    have hlen : done.length < many := by
      have := congrArg List.length e
      rw [List.length_range, List.length_append, List.length_cons] at this
      omega
    refine wp_of_eq (t := [.lst (ns.map .int), .int (b : Int), .int (many : Int), .int (i : Int), .ref R.length, .int (l : Int), y6]) rfl ?_
    obtain ⟨n, en⟩ := hC (R ++ [.lst (t.map eP)]) (b + i) (by omega)
    have en : call "_law_cell_at" [.lst (ns.map .int), .int ((b : Int) + (i : Int))] (R ++ [.lst (t.map eP)]) = .ok (.int n) (R ++ [.lst (t.map eP)]) := en
    have d8 := p_fdiv (R := R ++ [.lst (t.map eP)]) (i := n) (show divOk 8 = true by decide +kernel)
    have d64 := p_fdiv (R := R ++ [.lst (t.map eP)]) (i := n) (show divOk 64 = true by decide +kernel)
    obtain ⟨c, hc, ec⟩ : ∃ c : Nat, c < 4 ∧ n / 8 % 4 = c := ⟨(n / 8 % 4).toNat, by omega, by omega⟩
    obtain ⟨q, hq, eq⟩ : ∃ q : Nat, q < 3 ∧ n % 3 = q := ⟨(n % 3).toNat, by omega, by omega⟩
    obtain ⟨r, hr, er⟩ : ∃ r : Nat, r < 2 ∧ n / 64 % 2 = r := ⟨(n / 64 % 2).toNat, by omega, by omega⟩
    have m1 : ∀ R, modD (.int (n / 8)) (.int 4) R = some (.int (c : Int), R) := fun R => by rw [p_mod (by decide), ec]
    have m2 : ∀ R, modD (.int n) (.int 3) R = some (.int (q : Int), R) := fun R => by rw [p_mod (by decide), eq]
    have m3 : ∀ R, modD (.int (n / 64)) (.int 2) R = some (.int (r : Int), R) := fun R => by rw [p_mod (by decide), er]
    obtain ⟨l2, hl2, x1⟩ : ∃ l2 : Nat, l2 < 4 ∧ ∀ R, ixD (.tup [.int (l : Int), .int (c : Int), .int (l : Int)]) (.int (q : Int)) R = some (.int (l2 : Int), R) := by
      match q, hq with
      | 0, _ => exact ⟨l, h3, fun R => ix_tup rfl⟩
      | 1, _ => exact ⟨c, hc, fun R => ix_tup rfl⟩
      | 2, _ => exact ⟨l, h3, fun R => ix_tup rfl⟩
    obtain ⟨w, x2⟩ : ∃ w : Bool, ∀ R, ixD (.tup [.str [110, 101, 101, 100], .str [115, 101, 110, 100]]) (.int (r : Int)) R = some (.str (if w = true then need else send), R) := by
      match r, hr with
      | 0, _ => exact ⟨true, fun R => ix_tup rfl⟩
      | 1, _ => exact ⟨false, fun R => ix_tup rfl⟩
    have it2 : isT 0 (.ref R.length) (R ++ [.lst (t.map eP)]) = true := isT_lst at_end
    have ap := app_ref (x := eP (w, l2)) (at_end (R := R) (o := .lst (t.map eP))) (by rw [List.length_map, line_eq]; omega)
    rw [set_end] at ap
    have ap : appendD (.ref R.length) [.tup [.str (if w = true then need else send), .int (l2 : Int)]] (R ++ [.lst (t.map eP)]) = some (.non, R ++ [.lst (t.map eP ++ [eP (w, l2)])]) := ap
    simp -implicitDefEqProofs [m__law_tour_b1, a_seq, en, d8, d64, m1, m2, m3, x1, x2, it2, ap]
    refine ⟨t ++ [(w, l2)], fun p hp => ?_, by simp [h2], l2, hl2, by simp, rfl⟩
    rcases List.mem_append.mp hp with hp | hp
    · exact h1 p hp
    · rw [List.mem_singleton.mp hp]
      exact hl2
  · rintro _ _ ⟨t, l, y3, y6, h1, h2, h3, rfl, rfl⟩
    rw [List.length_range] at h2
    simp -implicitDefEqProofs
    refine ⟨eT t, frz_lst (Nat.le_refl _) (by simp) at_end (pure_map (fun _ => rfl) _), t, h1, h2, rfl⟩
end
end Lw
/-! k16: the law's looks. -/
namespace Lw
open PySem PySem.Spec PyProof.Rows L2 RZ Om
theorem eN_ok (ns : List Nat) : eqOk 12 (eN ns) = true := by show eqOks 11 _ = true; exact eqOks_map (fun _ => rfl) _
theorem eR_ok (f : Nat → Int) (n : Nat) : eqOk (n + 1) (eR f) = true := by show eqOks n _ = true; exact eqOks_map (fun _ => by cases n <;> rfl) _
theorem eRows_ok (t : List Pr) : eqOk 12 (eRows t) = true := by show eqOks 11 _ = true; exact eqOks_map (fun f => eR_ok f 10) _
section
variable (call : Str → SF) (R : Rg)
theorem q_letters (t : List Pr) (ps : List Nat) (a : Nat) (ht : t.length ≤ 100) : fin false R (m__law_letters call [eT t, eN ps, .int (a : Int), .undef, .undef, .undef, .undef, .undef] R) = .ok (.int (lets t ps a)) R := by
  refine eq_of_wp (wp_fin ?_)
  unfold m__law_letters
  rw [ws_seq]
  simp -implicitDefEqProofs only [a_par2, a_cons, a_con, a_nil, a_cvar, look_succ, look_zero, u_int, wp_sbind, wp_bind, wp_ok, Bool.false_eq_true, if_false, Res.bind_ok, a_bind_ok, ws_nx, List.set_cons_succ, List.set_cons_zero]
  rw [ws_seq]
  refine ws_for (enc := fun z : Pr × Nat => .tup [eP z.1, .int (z.2 : Int)]) (R1 := R) (t.zip ps) (it_zipM (f := eP) (g := fun n : Nat => D.int (n : Int)) (as := t) (bs := ps) (by simp [eT]) (by simp [eN])) (by
    have := List.length_zip (l₁ := t) (l₂ := ps)
    have lf := line_fuel
    simp only [line_eq] at lf
    omega)
    (fun done s R1 => R1 = R ∧ ∃ y5 y6 y7, s = [eT t, eN ps, .int (a : Int), .int (done.foldl gl (0, a)).1, .int ((done.foldl gl (0, a)).2 : Int), y5, y6, y7]) ⟨rfl, _, _, _, rfl⟩ ?_ ?_
  · rintro done ⟨⟨b, m⟩, h⟩ rest e _ R1 ⟨rfl, y5, y6, y7, rfl⟩
    rw [List.foldl_append]
    generalize done.foldl gl (0, a) = z
    obtain ⟨x, c⟩ := z
    have eg : gT 2 (gC (gT 2 (gC (gVar 6) (gC (gVar 7) gN))) (gC (gVar 5) gN)) (.tup [eP (b, m), .int (h : Int)]) [eT t, eN ps, .int (a : Int), .int x, .int (c : Int), y5, y6, y7] R1 = .ok [eT t, eN ps, .int (a : Int), .int x, .int (c : Int), .int (h : Int), .str (if b = true then need else send), .int (m : Int)] R1 := rfl
    rw [eg]
    have c1 : h ≠ c → ¬ (h : Int) = (c : Int) := fun n e => n (Int.ofNat_inj.mp e)
    have c2 : h ≠ m → ¬ (h : Int) = (m : Int) := fun n e => n (Int.ofNat_inj.mp e)
    by_cases e1 : h = c
    · subst e1
      by_cases e2 : h = m
      · subst e2
        cases b <;> simp -implicitDefEqProofs [m__law_letters_b1, a_seq, gl, cost, lead, wt, need, send]
      · cases b <;> simp -implicitDefEqProofs [m__law_letters_b1, a_seq, gl, cost, lead, wt, need, send, c2 e2, Ne.symm e2]
    · by_cases e2 : h = m
      · subst e2
        cases b <;> simp -implicitDefEqProofs [m__law_letters_b1, a_seq, gl, cost, lead, wt, need, send, c1 e1, Ne.symm e1]
      · cases b <;> simp -implicitDefEqProofs [m__law_letters_b1, a_seq, gl, cost, lead, wt, need, send, c1 e1, Ne.symm e1, c2 e2, Ne.symm e2] <;> omega
  · rintro _ _ ⟨rfl, y5, y6, y7, rfl⟩
    simp -implicitDefEqProofs [gl_lets]
    exact frz_pure rfl
end
/-- what the law's looks rest on -/
structure Ca (call : Str → SF) : Prop where
  homes : ∀ (R : Rg) (t : List Pr) (a : Nat), t.length ≤ 60 → okT t → a < 4 → call "homes" [eT t, .int (a : Int)] R = .ok (eH t a) R
  letters : ∀ (R : Rg) (t : List Pr) (ps : List Nat) (a : Nat), t.length ≤ 60 → call "_law_letters" [eT t, eN ps, .int (a : Int)] R = .ok (.int (lets t ps a)) R
section
variable {call : Str → SF} (C : Ca call) (R : Rg)
theorem f_places (t : List Pr) (a : Nat) : fldD scl.ca 15 (eH t a) R = some (eN (plc t a), R) := fld_of (fs := eFs (plc t a) t) rfl rfl rfl
theorem f_costs (t : List Pr) (a : Nat) : fldD scl.ca 16 (eH t a) R = some (eRows t, R) := fld_of (fs := eFs (plc t a) t) rfl rfl rfl
theorem sl_from {s : List D} {a b : SE} {xs : List D} {n : Nat} (h1 : a s R = .ok (.lst xs) R) (h2 : b s R = .ok (.int (n : Int)) R) (hl : xs.length ≤ LINE) : cSl false a (some b) none s R = .ok (.lst (xs.drop n)) R := by
  unfold cSl
  rw [h1, Res.bind_ok]
  unfold cPart
  simp only [h2, Res.bind_ok]
  show lift (mkL false (cutD xs (some ((n : Nat) : Int)) none) R) = _
  rw [cut_from, mkL_old (by rw [List.length_drop]; exact Nat.le_trans (Nat.sub_le _ _) hl)]
  rfl
theorem sl_to {s : List D} {a b : SE} {xs : List D} {n : Nat} (h1 : a s R = .ok (.lst xs) R) (h2 : b s R = .ok (.int (n : Int)) R) (hl : xs.length ≤ LINE) : cSl false a none (some b) s R = .ok (.lst (xs.take n)) R := by
  unfold cSl
  rw [h1, Res.bind_ok]
  unfold cPart
  simp only [h2, Res.bind_ok]
  show lift (mkL false (cutD xs none (some ((n : Nat) : Int))) R) = _
  rw [cut_to, mkL_old (by rw [List.length_take]; exact Nat.le_trans (Nat.min_le_right _ _) hl)]
  rfl
include C
theorem q_ends (t : List Pr) (a c : Nat) (ht : t.length ≤ 60) (ok : okT t) (ha : a < 4) (hc : c ≤ t.length) : fin false R (m__law_ends_right call [eT t, .int (a : Int), eH t a, .int (c : Int), .undef, .undef, .undef] R) = .ok (.bl true) R := by
  have hb := bef_lt t a c ha hc
  have lp := plc_len t a
  have lr := rows_len t
  have e1 : addD false (.lst [.int (a : Int)]) (eN (plc t a)) R = some (eN (a :: plc t a), R) := by
    rw [add_lst (xs := [.int (a : Int)]) (ys := (plc t a).map fun n : Nat => D.int (n : Int)) rfl rfl, mkL_old (by simp; omega)]
    rfl
  have e2 : ixD (eN (a :: plc t a)) (.int (c : Int)) R = some (.int (bef t a c : Int), R) := ix_lst (by rw [List.getElem?_map, bef_at t a c hc]; rfl)
  have okd : okT (t.drop c) := fun p hp => ok p (List.mem_of_mem_drop hp)
  have okt : okT (t.take c) := fun p hp => ok p (List.mem_of_mem_take hp)
  have hd := C.homes R (t.drop c) (bef t a c) (by rw [List.length_drop]; omega) okd hb
  have hs := C.homes R (t.take c) a (by rw [List.length_take]; omega) okt ha
  have s1 : ∀ y4 y5 y6, cSl false (cVar 0) (some (cVar 3)) none [eT t, .int (a : Int), eH t a, .int (c : Int), y4, y5, y6] R = .ok (eT (t.drop c)) R := fun _ _ _ => by
    rw [sl_from R (xs := t.map eP) (n := c) rfl rfl (by simp; omega), ← List.map_drop]
    rfl
  have s2 : ∀ y4 y5 y6, cSl false (cVar 0) none (some (cVar 3)) [eT t, .int (a : Int), eH t a, .int (c : Int), y4, y5, y6] R = .ok (eT (t.take c)) R := fun _ _ _ => by
    rw [sl_to R (xs := t.map eP) (n := c) rfl rfl (by simp; omega), ← List.map_take]
    rfl
  have s3 : ∀ y4 y5 y6, cSl false (cOp1 (fldD scl.ca 16) (cVar 2)) (some (cVar 3)) none [eT t, .int (a : Int), eH t a, .int (c : Int), y4, y5, y6] R = .ok (eRows (t.drop c)) R := fun _ _ _ => by
    rw [sl_from R (xs := (rows t).map eR) (n := c) (by rw [a_op1, a_var (x := eH t a) rfl (by simp [eH]), Res.bind_ok, f_costs]; rfl) rfl (by simp; omega), ← List.map_drop, rows_drop t c hc]
    rfl
  have s4 : ∀ y4 y5 y6, cSl false (cOp1 (fldD scl.ca 15) (cVar 2)) (some (cVar 3)) none [eT t, .int (a : Int), eH t a, .int (c : Int), y4, y5, y6] R = .ok (eN (plc (t.drop c) (bef t a c))) R := fun _ _ _ => by
    rw [sl_from R (xs := (plc t a).map fun n : Nat => D.int (n : Int)) (n := c) (by rw [a_op1, a_var (x := eH t a) rfl (by simp [eH]), Res.bind_ok, f_places]; rfl) rfl (by simp; omega), ← List.map_drop, plc_drop t a c hc]
    rfl
  have q1 : eqX true (eqF call scl.eqs) (eRows (t.drop c)) (eRows (t.drop c)) R = some (.bl false, R) := (x_data rfl rfl).trans ((p_eq (eRows_pure _) (eRows_pure _) (eRows_ok _) (eRows_ok _)).trans (by simp))
  have q2 : eqX true (eqF call scl.eqs) (eN (plc (t.drop c) (bef t a c))) (eN (plc (t.drop c) (bef t a c))) R = some (.bl false, R) := (x_data rfl rfl).trans ((p_eq (eN_pure _) (eN_pure _) (eN_ok _) (eN_ok _)).trans (by simp))
  have i1 := ix_rows0 t R
  have i2 := ix_rows0 (t.drop c) R
  have i3 := ix_rows0 (t.take c) R
  have l1 := cut_le t a c ha hc
  have l2 := take_le t a c ha hc
  simp -implicitDefEqProofs [m__law_ends_right, a_seq, a_sif, f_places, f_costs, e1, e2, s1, s2, s3, s4, hd, hs, q1, q2, i1, i2, i3, ixR R ha, ixR R hb, l1, l2]
end
end Lw
/-! k16: a pair more. -/
namespace Lw
open PySem PySem.Spec PyProof.Rows L2 RZ Om
section
variable {call : Str → SF} (C : Ca call) (R : Rg)
include C
theorem more_b1 (t u : List Pr) (a : Nat) (m : Int) (hu : u.length ≤ 60) (oku : okT u) (ha : a < 4) (h1 : row t a ≤ row u a) (h2 : row u a ≤ row t a + m) (x3 x4 x6 x9 : D) (N : List D → Rg → Prop) (po : Po)
    (hN : ∀ y9, N [eT t, .int (a : Int), eH t a, x3, x4, .int m, x6, eT u, .int (a : Int), y9] R) :
    wpS (m__law_more_right_b1 call [eT t, .int (a : Int), eH t a, x3, x4, .int m, x6, eT u, .int (a : Int), x9] R) N po := by
  have hh := C.homes R u a hu oku ha
  have i1 := ix_rows0 t R
  have i2 := ix_rows0 u R
  have l1 : 0 ≤ row u a - row t a := by omega
  have l2 : row u a - row t a ≤ m := by omega
  simp -implicitDefEqProofs [m__law_more_right_b1, a_seq, a_sif, hh, f_costs, i1, i2, ixR R ha, h1, l1, l2]
  exact hN _
theorem q_more (t : List Pr) (a : Nat) (n : Int) (ht : t.length ≤ 50) (ok : okT t) (ha : a < 4) : fin false R (m__law_more_right call [eT t, .int (a : Int), eH t a, .int n, .undef, .undef, .undef, .undef, .undef, .undef] R) = .ok (.bl true) R := by
  refine eq_of_wp (wp_fin ?_)
  unfold m__law_more_right
  refine ws_then2 (fun s R1 => R1 = R ∧ ∃ p : Pr, p.2 < 4 ∧ s = [eT t, .int (a : Int), eH t a, .int n, eP p, .int (if p.1 = true then 2 else 1), .undef, .undef, .undef, .undef]) ?_ ?_
  · obtain ⟨r, hr, er⟩ : ∃ r : Nat, r < 2 ∧ n % 2 = r := ⟨(n % 2).toNat, by omega, by omega⟩
    obtain ⟨c, hc, ec⟩ : ∃ c : Nat, c < 4 ∧ n / 2 % 4 = c := ⟨(n / 2 % 4).toNat, by omega, by omega⟩
    have d2 := p_fdiv (R := R) (i := n) (show divOk 2 = true by decide +kernel)
    have m1 : modD (.int n) (.int 2) R = some (.int (r : Int), R) := by rw [p_mod (by decide), er]
    have m2 : modD (.int (n / 2)) (.int 4) R = some (.int (c : Int), R) := by rw [p_mod (by decide), ec]
    obtain ⟨w, x2⟩ : ∃ w : Bool, ixD (.tup [.str [110, 101, 101, 100], .str [115, 101, 110, 100]]) (.int (r : Int)) R = some (.str (if w = true then need else send), R) := by
      match r, hr with
      | 0, _ => exact ⟨true, ix_tup rfl⟩
      | 1, _ => exact ⟨false, ix_tup rfl⟩
    cases w <;> simp -implicitDefEqProofs [d2, m1, m2, x2, need, send, -Prod.exists]
    · exact ⟨(false, c), hc, rfl, rfl⟩
    · exact ⟨(true, c), hc, rfl, rfl⟩
  rintro _ R ⟨rfl, p, hp, rfl⟩
  rw [ws_seq]
  have e1 : addD false (eT t) (.lst [eP p]) R = some (eT (t ++ [p]), R) := by
    rw [add_lst (xs := t.map eP) (ys := [eP p]) rfl rfl, mkL_old (by simp; omega)]
    unfold eT
    rw [List.map_append]
    rfl
  have e2 : addD false (.lst [eP p]) (eT t) R = some (eT (p :: t), R) := by
    rw [add_lst (xs := [eP p]) (ys := t.map eP) rfl rfl, mkL_old (by simp; omega)]
    rfl
  refine ws_for (enc := fun u : List Pr => .tup [eT u, .int (a : Int)]) (R1 := R) [t ++ [p], p :: t] (by simp -implicitDefEqProofs [e1, e2]) (by have lf := line_fuel; simp only [line_eq] at lf; show 2 ≤ FUEL; omega) (fun done s R1 => R1 = R ∧ ∃ y7 y8 y9, s = [eT t, .int (a : Int), eH t a, .int n, eP p, .int (if p.1 = true then 2 else 1), .undef, y7, y8, y9]) ⟨rfl, _, _, _, rfl⟩ ?_ ?_
  · rintro done u rest e _ R ⟨rfl, y7, y8, y9, rfl⟩
    have hm : u = t ++ [p] ∨ u = p :: t := by
      have : u ∈ [t ++ [p], p :: t] := by rw [e]; simp
      simpa using this
    refine wp_of_eq (t := [eT t, .int (a : Int), eH t a, .int n, eP p, .int (if p.1 = true then 2 else 1), .undef, eT u, .int (a : Int), y9]) rfl ?_
    rcases hm with rfl | rfl
    · obtain ⟨h1, h2⟩ := more_end t p a ha
      refine more_b1 C R t (t ++ [p]) a _ (by simp; omega) (fun q hq => ?_) ha h1 h2 _ _ _ _ _ _ fun y9 => ⟨rfl, _, _, _, rfl⟩
      rcases List.mem_append.mp hq with hq | hq
      · exact ok q hq
      · rw [List.mem_singleton.mp hq]; exact hp
    · obtain ⟨h1, h2⟩ := more_fst t p a ha
      refine more_b1 C R t (p :: t) a _ (by simp; omega) (fun q hq => ?_) ha h1 h2 _ _ _ _ _ _ fun y9 => ⟨rfl, _, _, _, rfl⟩
      rcases List.mem_cons.mp hq with hq | hq
      · rw [hq]; exact hp
      · exact ok q hq
  · rintro _ R ⟨rfl, y7, y8, y9, rfl⟩
    obtain ⟨h1, h2⟩ := own3 t a ha
    have m3 : mulD false (.lst [.tup [.str [110, 101, 101, 100], .int (a : Int)]]) (.int 3) R = some (.lst [eP (true, a), eP (true, a), eP (true, a)], R) := rfl
    have e3 : addD false (.lst [eP (true, a), eP (true, a), eP (true, a)]) (eT t) R = some (eT ((true, a) :: (true, a) :: (true, a) :: t), R) := by
      rw [add_lst (xs := [eP (true, a), eP (true, a), eP (true, a)]) (ys := t.map eP) rfl rfl, mkL_old (by simp; omega)]
      rfl
    have hh := C.homes R ((true, a) :: (true, a) :: (true, a) :: t) a (by simp; omega) (fun q hq => by
      simp at hq
      rcases hq with rfl | hq
      · exact ha
      · exact ok q hq) ha
    have i1 := ix_rows0 t R
    have i2 := ix_rows0 ((true, a) :: (true, a) :: (true, a) :: t) R
    have m4 : mulD false (.lst [.int (a : Int)]) (.int 3) R = some (eN [a, a, a], R) := rfl
    have s1 : ∀ y7 y8 y9, cSl false (cOp1 (fldD scl.ca 15) (cVar 6)) none (some (cCon (.int 3))) [eT t, .int (a : Int), eH t a, .int n, eP p, .int (if p.1 = true then 2 else 1), eH ((true, a) :: (true, a) :: (true, a) :: t) a, y7, y8, y9] R = .ok (eN [a, a, a]) R := fun _ _ _ => by
      have lp := plc_len ((true, a) :: (true, a) :: (true, a) :: t) a
      rw [sl_to R (xs := (plc ((true, a) :: (true, a) :: (true, a) :: t) a).map fun n : Nat => D.int (n : Int)) (n := 3) (by rw [a_op1, a_var (x := eH ((true, a) :: (true, a) :: (true, a) :: t) a) rfl (by simp [eH]), Res.bind_ok, f_places]; rfl) rfl (by simp at lp ⊢; omega), ← List.map_take, h2]
      rfl
    have q1 : eqX false (eqF call scl.eqs) (eN [a, a, a]) (eN [a, a, a]) R = some (.bl true, R) := (x_data rfl rfl).trans ((p_eq (eN_pure _) (eN_pure _) (eN_ok _) (eN_ok _)).trans (by simp))
    simp -implicitDefEqProofs [m3, e3, hh, f_costs, i1, i2, ixR R ha, h1, m4, s1, q1]
    exact frz_pure rfl
end
end Lw
/-! k16: machines renamed. -/
namespace Lw
open PySem PySem.Spec PyProof.Rows L2 RZ Om
def nm (ns : List Nat) : O := .lst (ns.map fun n : Nat => .int (n : Int))
theorem perm_names {ns : List Nat} (h : ns.Perm [0, 1, 2, 3]) : Perm4 (fun i => ns.getD i 0) := by
  have hl : ns.length = 4 := h.length_eq
  have hn : ns.Nodup := h.nodup_iff.mpr (by decide)
  have at_ : ∀ i, i < 4 → ns[i]? = some (ns.getD i 0) := fun i hi => by
    rw [List.getD_eq_getElem?_getD, List.getElem?_eq_getElem (by omega)]
    rfl
  refine ⟨fun i hi => ?_, fun i j hi hj e => ?_, fun j hj => ?_⟩
  · have := h.mem_iff.mp (List.mem_of_getElem? (at_ i hi))
    simp at this
    show ns.getD i 0 < 4
    simp
    omega
  · have h1 := at_ i hi
    have h2 := at_ j hj
    have e : ns.getD i 0 = ns.getD j 0 := e
    rw [e] at h1
    exact (List.getElem?_inj (by omega) hn).mp (h1.trans h2.symm)
  · have hm : j ∈ ns := h.mem_iff.mpr (by simp; omega)
    obtain ⟨i, hi, e⟩ := List.getElem_of_mem hm
    refine ⟨i, by omega, ?_⟩
    show ns.getD i 0 = j
    rw [List.getD_eq_getElem?_getD, List.getElem?_eq_getElem hi, ← e]
    rfl
theorem rows_ren {σ : Nat → Nat} (hs : Perm4 σ) : ∀ (t : List Pr), okT t → ∀ z ∈ (rows t).zip (rows (ren σ t)), ∀ h, h < 4 → z.2 (σ h) = z.1 h
  | [], _, z, hz, h, hh => by
    have : z = (row [], row []) := by simpa [rows, ren] using hz
    subst this
    rfl
  | p :: t, ok, z, hz, h, hh => by
    have hz : z ∈ (row (p :: t), row (ren σ (p :: t))) :: (rows t).zip (rows (ren σ t)) := hz
    rcases List.mem_cons.mp hz with e | e
    · subst e
      exact row_ren hs (p :: t) ok h hh
    · exact rows_ren hs t (fun q hq => ok q (List.mem_cons_of_mem _ hq)) z e h hh
section
variable {call : Str → SF} (C : Ca call) (R : Rg)
omit C in
theorem names_loop (n : Int) (x0 x1 x2 x3 x4 x5 x6 x7 x10 x11 x12 x13 x14 : D) (N : List D → Rg → Prop) (po : Po) (hx : x3 = .int n)
    (hN : ∀ (y4 : D) (ns : List Nat), ns.Perm [0, 1, 2, 3] → N [x0, x1, x2, x3, y4, x5, x6, x7, .ref R.length, .ref (R.length + 1), x10, x11, x12, x13, x14] (R ++ [nm ns, nm []])) :
    wpS (sFor (iArgs rng1 (cCons (cCon (.int 4)) cNil)) (gVar 4) (m__law_renamed_right_b2 call) [x0, x1, x2, x3, x4, x5, x6, x7, .ref R.length, .ref (R.length + 1), x10, x11, x12, x13, x14] (R ++ [nm [], nm [0, 1, 2, 3]])) N po := by
  subst hx
  refine ws_for (enc := fun i : Nat => .int (i : Int)) (R1 := R ++ [nm [], nm [0, 1, 2, 3]]) (List.range 4) (it_rng1 (n := 4) (by simp) (by decide)) (by decide)
    (fun done s R1 => ∃ (y4 : D) (ns rs : List Nat), (ns ++ rs).Perm [0, 1, 2, 3] ∧ ns.length = done.length ∧ R1 = R ++ [nm ns, nm rs] ∧ s = [x0, x1, x2, .int n, y4, x5, x6, x7, .ref R.length, .ref (R.length + 1), x10, x11, x12, x13, x14]) ⟨_, [], [0, 1, 2, 3], List.Perm.refl _, rfl, rfl, rfl⟩ ?_ ?_
  · rintro done i rest e _ _ ⟨y4, ns, rs, h1, h2, rfl, rfl⟩
    have hi : i < 4 := List.mem_range.mp (by rw [e]; simp)
    have hd : done.length < 4 := by
      have := congrArg List.length e
      simp at this
      omega
    have hl : ns.length + rs.length = 4 := by
      have := h1.length_eq
      simpa using this
    refine wp_of_eq (t := [x0, x1, x2, .int n, .int (i : Int), x5, x6, x7, .ref R.length, .ref (R.length + 1), x10, x11, x12, x13, x14]) rfl ?_
    have a1 : (R ++ [nm ns, nm rs])[R.length + 1]? = some (nm rs) := by rw [List.getElem?_append_right (by omega)]; simp
    have l1 : lenD [.ref (R.length + 1)] (R ++ [nm ns, nm rs]) = some (.int (rs.length : Int), R ++ [nm ns, nm rs]) := by
      rw [len_ref a1, List.length_map]
    have hp : (0 : Int) < (rs.length : Int) := by omega
    have m1 := p_mul (t := false) (R := R ++ [nm ns, nm rs]) (mul_l 4 (i : Int) (by omega))
    have d1 := p_fdiv (R := R ++ [nm ns, nm rs]) (i := n) (div_small (j := 1 + 4 * (i : Int)) (by omega) (by omega))
    obtain ⟨j, ej⟩ : ∃ j : Nat, n / (1 + 4 * (i : Int)) % (rs.length : Int) = j := ⟨(n / (1 + 4 * (i : Int)) % (rs.length : Int)).toNat, by have := Int.emod_nonneg (n / (1 + 4 * (i : Int))) (show (rs.length : Int) ≠ 0 by omega); omega⟩
    have hj : j < rs.length := by
      have := Int.emod_lt_of_pos (n / (1 + 4 * (i : Int))) hp
      omega
    have m2 : modD (.int (n / (1 + 4 * (i : Int)))) (.int (rs.length : Int)) (R ++ [nm ns, nm rs]) = some (.int (j : Int), R ++ [nm ns, nm rs]) := by rw [p_mod hp, ej]
    have p1 : popD (.ref (R.length + 1)) [.int (j : Int)] (R ++ [nm ns, nm rs]) = some (.int (rs[j] : Int), R ++ [nm ns, nm (rs.eraseIdx j)]) := by
      show (match (R ++ [nm ns, nm rs])[R.length + 1]? with
        | some (.lst xs) => (ixN xs.length (j : Int)).bind fun j => (xs[j]?).map fun y => (y, (R ++ [nm ns, nm rs]).set (R.length + 1) (.lst (xs.eraseIdx j)))
        | _ => none) = _
      rw [a1]
      have e1 : ixN (rs.map fun n : Nat => D.int (n : Int)).length (j : Int) = some j := by
        unfold ixN
        rw [if_pos (by omega), if_pos (by rw [List.length_map]; omega)]
        rfl
      show ((ixN (rs.map fun n : Nat => D.int (n : Int)).length (j : Int)).bind fun j => ((rs.map fun n : Nat => D.int (n : Int))[j]?).map fun y => (y, (R ++ [nm ns, nm rs]).set (R.length + 1) (.lst ((rs.map fun n : Nat => D.int (n : Int)).eraseIdx j)))) = _
      rw [e1, Option.bind_some, List.getElem?_map, List.getElem?_eq_getElem hj, List.set_append_right _ _ (by omega)]
      simp [nm, map_erase]
    have a0 : (R ++ [nm ns, nm (rs.eraseIdx j)])[R.length]? = some (nm ns) := by rw [List.getElem?_append_right (by omega)]; simp
    have a00 : (R ++ [nm ns, nm rs])[R.length]? = some (nm ns) := by rw [List.getElem?_append_right (by omega)]; simp
    have p2 := app_ref (x := .int (rs[j] : Int)) a0 (by rw [List.length_map, line_eq]; omega)
    have p3 : (R ++ [nm ns, nm (rs.eraseIdx j)]).set R.length (.lst (ns.map (fun n : Nat => D.int (n : Int)) ++ [.int (rs[j] : Int)])) = R ++ [nm (ns ++ [rs[j]]), nm (rs.eraseIdx j)] := by
      rw [List.set_append_right _ _ (by omega)]
      simp [nm]
    rw [p3] at p2
    have t1 : isT 0 (.ref (R.length + 1)) (R ++ [nm ns, nm rs]) = true := isT_lst a1
    have t0 : isT 0 (.ref R.length) (R ++ [nm ns, nm rs]) = true := isT_lst a00
    simp -implicitDefEqProofs [m__law_renamed_right_b2, a_seq, l1, m1, d1, m2, p1, p2, t1, t0]
    refine ⟨_, ns ++ [rs[j]], rs.eraseIdx j, ?_, by simp [h2], ⟨rfl, rfl⟩, rfl⟩
    refine List.Perm.trans ?_ h1
    rw [List.append_assoc]
    exact List.Perm.append_left ns (perm_erase rs j hj)
  · rintro _ _ ⟨y4, ns, rs, h1, h2, rfl, rfl⟩
    have hl : ns.length + rs.length = 4 := by
      have := h1.length_eq
      simpa using this
    have : rs = [] := by
      rw [List.length_range] at h2
      exact List.length_eq_zero_iff.mp (by omega)
    subst this
    rw [List.append_nil] at h1
    exact hN y4 ns h1
end
end Lw
/-! k16: machines renamed, joined. -/
namespace Lw
open PySem PySem.Spec PyProof.Rows L2 RZ Om
theorem comp_all {B : Type} {s : List D} {it : SI} {g : SG} {e : SE} {vs : List Nat} {R : Rg} {f w : B → D} (as : List B) (h : it s R = .ok (fixS (as.map f)) R) (hl : as.length ≤ LINE)
    (he : ∀ x ∈ as, ∃ s1, g (f x) (wipeD s vs) R = .ok s1 R ∧ e s1 R = .ok (w x) R) : cComp it g (fun _ R => .ok true R) e vs false s R = .ok (.lst (as.map w)) R := by
  refine (comp_src (as := as) (f := f) (w := w) (p := fun _ => true) h hl ?_).trans ?_
  · intro x hx
    obtain ⟨s1, h1, h2⟩ := he x hx
    exact ⟨s1, h1, rfl, fun _ => h2⟩
  · rw [List.filter_eq_self.mpr (fun _ _ => rfl)]
section
variable {call : Str → SF} (C : Ca call) (R : Rg)
include C
theorem q_renamed (t : List Pr) (a : Nat) (n : Int) (ht : t.length ≤ 60) (ok : okT t) (ha : a < 4) : fin false R (m__law_renamed_right call [eT t, .int (a : Int), eH t a, .int n, .undef, .undef, .undef, .undef, .undef, .undef, .undef, .undef, .undef, .undef, .undef] R) = .ok (.bl true) R := by
  refine eq_of_wp (wp_fin ?_)
  unfold m__law_renamed_right
  rw [ws_seq]
  have eg : ∀ R, sGo (gT 2 (gC (gVar 8) (gC (gVar 9) gN))) (.tup [.ref R.length, .ref (R.length + 1)]) [eT t, .int (a : Int), eH t a, .int n, .undef, .undef, .undef, .undef, .undef, .undef, .undef, .undef, .undef, .undef, .undef] (R ++ [nm [], nm [0, 1, 2, 3]]) = .nx [eT t, .int (a : Int), eH t a, .int n, .undef, .undef, .undef, .undef, .ref R.length, .ref (R.length + 1), .undef, .undef, .undef, .undef, .undef] (R ++ [nm [], nm [0, 1, 2, 3]]) := fun _ => rfl
  have ea : cTup (cCons (cLst true cNil) (cCons (cLst true (cCons (cCon (.int 0)) (cCons (cCon (.int 1)) (cCons (cCon (.int 2)) (cCons (cCon (.int 3)) cNil))))) cNil)) [eT t, .int (a : Int), eH t a, .int n, .undef, .undef, .undef, .undef, .undef, .undef, .undef, .undef, .undef, .undef, .undef] R = .ok (.tup [.ref R.length, .ref (R.length + 1)]) (R ++ [nm [], nm [0, 1, 2, 3]]) := by
    simp -implicitDefEqProofs
    exact ⟨rfl, rfl⟩
  simp -implicitDefEqProofs only [a_asg, ea, a_bind_ok, eg, ws_nx]
  rw [ws_seq]
  refine names_loop R n _ _ _ _ _ _ _ _ _ _ _ _ _ _ _ rfl fun y4 ns hp => ?_
  have hs := perm_names hp
  have hl : ns.length = 4 := hp.length_eq
  have ht2 : (R ++ [nm ns, nm []]).take R.length = R := by simp
  have hr : (R ++ [nm ns, nm []])[R.length]? = some (nm ns) := by rw [List.getElem?_append_right (by omega)]; simp
  generalize R ++ [nm ns, nm []] = R2 at hr ht2
  generalize hσ : (fun i => ns.getD i 0) = σ at hs
  have at_ : ∀ i, i < 4 → ns[i]? = some (σ i) := fun i hi => by
    rw [← hσ]
    show _ = some (ns.getD i 0)
    rw [List.getD_eq_getElem?_getD, List.getElem?_eq_getElem (by omega)]
    rfl
  have ixn : ∀ i : Nat, i < 4 → ixD (.ref R.length) (.int (i : Int)) R2 = some (.int (σ i : Int), R2) := fun i hi => ix_ref hr (by rw [List.getElem?_map, at_ i hi]; rfl)
  have okr : okT (ren σ t) := fun p hp => by
    obtain ⟨q, hq, e⟩ := List.mem_map.mp hp
    subst e
    exact hs.lt _ (ok q hq)
  have hlr : (ren σ t).length = t.length := List.length_map _
  have hh := C.homes R2 (ren σ t) (σ a) (by omega) okr (hs.lt a ha)
  have ce : ∀ (e : SE), (∀ s R, e s R = cTup (cCons (cVar 13) (cCons (cOp2 ixD (cVar 8) (cVar 14)) cNil)) s R) → ∀ y5 y6 y7 y10 y11 y12 y13 y14, cComp (iSeq (cVar 0)) (gT 2 (gC (gVar 13) (gC (gVar 14) gN))) (fun _ R => .ok true R) e [13, 14] false [eT t, .int (a : Int), eH t a, .int n, y4, y5, y6, y7, .ref R.length, .ref (R.length + 1), y10, y11, y12, y13, y14] R2 = .ok (eT (ren σ t)) R2 := fun e he y5 y6 y7 y10 y11 y12 y13 y14 => by
    refine (comp_all (f := eP) (w := fun p => eP (p.1, σ p.2)) t (by simp [eT]) (by simp; omega) fun p hp => ⟨[eT t, .int (a : Int), eH t a, .int n, y4, y5, y6, y7, .ref R.length, .ref (R.length + 1), y10, y11, y12, .str (if p.1 = true then need else send), .int (p.2 : Int)], rfl, ?_⟩).trans ?_
    · simp -implicitDefEqProofs [he, ixn p.2 (ok p hp), eP]
    · unfold eT ren
      rw [List.map_map]
      rfl
  have ce1 := ce (m__law_renamed_right_e1 call) (fun _ _ => rfl)
  have ce4 := ce (m__law_renamed_right_e4 call) (fun _ _ => rfl)
  rw [ws_seq]
  simp -implicitDefEqProofs only [a_asg, a_call, a_cons, a_nil, ce4, Res.bind_ok, a_op2, a_cvar, look_succ, look_zero, u_ref, u_int, Bool.false_eq_true, if_false, ixn a ha, a_lift, List.append_nil, hh, a_bind_ok, a_go, ws_nx, List.set_cons_succ, List.set_cons_zero]
  rw [ws_seq]
  have lr := rows_len t
  refine ws_for (enc := fun z : (Nat → Int) × (Nat → Int) => .tup [eR z.1, eR z.2]) (R1 := R2) ((rows t).zip (rows (ren σ t))) (it_zipM (f := eR) (g := eR) (as := rows t) (bs := rows (ren σ t)) (by simp -implicitDefEqProofs [f_costs]; rfl) (by simp -implicitDefEqProofs [f_costs]; rfl)) (by
    have := List.length_zip (l₁ := rows t) (l₂ := rows (ren σ t))
    have lf := line_fuel
    simp only [line_eq] at lf
    omega)
    (fun done s R1 => R1 = R2 ∧ ∃ y10 y11 y12, s = [eT t, .int (a : Int), eH t a, .int n, y4, eH (ren σ t) (σ a), .undef, .undef, .ref R.length, .ref (R.length + 1), y10, y11, y12, .undef, .undef]) ⟨rfl, _, _, _, rfl⟩ ?_ ?_
  · rintro done ⟨f, g⟩ rest e _ R1 ⟨hR1, y10, y11, y12, rfl⟩
    subst hR1
    have hz : ∀ h, h < 4 → g (σ h) = f h := rows_ren hs t ok (f, g) (by rw [e]; simp)
    refine wp_of_eq (t := [eT t, .int (a : Int), eH t a, .int n, y4, eH (ren σ t) (σ a), .undef, .undef, .ref R.length, .ref (R.length + 1), eR f, eR g, y12, .undef, .undef]) rfl ?_
    have c3 : cComp (iArgs rng1 (cCons (cCon (.int 4)) cNil)) (gVar 12) (fun _ R => .ok true R) (m__law_renamed_right_e3 call) [12] false [eT t, .int (a : Int), eH t a, .int n, y4, eH (ren σ t) (σ a), .undef, .undef, .ref R.length, .ref (R.length + 1), eR f, eR g, y12, .undef, .undef] R1 = .ok (eR f) R1 := by
      refine comp_eR R1 f _ 12 fun h hh => ?_
      have e1 := ixR (f := g) R1 (hs.lt h hh)
      simp -implicitDefEqProofs [m__law_renamed_right_e3, ixn h hh, e1, hz h hh]
    have q1 : eqX true (eqF call scl.eqs) (eR f) (eR f) R1 = some (.bl false, R1) := (x_data rfl rfl).trans ((p_eq (eR_pure _) (eR_pure _) (eR_ok _ 11) (eR_ok _ 11)).trans (by simp))
    simp -implicitDefEqProofs [m__law_renamed_right_b1, a_seq, a_sif, c3, q1]
  · rintro _ R1 ⟨hR1, y10, y11, y12, rfl⟩
    subst hR1
    have lp := plc_len t a
    have c2 : cComp (iSeq (cOp1 (fldD scl.ca 15) (cVar 2))) (gVar 12) (fun _ R => .ok true R) (m__law_renamed_right_e2 call) [12] false [eT t, .int (a : Int), eH t a, .int n, y4, eH (ren σ t) (σ a), .undef, .undef, .ref R.length, .ref (R.length + 1), y10, y11, y12, .undef, .undef] R1 = .ok (eN ((plc t a).map σ)) R1 := by
      refine (comp_all (f := fun n : Nat => .int (n : Int)) (w := fun h => .int (σ h : Int)) (plc t a) (by simp -implicitDefEqProofs [f_places, eN]) (by simp; omega) fun h hh => ⟨[eT t, .int (a : Int), eH t a, .int n, y4, eH (ren σ t) (σ a), .undef, .undef, .ref R.length, .ref (R.length + 1), y10, y11, .int (h : Int), .undef, .undef], rfl, ?_⟩).trans ?_
      · simp -implicitDefEqProofs [m__law_renamed_right_e2, ixn h (plc_lt t a h hh)]
      · unfold eN
        rw [List.map_map]
        rfl
    have hL := C.letters R1 (ren σ t) ((plc t a).map σ) (σ a) (by omega)
    rw [lets_ren hs t (plc t a) a ok (plc_lt t a) ha, lets_plc] at hL
    have i1 := ix_rows0 (ren σ t) R1
    have i2 := ixR (f := row (ren σ t)) R1 (hs.lt a ha)
    rw [row_ren hs t ok a ha] at i2
    simp -implicitDefEqProofs [c2, ce1, hL, f_costs, i1, ixn a ha, i2]
    exact ⟨frz_pure rfl, ht2⟩
end
end Lw
/-! k16: the law. -/
namespace Lw
open PySem PySem.Spec PyProof.Rows L2 RZ Om
structure Cl (ns : List Int) (call : Str → SF) : Prop where
  cell : ∀ (R : Rg) (i : Nat), i < 100000 → ∃ n, call "_law_cell_at" [.lst (ns.map .int), .int (i : Int)] R = .ok (.int n) R
  tour : ∀ (R : Rg) (b many : Nat), b < 10000 → many ≤ 60 → ∃ t : List Pr, okT t ∧ t.length = many ∧ call "_law_tour" [.lst (ns.map .int), .int (b : Int), .int (many : Int)] R = .ok (eT t) R
  homes : ∀ (R : Rg) (t : List Pr) (a : Nat), t.length ≤ 60 → okT t → a < 4 → call "homes" [eT t, .int (a : Int)] R = .ok (eH t a) R
  ends : ∀ (R : Rg) (t : List Pr) (a c : Nat), t.length ≤ 60 → okT t → a < 4 → c ≤ t.length → call "_law_ends_right" [eT t, .int (a : Int), eH t a, .int (c : Int)] R = .ok (.bl true) R
  more : ∀ (R : Rg) (t : List Pr) (a : Nat) (n : Int), t.length ≤ 50 → okT t → a < 4 → call "_law_more_right" [eT t, .int (a : Int), eH t a, .int n] R = .ok (.bl true) R
  renamed : ∀ (R : Rg) (t : List Pr) (a : Nat) (n : Int), t.length ≤ 60 → okT t → a < 4 → call "_law_renamed_right" [eT t, .int (a : Int), eH t a, .int n] R = .ok (.bl true) R
  init : ∀ (R : Rg) (pl : D) (ps : List Nat) (t : List Pr), t.length ≤ 100 → isU pl = false → (∀ o, listD false [pl] (R ++ [.ins 11 o]) = some (eN ps, R ++ [.ins 11 o])) → call "Homes.__init__" [.ref R.length, pl, eRows t] (R ++ [.ins 11 []]) = .ok .non (R ++ [.ins 11 (eFs ps t)])
  shows : ∀ (R : Rg) (x : D) (t : List Pr) (ps : List Nat) (a : Nat), isU x = false → a < 4 → t.length ≤ 100 → insOf R x = some (11, eFs ps t) → ps.length = t.length → (∀ h ∈ ps, h < 4) → call "Homes.shows" [x, eT t, .int (a : Int)] R = .ok (.bl (decide (lets t ps a = row t a))) R
def mx (f : Nat → Int) : Int := max (max (max (f 0) (f 1)) (f 2)) (f 3)
theorem mx_at (f : Nat → Int) : ∃ i, i < 4 ∧ mx f = f i := by
  unfold mx
  by_cases h0 : max (max (max (f 0) (f 1)) (f 2)) (f 3) = f 0
  · exact ⟨0, by omega, h0⟩
  by_cases h1 : max (max (max (f 0) (f 1)) (f 2)) (f 3) = f 1
  · exact ⟨1, by omega, h1⟩
  by_cases h2 : max (max (max (f 0) (f 1)) (f 2)) (f 3) = f 2
  · exact ⟨2, by omega, h2⟩
  · exact ⟨3, by omega, by omega⟩
theorem mx_mn (t : List Pr) : ¬ 3 < mx (row t) - mn (row t) := by
  obtain ⟨i, hi, e⟩ := mx_at (row t)
  obtain ⟨h1, h2⟩ := mn_am (row t)
  rw [e, h2]
  have := row_lip t i (am (row t))
  have := lead_3 i (am (row t))
  omega
theorem max_eR (f : Nat → Int) (R : Rg) : maxD [eR f] R = some (.int (mx f), R) := by
  show (match intsOf ((List.range 4).map fun h => D.int (f h)) with
    | some ns => (maxI ns).map fun i => (D.int i, R)
    | none => none) = _
  rw [Om.ints_map]
  rfl
theorem a_metO {l : List (Nat × SF × List D)} {m : Str} {a : SE} {as : SA} {s : List D} {R R1 : Rg} {x : D} {c : Nat} {fs : List (Nat × D)} {F : SF} {dfl : List D} (h1 : a s R = .ok x R1) (h2 : insOf R1 x = some (c, fs)) (h3 : l.find? (fun p => decide (p.1 = c)) = some (c, F, dfl)) (h4 : noFld m fs = true) :
    eMetO l m a as s R = (as s R1).bind fun ds R2 => F (x :: (ds ++ dfl)) R2 := by
  unfold eMetO
  rw [h1, Res.bind_ok]
  simp only [h2, h3, h4, if_true]
theorem no_shows (ps : List Nat) (t : List Pr) : noFld "shows" (eFs ps t) = true := rfl
section
variable {ns : List Int} {call : Str → SF} (C : Cl ns call)
include C
theorem law_b1 (R : Rg) (t : List Pr) (a h : Nat) (ht : t.length ≤ 50) (ok : okT t) (ha : a < 4) (hh : h < 4) (x0 x1 x2 x3 x8 x9 : D) (N : List D → Rg → Prop) (po : Po) (hN : ∀ R1, N [x0, x1, x2, x3, .int (h : Int), eT t, .int (a : Int), eH t a, x8, x9] R1) :
    wpS (m_law_b1 call [x0, x1, x2, x3, .int (h : Int), eT t, .int (a : Int), eH t a, x8, x9] R) N po := by
  have hm := C.homes R t h (by omega) ok hh
  have q1 : eqX true (eqF call scl.eqs) (eRows t) (eRows t) R = some (.bl false, R) := (x_data rfl rfl).trans ((p_eq (eRows_pure _) (eRows_pure _) (eRows_ok _) (eRows_ok _)).trans (by simp))
  have lp := plc_len t h
  have hi := C.init R (eN (plc t h)) (plc t h) t (by omega) rfl (fun o => by
    unfold eN
    rw [p_list_lst, mkL_old (by simp; omega)])
  have em : cMake 11 (call "Homes.__init__") [] (cCons (cOp1 (fldD scl.ca 15) (cCall (call "homes") [] (cCons (cVar 5) (cCons (cVar 4) cNil)))) (cCons (cOp1 (fldD scl.ca 16) (cVar 7)) cNil)) [x0, x1, x2, x3, .int (h : Int), eT t, .int (a : Int), eH t a, x8, x9] R = .ok (.ref R.length) (R ++ [.ins 11 (eFs (plc t h) t)]) := by
    unfold cMake
    simp -implicitDefEqProofs only [a_cons, a_nil, a_op1, a_call, a_cvar, look_succ, look_zero, u_eT, u_int, u_eH, Bool.false_eq_true, if_false, Res.bind_ok, List.append_nil, hm, f_places, f_costs, a_lift]
    rw [hi]
    rfl
  have es := C.shows (R ++ [.ins 11 (eFs (plc t h) t)]) (.ref R.length) t (plc t h) h rfl hh (by omega) (ins_ref at_end) lp (plc_lt t h)
  rw [lets_plc, decide_eq_true rfl] at es
  have e2 : eMetO [(11, call "Homes.shows", [])] "shows" (cMake 11 (call "Homes.__init__") [] (cCons (cOp1 (fldD scl.ca 15) (cCall (call "homes") [] (cCons (cVar 5) (cCons (cVar 4) cNil)))) (cCons (cOp1 (fldD scl.ca 16) (cVar 7)) cNil))) (cCons (cVar 5) (cCons (cVar 4) cNil)) [x0, x1, x2, x3, .int (h : Int), eT t, .int (a : Int), eH t a, x8, x9] R = .ok (.bl true) (R ++ [.ins 11 (eFs (plc t h) t)]) := by
    rw [a_metO em (ins_ref at_end) rfl (no_shows _ _)]
    simp -implicitDefEqProofs only [a_cons, a_nil, a_cvar, look_succ, look_zero, u_eT, u_int, Bool.false_eq_true, if_false, Res.bind_ok, List.append_nil, es]
  simp -implicitDefEqProofs [m_law_b1, a_seq, a_sif, hm, f_costs, q1, e2]
  exact hN _
theorem law_b2 (R : Rg) (t : List Pr) (a c : Nat) (ht : t.length ≤ 50) (ok : okT t) (ha : a < 4) (hc : c ≤ t.length) (x0 x1 x2 x4 x8 x9 : D) (N : List D → Rg → Prop) (po : Po) (hN : N [x0, x1, x2, .int (c : Int), x4, eT t, .int (a : Int), eH t a, x8, x9] R) :
    wpS (m_law_b2 call [x0, x1, x2, .int (c : Int), x4, eT t, .int (a : Int), eH t a, x8, x9] R) N po := by
  have h1 := C.ends R t a c (by omega) ok ha hc
  simp -implicitDefEqProofs [m_law_b2, a_seq, a_sif, h1]
  exact hN
theorem law_b3 (R : Rg) (i : Nat) (hi : i < 6) (x2 x3 x4 x5 x6 x7 x8 x9 : D) (N : List D → Rg → Prop) (po : Po) (hN : ∀ y2 y3 y4 y5 y6 y7 y8 y9 R1, N [.lst (ns.map .int), .int (i : Int), y2, y3, y4, y5, y6, y7, y8, y9] R1) :
    wpS (m_law_b3 call [.lst (ns.map .int), .int (i : Int), x2, x3, x4, x5, x6, x7, x8, x9] R) N po := by
  unfold m_law_b3
  refine ws_then2 (fun s R1 => R1 = R ∧ ∃ (t : List Pr) (a : Nat) (n : Int), okT t ∧ t.length ≤ 50 ∧ a < 4 ∧ s = [.lst (ns.map .int), .int (i : Int), x2, x3, x4, eT t, .int (a : Int), eH t a, .int n, x9]) ?_ ?_
  · obtain ⟨m, hm, em⟩ : ∃ m : Nat, m ≤ 50 ∧ ixD (.tup [.int 1, .int 3, .int 8, .int 20, .int 50, .int 12]) (.int (i : Int)) R = some (.int (m : Int), R) := by
      match i, hi with
      | 0, _ => exact ⟨1, by omega, ix_tup rfl⟩
      | 1, _ => exact ⟨3, by omega, ix_tup rfl⟩
      | 2, _ => exact ⟨8, by omega, ix_tup rfl⟩
      | 3, _ => exact ⟨20, by omega, ix_tup rfl⟩
      | 4, _ => exact ⟨50, by omega, ix_tup rfl⟩
      | 5, _ => exact ⟨12, by omega, ix_tup rfl⟩
    obtain ⟨t, ok, ht, et⟩ := C.tour R (60 + 70 * i) m (by omega) (by omega)
    obtain ⟨n1, e1⟩ := C.cell R (20 + i) (by omega)
    obtain ⟨n2, e2⟩ := C.cell R (30 + i) (by omega)
    have et : call "_law_tour" [.lst (ns.map .int), .int (60 + 70 * (i : Int)), .int (m : Int)] R = .ok (eT t) R := et
    have e1 : call "_law_cell_at" [.lst (ns.map .int), .int (20 + (i : Int))] R = .ok (.int n1) R := e1
    have e2 : call "_law_cell_at" [.lst (ns.map .int), .int (30 + (i : Int))] R = .ok (.int n2) R := e2
    obtain ⟨a, ha, ea⟩ : ∃ a : Nat, a < 4 ∧ n1 % 4 = a := ⟨(n1 % 4).toNat, by omega, by omega⟩
    have m1 : modD (.int n1) (.int 4) R = some (.int (a : Int), R) := by rw [p_mod (by decide), ea]
    have hm := C.homes R t a (by omega) ok ha
    simp -implicitDefEqProofs [p_mul (mul_l 70 (i : Int) (by omega)), em, et, e1, m1, hm, e2]
    refine ⟨t, ok, by omega, a, ha, ?_⟩
    first | exact ⟨rfl, rfl, rfl⟩ | exact ⟨rfl, rfl⟩ | simp
  rintro _ R ⟨rfl, t, a, n, ok, ht, ha, rfl⟩
  have i1 := ix_rows0 t R
  have es := C.shows R (eH t a) t (plc t a) a rfl ha (by omega) rfl (plc_len t a) (plc_lt t a)
  rw [lets_plc, decide_eq_true rfl] at es
  refine ws_then2 (fun s R1 => R1 = R ∧ s = [.lst (ns.map .int), .int (i : Int), eR (row t), x3, x4, eT t, .int (a : Int), eH t a, .int n, x9]) ?_ ?_
  · have e1 := max_eR (row t) R
    have e2 := min_eR (row t) R
    have e3 := mx_mn t
    have e4 : eMetO [(11, call "Homes.shows", [])] "shows" (cVar 7) (cCons (cVar 5) (cCons (cVar 6) cNil)) [.lst (ns.map .int), .int (i : Int), eR (row t), x3, x4, eT t, .int (a : Int), eH t a, .int n, x9] R = .ok (.bl true) R := by
      rw [a_metO (x := eH t a) (R1 := R) (c := 11) (fs := eFs (plc t a) t) (a_var rfl (by simp [eH])) rfl rfl (no_shows _ _)]
      simp -implicitDefEqProofs only [a_cons, a_nil, a_cvar, look_succ, look_zero, u_eT, u_int, Bool.false_eq_true, if_false, Res.bind_ok, List.append_nil, es]
    have c1 : cComp (iSeq (cVar 2)) (gVar 9) (fun _ R => .ok true R) (m_law_e1 call) [9] false [.lst (ns.map .int), .int (i : Int), eR (row t), x3, x4, eT t, .int (a : Int), eH t a, .int n, x9] R = .ok (.lst ((List.range 4).map fun h => .bl false)) R := by
      refine comp_all (f := fun h : Nat => .int (row t h)) (w := fun _ => .bl false) (List.range 4) (by simp -implicitDefEqProofs [eR]) (by simp) fun h hh => ⟨[.lst (ns.map .int), .int (i : Int), eR (row t), x3, x4, eT t, .int (a : Int), eH t a, .int n, .int (row t h)], rfl, ?_⟩
      have h0 : ¬ row t h < 0 := by have := row_z t h (List.mem_range.mp hh); omega
      simp -implicitDefEqProofs [m_law_e1, h0]
    have a3 := any_false R (as := List.range 4) (g := fun _ => false) fun _ _ => rfl
    simp -implicitDefEqProofs [f_costs, i1, e1, e2, e3, e4, c1, a3]
  rintro _ R ⟨rfl, rfl⟩
  rw [ws_seq]
  obtain ⟨c, hc, ec⟩ : ∃ c : Nat, c ≤ t.length ∧ n % ((t.length : Int) + 1) = c := ⟨(n % ((t.length : Int) + 1)).toNat, by
    have := Int.emod_lt_of_pos n (show (0 : Int) < (t.length : Int) + 1 by omega)
    have := Int.emod_nonneg n (show (t.length : Int) + 1 ≠ 0 by omega)
    omega, by
    have := Int.emod_nonneg n (show (t.length : Int) + 1 ≠ 0 by omega)
    omega⟩
  have l1 : lenD [eT t] R = some (.int (t.length : Int), R) := by unfold eT; rw [p_len_lst, List.length_map]
  have m1 : modD (.int n) (.int ((t.length : Int) + 1)) R = some (.int (c : Int), R) := by rw [p_mod (by omega), ec]
  have d2 : fdivD (.int (t.length : Int)) (.int 2) R = some (.int ((t.length / 2 : Nat) : Int), R) := p_fdiv (show divOk 2 = true by decide +kernel)
  refine ws_for (enc := fun c : Nat => .int (c : Int)) (R1 := R) [c, t.length / 2, t.length] (by simp -implicitDefEqProofs [l1, m1, d2]) (by have lf := line_fuel; simp only [line_eq] at lf; show 3 ≤ FUEL; omega)
    (fun done s R1 => R1 = R ∧ ∃ y3, s = [.lst (ns.map .int), .int (i : Int), eR (row t), y3, x4, eT t, .int (a : Int), eH t a, .int n, x9]) ⟨rfl, _, rfl⟩ ?_ ?_
  · rintro done u rest e _ R ⟨rfl, y3, rfl⟩
    have hu : u ≤ t.length := by
      have : u ∈ [c, t.length / 2, t.length] := by rw [e]; simp
      simp at this
      omega
    refine wp_of_eq (t := [.lst (ns.map .int), .int (i : Int), eR (row t), .int (u : Int), x4, eT t, .int (a : Int), eH t a, .int n, x9]) rfl ?_
    exact law_b2 C R t a u ht ok ha hu _ _ _ _ _ _ _ _ ⟨rfl, _, rfl⟩
  rintro _ R ⟨rfl, y3, rfl⟩
  refine ws_then2 (fun s R1 => R1 = R ∧ s = [.lst (ns.map .int), .int (i : Int), eR (row t), y3, x4, eT t, .int (a : Int), eH t a, .int n, x9]) ?_ ?_
  · have d60 := p_fdiv (R := R) (i := n) (show divOk 60 = true by decide +kernel)
    have d90 := p_fdiv (R := R) (i := n) (show divOk 90 = true by decide +kernel)
    have h1 := C.more R t a (n / 60) ht ok ha
    have h2 := C.renamed R t a (n / 90) (by omega) ok ha
    simp -implicitDefEqProofs [d60, d90, h1, h2]
  rintro _ R ⟨rfl, rfl⟩
  rw [ws_seq]
  refine ws_for (enc := fun c : Nat => .int (c : Int)) (R1 := R) (List.range 4) (it_rng1 (n := 4) (by simp) (by decide)) (by decide)
    (fun done s R1 => ∃ y4, s = [.lst (ns.map .int), .int (i : Int), eR (row t), y3, y4, eT t, .int (a : Int), eH t a, .int n, x9]) ⟨_, rfl⟩ ?_ ?_
  · rintro done h rest e _ R1 ⟨y4, rfl⟩
    have hh : h < 4 := List.mem_range.mp (by rw [e]; simp)
    refine wp_of_eq (t := [.lst (ns.map .int), .int (i : Int), eR (row t), y3, .int (h : Int), eT t, .int (a : Int), eH t a, .int n, x9]) (R' := R1) rfl ?_
    exact law_b1 C R1 t a h ht ok ha hh _ _ _ _ _ _ _ _ fun R2 => ⟨_, rfl⟩
  · rintro _ R1 ⟨y4, rfl⟩
    exact ⟨hN _ _ _ _ _ _ _ _ _⟩
theorem q_law : ∃ R, fin false [] (m_law call [.lst (ns.map .int), .undef, .undef, .undef, .undef, .undef, .undef, .undef, .undef, .undef] []) = .ok (.bl true) R := by
  suffices h : wpR (fin false [] (m_law call [.lst (ns.map .int), .undef, .undef, .undef, .undef, .undef, .undef, .undef, .undef, .undef] [])) (fun d R1 => d = .bl true) noE by
    obtain ⟨d, R1, e, rfl⟩ := ex_of_wp h
    exact ⟨R1, e⟩
  refine wp_fin ?_
  unfold m_law
  rw [ws_seq]
  refine ws_for (enc := fun c : Nat => .int (c : Int)) (R1 := []) (List.range 6) (it_rng1 (n := 6) (by simp) (by decide)) (by decide)
    (fun done s R1 => ∃ y1 y2 y3 y4 y5 y6 y7 y8 y9, s = [.lst (ns.map .int), y1, y2, y3, y4, y5, y6, y7, y8, y9]) ⟨_, _, _, _, _, _, _, _, _, rfl⟩ ?_ ?_
  · rintro done i rest e _ R1 ⟨y1, y2, y3, y4, y5, y6, y7, y8, y9, rfl⟩
    have hi : i < 6 := List.mem_range.mp (by rw [e]; simp)
    refine wp_of_eq (t := [.lst (ns.map .int), .int (i : Int), y2, y3, y4, y5, y6, y7, y8, y9]) (R' := R1) rfl ?_
    exact law_b3 C R1 i hi _ _ _ _ _ _ _ _ _ _ fun y2 y3 y4 y5 y6 y7 y8 y9 R2 => ⟨_, _, _, _, _, _, _, _, _, rfl⟩
  · rintro _ R1 ⟨y1, y2, y3, y4, y5, y6, y7, y8, y9, rfl⟩
    simp -implicitDefEqProofs
    exact frz_pure rfl
end
end Lw
namespace Lw
open PySem PySem.Spec PyProof.Rows L2 RZ Om
theorem w_number (k : Nat) (R : Rg) (a lo hi : Int) : callF glob scl T (k + 2) "is_number" [.int a, .int lo, .int hi] R = .ok (.bl (decide (lo ≤ a) && decide (a ≤ hi))) R := (c_is_number k _ R rfl).trans (q_is_number _ R a lo hi)
theorem w_pair (k : Nat) (R : Rg) (p : Pr) (hp : p.2 < 4) : callF glob scl T (k + 3) "is_pair" [eP p] R = .ok (.bl true) R := by
  refine (c_is_pair (k + 1) _ R rfl).trans (q_is_pair _ R p hp ?_)
  rw [w_is_number, w_number]
  have h1 : (0 : Int) ≤ (p.2 : Int) := by omega
  have h2 : (p.2 : Int) ≤ 3 := by omega
  rw [decide_eq_true h1, decide_eq_true h2]
  rfl
theorem w_price' (k : Nat) (R : Rg) (p : Pr) (a h : Nat) : callF glob scl T (k + 2) "price" [eP p, .int (a : Int), .int (h : Int)] R = .ok (.int (cost p a h)) R := (c_price k _ R rfl).trans (q_price _ R p a h)
theorem w_check (k : Nat) (R : Rg) (t : List Pr) (a : Nat) (ht : t.length ≤ 60) (ok : okT t) (ha : a < 4) : callF glob scl T (k + 4) "check_tour" [eT t, .int (a : Int)] R = .ok .non R := by
  refine (c_check_tour (k + 2) _ R rfl).trans (q_check_tour _ R t a ht ok ha (fun p hp => ?_) ?_)
  · rw [w_is_pair]
    exact w_pair k R p hp
  · rw [w_is_number, w_number]
    have h1 : (0 : Int) ≤ (a : Int) := by omega
    have h2 : (a : Int) ≤ 3 := by omega
    rw [decide_eq_true h1, decide_eq_true h2]
    rfl
theorem w_init (k : Nat) (R : Rg) (pl : D) (ps : List Nat) (t : List Pr) (ht : t.length ≤ 100) (hu : isU pl = false) (hl : ∀ o, listD false [pl] (R ++ [.ins 11 o]) = some (eN ps, R ++ [.ins 11 o])) :
    callW glob scl T (k + 3) "Homes.__init__" [.ref R.length, pl, eRows t] (R ++ [.ins 11 []]) = .ok .non (R ++ [.ins 11 (eFs ps t)]) := by
  show callW glob scl T (k + 2 + 1) _ _ _ = _
  rw [w_Homes___init__]
  exact (c_Homes___init__ k _ _ rfl).trans (q_init _ R pl hu ps t ht hl)
theorem w_homes' (k : Nat) (R : Rg) (t : List Pr) (a : Nat) (ht : t.length ≤ 60) (ok : okT t) (ha : a < 4) : callF glob scl T (k + 6) "homes" [eT t, .int (a : Int)] R = .ok (eH t a) R := by
  refine (c_homes (k + 4) _ R rfl).trans (q_homes _ R t a (by omega) ?_ (fun R p a h => ?_) fun R pl ps t ht hu hl => w_init (k + 2) R pl ps t ht hu hl)
  · rw [w_check_tour]
    exact w_check (k + 1) R t a ht ok ha
  · rw [w_price]
    exact w_price' (k + 3) R p a h
theorem w_letters (k : Nat) (R : Rg) (t : List Pr) (ps : List Nat) (a : Nat) (ht : t.length ≤ 100) : callF glob scl T (k + 2) "_law_letters" [eT t, eN ps, .int (a : Int)] R = .ok (.int (lets t ps a)) R := (c__law_letters k _ R rfl).trans (q_letters _ R t ps a ht)
theorem ca_at (k : Nat) : Ca (callW glob scl T (k + 6)) where
  homes R t a ht ok ha := by
    rw [w_homes]
    exact w_homes' k R t a ht ok ha
  letters R t ps a ht := by
    rw [w__law_letters]
    exact w_letters (k + 4) R t ps a (by omega)
theorem cl_at (k : Nat) (ns : List Int) (hl : ns.length ≤ 63) : Cl ns (callW glob scl T (k + 10)) where
  cell R i hi := by
    obtain ⟨n, e⟩ := q_cell_at (callW glob scl T (k + 9)) R ns i hi hl
    refine ⟨n, ?_⟩
    rw [w__law_cell_at]
    exact (c__law_cell_at (k + 8) _ R rfl).trans e
  tour R b many hb hm := by
    obtain ⟨t, h1, h2, e⟩ := q_tour (callW glob scl T (k + 9)) R ns b many hb hm (fun R i hi => by
      obtain ⟨n, e⟩ := q_cell_at (callW glob scl T (k + 8)) R ns i hi hl
      refine ⟨n, ?_⟩
      rw [w__law_cell_at]
      exact (c__law_cell_at (k + 7) _ R rfl).trans e)
    refine ⟨t, h1, h2, ?_⟩
    rw [w__law_tour]
    exact (c__law_tour (k + 8) _ R rfl).trans e
  homes R t a ht ok ha := by
    rw [w_homes]
    exact w_homes' (k + 4) R t a ht ok ha
  ends R t a c ht ok ha hc := by
    rw [w__law_ends_right]
    exact (c__law_ends_right (k + 8) _ R rfl).trans (q_ends (ca_at (k + 3)) R t a c ht ok ha hc)
  more R t a n ht ok ha := by
    rw [w__law_more_right]
    exact (c__law_more_right (k + 8) _ R rfl).trans (q_more (ca_at (k + 3)) R t a n ht ok ha)
  renamed R t a n ht ok ha := by
    rw [w__law_renamed_right]
    exact (c__law_renamed_right (k + 8) _ R rfl).trans (q_renamed (ca_at (k + 3)) R t a n ht ok ha)
  init R pl ps t ht hu hl := w_init (k + 7) R pl ps t ht hu hl
  shows R x t ps a hx ha ht hi hl h4 := by
    rw [w_Homes_shows]
    refine (c_Homes_shows (k + 8) _ R rfl).trans (q_shows _ R x hx t ps a ha ht hi hl h4 (fun p a h => ?_) ?_)
    · rw [w_price]
      exact w_price' (k + 7) R p a h
    · rw [w_letters_of]
      refine (c_letters_of (k + 7) _ R rfl).trans (q_letters_of _ R t ps a ht fun p a h => ?_)
      rw [w_price]
      exact w_price' (k + 6) R p a h
theorem law_true (ns : List Int) (hl : ns.length ≤ 63) : ∃ R, callF glob scl T 30 "law" [.lst (ns.map .int)] [] = .ok (.bl true) R := by
  obtain ⟨R, e⟩ := q_law (cl_at 19 ns hl)
  exact ⟨R, (c_law 28 _ [] rfl).trans e⟩
end Lw
namespace Lw
open PySem PySem.Spec PyProof.Rows L2 RZ Om
abbrev R : PySem.W.OpenRow := PySem.W.OpenLaw.row PySem.Challenge.rw_onememory_k16_whole_tours
abbrev φ : PySem.W.Frag → Bool := fun K => factsB K scl.cr scl.eqs scl.kit
abbrev hk : PySem.W.Hook := hookO 6 φ fa fn
def ob (s : PySem.W.SharedT) : He.AlD := obsOG 6 φ fa fn (HandSHeadRun.getT s)
def loose : List Str := (["LendError", "BadTour", "BadMachine", "is_number", "MACHINES", "MOST_TOUR", "LEADS", "NEEDS", "SENDS", "is_pair", "check_tour", "price", "letters_of", "Homes", "homes", "_law_cell_at", "_law_ends_right", "_law_more_right", "_law_renamed_right", "_law_tour", "_law_letters"] : List Str)
theorem ob_eq (s : PySem.W.SharedT) : ob s = hk.obs s.abs := obsOG_eq (HandSHeadRun.getT_eq s)
theorem run (w : World) : HandSHeadRun.RunEq R (PySem.W.view R.prog [25]) hk ob 20000 loose w := by
  intro os
  kernel_rfl
end Lw
namespace Lw
open PySem PySem.Spec PyProof.Rows L2 RZ Om
theorem facts {P : Program} {w : World} {K : PySem.W.Frag} {h : Heap} {mg : Str → Option Value} {f : Addr} (X : K.In h) (G : h.Ns mainGlobals mg) (hf : mg ("law" : Str) = some (.ref f)) (c : SaysO φ fa fn K) :
    ∃ fd : FuncData, (∀ (s : Shared) (v : Value), BindsTo s fd ⟨[v], []⟩ [("_law_script", v)]) ∧ ∀ b : Heap, K.In b → b.Ns mainGlobals mg → FnOk P w K mg b (CX P w) 30 f fd ["_law_script"] (spF K 1 (callF glob scl T 30 "law")) := by
  obtain ⟨q1, c⟩ := c.says
  have FF := facts_ok q1
  obtain ⟨fd, F⟩ := c.def_ 14 (d := d_law) rfl
  have e := hf.symm.trans (He.glo_ok X G (c.fact 12 (f := .glo "law") rfl))
  cases e
  have q := FunD.bindsA (ps := ["_law_script"]) F fun _ _ _ _ _ _ us hl => match us, hl with | [_], _ => rfl
  exact ⟨fd, fun s v => q s [v] rfl, fun b _ _ => fn_ok (fun x g => (g_all X G FF c).look) (ms_all FF c) 30 "law" f_law (by kernel_rfl) s_law F⟩
end Lw
open PySem PySem.W PySem.Calls PyProof.Rows
theorem PySem.Challenge.cw_onememory_k16_whole_tours_holds : PySem.Challenge.rw_onememory_k16_whole_tours.Holds := by
  w_on; o_law
  refine HandSHeadRun.head_any (r := OpenLaw.row PySem.Challenge.rw_onememory_k16_whole_tours) (q := view (OpenLaw.row PySem.Challenge.rw_onememory_k16_whole_tours).prog [25]) (H := Lw.hk) (ob := Lw.ob) (M := 20000) (loose := Lw.loose) (d := HandSHeadRun.topDef (OpenLaw.row PySem.Challenge.rw_onememory_k16_whole_tours).prog 25) (kwd := []) Lw.ob_eq
    (by kernel_rfl) (fun s => by kernel_rfl) Lw.run (by kernel_rfl) (by kernel_rfl) (by kernel_rfl) (by rfl) (by first | assumption | decide +kernel) (by decide +kernel) ⟨rfl, rfl, rfl, rfl, rfl, by decide +kernel⟩ ?hw ?hc
  case hw => w_witness2
  case hc =>
    refine Om.walk_om (l := PySem.Challenge.rw_onememory_k16_whole_tours) (n := 63) (k := 30) (x := "_law_script") rfl (by decide) (by kernel_rfl) ⟨rfl, by decide, by decide⟩ fun w m f h Y G hm => ?_
    obtain ⟨K, KX, c⟩ := Y
    have hm2 : m ("law" : PySem.Str) = some (.ref f) := by
      have e : (HandSHeadRun.topDef (OpenLaw.row PySem.Challenge.rw_onememory_k16_whole_tours).prog 25).name = ("law" : PySem.Str) := by kernel_rfl
      rw [← e]
      exact hm
    obtain ⟨fd, hb, hF⟩ := Lw.facts (P := (PySem.Challenge.rw_onememory_k16_whole_tours).prog) (w := w) KX G hm2 c
    exact ⟨K, fd, _, KX, hb, fun H a ns hl hS => Om.law_sp (Lw.law_true ns hl) hS, hF⟩
