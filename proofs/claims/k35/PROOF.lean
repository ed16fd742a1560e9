import PyProof.Rows.All
import Wide.All
import OpenK.AllK
import Wide.FinOn
import PySem.Str
import PySem.Syntax
import HandS.ForMost
import HandS.ForExc
import HandS.Defaults
import HandS.HeadHook1
import HandS.HeadHook2
import KE.DataCmp
import KE.SortData
import HandS.Deep
import HandS.TupAny
import HandS.Wide
import HandS.Zip
import HandS.More
import HandS.IsInst
import HandS.Style
import HandS.Text
import HandS.RaiseMore
import HandS.WordsDict
import HandS.DictComp
import KE.KUnpackStar
import HandS.HeadHook3
import HandS.ToBytes
import KE.KBytesHexOf
import HandS.Strs
import HandS.OwnEq
import HandS.CallRecv
import PyProof.InstNe
import KE.KStateDown
import HandS.Ends
import HandS.ExcInit
import HandS.ExcOwn
import HandS.ExcField
import HandS.TryOnly
import HandS.Flow
import HandS.HeadEnd
import HandS.Words
import HandS.WordsExc
import HandS.Head0
import HandS.Head1
import HandS.Head2
import PySem.Challenge.RW_onememory_k35_whole_bytes
set_option Elab.async false
set_option linter.all false
set_option maxRecDepth 100000
set_option maxHeartbeats 0
set_option autoImplicit false
namespace Om
open PySem
/-! ## values -/
inductive D where
  | non | undef
  | bl (b : Bool) | int (i : Int) | str (x : List Nat) | byt (x : List UInt8)
  | ty (n : String) | glo (x : List Nat)
  | tup (xs : List D) | lst (xs : List D) | dct (ks : List (D × D))
  | ins (c : Nat) (fs : List (Nat × D))
  | ref (i : Nat)
  deriving Inhabited
mutual
def beqD : D → D → Bool
  | .non, .non => true
  | .undef, .undef => true
  | .bl a, .bl b => a == b
  | .int a, .int b => decide (a = b)
  | .str a, .str b => decide (a = b)
  | .byt a, .byt b => decide (a = b)
  | .ty a, .ty b => decide (a = b)
  | .glo a, .glo b => decide (a = b)
  | .tup a, .tup b => beqDs a b
  | .lst a, .lst b => beqDs a b
  | .dct a, .dct b => beqKs a b
  | .ins c a, .ins d b => decide (c = d) && beqFs a b
  | .ref a, .ref b => decide (a = b)
  | _, _ => false
def beqDs : List D → List D → Bool
  | [], [] => true
  | x :: xs, y :: ys => beqD x y && beqDs xs ys
  | _, _ => false
def beqKs : List (D × D) → List (D × D) → Bool
  | [], [] => true
  | (k, v) :: xs, (l, w) :: ys => beqD k l && beqD v w && beqKs xs ys
  | _, _ => false
def beqFs : List (Nat × D) → List (Nat × D) → Bool
  | [], [] => true
  | (k, v) :: xs, (l, w) :: ys => decide (k = l) && beqD v w && beqFs xs ys
  | _, _ => false
end
mutual
theorem beqD_iff : ∀ a b : D, beqD a b = true ↔ a = b
  | .non, b => by cases b <;> simp [beqD]
  | .undef, b => by cases b <;> simp [beqD]
  | .bl x, b => by cases b <;> simp [beqD]
  | .int x, b => by cases b <;> simp [beqD]
  | .str x, b => by cases b <;> simp [beqD]
  | .byt x, b => by cases b <;> simp [beqD]
  | .ty x, b => by cases b <;> simp [beqD]
  | .glo x, b => by cases b <;> simp [beqD]
  | .tup xs, b => by cases b <;> simp [beqD, beqDs_iff xs]
  | .lst xs, b => by cases b <;> simp [beqD, beqDs_iff xs]
  | .dct xs, b => by cases b <;> simp [beqD, beqKs_iff xs]
  | .ins c xs, b => by cases b <;> simp [beqD, beqFs_iff xs]
  | .ref i, b => by cases b <;> simp [beqD]
theorem beqDs_iff : ∀ a b : List D, beqDs a b = true ↔ a = b
  | [], b => by cases b <;> simp [beqDs]
  | x :: xs, b => by cases b <;> simp [beqDs, beqD_iff x, beqDs_iff xs]
theorem beqKs_iff : ∀ a b : List (D × D), beqKs a b = true ↔ a = b
  | [], b => by cases b <;> simp [beqKs]
  | (k, v) :: xs, [] => by simp [beqKs]
  | (k, v) :: xs, (l, w) :: ys => by simp [beqKs, beqD_iff k, beqD_iff v, beqKs_iff xs, and_assoc]
theorem beqFs_iff : ∀ a b : List (Nat × D), beqFs a b = true ↔ a = b
  | [], b => by cases b <;> simp [beqFs]
  | (k, v) :: xs, [] => by simp [beqFs]
  | (k, v) :: xs, (l, w) :: ys => by simp [beqFs, beqD_iff v, beqFs_iff xs, and_assoc]
end
instance : DecidableEq D := fun a b => decidable_of_iff (beqD a b = true) (beqD_iff a b)
inductive O where
  | lst (xs : List D) | dct (ks : List (D × D)) | ins (c : Nat) (fs : List (Nat × D)) | dead
  /-- a dict while it is walked -/
  | dctL (ks : List (D × D))
  deriving Inhabited
abbrev Rg := List O
inductive Res (A : Type) where
  | ok (a : A) (R : Rg) | exc (c : Nat) (f : D) (R : Rg) | err
def Res.bind {A B : Type} (m : Res A) (f : A → Rg → Res B) : Res B := match m with
  | .ok a R => f a R
  | .exc c x R => .exc c x R
  | .err => .err
@[simp] theorem Res.bind_ok {A B : Type} (a : A) (R : Rg) (f : A → Rg → Res B) : (Res.ok a R).bind f = f a R := rfl
@[simp] theorem Res.bind_exc {A B : Type} (c : Nat) (x : D) (R : Rg) (f : A → Rg → Res B) : (Res.exc c x R : Res A).bind f = .exc c x R := rfl
@[simp] theorem Res.bind_err {A B : Type} (f : A → Rg → Res B) : (Res.err : Res A).bind f = .err := rfl
inductive Out where
  | nx (s : List D) (R : Rg) | rt (d : D) (R : Rg) | bk (s : List D) (R : Rg) | ct (s : List D) (R : Rg)
  | exc (c : Nat) (f : D) (s : List D) (R : Rg) | err
abbrev SE := List D → Rg → Res D
abbrev SA := List D → Rg → Res (List D)
abbrev SB := List D → Rg → Res Bool
abbrev SS := List D → Rg → Out
abbrev SG := D → List D → Rg → Res (List D)
abbrev SF := List D → Rg → Res D
/-! ## looks at values -/
mutual
/-- a tree without places -/
def pureD : D → Bool
  | .ref _ => false
  | .undef => false
  | .tup xs => pureDs xs
  | .lst xs => pureDs xs
  | .dct ks => pureKs ks
  | .ins _ fs => pureFs fs
  | _ => true
def pureDs : List D → Bool
  | [] => true
  | x :: xs => pureD x && pureDs xs
def pureKs : List (D × D) → Bool
  | [] => true
  | (k, v) :: xs => pureD k && pureD v && pureKs xs
def pureFs : List (Nat × D) → Bool
  | [] => true
  | (_, v) :: xs => pureD v && pureFs xs
end
mutual
/-- nothing that can be changed within -/
def flatD : D → Bool
  | .non => true
  | .bl _ => true
  | .int _ => true
  | .str _ => true
  | .byt _ => true
  | .tup xs => flatDs xs
  | _ => false
def flatDs : List D → Bool
  | [] => true
  | x :: xs => flatD x && flatDs xs
end
/-- the tree of a value, to a depth -/
def snapN : Nat → Rg → D → Option D
  | 0, _, d => if pureD d then some d else none
  | n + 1, R, d => if pureD d then some d else match d with
    | .ref i => (match R[i]? with
      | some (.lst xs) => (xs.mapM (snapN n R)).map .lst
      | some (.dct ks) => (ks.mapM fun p => (snapN n R p.1).bind fun k => (snapN n R p.2).map fun v => (k, v)).map .dct
      | some (.ins c fs) => (fs.mapM fun p => (snapN n R p.2).map fun v => (p.1, v)).map (.ins c)
      | _ => none)
    | .tup xs => (xs.mapM (snapN n R)).map .tup
    | .lst xs => (xs.mapM (snapN n R)).map .lst
    | .dct ks => (ks.mapM fun p => (snapN n R p.1).bind fun k => (snapN n R p.2).map fun v => (k, v)).map .dct
    | .ins c fs => (fs.mapM fun p => (snapN n R p.2).map fun v => (p.1, v)).map (.ins c)
    | _ => none
def snapD (R : Rg) (d : D) : Option D := snapN 6 R d
/-! ## operators -/
abbrev LINE : Nat := 16777216
def roV : O → O
  | .dctL ks => .dct ks
  | o => o
/-- what stands at a value: its object, or the frozen one -/
def viewD (R : Rg) : D → O
  | .ref i => roV ((R[i]?).getD .dead)
  | .lst xs => .lst xs
  | .dct ks => .dct ks
  | .ins c fs => .ins c fs
  | _ => .dead
/-- the items of a list -/
def lstOf (R : Rg) (d : D) : Option (List D) := match viewD R d with
  | .lst xs => some xs
  | _ => none
/-- the items of a list or a tuple -/
def seqOf (R : Rg) (d : D) : Option (List D) := match d with
  | .tup xs => some xs
  | d => lstOf R d
def dctOf (R : Rg) (d : D) : Option (List (D × D)) := match viewD R d with
  | .dct ks => some ks
  | _ => none
def insOf (R : Rg) (d : D) : Option (Nat × List (Nat × D)) := match viewD R d with
  | .ins c fs => some (c, fs)
  | _ => none
theorem lstOf_ref (R : Rg) (i : Nat) : lstOf R (.ref i) = match R[i]? with
    | some (.lst xs) => some xs
    | _ => none := by
  show (match roV ((R[i]?).getD O.dead) with
    | .lst xs => some xs
    | _ => none) = _
  cases R[i]? with
  | none => rfl
  | some o => cases o <;> rfl
theorem dctOf_ref (R : Rg) (i : Nat) : dctOf R (.ref i) = match R[i]? with
    | some (.dct xs) => some xs
    | some (.dctL xs) => some xs
    | _ => none := by
  show (match roV ((R[i]?).getD O.dead) with
    | .dct xs => some xs
    | _ => none) = _
  cases R[i]? with
  | none => rfl
  | some o => cases o <;> rfl
theorem insOf_ref (R : Rg) (i : Nat) : insOf R (.ref i) = match R[i]? with
    | some (.ins c xs) => some (c, xs)
    | _ => none := by
  show (match roV ((R[i]?).getD O.dead) with
    | .ins c xs => some (c, xs)
    | _ => none) = _
  cases R[i]? with
  | none => rfl
  | some o => cases o <;> rfl
/-- a new list, to be changed or not -/
def mkL (m : Bool) (xs : List D) (R : Rg) : Option (D × Rg) := if xs.length ≤ LINE then (if m = true then some (.ref R.length, R ++ [.lst xs]) else some (.lst xs, R)) else none
def mkK (m : Bool) (ks : List (D × D)) (R : Rg) : Option (D × Rg) := if ks.length ≤ LINE then (if m = true then some (.ref R.length, R ++ [.dct ks]) else some (.dct ks, R)) else none
def smallI (i : Int) : Bool := decide (-18446744073709551616 < i ∧ i < 18446744073709551616)
def mulOk (i j : Int) : Bool := smallI j || smallI i || decide (i.natAbs.log2 + j.natAbs.log2 < 1000000)
def truD (R : Rg) (d : D) : Option Bool := match d with
  | .non => some false
  | .bl b => some b
  | .int i => some (i != 0)
  | .str x => if x.length ≤ LINE then some (x.length != 0) else none
  | .tup xs => some (!xs.isEmpty)
  | d => match viewD R d with
    | .lst xs => some (!xs.isEmpty)
    | _ => none
mutual
/-- may be asked for == as data: no truths, dicts, objects within; to a depth -/
def eqOk : Nat → D → Bool
  | _, .non => true
  | _, .int _ => true
  | _, .str x => x.all fun c => decide (c < 1114112)
  | n + 1, .tup xs => eqOks n xs
  | n + 1, .lst xs => eqOks n xs
  | _, _ => false
def eqOks : Nat → List D → Bool
  | _, [] => true
  | n, x :: xs => eqOk n x && eqOks n xs
end
/-- == of data -/
def eqD (R : Rg) (x y : D) : Option Bool := match x, y with
  | .bl a, .bl b => some (decide (a = b))
  | .bl _, .non => some false
  | .non, .bl _ => some false
  | .bl _, .str _ => some false
  | .str _, .bl _ => some false
  | x, y => match snapD R x, snapD R y with
    | some a, some b => if eqOk 12 a = true ∧ eqOk 12 b = true then some (decide (a = b)) else none
    | _, _ => none
mutual
/-- x < y may be asked -/
def ltOk : D → D → Bool
  | .int _, .int _ => true
  | .str _, .str _ => true
  | .tup xs, .tup ys => ltOks xs ys
  | .lst xs, .lst ys => ltOks xs ys
  | _, _ => false
def ltOks : List D → List D → Bool
  | x :: xs, y :: ys => ltOk x y && ltOks xs ys
  | [], _ => true
  | _, [] => true
end
mutual
/-- x < y -/
def ltD : D → D → Bool
  | .int i, .int j => decide (i < j)
  | .str x, .str y => decide (x < y)
  | .tup xs, .tup ys => ltDs xs ys
  | .lst xs, .lst ys => ltDs xs ys
  | _, _ => false
def ltDs : List D → List D → Bool
  | x :: xs, y :: ys => if x = y then ltDs xs ys else ltD x y
  | [], _ :: _ => true
  | _, [] => false
end
end Om
/-! Om, part B: what trees mean over the abstract heap. -/
namespace Om
open PySem PySem.Spec PyProof.Rows L2
/-- the classes and attributes of the text, by numbers -/
def clTab : List Str := ["Lawful", "Unlawful", "Raceless", "Raced", "Locks", "Parts", "Single", "Split", "Counts", "Alike", "Apart", "Homes", "Machine", "Field", "Bytes", "Beginning", "Told", "Desk"]
def exTab : List Str := ["LendError", "BadHistory", "BadThread", "BadCell", "BadPlace", "TooLong", "BadProgram", "BadTour", "BadMachine", "BadMaster", "BadDifference", "BadField", "BadLock", "BadValue", "Waits", "Busy", "BadRow", "BadText", "BadBytes", "BadName"]
def atTab : List Str := (["place", "one", "other", "holders", "lost", "threads", "cells", "locks", "rows", "listed", "turn", "stands", "parts", "known", "run", "places", "costs", "number", "copies", "changes",
  "handed", "homes", "homes_first", "threads_first", "machines", "seconds", "masters", "lock_knows", "lock_at", "handing"] : List Str) ++
  (["forced", "events", "counted", "data", "at", "row", "machines_first", "deeds", "told", "views", "fields", "history"] : List Str)
def clN (c : Nat) : Str := clTab.getD c ""
def exN (c : Nat) : Str := exTab.getD c ""
def atN (c : Nat) : Str := atTab.getD c ""
def strOf (x : List Nat) : Str := ⟨x.toArray⟩
theorem strOf_inj {x y : List Nat} (h : strOf x = strOf y) : x = y := by
  unfold strOf at h
  have := Str.mk.inj h
  simpa using this
theorem strOf_append (a b : List Nat) : strOf (a ++ b) = strOf a ++ strOf b := by
  show (⟨(a ++ b).toArray⟩ : Str) = ⟨a.toArray ++ b.toArray⟩
  simp
theorem strOf_length (a : List Nat) : (strOf a).length = a.length := by
  show a.toArray.size = a.length
  simp
abbrev Io := List (Option Addr)
def ran (io : Io) (a : Addr) : Prop := some a ∈ io
theorem ran_at {io : Io} {i : Nat} {a : Addr} (h : io[i]? = some (some a)) : ran io a := List.mem_of_getElem? h
theorem at_ran {io : Io} {a : Addr} (h : ran io a) : ∃ i : Nat, io[i]? = some (some a) := by
  obtain ⟨i, hi, e⟩ := List.getElem_of_mem h
  exact ⟨i, by rw [List.getElem?_eq_getElem hi, e]⟩
def keyV : D → Option Key
  | .int i => some (.inl i)
  | .str x => some (.inr (strOf x))
  | _ => none
/-- a list of the module -/
def KL (K : PySem.W.Frag) (a : Addr) (vs : List V) : Prop := ∃ (o : Obj) (its : Array Value) (n : Nat), K.lookup a = some o ∧ o.cls = .type "list" ∧ o.dict = none ∧ o.data = .seq its n ∧ its.size ≤ sizeLine ∧ Vals vs its.toList
/-- a list that stands still -/
def LstAt (K : PySem.W.Frag) (bar : Addr → Prop) (H : Hp) (a : Addr) (vs : List V) : Prop := (¬ bar a ∧ Rd H a (.lst vs)) ∨ KL K a vs
theorem LstAt.sq {K : PySem.W.Frag} {bar : Addr → Prop} {H : Hp} {a : Addr} {vs : List V} (h : LstAt K bar H a vs) : SqL K H a vs := by
  rcases h with h | h
  · exact .inl h.2
  · exact .inr h
section
variable (K : PySem.W.Frag) (bar : Addr → Prop) (io : Io) (H : Hp)
mutual
inductive RD : D → V → Prop
  | non : RD .non .non
  | bl (b : Bool) : RD (.bl b) (.bl b)
  | int (i : Int) : RD (.int i) (.int i)
  | str (x : List Nat) : RD (.str x) (.str (strOf x))
  | byt (x : List UInt8) : RD (.byt x) (.byt x.toArray)
  | ty (n : String) : RD (.ty n) (.ty n)
  | glo (x : List Nat) : RD (.glo x) (.ref (He.ga K (strOf x)))
  | tup {a : Addr} {ds : List D} {vs : List V} : SqT K H a vs → RDs ds vs → RD (.tup ds) (.ref a)
  | lst {a : Addr} {ds : List D} {vs : List V} : LstAt K bar H a vs → RDs ds vs → RD (.lst ds) (.ref a)
  | dct {a : Addr} {ks : List (D × D)} {kvs : List (Key × V)} : ¬ bar a → Rd H a (.dK kvs) → RKs ks kvs → RD (.dct ks) (.ref a)
  | ins {a dx : Addr} {c : Nat} {fs : List (Nat × D)} {fvs : List (Str × V)} : ¬ bar a → H a = some (.ins (He.ga K (clN c)) dx fvs) → RFs fs fvs → RD (.ins c fs) (.ref a)
  | ref {i : Nat} {a : Addr} : i < io.length → (∀ q, io[i]? = some (some q) → q = a) → RD (.ref i) (.ref a)
inductive RDs : List D → List V → Prop
  | nil : RDs [] []
  | cons {d : D} {v : V} {ds : List D} {vs : List V} : RD d v → RDs ds vs → RDs (d :: ds) (v :: vs)
inductive RKs : List (D × D) → List (Key × V) → Prop
  | nil : RKs [] []
  | cons {k d : D} {q : Key} {v : V} {ks : List (D × D)} {kvs : List (Key × V)} : keyV k = some q → RD d v → RKs ks kvs → RKs ((k, d) :: ks) ((q, v) :: kvs)
inductive RFs : List (Nat × D) → List (Str × V) → Prop
  | nil : RFs [] []
  | cons {n : Nat} {d : D} {v : V} {fs : List (Nat × D)} {fvs : List (Str × V)} : n < atTab.length → RD d v → RFs fs fvs → RFs ((n, d) :: fs) ((atN n, v) :: fvs)
end
/-- an object of the region -/
def RO (i : Nat) : O → Prop
  | .dead => io[i]? = some none
  | .lst ds => ∃ p vs, io[i]? = some (some p) ∧ H p = some (.lst vs) ∧ RDs K bar io H ds vs
  | .dct ks => ∃ p kvs, io[i]? = some (some p) ∧ H p = some (.dK kvs) ∧ RKs K bar io H ks kvs
  | .ins c fs => ∃ p dx fvs, io[i]? = some (some p) ∧ H p = some (.ins (He.ga K (clN c)) dx fvs) ∧ RFs K bar io H fs fvs
  | .dctL ks => ∃ p o kvs, io[i]? = some (some p) ∧ H p = some (.frz o (.dK kvs)) ∧ RKs K bar io H ks kvs
/-- a slot -/
def RS1 (d : D) (o : Option V) : Prop := d = .undef ∨ ∃ v, o = some v ∧ RD K bar io H d v
def RS (s : List D) (σ : L2.St) : Prop := s.length = σ.length ∧ ∀ (i : Nat) (d : D), s[i]? = some d → ∃ o, σ[i]? = some o ∧ RS1 K bar io H d o
end
def bars (B : Addr → Prop) (io : Io) (a : Addr) : Prop := B a ∨ ran io a
def Mu (o : Option HO) : Prop := match o with
  | some (.lst _) => True
  | some (.dK _) => True
  | some (.ins _ _ _) => True
  | some (.frz _ (.dK _)) => True
  | _ => False
structure Rep (K : PySem.W.Frag) (B : Addr → Prop) (io : Io) (R : Rg) (H : Hp) : Prop where
  len : io.length = R.length
  inj : ∀ (i j : Nat) (p : Addr), io[i]? = some (some p) → io[j]? = some (some p) → i = j
  bt : ∀ a, B a → ∃ o, H a = some o
  bd : ∀ a, ran io a → ¬ B a
  obj : ∀ (i : Nat) (o : O), R[i]? = some o → RO K (bars B io) io H i o
structure Step (io : Io) (H : Hp) (io' : Io) (H' : Hp) : Prop where
  fr : ∀ a o, H a = some o → ¬ ran io a → H' a = some o
  nw : ∀ a, ran io' a → ran io a ∨ H a = none
  tr : ∀ a o, H a = some o → ∃ o', H' a = some o'
  le : io.length ≤ io'.length
  ix : ∀ i : Nat, i < io.length → io'[i]? = io[i]? ∨ io'[i]? = some none
  fz : ∀ a o u, H a = some (.frz o u) → H' a = some (.frz o u)
section
variable {K : PySem.W.Frag} {B : Addr → Prop} {io io1 io2 : Io} {R : Rg} {H H1 H2 : Hp}
theorem Rep.mu (r : Rep K B io R H) {a : Addr} (h : ran io a) : Mu (H a) := by
  obtain ⟨i, e⟩ := at_ran h
  have hi : i < R.length := by
    rw [← r.len]
    exact (List.getElem?_eq_some_iff.mp e).1
  have q := r.obj i R[i] (List.getElem?_eq_getElem hi)
  revert q
  cases R[i] with
  | dead =>
    intro q
    have q' : io[i]? = some none := q
    rw [e] at q'
    cases q'
  | lst ds =>
    rintro ⟨p, vs, e', h', _⟩
    rw [e] at e'
    cases e'
    rw [h']
    trivial
  | dct ds =>
    rintro ⟨p, vs, e', h', _⟩
    rw [e] at e'
    cases e'
    rw [h']
    trivial
  | ins c ds =>
    rintro ⟨p, dx, vs, e', h', _⟩
    rw [e] at e'
    cases e'
    rw [h']
    trivial
  | dctL ds =>
    rintro ⟨p, o, vs, e', h', _⟩
    rw [e] at e'
    cases e'
    rw [h']
    trivial
theorem Rep.has (r : Rep K B io R H) {a : Addr} (h : ran io a) : ∃ o, H a = some o := by
  have := r.mu h
  cases e : H a with
  | none =>
    rw [e] at this
    exact this.elim
  | some o => exact ⟨o, rfl⟩
theorem Step.refl (io : Io) (H : Hp) : Step io H io H := ⟨fun _ _ h _ => h, fun _ h => .inl h, fun _ o h => ⟨o, h⟩, Nat.le_refl _, fun _ _ => .inl rfl, fun _ _ _ h => h⟩
theorem Step.trans (a : Step io H io1 H1) (b : Step io1 H1 io2 H2) : Step io H io2 H2 where
  fr := fun p o h n => b.fr p o (a.fr p o h n) fun z => by
    rcases a.nw p z with z | z
    · exact n z
    · rw [h] at z; cases z
  nw := fun p h => by
    rcases b.nw p h with z | z
    · exact a.nw p z
    · right
      cases e : H p with
      | none => rfl
      | some o =>
        obtain ⟨o', e'⟩ := a.tr p o e
        rw [e'] at z; cases z
  tr := fun p o h => by
    obtain ⟨o1, h1⟩ := a.tr p o h
    exact b.tr p o1 h1
  le := Nat.le_trans a.le b.le
  ix := fun i h => by
    rcases b.ix i (Nat.lt_of_lt_of_le h a.le) with z | z
    · rcases a.ix i h with y | y
      · exact .inl (z.trans y)
      · exact .inr (z.trans y)
    · exact .inr z
  fz := fun p o u h => b.fz p o u (a.fz p o u h)
/-- what carries a value over -/
structure Car (K : PySem.W.Frag) (bar : Addr → Prop) (io : Io) (H : Hp) (bar' : Addr → Prop) (io' : Io) (H' : Hp) : Prop where
  tup : ∀ a vs, Rd H a (.tup vs) → Rd H' a (.tup vs)
  oth : ∀ a o, H a = some o → ¬ bar a → H' a = some o ∧ ¬ bar' a
  ref : ∀ (i : Nat) (p : Addr), i < io.length → i < io'.length ∧ (io'[i]? = some (some p) → io[i]? = some (some p))
theorem Car.sqT {bar bar' : Addr → Prop} (c : Car K bar io H bar' io1 H1) {a : Addr} {vs : List V} (h : SqT K H a vs) : SqT K H1 a vs := by
  rcases h with h | h
  · exact .inl (c.tup a vs h)
  · exact .inr h
theorem Car.rd {bar bar' : Addr → Prop} (c : Car K bar io H bar' io1 H1) {a : Addr} {o : HO} (h : Rd H a o) (n : ¬ bar a) : Rd H1 a o ∧ ¬ bar' a := by
  rcases h with h | ⟨ob, h⟩
  · exact ⟨.inl (c.oth a _ h n).1, (c.oth a _ h n).2⟩
  · exact ⟨.inr ⟨ob, (c.oth a _ h n).1⟩, (c.oth a _ h n).2⟩
theorem LstAt.car {bar bar' : Addr → Prop} (c : Car K bar io H bar' io1 H1) {a : Addr} {vs : List V} (h : LstAt K bar H a vs) : LstAt K bar' H1 a vs := by
  rcases h with h | h
  · exact .inl ⟨(c.rd h.2 h.1).2, (c.rd h.2 h.1).1⟩
  · exact .inr h
theorem LstAt.nb {bar bar' : Addr → Prop} (hb : ∀ a, ¬ bar a → ¬ bar' a) {a : Addr} {vs : List V} (h : LstAt K bar H a vs) : LstAt K bar' H a vs := by
  rcases h with h | h
  · exact .inl ⟨hb a h.1, h.2⟩
  · exact .inr h
mutual
theorem RD.car {bar bar' : Addr → Prop} (c : Car K bar io H bar' io1 H1) : ∀ {d : D} {v : V}, RD K bar io H d v → RD K bar' io1 H1 d v
  | _, _, .non => .non
  | _, _, .bl b => .bl b
  | _, _, .int i => .int i
  | _, _, .str x => .str x
  | _, _, .byt x => .byt x
  | _, _, .ty n => .ty n
  | _, _, .glo x => .glo x
  | _, _, .tup h r => .tup (c.sqT h) (RDs.car c r)
  | _, _, .lst h r => .lst (h.car c) (RDs.car c r)
  | _, _, .dct n h r => .dct (c.rd h n).2 (c.rd h n).1 (RKs.car c r)
  | _, _, .ins n h r => .ins (c.oth _ _ h n).2 (c.oth _ _ h n).1 (RFs.car c r)
  | _, _, .ref h q => .ref (c.ref _ 0 h).1 fun p e => q p ((c.ref _ p h).2 e)
theorem RDs.car {bar bar' : Addr → Prop} (c : Car K bar io H bar' io1 H1) : ∀ {ds : List D} {vs : List V}, RDs K bar io H ds vs → RDs K bar' io1 H1 ds vs
  | _, _, .nil => .nil
  | _, _, .cons r t => .cons (RD.car c r) (RDs.car c t)
theorem RKs.car {bar bar' : Addr → Prop} (c : Car K bar io H bar' io1 H1) : ∀ {ds : List (D × D)} {vs : List (Key × V)}, RKs K bar io H ds vs → RKs K bar' io1 H1 ds vs
  | _, _, .nil => .nil
  | _, _, .cons k r t => .cons k (RD.car c r) (RKs.car c t)
theorem RFs.car {bar bar' : Addr → Prop} (c : Car K bar io H bar' io1 H1) : ∀ {ds : List (Nat × D)} {vs : List (Str × V)}, RFs K bar io H ds vs → RFs K bar' io1 H1 ds vs
  | _, _, .nil => .nil
  | _, _, .cons k r t => .cons k (RD.car c r) (RFs.car c t)
end
theorem RS.car {bar bar' : Addr → Prop} (c : Car K bar io H bar' io1 H1) {s : List D} {σ : L2.St} (r : RS K bar io H s σ) : RS K bar' io1 H1 s σ :=
  ⟨r.1, fun i d e => by
    obtain ⟨o, e1, q⟩ := r.2 i d e
    refine ⟨o, e1, ?_⟩
    rcases q with q | ⟨v, e2, q⟩
    · exact .inl q
    · exact .inr ⟨v, e2, q.car c⟩⟩
theorem Rep.tupNo (r : Rep K B io R H) {a : Addr} {vs : List V} (h : Rd H a (.tup vs)) : ¬ ran io a := fun z => by
  have m := r.mu z
  rcases h with h | ⟨o, h⟩
  · rw [h] at m; exact m
  · rw [h] at m; exact m
theorem Step.car (st : Step io H io1 H1) (r : Rep K B io R H) : Car K (bars B io) io H (bars B io1) io1 H1 where
  tup := fun a vs h => by
    have n := r.tupNo h
    rcases h with h | ⟨o, h⟩
    · exact .inl (st.fr a _ h n)
    · exact .inr ⟨o, st.fr a _ h n⟩
  oth := fun a o h n => ⟨st.fr a o h fun z => n (.inr z), fun z => by
    rcases z with z | z
    · exact n (.inl z)
    · rcases st.nw a z with y | y
      · exact n (.inr y)
      · rw [h] at y; cases y⟩
  ref := fun i p h => ⟨Nat.lt_of_lt_of_le h st.le, fun e => by
    rcases st.ix i h with z | z
    · exact z.symm.trans e
    · rw [z] at e; cases e⟩
end
section
variable {K : PySem.W.Frag} {B : Addr → Prop} {io : Io} {R : Rg} {H : Hp} {p : Addr}
theorem RO.car {bar bar' : Addr → Prop} {io1 : Io} {H1 : Hp} {i : Nat} {o : O} (c : Car K bar io H bar' io1 H1) (hi : io1[i]? = io[i]?) (hh : ∀ q, io[i]? = some (some q) → H1 q = H q) (h : RO K bar io H i o) : RO K bar' io1 H1 i o := by
  cases o with
  | dead => exact hi.trans h
  | lst ds =>
    obtain ⟨q, vs, e1, e2, r⟩ := h
    exact ⟨q, vs, hi.trans e1, (hh q e1).trans e2, r.car c⟩
  | dct ds =>
    obtain ⟨q, vs, e1, e2, r⟩ := h
    exact ⟨q, vs, hi.trans e1, (hh q e1).trans e2, r.car c⟩
  | ins n ds =>
    obtain ⟨q, dx, vs, e1, e2, r⟩ := h
    exact ⟨q, dx, vs, hi.trans e1, (hh q e1).trans e2, r.car c⟩
  | dctL ds =>
    obtain ⟨q, ob, vs, e1, e2, r⟩ := h
    exact ⟨q, ob, vs, hi.trans e1, (hh q e1).trans e2, r.car c⟩
theorem Rep.notBar (rep : Rep K B io R H) (hp : H p = none) : ¬ bars B io p := fun z => by
  rcases z with z | z
  · obtain ⟨o, e⟩ := rep.bt p z
    rw [hp] at e
    cases e
  · obtain ⟨o, e⟩ := rep.has z
    rw [hp] at e
    cases e
theorem Step.add {o : HO} (hp : H p = none) : Step io H io (upd H p o) where
  fr := fun a u h _ => by
    rw [upd_ne (ne_of_none h hp)]
    exact h
  nw := fun a h => .inl h
  tr := fun a u h => ⟨u, by
    rw [upd_ne (ne_of_none h hp)]
    exact h⟩
  le := Nat.le_refl _
  ix := fun _ _ => .inl rfl
  fz := fun a ob u h => by
    rw [upd_ne (ne_of_none h hp)]
    exact h
/-- the same places, a heap that only grew or changed elsewhere -/
theorem Rep.more {H1 : Hp} (rep : Rep K B io R H) (st : Step io H io H1) (hh : ∀ q, ran io q → H1 q = H q) : Rep K B io R H1 where
  len := rep.len
  inj := rep.inj
  bt := fun a h => by
    obtain ⟨o, e⟩ := rep.bt a h
    exact st.tr a o e
  bd := rep.bd
  obj := fun i o e => (rep.obj i o e).car (st.car rep) rfl fun q hq => hh q (ran_at hq)
theorem Rep.add {o : HO} (rep : Rep K B io R H) (hp : H p = none) : Rep K B io R (upd H p o) :=
  rep.more (Step.add hp) fun q hq => by
    obtain ⟨u, e⟩ := rep.has hq
    rw [upd_ne (ne_of_none e hp)]
theorem Step.push {o : HO} (rep : Rep K B io R H) (hp : H p = none) : Step io H (io ++ [some p]) (upd H p o) where
  fr := (Step.add (io := io) hp).fr
  nw := fun a h => by
    rcases List.mem_append.mp h with h | h
    · exact .inl h
    · have e : some a = some p := by simpa using h
      cases e
      exact .inr hp
  tr := (Step.add (io := io) (o := o) hp).tr
  le := by simp
  ix := fun i h => .inl (by rw [List.getElem?_append_left h])
  fz := (Step.add (io := io) hp).fz
theorem Rep.push {o : O} {ho : HO} (rep : Rep K B io R H) (hp : H p = none) (h : RO K (bars B (io ++ [some p])) (io ++ [some p]) (upd H p ho) io.length o) : Rep K B (io ++ [some p]) (R ++ [o]) (upd H p ho) where
  len := by simp [rep.len]
  inj := fun i j q h1 h2 => by
    have at_ : ∀ k : Nat, (io ++ [some p])[k]? = some (some q) → io[k]? = some (some q) ∨ (k = io.length ∧ q = p) := fun k hk => by
      by_cases hl : k < io.length
      · rw [List.getElem?_append_left hl] at hk
        exact .inl hk
      · rw [List.getElem?_append_right (by omega)] at hk
        have : k - io.length = 0 := by
          have := (List.getElem?_eq_some_iff.mp hk).1
          simp at this
          omega
        rw [this] at hk
        have e : some p = some q := by simpa using hk
        cases e
        exact .inr ⟨by omega, rfl⟩
    have no : ∀ k : Nat, io[k]? = some (some q) → q ≠ p := fun k hk e => by
      obtain ⟨u, eu⟩ := rep.has (ran_at hk)
      rw [e, hp] at eu
      cases eu
    rcases at_ i h1 with a | ⟨a, a'⟩
    · rcases at_ j h2 with b | ⟨b, b'⟩
      · exact rep.inj i j q a b
      · exact absurd b' (no i a)
    · rcases at_ j h2 with b | ⟨b, b'⟩
      · exact absurd a' (no j b)
      · omega
  bt := fun a h => by
    obtain ⟨o, e⟩ := rep.bt a h
    exact (Step.push (o := ho) rep hp).tr a o e
  bd := fun a h z => by
    rcases List.mem_append.mp h with h | h
    · exact rep.bd a h z
    · have e : some a = some p := by simpa using h
      cases e
      exact rep.notBar hp (.inl z)
  obj := fun i u e => by
    by_cases hl : i < R.length
    · rw [List.getElem?_append_left hl] at e
      have hl' : i < io.length := by rw [rep.len]; exact hl
      refine (rep.obj i u e).car ((Step.push rep hp).car rep) (List.getElem?_append_left hl') fun q hq => ?_
      obtain ⟨w, ew⟩ := rep.has (ran_at hq)
      rw [upd_ne (ne_of_none ew hp)]
    · rw [List.getElem?_append_right (by omega)] at e
      have hi := (List.getElem?_eq_some_iff.mp e).1
      have hz : i - R.length = 0 := by
        simp at hi
        omega
      rw [hz] at e
      have e' : o = u := by simpa using e
      cases e'
      have : i = io.length := by rw [rep.len]; omega
      rw [this]
      exact h
/-- an object of the region is changed -/
theorem Step.mut {i : Nat} {o : HO} (hi : io[i]? = some (some p)) (hf : ∀ ob u, H p ≠ some (.frz ob u)) : Step io H io (upd H p o) where
  fz := fun a ob u h => by
    rw [upd_ne (fun e => hf ob u (by rw [← e]; exact h))]
    exact h
  fr := fun a u h n => by
    rw [upd_ne (fun e => n (by rw [e]; exact ran_at hi))]
    exact h
  nw := fun a h => .inl h
  tr := fun a u h => by
    by_cases e : a = p
    · rw [e, upd_same]
      exact ⟨_, rfl⟩
    · rw [upd_ne e]
      exact ⟨u, h⟩
  le := Nat.le_refl _
  ix := fun _ _ => .inl rfl
theorem Rep.mut {i : Nat} {o : O} {ho : HO} (rep : Rep K B io R H) (hi : io[i]? = some (some p)) (hf : ∀ ob u, H p ≠ some (.frz ob u)) (h : RO K (bars B io) io (upd H p ho) i o) : Rep K B io (R.set i o) (upd H p ho) where
  len := by rw [List.length_set]; exact rep.len
  inj := rep.inj
  bt := fun a h => by
    obtain ⟨o, e⟩ := rep.bt a h
    exact (Step.mut (o := ho) hi hf).tr a o e
  bd := rep.bd
  obj := fun j u e => by
    by_cases hj : i = j
    · subst hj
      have hl : i < R.length := by
        rw [← rep.len]
        exact (List.getElem?_eq_some_iff.mp hi).1
      rw [List.getElem?_set_self hl] at e
      cases e
      exact h
    · rw [List.getElem?_set_ne hj] at e
      refine (rep.obj j u e).car ((Step.mut hi hf).car rep) rfl fun q hq => ?_
      rw [upd_ne]
      intro z
      rw [z] at hq
      exact hj (rep.inj i j p hi hq)
theorem Rep.atLst (rep : Rep K B io R H) {i : Nat} {ds : List D} (h : R[i]? = some (.lst ds)) : ∃ p vs, io[i]? = some (some p) ∧ H p = some (.lst vs) ∧ RDs K (bars B io) io H ds vs := rep.obj i _ h
theorem Rep.atDct (rep : Rep K B io R H) {i : Nat} {ds : List (D × D)} (h : R[i]? = some (.dct ds)) : ∃ p vs, io[i]? = some (some p) ∧ H p = some (.dK vs) ∧ RKs K (bars B io) io H ds vs := rep.obj i _ h
theorem Rep.atDctL (rep : Rep K B io R H) {i : Nat} {ds : List (D × D)} (h : R[i]? = some (.dctL ds)) : ∃ p o vs, io[i]? = some (some p) ∧ H p = some (.frz o (.dK vs)) ∧ RKs K (bars B io) io H ds vs := rep.obj i _ h
theorem nofz {o : HO} (h : H p = some o) (d : ∀ ob u, o ≠ .frz ob u) : ∀ ob u, H p ≠ some (.frz ob u) := fun ob u e => by
  rw [h] at e
  cases e
  exact d _ _ rfl
theorem Rep.atIns (rep : Rep K B io R H) {i c : Nat} {fs : List (Nat × D)} (h : R[i]? = some (.ins c fs)) : ∃ p dx vs, io[i]? = some (some p) ∧ H p = some (.ins (He.ga K (clN c)) dx vs) ∧ RFs K (bars B io) io H fs vs := rep.obj i _ h
theorem RDs.len {bar : Addr → Prop} : ∀ {ds : List D} {vs : List V}, RDs K bar io H ds vs → ds.length = vs.length
  | _, _, .nil => rfl
  | _, _, .cons _ t => congrArg (· + 1) (RDs.len t)
theorem RDs.cons_inv {bar : Addr → Prop} {ds : List D} {v : V} {vs : List V} (h : RDs K bar io H ds (v :: vs)) : ∃ d ds', ds = d :: ds' ∧ RD K bar io H d v ∧ RDs K bar io H ds' vs := by
  cases h with
  | cons r t => exact ⟨_, _, rfl, r, t⟩
theorem RDs.nil_inv {bar : Addr → Prop} {ds : List D} (h : RDs K bar io H ds []) : ds = [] := by
  cases h
  rfl
theorem RKs.len {bar : Addr → Prop} : ∀ {ds : List (D × D)} {vs : List (Key × V)}, RKs K bar io H ds vs → ds.length = vs.length
  | _, _, .nil => rfl
  | _, _, .cons _ _ t => congrArg (· + 1) (RKs.len t)
/-- a list, wherever it stands -/
theorem RD.list {d : D} {v : V} {ds : List D} (rep : Rep K B io R H) (r : RD K (bars B io) io H d v) (e : lstOf R d = some ds) : ∃ a vs, v = .ref a ∧ SqL K H a vs ∧ RDs K (bars B io) io H ds vs := by
  cases r with
  | lst h r =>
    cases e
    exact ⟨_, _, rfl, h.sq, r⟩
  | @ref i a hi q =>
    rw [lstOf_ref] at e
    cases e1 : R[i]? with
    | none =>
      rw [e1] at e
      cases e
    | some o =>
      rw [e1] at e
      cases o with
      | lst ys =>
        cases e
        obtain ⟨p, vs, h1, h2, r⟩ := rep.atLst e1
        rw [← q p h1]
        exact ⟨p, vs, rfl, .inl (.inl h2), r⟩
      | _ => cases e
  | _ => cases e
theorem RD.seq {d : D} {v : V} {ds : List D} (rep : Rep K B io R H) (r : RD K (bars B io) io H d v) (e : seqOf R d = some ds) : ∃ a vs, v = .ref a ∧ (SqL K H a vs ∨ SqT K H a vs) ∧ RDs K (bars B io) io H ds vs := by
  cases r with
  | tup h r =>
    cases e
    exact ⟨_, _, rfl, .inr h, r⟩
  | lst h r =>
    cases e
    exact ⟨_, _, rfl, .inl h.sq, r⟩
  | ref hi q =>
    obtain ⟨a, vs, e1, h, r⟩ := RD.list rep (.ref hi q) e
    exact ⟨a, vs, e1, .inl h, r⟩
  | _ => cases e
theorem RD.dict {d : D} {v : V} {ks : List (D × D)} (rep : Rep K B io R H) (r : RD K (bars B io) io H d v) (e : dctOf R d = some ks) : ∃ a kvs, v = .ref a ∧ Rd H a (.dK kvs) ∧ RKs K (bars B io) io H ks kvs := by
  cases r with
  | dct n h r =>
    cases e
    exact ⟨_, _, rfl, h, r⟩
  | @ref i a hi q =>
    rw [dctOf_ref] at e
    cases e1 : R[i]? with
    | none =>
      rw [e1] at e
      cases e
    | some o =>
      rw [e1] at e
      cases o with
      | dct ys =>
        cases e
        obtain ⟨p, vs, h1, h2, r⟩ := rep.atDct e1
        rw [← q p h1]
        exact ⟨p, vs, rfl, .inl h2, r⟩
      | dctL ys =>
        cases e
        obtain ⟨p, ob, vs, h1, h2, r⟩ := rep.atDctL e1
        rw [← q p h1]
        exact ⟨p, vs, rfl, .inr ⟨ob, h2⟩, r⟩
      | _ => cases e
  | _ => cases e
/-- a new list -/
theorem mkL_ok {m : Bool} {ds : List D} {vs : List V} {d : D} {R' : Rg} (rep : Rep K B io R H) (hp : H p = none) (r : RDs K (bars B io) io H ds vs) (e : mkL m ds R = some (d, R')) :
    ∃ io', Step io H io' (upd H p (.lst vs)) ∧ Rep K B io' R' (upd H p (.lst vs)) ∧ RD K (bars B io') io' (upd H p (.lst vs)) d (.ref p) := by
  unfold mkL at e
  split at e
  · split at e
    · cases e
      refine ⟨io ++ [some p], Step.push rep hp, rep.push hp ⟨p, vs, by simp, upd_same, r.car ((Step.push rep hp).car rep)⟩, .ref (by rw [← rep.len]; simp) fun q hq => ?_⟩
      rw [← rep.len] at hq
      have e : some p = some q := by simpa using hq
      cases e
      rfl
    · cases e
      have st : Step io H io (upd H p (.lst vs)) := Step.add hp
      exact ⟨io, st, rep.add hp, .lst (.inl ⟨rep.notBar hp, .inl upd_same⟩) (r.car (st.car rep))⟩
  · cases e
theorem mkK_ok {m : Bool} {ds : List (D × D)} {vs : List (Key × V)} {d : D} {R' : Rg} (rep : Rep K B io R H) (hp : H p = none) (r : RKs K (bars B io) io H ds vs) (e : mkK m ds R = some (d, R')) :
    ∃ io', Step io H io' (upd H p (.dK vs)) ∧ Rep K B io' R' (upd H p (.dK vs)) ∧ RD K (bars B io') io' (upd H p (.dK vs)) d (.ref p) := by
  unfold mkK at e
  split at e
  · split at e
    · cases e
      refine ⟨io ++ [some p], Step.push rep hp, rep.push hp ⟨p, vs, by simp, upd_same, r.car ((Step.push rep hp).car rep)⟩, .ref (by rw [← rep.len]; simp) fun q hq => ?_⟩
      rw [← rep.len] at hq
      have e : some p = some q := by simpa using hq
      cases e
      rfl
    · cases e
      have st : Step io H io (upd H p (.dK vs)) := Step.add hp
      exact ⟨io, st, rep.add hp, .dct (rep.notBar hp) (.inl upd_same) (r.car (st.car rep))⟩
  · cases e
theorem mkL_len {m : Bool} {ds : List D} {d : D} {R' : Rg} (e : mkL m ds R = some (d, R')) : ds.length ≤ sizeLine := by
  unfold mkL at e
  split at e
  · rename_i h
    exact h
  · cases e
theorem mkK_len {m : Bool} {ds : List (D × D)} {d : D} {R' : Rg} (e : mkK m ds R = some (d, R')) : ds.length ≤ sizeLine := by
  unfold mkK at e
  split at e
  · rename_i h
    exact h
  · cases e
/-- a new tuple -/
theorem tup_ok {ds : List D} {vs : List V} (rep : Rep K B io R H) (hp : H p = none) (r : RDs K (bars B io) io H ds vs) :
    Step io H io (upd H p (.tup vs)) ∧ Rep K B io R (upd H p (.tup vs)) ∧ RD K (bars B io) io (upd H p (.tup vs)) (.tup ds) (.ref p) :=
  have st : Step io H io (upd H p (.tup vs)) := Step.add hp
  ⟨st, rep.add hp, .tup (.inl (.inl upd_same)) (r.car (st.car rep))⟩
end
end Om
/-! Om, part C: readings of state functions. -/
namespace Om
open PySem PySem.Spec PyProof.Rows L2
abbrev S := L2.St
/-! ### combinators -/
def lift {A : Type} (o : Option (A × Rg)) : Res A := match o with
  | some (a, R) => .ok a R
  | none => .err
def cErr : SE := fun _ _ => .err
def cCon (d : D) : SE := fun _ R => .ok d R
def cVar (i : Nat) : SE := fun s R => match s[i]? with
  | some .undef => .err
  | some d => .ok d R
  | none => .err
def cNil : SA := fun _ R => .ok [] R
def cCons (a : SE) (r : SA) : SA := fun s R => (a s R).bind fun d R1 => (r s R1).bind fun ds R2 => .ok (d :: ds) R2
abbrev P1 := D → Rg → Option (D × Rg)
abbrev P2 := D → D → Rg → Option (D × Rg)
abbrev PN := List D → Rg → Option (D × Rg)
def cOp1 (p : P1) (a : SE) : SE := fun s R => (a s R).bind fun x R1 => lift (p x R1)
def cOp2 (p : P2) (a b : SE) : SE := fun s R => (a s R).bind fun x R1 => (b s R1).bind fun y R2 => lift (p x y R2)
def cOpN (p : PN) (a : SA) : SE := fun s R => (a s R).bind fun xs R1 => lift (p xs R1)
def cIf (c : SB) (a b : SE) : SE := fun s R => (c s R).bind fun k R1 => if k = true then a s R1 else b s R1
def cAnd (a b : SE) : SE := fun s R => (a s R).bind fun x R1 => match x with
  | .bl true => b s R1
  | .bl false => .ok (.bl false) R1
  | _ => .err
def cOr (a b : SE) : SE := fun s R => (a s R).bind fun x R1 => match x with
  | .bl true => .ok (.bl true) R1
  | .bl false => b s R1
  | _ => .err
def bVal (a : SE) : SB := fun s R => (a s R).bind fun x R1 => match truD R1 x with
  | some k => .ok k R1
  | none => .err
def bAnd (a b : SB) : SB := fun s R => (a s R).bind fun k R1 => if k = true then b s R1 else .ok false R1
def bOr (a b : SB) : SB := fun s R => (a s R).bind fun k R1 => if k = true then .ok true R1 else b s R1
def bNot (a : SB) : SB := fun s R => (a s R).bind fun k R1 => .ok (!k) R1
def cBool (a : SB) : SE := fun s R => (a s R).bind fun k R1 => .ok (.bl k) R1
/-! ### what is wanted behind -/
def exFld (c : Nat) : Str := if c = 17 then "row" else "at"
def RX (K : PySem.W.Frag) (bar : Addr → Prop) (io : Io) (H : Hp) (c : Nat) (f : D) (cls : Value) (d : Option Addr) : Prop :=
  cls = .ref (He.ga K (exN c)) ∧ ((f = .undef ∧ d = none) ∨ ∃ dx v, d = some dx ∧ H dx = some (.xd [(exFld c, v)]) ∧ RD K bar io H f v)
abbrev Rel (A Z : Type) := (Addr → Prop) → Io → Hp → A → Z → Prop
section
variable (K : PySem.W.Frag) (B : Addr → Prop) (io : Io) (H : Hp) (W : WX) (σ : S)
def Pst {A Z : Type} (rel : Rel A Z) (r : Res A) (Q : Z → Hp → Prop) : Prop := match r with
  | .ok a R' => ∀ io' H' b, Step io H io' H' → Rep K B io' R' H' → rel (bars B io') io' H' a b → Q b H'
  | .exc c f R' => ∀ io' H' cls d, Step io H io' H' → Rep K B io' R' H' → RX K (bars B io') io' H' c f cls d → W cls d σ H'
  | .err => False
end
/-- a state that is told -/
def Told (K : PySem.W.Frag) (W : WX) (σ : S) (H : Hp) {A Z : Type} (rel : Rel A Z) (vs : List V) (m : List D → List D → Rg → Res A) (Q : Z → Hp → Prop) : Prop :=
  ∃ B io R s ds, Rep K B io R H ∧ RS K (bars B io) io H s σ ∧ RDs K (bars B io) io H ds vs ∧ Pst K B io H W σ rel (m ds s R) Q
def tE (K : PySem.W.Frag) (W : WX) (m : SE) : TE := fun σ H Q => Told K W σ H (RD K) [] (fun _ => m) Q
def tB (K : PySem.W.Frag) (W : WX) (m : SB) : TT := fun σ H Q => Told K W σ H (fun _ _ _ a b => a = b) [] (fun _ => m) Q
def tA (K : PySem.W.Frag) (W : WX) (m : SA) : TA := fun σ H Q => Told K W σ H (RDs K) [] (fun _ => m) Q
/-- an operation by values, that raises nothing -/
def rN (K : PySem.W.Frag) (p : PN) (vs : List V) (H : Hp) (Q : VK) : Prop :=
  ∃ B io R ds, Rep K B io R H ∧ RDs K (bars B io) io H ds vs ∧ match p ds R with
    | some (d, R') => ∀ io' H' v, Step io H io' H' → Rep K B io' R' H' → RD K (bars B io') io' H' d v → Q v H'
    | none => False
def pn1 (p : P1) : PN := fun ds R => match ds with
  | [x] => p x R
  | _ => none
def pn2 (p : P2) : PN := fun ds R => match ds with
  | [x, y] => p x y R
  | _ => none
section
variable {K : PySem.W.Frag} {W : WX} {σ : S} {H : Hp} {A Z A' Z' : Type}
theorem Pst.shift {B : Addr → Prop} {io io1 : Io} {H1 : Hp} {rel : Rel A Z} {r : Res A} {Q : Z → Hp → Prop} (st : Step io H io1 H1) (h : Pst K B io H W σ rel r Q) : Pst K B io1 H1 W σ rel r Q := by
  cases r with
  | ok a R => exact fun io' H' b st' rep q => h io' H' b (st.trans st') rep q
  | exc c f R => exact fun io' H' cls d st' rep q => h io' H' cls d (st.trans st') rep q
  | err => exact h
theorem Pst.imp {B : Addr → Prop} {io : Io} {rel : Rel A Z} {r : Res A} {Q Q' : Z → Hp → Prop} (h : Pst K B io H W σ rel r Q) (hq : ∀ b H', Q b H' → Q' b H') : Pst K B io H W σ rel r Q' := by
  cases r with
  | ok a R => exact fun io' H' b st' rep q => hq _ _ (h io' H' b st' rep q)
  | exc c f R => exact h
  | err => exact h
theorem Pst.bind {B : Addr → Prop} {io : Io} {rel : Rel A Z} {rel' : Rel A' Z'} {r : Res A'} {f : A' → Rg → Res A} {Q : Z → Hp → Prop} (p : Pst K B io H W σ rel (r.bind f) Q) :
    Pst K B io H W σ rel' r fun b H1 => ∃ io1 R1 a, Step io H io1 H1 ∧ Rep K B io1 R1 H1 ∧ rel' (bars B io1) io1 H1 a b ∧ Pst K B io1 H1 W σ rel (f a R1) Q := by
  cases r with
  | ok a R => exact fun io1 H1 b st rep q => ⟨io1, R, a, st, rep, q, Pst.shift st p⟩
  | exc c f R => exact p
  | err => exact p
theorem RDs.append {bar : Addr → Prop} {io : Io} : ∀ {ds es : List D} {vs ws : List V}, RDs K bar io H ds vs → RDs K bar io H es ws → RDs K bar io H (ds ++ es) (vs ++ ws)
  | _, _, _, _, .nil, b => b
  | _, _, _, _, .cons r t, b => .cons r (RDs.append t b)
/-- one part is run; its value is held -/
theorem Told.eval {rel : Rel A Z} {vs : List V} {m : SE} {F : List D → List D → Rg → Res A} {Q : Z → Hp → Prop}
    (h : Told K W σ H rel vs (fun ds s R => (m s R).bind fun d R1 => F (ds ++ [d]) s R1) Q) : tE K W m σ H fun v H1 => Told K W σ H1 rel (vs ++ [v]) F Q := by
  obtain ⟨B, io, R, s, ds, rep, rs, rd, p⟩ := h
  refine ⟨B, io, R, s, [], rep, rs, .nil, (Pst.bind (rel' := RD K) p).imp fun v H1 ⟨io1, R1, d, st, rep1, q, p1⟩ => ?_⟩
  have c := st.car rep
  exact ⟨B, io1, R1, s, ds ++ [d], rep1, rs.car c, (rd.car c).append (.cons q .nil), p1⟩
theorem Told.evalB {rel : Rel A Z} {vs : List V} {m : SB} {F : Bool → List D → List D → Rg → Res A} {Q : Z → Hp → Prop}
    (h : Told K W σ H rel vs (fun ds s R => (m s R).bind fun k R1 => F k ds s R1) Q) : tB K W m σ H fun k H1 => Told K W σ H1 rel vs (F k) Q := by
  obtain ⟨B, io, R, s, ds, rep, rs, rd, p⟩ := h
  refine ⟨B, io, R, s, [], rep, rs, .nil, (Pst.bind (rel' := fun _ _ _ a b => a = b) p).imp fun v H1 ⟨io1, R1, d, st, rep1, q, p1⟩ => ?_⟩
  have c := st.car rep
  subst q
  exact ⟨B, io1, R1, s, ds, rep1, rs.car c, rd.car c, p1⟩
theorem Told.evalA {rel : Rel A Z} {vs : List V} {m : SA} {F : List D → List D → Rg → Res A} {Q : Z → Hp → Prop}
    (h : Told K W σ H rel vs (fun ds s R => (m s R).bind fun es R1 => F (ds ++ es) s R1) Q) : tA K W m σ H fun us H1 => Told K W σ H1 rel (vs ++ us) F Q := by
  obtain ⟨B, io, R, s, ds, rep, rs, rd, p⟩ := h
  refine ⟨B, io, R, s, [], rep, rs, .nil, (Pst.bind (rel' := RDs K) p).imp fun v H1 ⟨io1, R1, d, st, rep1, q, p1⟩ => ?_⟩
  have c := st.car rep
  exact ⟨B, io1, R1, s, ds ++ d, rep1, rs.car c, (rd.car c).append q, p1⟩
/-- the end: an operation -/
theorem Told.op {vs : List V} {p : PN} {Q : VK} (h : Told K W σ H (RD K) vs (fun ds _ R => lift (p ds R)) Q) : rN K p vs H Q := by
  obtain ⟨B, io, R, s, ds, rep, rs, rd, q⟩ := h
  have q : Pst K B io H W σ (RD K) (lift (p ds R)) Q := q
  refine ⟨B, io, R, ds, rep, rd, ?_⟩
  cases e : p ds R with
  | none =>
    rw [e] at q
    exact q
  | some x =>
    rw [e] at q
    exact q
theorem Told.imp {rel : Rel A Z} {vs : List V} {m : List D → List D → Rg → Res A} {Q Q' : Z → Hp → Prop} (h : Told K W σ H rel vs m Q) (hq : ∀ b H', Q b H' → Q' b H') : Told K W σ H rel vs m Q' := by
  obtain ⟨B, io, R, s, ds, rep, rs, rd, p⟩ := h
  exact ⟨B, io, R, s, ds, rep, rs, rd, p.imp hq⟩
end
section
variable {X : Cx} {W : WX} {e a b c : Expr} {pos : Pos} {ma mb mc : SE} {kb : SB}
theorem _root_.L2.PE.imp {t t' : TE} (h : PE X e t) (i : ∀ σ H Q, t' σ H Q → t σ H Q) : PE X e t' := ⟨fun pins s σ H Q I q => h.run pins s σ H Q I (i σ H Q q)⟩
theorem _root_.L2.PT.imp {t t' : TT} (h : PT X e t) (i : ∀ σ H Q, t' σ H Q → t σ H Q) : PT X e t' := ⟨fun pins s σ H Q I q => h.run pins s σ H Q I (i σ H Q q)⟩
theorem _root_.L2.PW.imp {t t' : TT} (h : PW X e t) (i : ∀ σ H Q, t' σ H Q → t σ H Q) : PW X e t' := ⟨fun whole pins s σ H Q I q => h.run whole pins s σ H Q I (i σ H Q q)⟩
theorem _root_.L2.PA.imp {es : List Expr} {t t' : TA} (h : PA X es t) (i : ∀ σ H Q, t' σ H Q → t σ H Q) : PA X es t' := ⟨fun pos pins s σ H Q I q => h.run pos pins s σ H Q I (i σ H Q q)⟩
theorem _root_.L2.PS.imp {st : Stmt} {t t' : TS} (h : PS X st t) (i : ∀ D σ H, t' D σ H → t D σ H) : PS X st t' := ⟨fun pins s σ H D I q => h.run pins s σ H D I (i D σ H q)⟩
theorem _root_.L2.PSs.imp {st : List Stmt} {t t' : TS} (h : PSs X st t) (i : ∀ D σ H, t' D σ H → t D σ H) : PSs X st t' := ⟨fun pins s σ H D I q => h.run pins s σ H D I (i D σ H q)⟩
theorem err_false {K : PySem.W.Frag} {σ : S} {H : Hp} {A Z : Type} {rel : Rel A Z} {vs : List V} {Q : Z → Hp → Prop} {m : List D → List D → Rg → Res A} (hm : ∀ ds s R, m ds s R = .err) (h : Told K W σ H rel vs m Q) : False := by
  obtain ⟨B, io, R, s, ds, _, _, _, p⟩ := h
  rw [hm] at p
  exact p
theorem se_err : PE X e (tE X.K W cErr) := ⟨fun _ _ _ _ _ _ h => (err_false (fun _ _ _ => rfl) h).elim⟩
theorem se_con {d : D} {v : V} (h : PE X e (tC v)) (r : ∀ bar io H, RD X.K bar io H d v) : PE X e (tE X.K W (cCon d)) := h.imp fun σ H Q q => by
  obtain ⟨B, io, R, s, ds, rep, rs, _, p⟩ := q
  exact p io H v (Step.refl _ _) rep (r _ _ _)
theorem se_var {i : Nat} (h : PE X e (tVar i)) : PE X e (tE X.K W (cVar i)) := h.imp fun σ H Q q => by
  obtain ⟨B, io, R, s, ds, rep, rs, _, p⟩ := q
  have p : Pst X.K B io H W σ (RD X.K) (cVar i s R) Q := p
  unfold cVar at p
  cases e : s[i]? with
  | none =>
    rw [e] at p
    exact p.elim
  | some d =>
    rw [e] at p
    obtain ⟨o, e1, q⟩ := rs.2 i d e
    rcases q with q | ⟨v, e2, q⟩
    · subst q
      exact p.elim
    · subst e2
      refine ⟨v, e1, ?_⟩
      have p2 : Pst X.K B io H W σ (RD X.K) (.ok d R) Q := by
        cases d with
        | undef => exact p.elim
        | _ => exact p
      exact p2 io H v (Step.refl _ _) rep q
theorem se_op2 {f : Value → Value → Sem Value} {p : P2} {mk : Expr} (hb : ∀ ta tb r, PE X a ta → PE X b tb → OpR X f r → PE X mk (tOp r ta tb)) (ho : OpR X f (fun x y H Q => rN X.K (pn2 p) [x, y] H Q))
    (h1 : PE X a (tE X.K W ma)) (h2 : PE X b (tE X.K W mb)) : PE X mk (tE X.K W (cOp2 p ma mb)) :=
  (hb _ _ _ h1 h2 ho).imp fun σ H Q q => by
    have q0 : tE X.K W (cOp2 p ma mb) σ H Q → Told X.K W σ H (RD X.K) [] (fun ds s R => (ma s R).bind fun x R1 => (mb s R1).bind fun y R2 => lift (pn2 p (ds ++ [x] ++ [y]) R2)) Q := by
      rintro ⟨B, io, R, s, ds, rep, rs, rd, t⟩
      cases rd
      exact ⟨B, io, R, s, [], rep, rs, .nil, t⟩
    have z := Told.eval (K := X.K) (W := W) (σ := σ) (H := H) (rel := RD X.K) (vs := []) (m := ma) (F := fun ds s R => (mb s R).bind fun y R2 => lift (pn2 p (ds ++ [y]) R2)) (Q := Q) (q0 q)
    exact z.imp fun v H1 t => (Told.eval (vs := [v]) (m := mb) (F := fun ds s R => lift (pn2 p ds R)) t).imp fun w H2 t => Told.op t
end
end Om
/-! Om, part D: == and < of data. -/
namespace Om
open PySem PySem.Spec PyProof.Rows L2
mutual
def toP : D → PyData
  | .int i => .int i
  | .str x => .str (strOf x)
  | .tup xs => .tuple (toPs xs)
  | .lst xs => .list (toPs xs)
  | _ => .none
def toPs : List D → List PyData
  | [] => []
  | x :: xs => toP x :: toPs xs
end
section
variable {K : PySem.W.Frag} {B : Addr → Prop} {io : Io} {R : Rg} {H : Hp}
mutual
theorem dp_pure {bar : Addr → Prop} : ∀ {d : D} {v : V} {m : Nat}, RD K bar io H d v → eqOk m d = true → Dp K H v (toP d)
  | _, _, _, .non, _ => .non
  | _, _, _, .int i, _ => .int i
  | _, _, _, .str x, _ => .str _
  | .tup xs, _, m + 1, .tup h r, e => .tup h (dp_pures r (show eqOks m xs = true by simpa [eqOk] using e))
  | .lst xs, _, m + 1, .lst h r, e => .lst h.sq (dp_pures r (show eqOks m xs = true by simpa [eqOk] using e))
  | _, _, 0, .tup h r, e => by simp [eqOk] at e
  | _, _, 0, .lst h r, e => by simp [eqOk] at e
  | _, _, m, .bl _, e => by cases m <;> simp [eqOk] at e
  | _, _, m, .byt _, e => by cases m <;> simp [eqOk] at e
  | _, _, m, .ty _, e => by cases m <;> simp [eqOk] at e
  | _, _, m, .glo _, e => by cases m <;> simp [eqOk] at e
  | _, _, m, .dct _ _ _, e => by cases m <;> simp [eqOk] at e
  | _, _, m, .ins _ _ _, e => by cases m <;> simp [eqOk] at e
  | _, _, m, .ref _ _, e => by cases m <;> simp [eqOk] at e
theorem dp_pures {bar : Addr → Prop} : ∀ {ds : List D} {vs : List V} {m : Nat}, RDs K bar io H ds vs → eqOks m ds = true → DpAll K H vs (toPs ds)
  | _, _, _, .nil, _ => .nil
  | x :: xs, _, m, .cons r t, e => by
    have e' : eqOk m x = true ∧ eqOks m xs = true := by simpa [eqOks] using e
    exact .cons (dp_pure r e'.1) (dp_pures t e'.2)
end
theorem dp_map {bar : Addr → Prop} {f : D → Option D} {m : Nat} (hf : ∀ d v a, f d = some a → RD K bar io H d v → eqOk m a = true → Dp K H v (toP a)) : ∀ {ds : List D} {vs : List V} {as : List D}, ds.mapM f = some as → RDs K bar io H ds vs → eqOks m as = true → DpAll K H vs (toPs as)
  | [], _, as, e, .nil, _ => by
    cases e
    exact .nil
  | d :: ds, _, as, e, .cons r t, k => by
    rw [List.mapM_cons] at e
    cases e1 : f d with
    | none =>
      rw [e1] at e
      cases e
    | some a =>
      rw [e1] at e
      cases e2 : ds.mapM f with
      | none =>
        rw [e2] at e
        cases e
      | some bs =>
        rw [e2] at e
        cases e
        have k' : eqOk m a = true ∧ eqOks m bs = true := by simpa [eqOks] using k
        exact .cons (hf d _ a e1 r k'.1) (dp_map hf e2 t k'.2)
theorem dp_snap (rep : Rep K B io R H) : ∀ (n : Nat) {d : D} {v : V} {a : D} {m : Nat}, snapN n R d = some a → RD K (bars B io) io H d v → eqOk m a = true → Dp K H v (toP a)
  | 0, d, v, a, m, e, r, k => by
    unfold snapN at e
    split at e
    · cases e
      exact dp_pure r k
    · cases e
  | n + 1, d, v, a, m, e, r, k => by
    unfold snapN at e
    split at e
    · cases e
      exact dp_pure r k
    · have no : ∀ (ks : List (D × D)), ¬ eqOk m (.dct ks) = true := fun ks z => by cases m <;> simp [eqOk] at z
      have no2 : ∀ (c : Nat) (ks : List (Nat × D)), ¬ eqOk m (.ins c ks) = true := fun c ks z => by cases m <;> simp [eqOk] at z
      have list : ∀ {xs : List D} {vs : List V} {b : Addr}, SqL K H b vs → RDs K (bars B io) io H xs vs → (xs.mapM (snapN n R)).map D.lst = some a → Dp K H (.ref b) (toP a) := fun {xs vs b} h r e => by
        obtain ⟨ys, e1, e2⟩ := Option.map_eq_some_iff.mp e
        subst e2
        cases m with
        | zero => simp [eqOk] at k
        | succ m => exact .lst h (dp_map (fun d v a e r k => dp_snap rep n e r k) e1 r (by simpa [eqOk] using k))
      cases r with
      | tup h r =>
        obtain ⟨ys, e1, e2⟩ := Option.map_eq_some_iff.mp e
        subst e2
        cases m with
        | zero => simp [eqOk] at k
        | succ m => exact .tup h (dp_map (fun d v a e r k => dp_snap rep n e r k) e1 r (by simpa [eqOk] using k))
      | lst h r => exact list h.sq r e
      | @ref i b hi q =>
        cases e1 : R[i]? with
        | none =>
          simp only [e1] at e
          cases e
        | some o =>
          simp only [e1] at e
          cases o with
          | lst xs =>
            obtain ⟨p, vs, h1, h2, r⟩ := rep.atLst e1
            rw [← q p h1]
            exact list (.inl (.inl h2)) r e
          | dct ks =>
            obtain ⟨ys, e1, e2⟩ := Option.map_eq_some_iff.mp e
            subst e2
            exact absurd k (no _)
          | ins c ks =>
            obtain ⟨ys, e1, e2⟩ := Option.map_eq_some_iff.mp e
            subst e2
            exact absurd k (no2 _ _)
          | _ => cases e
      | dct _ _ _ =>
        obtain ⟨ys, e1, e2⟩ := Option.map_eq_some_iff.mp e
        subst e2
        exact absurd k (no _)
      | ins _ _ _ =>
        obtain ⟨ys, e1, e2⟩ := Option.map_eq_some_iff.mp e
        subst e2
        exact absurd k (no2 _ _)
      | _ => cases e
end
mutual
theorem toP_eqv : ∀ {m n : Nat} {a b : D}, eqOk m a = true → eqOk n b = true → PyData.eqv (toP a) (toP b) = decide (a = b)
  | m, n, .non, b, h, k => by cases b <;> simp [toP, PyData.eqv] <;> (cases n <;> simp [eqOk] at k)
  | m, n, .int i, b, h, k => by
    cases b <;> simp [toP, PyData.eqv] <;> first
      | (cases n <;> simp [eqOk] at k; done)
      | exact Bool.beq_eq_decide_eq _ _
      | rfl
  | m, n, .str i, b, h, k => by
    cases b <;> simp [toP, PyData.eqv] <;> first
      | (cases n <;> simp [eqOk] at k; done)
      | skip
    rename_i x
    by_cases e : i = x
    · subst e
      simp
    · rw [decide_eq_false e]
      exact beq_eq_false_iff_ne.mpr fun z => e (strOf_inj z)
  | m, n, .tup xs, b, h, k => by
    cases m with
    | zero => simp [eqOk] at h
    | succ m =>
      cases b with
      | tup ys =>
        cases n with
        | zero => simp [eqOk] at k
        | succ n =>
          simp only [toP, PyData.eqv]
          rw [toPs_eqv (by simpa [eqOk] using h) (by simpa [eqOk] using k)]
          simp
      | _ => simp [toP, PyData.eqv]
  | m, n, .lst xs, b, h, k => by
    cases m with
    | zero => simp [eqOk] at h
    | succ m =>
      cases b with
      | lst ys =>
        cases n with
        | zero => simp [eqOk] at k
        | succ n =>
          simp only [toP, PyData.eqv]
          rw [toPs_eqv (by simpa [eqOk] using h) (by simpa [eqOk] using k)]
          simp
      | _ => simp [toP, PyData.eqv]
  | m, n, .undef, b, h, k => by cases m <;> simp [eqOk] at h
  | m, n, .bl _, b, h, k => by cases m <;> simp [eqOk] at h
  | m, n, .byt _, b, h, k => by cases m <;> simp [eqOk] at h
  | m, n, .ty _, b, h, k => by cases m <;> simp [eqOk] at h
  | m, n, .glo _, b, h, k => by cases m <;> simp [eqOk] at h
  | m, n, .dct _, b, h, k => by cases m <;> simp [eqOk] at h
  | m, n, .ins _ _, b, h, k => by cases m <;> simp [eqOk] at h
  | m, n, .ref _, b, h, k => by cases m <;> simp [eqOk] at h
theorem toPs_eqv : ∀ {m n : Nat} {a b : List D}, eqOks m a = true → eqOks n b = true → PyData.eqvAll (toPs a) (toPs b) = decide (a = b)
  | _, _, [], [], _, _ => by simp [toPs, PyData.eqvAll]
  | _, _, [], _ :: _, _, _ => by simp [toPs, PyData.eqvAll]
  | _, _, _ :: _, [], _, _ => by simp [toPs, PyData.eqvAll]
  | m, n, x :: xs, y :: ys, h, k => by
    have h' : eqOk m x = true ∧ eqOks m xs = true := by simpa [eqOks] using h
    have k' : eqOk n y = true ∧ eqOks n ys = true := by simpa [eqOks] using k
    simp only [toPs, PyData.eqvAll]
    rw [toP_eqv h'.1 k'.1, toPs_eqv h'.2 k'.2]
    simp
end
mutual
theorem toP_lay : ∀ {m : Nat} {a : D}, eqOk m a = true → (toP a).canLay0 = true ∧ (toP a).depth ≤ m
  | m, .non, h => by simp [toP, PyData.canLay0, PyData.depth]
  | m, .int i, h => by simp [toP, PyData.canLay0, PyData.depth]
  | m, .str x, h => by
    refine ⟨?_, by simp [toP, PyData.depth]⟩
    have h' : (x.all fun c => decide (c < 1114112)) = true := by
      cases m <;> simpa [eqOk] using h
    simp only [toP, PyData.canLay0, PyData.strOk, strOf]
    rw [← Array.all_toList]
    exact h'
  | 0, .tup xs, h => by simp [eqOk] at h
  | 0, .lst xs, h => by simp [eqOk] at h
  | m + 1, .tup xs, h => by
    have q := toPs_lay (m := m) (a := xs) (by simpa [eqOk] using h)
    simp only [toP, PyData.canLay0, PyData.depth]
    exact ⟨q.1, by omega⟩
  | m + 1, .lst xs, h => by
    have q := toPs_lay (m := m) (a := xs) (by simpa [eqOk] using h)
    simp only [toP, PyData.canLay0, PyData.depth]
    exact ⟨q.1, by omega⟩
  | m, .undef, h => by cases m <;> simp [eqOk] at h
  | m, .bl _, h => by cases m <;> simp [eqOk] at h
  | m, .byt _, h => by cases m <;> simp [eqOk] at h
  | m, .ty _, h => by cases m <;> simp [eqOk] at h
  | m, .glo _, h => by cases m <;> simp [eqOk] at h
  | m, .dct _, h => by cases m <;> simp [eqOk] at h
  | m, .ins _ _, h => by cases m <;> simp [eqOk] at h
  | m, .ref _, h => by cases m <;> simp [eqOk] at h
theorem toPs_lay : ∀ {m : Nat} {a : List D}, eqOks m a = true → PyData.canLayAll0 (toPs a) = true ∧ PyData.depthAll (toPs a) ≤ m
  | m, [], h => by simp [toPs, PyData.canLayAll0, PyData.depthAll]
  | m, x :: xs, h => by
    have h' : eqOk m x = true ∧ eqOks m xs = true := by simpa [eqOks] using h
    have q1 := toP_lay h'.1
    have q2 := toPs_lay h'.2
    simp only [toPs, PyData.canLayAll0, PyData.depthAll, q1.1, q2.1, Bool.and_self, true_and]
    omega
end
theorem toP_shaped {m : Nat} {a : D} (h : eqOk m a = true) (hm : m ≤ 64) : SeqAt.shaped (toP a) = true := by
  have q := toP_lay h
  unfold SeqAt.shaped
  rw [q.1, Bool.true_and]
  exact decide_eq_true (Nat.le_trans q.2 hm)
mutual
theorem toP_lt : ∀ {m n : Nat} {a b : D}, eqOk m a = true → eqOk n b = true → ltOk a b = true → PySem.W.alike (toP a) (toP b) = true ∧ PySem.W.dataLt (toP a) (toP b) = ltD a b
  | m, n, .int i, .int j, _, _, _ => ⟨by simp [toP, PySem.W.alike], by simp [toP, ltD, PySem.W.dataLt_int]⟩
  | m, n, .str x, .str y, _, _, _ => ⟨by simp [toP, PySem.W.alike], by simp [toP, ltD, PySem.W.dataLt_str, strOf]⟩
  | m, n, .tup xs, .tup ys, h, k, l => by
    cases m with
    | zero => simp [eqOk] at h
    | succ m =>
      cases n with
      | zero => simp [eqOk] at k
      | succ n =>
        have q := toPs_lt (m := m) (n := n) (a := xs) (b := ys) (by simpa [eqOk] using h) (by simpa [eqOk] using k) (by simpa [ltOk] using l)
        simp only [toP, PySem.W.alike, PySem.W.dataLt_tuple, ltD]
        exact q
  | m, n, .lst xs, .lst ys, h, k, l => by
    cases m with
    | zero => simp [eqOk] at h
    | succ m =>
      cases n with
      | zero => simp [eqOk] at k
      | succ n =>
        have q := toPs_lt (m := m) (n := n) (a := xs) (b := ys) (by simpa [eqOk] using h) (by simpa [eqOk] using k) (by simpa [ltOk] using l)
        simp only [toP, PySem.W.alike, PySem.W.dataLt_list, ltD]
        exact q
  | m, n, .non, b, h, k, l => by simp [ltOk] at l
  | m, n, .undef, b, h, k, l => by simp [ltOk] at l
  | m, n, .bl _, b, h, k, l => by simp [ltOk] at l
  | m, n, .byt _, b, h, k, l => by simp [ltOk] at l
  | m, n, .ty _, b, h, k, l => by simp [ltOk] at l
  | m, n, .glo _, b, h, k, l => by simp [ltOk] at l
  | m, n, .dct _, b, h, k, l => by simp [ltOk] at l
  | m, n, .ins _ _, b, h, k, l => by simp [ltOk] at l
  | m, n, .ref _, b, h, k, l => by simp [ltOk] at l
  | m, n, .int _, .non, h, k, l => by simp [ltOk] at l
  | m, n, .int _, .undef, h, k, l => by simp [ltOk] at l
  | m, n, .int _, .bl _, h, k, l => by simp [ltOk] at l
  | m, n, .int _, .str _, h, k, l => by simp [ltOk] at l
  | m, n, .int _, .byt _, h, k, l => by simp [ltOk] at l
  | m, n, .int _, .ty _, h, k, l => by simp [ltOk] at l
  | m, n, .int _, .glo _, h, k, l => by simp [ltOk] at l
  | m, n, .int _, .tup _, h, k, l => by simp [ltOk] at l
  | m, n, .int _, .lst _, h, k, l => by simp [ltOk] at l
  | m, n, .int _, .dct _, h, k, l => by simp [ltOk] at l
  | m, n, .int _, .ins _ _, h, k, l => by simp [ltOk] at l
  | m, n, .int _, .ref _, h, k, l => by simp [ltOk] at l
  | m, n, .str _, .non, h, k, l => by simp [ltOk] at l
  | m, n, .str _, .undef, h, k, l => by simp [ltOk] at l
  | m, n, .str _, .bl _, h, k, l => by simp [ltOk] at l
  | m, n, .str _, .int _, h, k, l => by simp [ltOk] at l
  | m, n, .str _, .byt _, h, k, l => by simp [ltOk] at l
  | m, n, .str _, .ty _, h, k, l => by simp [ltOk] at l
  | m, n, .str _, .glo _, h, k, l => by simp [ltOk] at l
  | m, n, .str _, .tup _, h, k, l => by simp [ltOk] at l
  | m, n, .str _, .lst _, h, k, l => by simp [ltOk] at l
  | m, n, .str _, .dct _, h, k, l => by simp [ltOk] at l
  | m, n, .str _, .ins _ _, h, k, l => by simp [ltOk] at l
  | m, n, .str _, .ref _, h, k, l => by simp [ltOk] at l
  | m, n, .tup _, .non, h, k, l => by simp [ltOk] at l
  | m, n, .tup _, .undef, h, k, l => by simp [ltOk] at l
  | m, n, .tup _, .bl _, h, k, l => by simp [ltOk] at l
  | m, n, .tup _, .int _, h, k, l => by simp [ltOk] at l
  | m, n, .tup _, .str _, h, k, l => by simp [ltOk] at l
  | m, n, .tup _, .byt _, h, k, l => by simp [ltOk] at l
  | m, n, .tup _, .ty _, h, k, l => by simp [ltOk] at l
  | m, n, .tup _, .glo _, h, k, l => by simp [ltOk] at l
  | m, n, .tup _, .lst _, h, k, l => by simp [ltOk] at l
  | m, n, .tup _, .dct _, h, k, l => by simp [ltOk] at l
  | m, n, .tup _, .ins _ _, h, k, l => by simp [ltOk] at l
  | m, n, .tup _, .ref _, h, k, l => by simp [ltOk] at l
  | m, n, .lst _, .non, h, k, l => by simp [ltOk] at l
  | m, n, .lst _, .undef, h, k, l => by simp [ltOk] at l
  | m, n, .lst _, .bl _, h, k, l => by simp [ltOk] at l
  | m, n, .lst _, .int _, h, k, l => by simp [ltOk] at l
  | m, n, .lst _, .str _, h, k, l => by simp [ltOk] at l
  | m, n, .lst _, .byt _, h, k, l => by simp [ltOk] at l
  | m, n, .lst _, .ty _, h, k, l => by simp [ltOk] at l
  | m, n, .lst _, .glo _, h, k, l => by simp [ltOk] at l
  | m, n, .lst _, .tup _, h, k, l => by simp [ltOk] at l
  | m, n, .lst _, .dct _, h, k, l => by simp [ltOk] at l
  | m, n, .lst _, .ins _ _, h, k, l => by simp [ltOk] at l
  | m, n, .lst _, .ref _, h, k, l => by simp [ltOk] at l
theorem toPs_lt : ∀ {m n : Nat} {a b : List D}, eqOks m a = true → eqOks n b = true → ltOks a b = true → PySem.W.alikeAll (toPs a) (toPs b) = true ∧ PyProof.Rows.lexLt itemOrd (PySem.W.keyToksAll (toPs a)) (PySem.W.keyToksAll (toPs b)) = ltDs a b
  | _, _, [], [], _, _, _ => ⟨by simp [toPs, PySem.W.alikeAll], by
    simp only [toPs, ltDs]
    exact PyProof.Rows.lex_irrefl _⟩
  | _, _, [], _ :: _, _, _, _ => ⟨by simp [toPs, PySem.W.alikeAll], by
    simp only [toPs, ltDs, PySem.W.keyToksAll]
    rfl⟩
  | _, _, _ :: _, [], _, _, _ => ⟨by simp [toPs, PySem.W.alikeAll], by
    simp only [toPs, ltDs, PySem.W.keyToksAll]
    rfl⟩
  | m, n, x :: xs, y :: ys, h, k, l => by
    have h' : eqOk m x = true ∧ eqOks m xs = true := by simpa [eqOks] using h
    have k' : eqOk n y = true ∧ eqOks n ys = true := by simpa [eqOks] using k
    have l' : ltOk x y = true ∧ ltOks xs ys = true := by simpa [ltOks] using l
    have q1 := toP_lt h'.1 k'.1 l'.1
    have q2 := toPs_lt h'.2 k'.2 l'.2
    refine ⟨by simp only [toPs, PySem.W.alikeAll, q1.1, q2.1, Bool.and_self], ?_⟩
    simp only [toPs, ltDs]
    rw [PySem.W.dataLt_cons q1.1, toP_eqv h'.1 k'.1, q2.2, q1.2]
    by_cases e : x = y <;> simp [e]
end
end Om
/-! Om, part E: operations by values. -/
namespace Om
open PySem PySem.Spec PyProof.Rows L2
/-! ### the functions -/
def addD (m : Bool) : P2 := fun x y R => match x, y with
  | .int i, .int j => some (.int (i + j), R)
  | .str a, .str b => if a.length + b.length ≤ LINE then some (.str (a ++ b), R) else none
  | .tup a, .tup b => if a.length + b.length ≤ LINE then some (.tup (a ++ b), R) else none
  | x, y => match lstOf R x, lstOf R y with
    | some a, some b => mkL m (a ++ b) R
    | _, _ => none
def subD : P2 := fun x y R => match x, y with
  | .int i, .int j => some (.int (i - j), R)
  | _, _ => none
def repOk (n : Nat) (k : Int) : Bool := decide (-(2 ^ 63) ≤ k ∧ k < 2 ^ 63 ∧ n * k.toNat ≤ LINE)
def mulD (m : Bool) : P2 := fun x y R => match x, y with
  | .int i, .int j => if mulOk i j = true then some (.int (i * j), R) else none
  | x, .int k => match lstOf R x with
    | some a => if repOk a.length k = true then mkL m (List.replicate k.toNat a).flatten R else none
    | none => none
  | _, _ => none
def divOk (j : Int) : Bool := decide (0 < j ∧ j.natAbs.log2 < 9000)
def fdivD : P2 := fun x y R => match x, y with
  | .int i, .int j => if divOk j = true then some (.int (i / j), R) else none
  | _, _ => none
def modD : P2 := fun x y R => match x, y with
  | .int i, .int j => if 0 < j then some (.int (i % j), R) else none
  | _, _ => none
def powD : P2 := fun x y R => match x, y with
  | .int i, .int j => if 0 ≤ j ∧ j ≤ 1000000 ∧ i.natAbs < 18446744073709551616 then some (.int (i ^ j.toNat), R) else none
  | _, _ => none
def negD : P1 := fun x R => match x with
  | .int i => some (.int (-i), R)
  | _ => none
def eqD' (neg : Bool) : P2 := fun x y R => match eqD R x y with
  | some b => some (.bl (b != neg), R)
  | none => none
def isD (neg : Bool) : P2 := fun x y R => match y, x with
  | .non, .undef => none
  | .non, .glo _ => none
  | .non, x => some (.bl (decide (x = .non) != neg), R)
  | _, _ => none
inductive LtOp where
  | lt | gt | le | ge
def ltR (o : LtOp) (a b : D) : Bool := match o with
  | .lt => ltD a b
  | .gt => ltD b a
  | .le => !ltD b a
  | .ge => !ltD a b
def ltD' (o : LtOp) : P2 := fun x y R => match snapD R x, snapD R y with
  | some a, some b => if eqOk 12 a = true ∧ eqOk 12 b = true ∧ ltOk a b = true ∧ ltOk b a = true then some (.bl (ltR o a b), R) else none
  | _, _ => none
section
variable {K : PySem.W.Frag} {H : Hp} {Q : VK}
theorem rN1 {p : P1} {x : V} (h : rN K (pn1 p) [x] H Q) : ∃ B io R dx d R', Rep K B io R H ∧ RD K (bars B io) io H dx x ∧ p dx R = some (d, R') ∧
    ∀ io' H' v, Step io H io' H' → Rep K B io' R' H' → RD K (bars B io') io' H' d v → Q v H' := by
  obtain ⟨B, io, R, ds, rep, rd, q⟩ := h
  obtain ⟨dx, ds, rfl, rx, rd⟩ := rd.cons_inv
  cases rd.nil_inv
  have q' : match p dx R with
    | some (d, R') => ∀ io' H' v, Step io H io' H' → Rep K B io' R' H' → RD K (bars B io') io' H' d v → Q v H'
    | none => False := q
  cases e : p dx R with
  | none =>
    rw [e] at q'
    exact q'.elim
  | some z =>
    rw [e] at q'
    exact ⟨B, io, R, dx, z.1, z.2, rep, rx, e, q'⟩
theorem rN2 {p : P2} {x y : V} (h : rN K (pn2 p) [x, y] H Q) : ∃ B io R dx dy d R', Rep K B io R H ∧ RD K (bars B io) io H dx x ∧ RD K (bars B io) io H dy y ∧ p dx dy R = some (d, R') ∧
    ∀ io' H' v, Step io H io' H' → Rep K B io' R' H' → RD K (bars B io') io' H' d v → Q v H' := by
  obtain ⟨B, io, R, ds, rep, rd, q⟩ := h
  obtain ⟨dx, ds, rfl, rx, rd⟩ := rd.cons_inv
  obtain ⟨dy, ds, rfl, ry, rd⟩ := rd.cons_inv
  cases rd.nil_inv
  have q' : match p dx dy R with
    | some (d, R') => ∀ io' H' v, Step io H io' H' → Rep K B io' R' H' → RD K (bars B io') io' H' d v → Q v H'
    | none => False := q
  cases e : p dx dy R with
  | none =>
    rw [e] at q'
    exact q'.elim
  | some z =>
    rw [e] at q'
    exact ⟨B, io, R, dx, dy, z.1, z.2, rep, rx, ry, e, q'⟩
end
section
variable {X : Cx}
/-- a list of the heap, tracked or locked, or of the module -/
theorem lst_raw {pins : List (Addr × Obj)} {σ : S} {H : Hp} {s : Shared} {l : Addr} {xs : List V} (I : Inv X pins σ H s) (h : SqL X.K H l xs) :
    xs.length ≤ sizeLine ∧ ∃ (its : List Value) (n : Nat) (sl : Array (Option Value)), Vals xs its ∧ s.heap.get? l = some { cls := .type "list", dict := none, data := .seq its.toArray n, slots := sl } := by
  obtain ⟨its, rv, ⟨⟨cls, dd, data, sl⟩, n, ho, hc, hd, hs⟩, hz⟩ := I.list h
  simp only at hc hd hs
  subst hc hd hs
  exact ⟨hz, its, n, sl, rv, ho⟩
theorem int_rmul_listW (a : Int) (t : Tok) (l : Addr) (items : Array Value) (n : Nat) (dd : Option Addr) (sl : Array (Option Value)) :
    Meets (Builtin.«int.__rmul__» ⟨[.int a t, .ref l], []⟩) (fun _ R s => s.heap.get? l = some { cls := .type "list", dict := dd, data := .seq items n, slots := sl } ∧ R (.ok (.ret Value.notImplemented)) s) :=
  .of_wp fun prog w A R s h => by obtain ⟨hp, g, d, tk, os⟩ := s; obtain ⟨hl, h⟩ := h; wp_walk using wpAny_loadPart' hl; exact ⟨_, rfl, h⟩
theorem list_mulW (l : Addr) (items : Array Value) (n : Nat) (dd : Option Addr) (sl : Array (Option Value)) (x : Int) (u : Tok) (hc0 : ¬(!Builtin.List.listFitsIndex x) = true) (hc1 : ¬items.size * x.toNat > (2 ^ 63 - 1) / 8) (hc2 : ¬Builtin.List.listTooLong (items.size * x.toNat) = true) :
    Meets (Builtin.«list.__mul__» ⟨[.ref l, .int x u], []⟩) (fun _ R s => s.heap.get? l = some { cls := .type "list", dict := dd, data := .seq items n, slots := sl } ∧ R (.ok (.ret (Value.ref s.heap.objs.size))) { s with heap := s.heap.push { cls := Value.type "list", data := Data.seq (List.foldl (fun x1 x2 => x1 ++ x2) #[] (List.replicate (if items.isEmpty = true then 0 else x.toNat) items)) }, toks := s.toks }) :=
  .of_wp fun prog w A R s h => by
    obtain ⟨hp, g, d, tk, os⟩ := s
    obtain ⟨hl, h⟩ := h
    have hsz := AutoListH.joined_fits hc2
    wp_walk using wpAny_loadPart' hl
    refine wpAny_ite_false (decide_eq_false (Nat.not_lt.mpr hsz)) ?_
    wp_walk using wpAny_loadPart' hl
    exact ⟨_, rfl, h⟩
theorem ok_add (m : Bool) : OpR X (binaryOp .Add) (fun x y H Q => rN X.K (pn2 (addD m)) [x, y] H Q) := by
  intro pins s σ H x y v u Q I rv ru h
  obtain ⟨B, io, R, dx, dy, d, R', rep, rx, ry, e, q⟩ := rN2 h
  unfold addD at e
  split at e
  · cases e
    cases rx
    cases ry
    exact op_add pins s σ H _ _ v u Q I rv ru ⟨_, _, rfl, rfl, q io H _ (Step.refl _ _) rep (.int _)⟩
  · split at e
    · rename_i hl
      cases e
      cases rx
      cases ry
      refine op_add_str pins s σ H _ _ v u Q I rv ru ⟨_, _, rfl, rfl, ?_, ?_⟩
      · rw [strOf_length, strOf_length]
        exact hl
      · rw [← strOf_append]
        exact q io H _ (Step.refl _ _) rep (.str _)
    · cases e
  · split at e
    · rename_i hl
      cases e
      cases rx with
      | tup h1 r1 =>
        cases ry with
        | tup h2 r2 =>
          refine op_catA pins s σ H _ _ v u Q I rv ru ⟨_, _, _, _, rfl, rfl, h1, h2, ?_, fun z => ?_, fun n z => ?_, fun n1 n2 p hp => ?_⟩
          · rw [← r1.len, ← r2.len]
            exact hl
          · subst z
            cases r1
            exact q io H _ (Step.refl _ _) rep (.tup h2 r2)
          · subst z
            cases r2
            rw [List.append_nil] at q
            exact q io H _ (Step.refl _ _) rep (.tup h1 r1)
          · obtain ⟨st, rep', r'⟩ := tup_ok rep hp (r1.append r2)
            exact q io _ _ st rep' r'
    · cases e
  · split at e
    · rename_i a b e1 e2
      obtain ⟨l, xs, rfl, h1, r1⟩ := rx.list rep e1
      obtain ⟨k, ys, rfl, h2, r2⟩ := ry.list rep e2
      cases rv
      cases ru
      obtain ⟨z1, its1, n1, sl1, v1, g1⟩ := lst_raw I h1
      obtain ⟨z2, its2, n2, sl2, v2, g2⟩ := lst_raw I h2
      have hl := mkL_len e
      rw [List.length_append, r1.len, r2.len] at hl
      have l1 := v1.length
      have l2 := v2.length
      refine concat_meets ⟨_, g1, rfl⟩ ⟨_, g2, rfl⟩ noFill_list_add seq_list_add PySem.F.slot_list_add PySem.F.entry_list_add (PySem.F.args_list_add_2 _ _) (list_addW l k its1.toArray its2.toArray n1 n2 none none sl1 sl2 (by simp; omega)) ⟨g1, g2, ?_⟩
      rw [List.append_toArray]
      obtain ⟨io', st, rep', r'⟩ := mkL_ok rep I.fresh (r1.append r2) e
      exact ⟨.ref _, _, I.lnew (t' := s.toks) (v1.append v2) (by rw [List.length_append]; exact hl), rfl, q io' _ _ st rep' r'⟩
    · cases e
theorem ok_sub : OpR X (binaryOp .Sub) (fun x y H Q => rN X.K (pn2 subD) [x, y] H Q) := by
  intro pins s σ H x y v u Q I rv ru h
  obtain ⟨B, io, R, dx, dy, d, R', rep, rx, ry, e, q⟩ := rN2 h
  unfold subD at e
  split at e
  · cases e
    cases rx
    cases ry
    exact op_sub pins s σ H _ _ v u Q I rv ru ⟨_, _, rfl, rfl, q io H _ (Step.refl _ _) rep (.int _)⟩
  · cases e
theorem divOk_ok (i : Int) {j : Int} (h : divOk j = true) : CDivW i j := by
  unfold divOk at h
  have h2 := of_decide_eq_true h
  exact h2
theorem ok_fdiv : OpR X (binaryOp .FloorDiv) (fun x y H Q => rN X.K (pn2 fdivD) [x, y] H Q) := by
  intro pins s σ H x y v u Q I rv ru h
  obtain ⟨B, io, R, dx, dy, d, R', rep, rx, ry, e, q⟩ := rN2 h
  unfold fdivD at e
  split at e
  · split at e
    · rename_i hd
      cases e
      cases rx
      cases ry
      exact op_fdivW pins s σ H _ _ v u Q I rv ru ⟨_, _, rfl, rfl, divOk_ok _ hd, q io H _ (Step.refl _ _) rep (.int _)⟩
    · cases e
  · cases e
theorem ok_mod : OpR X (binaryOp .Mod) (fun x y H Q => rN X.K (pn2 modD) [x, y] H Q) := by
  intro pins s σ H x y v u Q I rv ru h
  obtain ⟨B, io, R, dx, dy, d, R', rep, rx, ry, e, q⟩ := rN2 h
  unfold modD at e
  split at e
  · split at e
    · rename_i hd
      cases e
      cases rx
      cases ry
      exact op_mod pins s σ H _ _ v u Q I rv ru ⟨_, _, rfl, rfl, hd, q io H _ (Step.refl _ _) rep (.int _)⟩
    · cases e
  · cases e
theorem ok_pow : OpR X (binaryOp .Pow) (fun x y H Q => rN X.K (pn2 powD) [x, y] H Q) := by
  intro pins s σ H x y v u Q I rv ru h
  obtain ⟨B, io, R, dx, dy, d, R', rep, rx, ry, e, q⟩ := rN2 h
  unfold powD at e
  split at e
  · split at e
    · rename_i hd
      cases e
      cases rx
      cases ry
      exact op_pow pins s σ H _ _ v u Q I rv ru ⟨_, _, rfl, rfl, hd, q io H _ (Step.refl _ _) rep (.int _)⟩
    · cases e
  · cases e
theorem ok_neg : UnR X (unaryOp .USub) (fun x H Q => rN X.K (pn1 negD) [x] H Q) := by
  intro pins s σ H x v Q I rv h
  obtain ⟨B, io, R, dx, d, R', rep, rx, e, q⟩ := rN1 h
  unfold negD at e
  split at e
  · cases e
    cases rx
    exact un_neg pins s σ H _ v Q I rv ⟨_, rfl, q io H _ (Step.refl _ _) rep (.int _)⟩
  · cases e
theorem mulOk_ok {i j : Int} (h : mulOk i j = true) : CMul i j ∨ CMulW i j := by
  unfold mulOk smallI at h
  simp only [Bool.or_eq_true, decide_eq_true_eq] at h
  rcases h with (h | h) | h
  · exact .inl (.inr ⟨by omega, by omega⟩)
  · exact .inl (.inl ⟨by omega, by omega⟩)
  · exact .inr h
theorem vals_rep {xs : List V} {its : List Value} (v : Vals xs its) : ∀ k : Nat, Vals (List.replicate k xs).flatten (List.replicate k its).flatten
  | 0 => .nil
  | k + 1 => by
    rw [List.replicate_succ, List.replicate_succ, List.flatten_cons, List.flatten_cons]
    exact v.append (vals_rep v k)
theorem rds_rep {K : PySem.W.Frag} {bar : Addr → Prop} {io : Io} {H : Hp} {ds : List D} {vs : List V} (r : RDs K bar io H ds vs) : ∀ k : Nat, RDs K bar io H (List.replicate k ds).flatten (List.replicate k vs).flatten
  | 0 => .nil
  | k + 1 => by
    rw [List.replicate_succ, List.replicate_succ, List.flatten_cons, List.flatten_cons]
    exact r.append (rds_rep r k)
theorem op_repR {H : Hp} : ∀ (pins : List (Addr × Obj)) (s : Shared) (σ : S) (l : Addr) (k : Int) (v u : Value) (xs : List V) (Q : VK), Inv X pins σ H s → RelV (.ref l) v → RelV (.int k) u → SqL X.K H l xs → -(2 ^ 63) ≤ k → k < 2 ^ 63 → xs.length * k.toNat ≤ sizeLine →
    (∀ p, H p = none → Q (.ref p) (upd H p (.lst (List.replicate k.toNat xs).flatten))) → wpAny (model X.prog X.w) X.A (binaryOp .Mult v u) (EP X pins σ Q) X.xe s := by
  intro pins s σ l k v u xs Q I rv ru h h1 h2 hz q
  · cases rv
    obtain ⟨t, rfl⟩ := ru
    obtain ⟨z, its, n, sl, vl, e⟩ := lst_raw I h
    have hlen : its.toArray.size * k.toNat ≤ sizeLine := by
      rw [List.size_toArray, ← vl.length]
      exact hz
    have hcap : ¬ its.toArray.size * k.toNat > (2 ^ 63 - 1) / 8 := by
      have hs : (sizeLine : Nat) ≤ (2 ^ 63 - 1) / 8 := by decide
      omega
    have hfit : ¬ (!Builtin.List.listFitsIndex k) = true := by
      rw [fitsIndex_both h1 h2]
      decide
    have hlong : ¬ Builtin.List.listTooLong (its.toArray.size * k.toNat) = true := by
      rw [notLongL hlen]
      decide
    have hnew : List.foldl (fun x1 x2 => x1 ++ x2) #[] (List.replicate (if its.toArray.isEmpty = true then 0 else k.toNat) its.toArray) = (List.replicate k.toNat its).flatten.toArray := by
      have f0 : ∀ c : Nat, List.foldl (fun x1 x2 => x1 ++ x2) #[] (List.replicate c its.toArray) = (List.replicate c its).flatten.toArray := fun c => by
        have z := foldl_rep its c []
        rwa [List.nil_append] at z
      rw [f0]
      cases its with
      | nil => simp
      | cons a r => rw [if_neg (by simp)]
    refine wpAny_binaryOp_repeat_ref (T := "list") (U := "int") (by decide) ⟨_, e, rfl⟩ (fun s' => typeIs_int s' k t) noFill_list_mul F.fills_int_mul F.slot_int_rmul repeat_list F.slot_int_index.lookup ?_
    refine call_meets F.slot_int_rmul (typeIs_int s k t) F.entry_int_rmul (F.args_int_rmul_2 _ _) (int_rmul_listW k t l its.toArray n none sl) ⟨e, rfl, ⟨_, e, rfl⟩, ?_⟩
    refine call_meets F.slot_list_mul ⟨_, e, rfl⟩ F.entry_list_mul (F.args_list_mul_2 _ _) (list_mulW l its.toArray n none sl k t hfit hcap hlong) ⟨e, ?_⟩
    rw [hnew]
    refine ⟨.ref _, _, I.lnew (t' := s.toks) (vals_rep vl k.toNat) ?_, rfl, q _ I.fresh⟩
    rw [PyProof.Rows.lm_len_rep_flat, Nat.mul_comm]
    exact hz
theorem ok_mul (m : Bool) : OpR X (binaryOp .Mult) (fun x y H Q => rN X.K (pn2 (mulD m)) [x, y] H Q) := by
  intro pins s σ H x y v u Q I rv ru h
  obtain ⟨B, io, R, dx, dy, d, R', rep, rx, ry, e, q⟩ := rN2 h
  unfold mulD at e
  split at e
  · split at e
    · rename_i hd
      cases e
      cases rx
      cases ry
      rcases mulOk_ok hd with hm | hm
      · exact op_mul pins s σ H _ _ v u Q I rv ru ⟨_, _, rfl, rfl, hm, q io H _ (Step.refl _ _) rep (.int _)⟩
      · exact op_mulW pins s σ H _ _ v u Q I rv ru ⟨_, _, rfl, rfl, hm, q io H _ (Step.refl _ _) rep (.int _)⟩
    · cases e
  · split at e
    · rename_i a e1
      split at e
      · rename_i hk
        obtain ⟨l, xs, rfl, h1, r1⟩ := rx.list rep e1
        cases ry
        obtain ⟨k1, k2, k3⟩ := of_decide_eq_true hk
        rw [r1.len] at k3
        refine op_repR pins s σ l _ v u xs Q I rv ru h1 k1 k2 k3 fun p hp => ?_
        obtain ⟨io', st, rep', r'⟩ := mkL_ok rep hp (rds_rep r1 _) e
        exact q io' _ _ st rep' r'
      · cases e
    · cases e
  · cases e
/-! ### comparisons -/
theorem eq_core {H : Hp} {pins : List (Addr × Obj)} {s : Shared} {σ : S} {x y : V} {v u : Value} {B : Addr → Prop} {io : Io} {R : Rg} {dx dy a b : D} (I : Inv X pins σ H s) (rv : RelV x v) (ru : RelV y u) (rep : Rep X.K B io R H)
    (rx : RD X.K (bars B io) io H dx x) (ry : RD X.K (bars B io) io H dy y) (e1 : snapD R dx = some a) (e2 : snapD R dy = some b) : eqOk 12 a = true → eqOk 12 b = true → 
    (∃ as, Reads s.heap v (toP a) as) ∧ (∃ as, Reads s.heap u (toP b) as) := fun k1 k2 =>
  ⟨Dp.reads I _ _ _ (dp_snap rep _ e1 rx k1) rv, Dp.reads I _ _ _ (dp_snap rep _ e2 ry k2) ru⟩
theorem ok_eq (hu : X.A.units + 64 < cLine) (neg : Bool) : OpR X (compareOp (if neg = true then .NotEq else .Eq)) (fun x y H Q => rN X.K (pn2 (eqD' neg)) [x, y] H Q) := by
  intro pins s σ H x y v u Q I rv ru h
  obtain ⟨B, io, R, dx, dy, d, R', rep, rx, ry, e, q⟩ := rN2 h
  have scalar : ∀ z : Bool, eqD R dx dy = some z → scal x y = true → decide (x = y) = z → wpAny (model X.prog X.w) X.A (compareOp (if neg = true then .NotEq else .Eq) v u) (EP X pins σ Q) X.xe s := fun z e1 sc ez => by
    unfold eqD' at e
    rw [e1] at e
    cases e
    cases neg with
    | false => exact op_eq pins s σ H x y v u Q I rv ru ⟨sc, by
        rw [ez]
        have := q io H _ (Step.refl _ _) rep (.bl _)
        simpa using this⟩
    | true => exact op_ne pins s σ H x y v u Q I rv ru ⟨sc, by
        rw [ez]
        have := q io H _ (Step.refl _ _) rep (.bl _)
        simpa using this⟩
  have e0 := e
  unfold eqD' at e0
  split at e0
  · rename_i z ez
    have ez0 := ez
    unfold eqD at ez
    split at ez
    · cases ez
      cases rx
      cases ry
      exact scalar _ ez0 rfl (by simp)
    · cases ez
      cases rx
      cases ry
      exact scalar _ ez0 rfl (by simp)
    · cases ez
      cases rx
      cases ry
      exact scalar _ ez0 rfl (by simp)
    · cases ez
      cases rx
      cases ry
      exact scalar _ ez0 rfl (by simp)
    · cases ez
      cases rx
      cases ry
      exact scalar _ ez0 rfl (by simp)
    · split at ez
      · rename_i a b e1 e2
        split at ez
        · rename_i k
          cases ez
          unfold eqD' at e
          rw [ez0] at e
          cases e
          obtain ⟨⟨as, r1⟩, bs, r2⟩ := eq_core I rv ru rep rx ry e1 e2 k.1 k.2
          have s1 := toP_shaped k.1 (by decide)
          have s2 := toP_shaped k.2 (by decide)
          have ev := toP_eqv k.1 k.2
          have fin := q io H _ (Step.refl _ _) rep (.bl _)
          cases neg with
          | false => exact SeqAt.compareEq_shaped r1 r2 s1 s2 hu ⟨.bl _, H, I, rfl, by rw [ev]; simpa using fin⟩
          | true => exact SeqAt.compareNe_shaped r1 r2 s1 s2 hu ⟨.bl _, H, I, rfl, by rw [ev]; simpa using fin⟩
        · cases ez
      · cases ez
  · cases e0
theorem ok_is (neg : Bool) : OpR X (compareOp (if neg = true then .IsNot else .Is)) (fun x y H Q => rN X.K (pn2 (isD neg)) [x, y] H Q) := by
  intro pins s σ H x y v u Q I rv ru h
  obtain ⟨B, io, R, dx, dy, d, R', rep, rx, ry, e, q⟩ := rN2 h
  have core : dy = .non → dx ≠ .undef → d = .bl (decide (dx = .non) != neg) → R' = R → wpAny (model X.prog X.w) X.A (compareOp (if neg = true then .IsNot else .Is) v u) (EP X pins σ Q) X.xe s := fun e1 e2 e3 e4 => by
    subst e1 e3 e4
    cases ry
    have ex : decide (x = .non) = decide (dx = .non) := by cases rx <;> simp
    have fin := q io H _ (Step.refl _ _) rep (.bl _)
    cases neg with
    | false => exact op_isN pins s σ H x _ v u Q I rv ru ⟨rfl, by rw [ex]; simpa using fin⟩
    | true => exact op_notN pins s σ H x _ v u Q I rv ru ⟨rfl, by rw [ex]; simpa using fin⟩
  unfold isD at e
  split at e
  · cases e
  · cases e
  · rename_i h1 h2
    cases e
    exact core rfl (fun z => h1 z) rfl rfl
  · cases e
theorem ok_lt (hu : X.A.units + 64 < cLine) (o : LtOp) : OpR X (compareOp (match o with | .lt => .Lt | .gt => .Gt | .le => .LtE | .ge => .GtE)) (fun x y H Q => rN X.K (pn2 (ltD' o)) [x, y] H Q) := by
  intro pins s σ H x y v u Q I rv ru h
  obtain ⟨B, io, R, dx, dy, d, R', rep, rx, ry, e, q⟩ := rN2 h
  unfold ltD' at e
  split at e
  · rename_i a b e1 e2
    split at e
    · rename_i k
      cases e
      obtain ⟨k1, k2, k3, k4⟩ := k
      obtain ⟨⟨as, r1⟩, bs, r2⟩ := eq_core I rv ru rep rx ry e1 e2 k1 k2
      obtain ⟨a1, l1⟩ := toP_lt k1 k2 k3
      obtain ⟨a2, l2⟩ := toP_lt k2 k1 k4
      have dp : X.A.units + min (toP a).depth (toP b).depth < cLine := by
        have := (toP_lay k1).2
        omega
      have nn : toP a ≠ .none := by
        cases a <;> simp [toP] <;> simp [ltOk] at k3
      have fin := q io H _ (Step.refl _ _) rep (.bl _)
      cases o with
      | lt => exact PySem.W.lt_data r1 r2 a1 nn dp ⟨.bl _, H, I, rfl, by rw [l1]; exact fin⟩
      | gt => exact PySem.W.gt_data r1 r2 a1 nn dp ⟨.bl _, H, I, rfl, by rw [l2]; exact fin⟩
      | le => exact PySem.W.le_data r1 r2 a1 nn dp ⟨.bl _, H, I, rfl, by rw [l2]; exact fin⟩
      | ge => exact PySem.W.ge_data r1 r2 a1 nn dp ⟨.bl _, H, I, rfl, by rw [l1]; exact fin⟩
    · cases e
  · cases e
end
end Om
/-! Om, part F: subscripts, dicts, calls of what is built in. -/
namespace Om
open PySem PySem.Spec PyProof.Rows L2
/-! ### dicts by keys -/
def keyOk (d : D) : Bool := match d with
  | .int _ => true
  | .str _ => true
  | _ => false
def lookD (ks : List (D × D)) (k : D) : Option D := match ks with
  | [] => none
  | p :: r => if p.1 = k then some p.2 else lookD r k
def hasD (ks : List (D × D)) (k : D) : Bool := (lookD ks k).isSome
def setK (ks : List (D × D)) (k v : D) : List (D × D) := match ks with
  | [] => [(k, v)]
  | p :: r => if p.1 = k then (p.1, v) :: r else p :: setK r k v
def delK (ks : List (D × D)) (k : D) : List (D × D) := ks.filter fun p => decide (p.1 ≠ k)
theorem keyV_inj {a b : D} {q : Key} (h : keyV a = some q) (k : keyV b = some q) : a = b := by
  cases a <;> simp [keyV] at h <;> cases b <;> simp [keyV] at k
  · subst h
    rw [Sum.inl.inj k]
  · subst h
    cases k
  · subst h
    cases k
  · subst h
    rw [strOf_inj (Sum.inr.inj k)]
section
variable {K : PySem.W.Frag} {bar : Addr → Prop} {io : Io} {H : Hp}
theorem key_rd {d : D} {v : V} {q : Key} (r : RD K bar io H d v) (k : keyV d = some q) : v = kV q := by
  cases r <;> simp [keyV] at k <;> subst k <;> rfl
theorem key_of {d : D} (h : keyOk d = true) : ∃ q, keyV d = some q := by
  cases d <;> simp [keyOk] at h <;> exact ⟨_, rfl⟩
theorem look_rd {k : D} {q : Key} (hk : keyV k = some q) : ∀ {ks : List (D × D)} {kvs : List (Key × V)}, RKs K bar io H ks kvs → match lookD ks k with
    | some d => ∃ v, valV kvs q = some v ∧ RD K bar io H d v
    | none => valV kvs q = none
  | _, _, .nil => rfl
  | (a, d) :: ks, (b, v) :: kvs, .cons ha r t => by
    have ih := look_rd hk t
    unfold lookD
    by_cases e : a = k
    · subst e
      rw [ha] at hk
      cases hk
      rw [if_pos rfl]
      exact ⟨v, valV_pos rfl, r⟩
    · have ne : ¬ b = q := fun z => e (keyV_inj (by rw [ha, z]) hk)
      rw [if_neg e, valV_neg ne]
      exact ih
theorem noKey {k : D} {q : Key} (hk : keyV k = some q) {ks : List (D × D)} {kvs : List (Key × V)} (r : RKs K bar io H ks kvs) : (kvs.any fun kv => decide (kv.1 = q)) = hasD ks k := by
  have h := look_rd hk r
  rw [valV_any]
  unfold hasD
  cases e : lookD ks k with
  | none =>
    rw [e] at h
    rw [h]
    rfl
  | some d =>
    rw [e] at h
    obtain ⟨v, h, _⟩ := h
    rw [h]
    rfl
theorem map_no {q : Key} {v : V} : ∀ {kvs : List (Key × V)}, (kvs.any fun kv => decide (kv.1 = q)) = false → (kvs.map fun kv => if kv.1 = q then (kv.1, v) else kv) = kvs
  | [], _ => rfl
  | p :: r, h => by
    have h' : ¬ p.1 = q ∧ (r.any fun kv => decide (kv.1 = q)) = false := by simpa using h
    rw [List.map_cons, if_neg h'.1, map_no h'.2]
theorem putK_cons {p : Key × V} {r : List (Key × V)} {q : Key} {v : V} (hn : ((p :: r).map (·.1)).Nodup) : putK (p :: r) q v = if p.1 = q then (p.1, v) :: r else p :: putK r q v := by
  unfold putK
  by_cases e : p.1 = q
  · rw [if_pos e, if_pos (by simp [e]), List.map_cons, if_pos e]
    congr 1
    refine map_no ?_
    have this : p.1 ∉ r.map (·.1) := (List.nodup_cons.mp hn).1
    rw [e] at this
    rw [List.any_eq_false]
    intro x hx z
    exact this (List.mem_map.mpr ⟨x, hx, of_decide_eq_true z⟩)
  · rw [if_neg e, List.any_cons, decide_eq_false e, Bool.false_or]
    by_cases h : (r.any fun kv => decide (kv.1 = q)) = true
    · rw [if_pos h, if_pos h, List.map_cons, if_neg e]
    · rw [if_neg h, if_neg h, List.cons_append]
theorem set_rd {k d : D} {q : Key} {v : V} (hk : keyV k = some q) (rv : RD K bar io H d v) : ∀ {ks : List (D × D)} {kvs : List (Key × V)}, (kvs.map (·.1)).Nodup → RKs K bar io H ks kvs → RKs K bar io H (setK ks k d) (putK kvs q v)
  | _, _, _, .nil => .cons hk rv .nil
  | (a, x) :: ks, (b, w) :: kvs, hn, .cons ha r t => by
    rw [putK_cons hn]
    unfold setK
    by_cases e : a = k
    · subst e
      have e2 : b = q := by
        rw [ha] at hk
        exact Option.some.inj hk
      rw [if_pos rfl, if_pos e2]
      exact .cons ha rv t
    · have ne : ¬ b = q := fun z => e (keyV_inj (by rw [ha, z]) hk)
      rw [if_neg e, if_neg ne]
      exact .cons ha r (set_rd hk rv (List.nodup_cons.mp hn).2 t)
theorem del_rd {k : D} {q : Key} (hk : keyV k = some q) : ∀ {ks : List (D × D)} {kvs : List (Key × V)}, RKs K bar io H ks kvs → RKs K bar io H (delK ks k) (dropK kvs q)
  | _, _, .nil => .nil
  | (a, x) :: ks, (b, w) :: kvs, .cons ha r t => by
    have ih := del_rd hk t
    unfold delK dropK at *
    rw [List.filter_cons, List.filter_cons]
    by_cases e : a = k
    · subst e
      have e2 : b = q := by
        rw [ha] at hk
        exact Option.some.inj hk
      rw [if_neg (by simp), if_neg (by simp [e2])]
      exact ih
    · have ne : ¬ b = q := fun z => e (keyV_inj (by rw [ha, z]) hk)
      rw [if_pos (by simpa using e), if_pos (by simpa using ne)]
      exact .cons ha r ih
theorem keys_rd : ∀ {ks : List (D × D)} {kvs : List (Key × V)}, RKs K bar io H ks kvs → RDs K bar io H (ks.map (·.1)) (kvs.map fun kv => kV kv.1)
  | _, _, .nil => .nil
  | (a, x) :: ks, (b, w) :: kvs, .cons ha r t => by
    refine .cons ?_ (keys_rd t)
    show RD K bar io H a (kV b)
    unfold keyV at ha
    split at ha
    · cases ha
      exact .int _
    · cases ha
      exact .str _
    · cases ha
end
/-- the keys of a dict that stands are apart -/
theorem dk_nodup {X : Cx} {pins : List (Addr × Obj)} {σ : S} {H : Hp} {s : Shared} {a : Addr} {kvs : List (Key × V)} (I : Inv X pins σ H s) (h : Rd H a (.dK kvs)) : (kvs.map (·.1)).Nodup := by
  obtain ⟨_, _, vs, rel, dd⟩ := dk_rd I.hok h
  rw [KV.keys rel]
  obtain ⟨_, _, _, _, _, _, _, _, h⟩ := dd
  exact h
/-! ### places in lists, tuples, texts -/
def ixD : P2 := fun x y R => match x, y with
  | .str x, .int i => match (if x.length ≤ LINE then atI x i else none) with
    | some c => some (.str [c], R)
    | none => none
  | .byt z, .int i => if z.length ≤ LINE ∧ 0 ≤ i ∧ i < z.length then some (.int (((z.getD i.toNat 0).toNat : Nat) : Int), R) else none
  | x, y => match dctOf R x with
    | some ks => if keyOk y = true then (lookD ks y).map fun d => (d, R) else none
    | none => match seqOf R x, y with
      | some xs, .int i => (atI xs i).map fun d => (d, R)
      | _, _ => none
theorem atI_rd {K : PySem.W.Frag} {bar : Addr → Prop} {io : Io} {H : Hp} {ds : List D} {vs : List V} {i : Int} {d : D} (r : RDs K bar io H ds vs) (h : atI ds i = some d) : ∃ v, atI vs i = some v ∧ RD K bar io H d v := by
  unfold atI at *
  rw [← r.len]
  cases e : ixN ds.length i with
  | none =>
    rw [e] at h
    cases h
  | some j =>
    rw [e] at h
    have h' : ds[j]? = some d := h
    show ∃ v, vs[j]? = some v ∧ _
    clear h e
    induction j generalizing ds vs with
    | zero =>
      cases r with
      | nil => cases h'
      | cons r t =>
        have e : _ = d := Option.some.inj h'
        subst e
        exact ⟨_, rfl, r⟩
    | succ j ih =>
      cases r with
      | nil => cases h'
      | cons r t => exact ih t h'
section
variable {X : Cx}
theorem ok_ix (hu : X.A.units + 1 < cLine) : IxR X (fun x y H Q => rN X.K (pn2 ixD) [x, y] H Q) := by
  intro value slice pins s σ H x y v u Q I rv ru h hs
  obtain ⟨B, io, R, dx, dy, d, R', rep, rx, ry, e, q⟩ := rN2 h
  unfold ixD at e
  split at e
  · rename_i z i
    split at e
    · rename_i c ec
      cases e
      split at ec
      · rename_i hl
        cases rx
        cases ry
        refine ix_str value slice pins s σ H _ _ v u Q I rv ru ⟨_, _, c, rfl, rfl, ?_, ?_, q io H _ (Step.refl _ _) rep (.str [c])⟩ hs
        · rw [strOf_length]
          exact hl
        · exact ec
      · cases ec
    · cases e
  · rename_i z i
    split at e
    · rename_i hz
      cases e
      cases rx
      cases ry
      obtain ⟨t, rfl⟩ := rv
      obtain ⟨t', rfl⟩ := ru
      have hl : sizeLine = 16777216 := sizeLine_eq
      exact tail_any (PySem.W.typeIs_bytes s z.toArray t) PySem.W.FB.slot_bytes_getitem.lookup (PySem.W.getItem_bytes (by have := hz.1; rw [show LINE = 16777216 from rfl] at this; omega) hz.2.1 hz.2.2 ⟨.int ((z.getD i.toNat 0).toNat : Nat), H, I.tok _, ⟨_, rfl⟩, q io H _ (Step.refl _ _) rep (.int _)⟩) hs
    · cases e
  · split at e
    · rename_i ks ek
      split at e
      · rename_i hk
        obtain ⟨a, kvs, rfl, hd, rk⟩ := rx.dict rep ek
        obtain ⟨k, ek⟩ := key_of hk
        have ey := key_rd ry ek
        subst ey
        have lk := look_rd ek rk
        cases el : lookD ks dy with
        | none =>
          rw [el] at e
          cases e
        | some w =>
          rw [el] at e lk
          cases e
          obtain ⟨w', e1, rw'⟩ := lk
          obtain rfl : v = Value.ref a := rv
          have g : DGet H a (kV k) (some w') := .inl ⟨kvs, k, hd, rfl, e1.symm⟩
          exact tail_any (dict_typeIs I g) PySem.F.slot_dict_getitem.lookup (d_getItem hu I g ru fun w2 s3 I3 r3 => ⟨w', H, I3, r3, q io H _ (Step.refl _ _) rep rw'⟩) hs
      · cases e
    · split at e
      · rename_i xs i es _ _
        obtain ⟨a, vs, rfl, hq, rs⟩ := rx.seq rep es
        cases ry
        obtain ⟨d0, e1, e2⟩ := Option.map_eq_some_iff.mp e
        cases e2
        obtain ⟨w, e3, rw'⟩ := atI_rd rs e1
        have fin := q io H _ (Step.refl _ _) rep rw'
        rcases hq with hq | hq
        · exact ix_list value slice pins s σ H _ _ v u Q I rv ru ⟨a, vs, _, w, rfl, rfl, hq, e3, fin⟩ hs
        · exact ix_tup value slice pins s σ H _ _ v u Q I rv ru ⟨a, vs, _, w, rfl, rfl, hq, e3, fin⟩ hs
      · cases e
/-! ### in -/
def inD (neg : Bool) : P2 := fun x y R => match dctOf R y with
  | some ks => if keyOk x = true then some (.bl (hasD ks x != neg), R) else none
  | none => match snapD R x, snapD R y with
    | some a, some (.lst ys) => if eqOk 12 a = true ∧ eqOk 12 (.lst ys) = true then some (.bl (decide (a ∈ ys) != neg), R) else none
    | some a, some (.tup ys) => if eqOk 12 a = true ∧ eqOk 12 (.tup ys) = true then some (.bl (decide (a ∈ ys) != neg), R) else none
    | _, _ => none
def rInT (K : PySem.W.Frag) : R2 := fun x y H Q => ∃ d ds, Dp K H x d ∧ Dp K H y (.tuple ds) ∧ SeqAt.shaped d = true ∧ SeqAt.shaped (.tuple ds) = true ∧ Q (.bl (ds.any fun z => PyData.eqv z d)) H
def rNotInT (K : PySem.W.Frag) : R2 := fun x y H Q => ∃ d ds, Dp K H x d ∧ Dp K H y (.tuple ds) ∧ SeqAt.shaped d = true ∧ SeqAt.shaped (.tuple ds) = true ∧ Q (.bl (!ds.any fun z => PyData.eqv z d)) H
theorem op_inT (hu : X.A.units + 65 < cLine) : OpR X (compareOp .In) (rInT X.K) := by
  intro pins s σ H x y v u Q I rx ry h
  obtain ⟨d, ds, hd, he, sd, se, q⟩ := h
  obtain ⟨as, r1⟩ := Dp.reads I d x v hd rx
  obtain ⟨bs, r2⟩ := Dp.reads I (.tuple ds) y u he ry
  exact SeqAt.in_tuple_reads r2 r1 (SeqAt.canLay_of_shaped se) (SeqAt.canLay_of_shaped sd) (room_in_shaped sd hu) ⟨.bl _, H, I, rfl, q⟩
theorem op_notInT (hu : X.A.units + 65 < cLine) : OpR X (compareOp .NotIn) (rNotInT X.K) := by
  intro pins s σ H x y v u Q I rx ry h
  obtain ⟨d, ds, hd, he, sd, se, q⟩ := h
  obtain ⟨as, r1⟩ := Dp.reads I d x v hd rx
  obtain ⟨bs, r2⟩ := Dp.reads I (.tuple ds) y u he ry
  exact SeqAt.notIn_tuple_reads r2 r1 (SeqAt.canLay_of_shaped se) (SeqAt.canLay_of_shaped sd) (room_in_shaped sd hu) ⟨.bl _, H, I, rfl, q⟩
theorem any_toPs {m n : Nat} {a : D} (h : eqOk m a = true) : ∀ {ys : List D}, eqOks n ys = true → ((toPs ys).any fun z => PyData.eqv z (toP a)) = decide (a ∈ ys)
  | [], _ => by simp [toPs]
  | y :: ys, k => by
    have k' : eqOk n y = true ∧ eqOks n ys = true := by simpa [eqOks] using k
    rw [toPs, List.any_cons, toP_eqv k'.1 h, any_toPs h k'.2]
    by_cases e : y = a
    · simp [e]
    · simp only [decide_eq_false e, Bool.false_or, List.mem_cons, show ¬ a = y from fun z => e z.symm, false_or]
theorem ok_in (hu : X.A.units + 65 < cLine) (neg : Bool) : OpR X (compareOp (if neg = true then .NotIn else .In)) (fun x y H Q => rN X.K (pn2 (inD neg)) [x, y] H Q) := by
  intro pins s σ H x y v u Q I rv ru h
  obtain ⟨B, io, R, dx, dy, d, R', rep, rx, ry, e, q⟩ := rN2 h
  unfold inD at e
  split at e
  · rename_i ks ek
    split at e
    · rename_i hk
      cases e
      obtain ⟨a, kvs, rfl, hd, rk⟩ := ry.dict rep ek
      obtain ⟨k, ek⟩ := key_of hk
      have ey := key_rd rx ek
      subst ey
      obtain rfl : u = Value.ref a := ru
      have g : DGet H a (kV k) (valV kvs k) := .inl ⟨kvs, k, hd, rfl, rfl⟩
      have ev : (valV kvs k).isSome = hasD ks dx := by
        rw [← valV_any]
        exact noKey ek rk
      have fin := q io H _ (Step.refl _ _) rep (.bl _)
      cases neg with
      | false => exact d_in (by omega) I g rv fun s' I' => ⟨.bl _, H, I', rfl, by rw [ev]; simpa using fin⟩
      | true => exact d_notIn (by omega) I g rv fun s' I' => ⟨.bl _, H, I', rfl, by rw [ev]; simpa using fin⟩
    · cases e
  · split at e
    · rename_i a ys e1 e2
      split at e
      · rename_i k
        cases e
        have r1 := dp_snap rep _ e1 rx k.1
        have r2 := dp_snap rep _ e2 ry k.2
        have k2 : eqOks 11 ys = true := by simpa [eqOk] using k.2
        have s1 := toP_shaped k.1 (by decide)
        have s2 := toP_shaped k.2 (by decide)
        have ea := any_toPs k.1 k2
        have fin := q io H _ (Step.refl _ _) rep (.bl _)
        cases neg with
        | false => exact op_inD hu pins s σ H x y v u Q I rv ru ⟨_, _, r1, r2, s1, s2, by rw [ea]; simpa using fin⟩
        | true => exact op_notInD hu pins s σ H x y v u Q I rv ru ⟨_, _, r1, r2, s1, s2, by rw [ea]; simpa using fin⟩
      · cases e
    · rename_i a ys e1 e2
      split at e
      · rename_i k
        cases e
        have r1 := dp_snap rep _ e1 rx k.1
        have r2 := dp_snap rep _ e2 ry k.2
        have k2 : eqOks 11 ys = true := by simpa [eqOk] using k.2
        have s1 := toP_shaped k.1 (by decide)
        have s2 := toP_shaped k.2 (by decide)
        have ea := any_toPs k.1 k2
        have fin := q io H _ (Step.refl _ _) rep (.bl _)
        cases neg with
        | false => exact op_inT hu pins s σ H x y v u Q I rv ru ⟨_, _, r1, r2, s1, s2, by rw [ea]; simpa using fin⟩
        | true => exact op_notInT hu pins s σ H x y v u Q I rv ru ⟨_, _, r1, r2, s1, s2, by rw [ea]; simpa using fin⟩
      · cases e
    · cases e
/-! ### stores -/
/-- x[i] = v: the region behind it -/
def setD (x i v : D) (R : Rg) : Option Rg := match x with
  | .ref n => match R[n]?, i with
    | some (.lst xs), .int k => (ixN xs.length k).map fun j => R.set n (.lst (xs.set j v))
    | some (.dct ks), k => if keyOk k = true ∧ ks.length < LINE then some (R.set n (.dct (setK ks k v))) else none
    | _, _ => none
  | _ => none
def rSet (K : PySem.W.Frag) (o i v : V) (H : Hp) (Q : Hp → Prop) : Prop := ∃ B io R dx di dv R', Rep K B io R H ∧ RD K (bars B io) io H dx o ∧ RD K (bars B io) io H di i ∧ RD K (bars B io) io H dv v ∧ setD dx di dv R = some R' ∧
  ∀ H', Step io H io H' → Rep K B io R' H' → Q H'
theorem rds_set {K : PySem.W.Frag} {bar : Addr → Prop} {io : Io} {H : Hp} {d : D} {v : V} (rv : RD K bar io H d v) : ∀ {ds : List D} {vs : List V} (j : Nat), RDs K bar io H ds vs → RDs K bar io H (ds.set j d) (vs.set j v)
  | _, _, _, .nil => .nil
  | _, _, 0, .cons r t => .cons rv t
  | _, _, j + 1, .cons r t => .cons r (rds_set rv j t)
theorem putK_len {kvs : List (Key × V)} {k : Key} {v : V} (h : kvs.length < sizeLine) : (putK kvs k v).length ≤ sizeLine := by
  have := length_putK kvs k v
  omega
theorem ok_set (hu : X.A.units + 1 < cLine) : PSet X (rSet X.K) := by
  intro pins s σ H o i v ov iv u Q I ro ri rv h
  obtain ⟨B, io, R, dx, di, dv, R', rep, rx, rdi, rdv, e, q⟩ := h
  unfold setD at e
  split at e
  · cases rx with
    | ref hi hq =>
      split at e
      · rename_i n xs k eR
        obtain ⟨p, vs, h1, h2, r⟩ := rep.atLst eR
        have ep := hq p h1
        subst ep
        cases rdi
        obtain ⟨j, ej, e2⟩ := Option.map_eq_some_iff.mp e
        subst e2
        rw [r.len] at ej
        refine set_list pins s σ H _ _ v ov iv u Q I ro ri rv ⟨p, vs, _, j, rfl, rfl, h2, ej, ?_⟩
        have hf := nofz h2 (fun _ _ z => by cases z)
        have st := Step.mut (H := H) (o := .lst (vs.set j v)) h1 hf
        exact q _ st (rep.mut h1 hf ⟨p, _, h1, upd_same, (rds_set rdv j r).car (st.car rep)⟩)
      · rename_i n ks k eR
        split at e
        · rename_i hk
          cases e
          obtain ⟨p, kvs, h1, h2, r⟩ := rep.atDct eR
          have ep := hq p h1
          subst ep
          obtain ⟨kk, ek⟩ := key_of hk.1
          have ey := key_rd rdi ek
          subst ey
          obtain rfl : ov = Value.ref p := ro
          have hf := nofz h2 (fun _ _ z => by cases z)
          have st := Step.mut (H := H) (o := .dK (putK kvs kk v)) h1 hf
          have hl : kvs.length < sizeLine := by
            rw [← r.len]
            exact hk.2
          refine d_setItem hu I (DPut.k h2 hl) ri rv fun s' I' => ⟨_, I', ?_⟩
          exact q _ st (rep.mut h1 hf ⟨p, _, h1, upd_same, (set_rd ek rdv (dk_nodup I (.inl h2)) r).car (st.car rep)⟩)
        · cases e
      · cases e
  · cases e
/-! ### calls -/
def lenD : PN := pn1 fun x R => match x with
  | .str x => if x.length ≤ LINE then some (.int x.length, R) else none
  | .byt x => if x.length ≤ LINE then some (.int x.length, R) else none
  | x => match dctOf R x with
    | some ks => some (.int ks.length, R)
    | none => (seqOf R x).map fun xs => (.int xs.length, R)
def listD (m : Bool) : PN := pn1 fun x R => match dctOf R x with
  | some ks => mkL m (ks.map (·.1)) R
  | none => match seqOf R x with
    | some xs => mkL m xs R
    | none => none
def tupleD : PN := pn1 fun x R => (seqOf R x).map fun xs => (.tup xs, R)
def intD : PN := pn1 fun x R => match x with
  | .int i => some (.int i, R)
  | _ => none
def boolsOf : List D → Option (List Bool)
  | [] => some []
  | .bl b :: r => (boolsOf r).map (b :: ·)
  | _ => none
def intsOf : List D → Option (List Int)
  | [] => some []
  | .int b :: r => (intsOf r).map (b :: ·)
  | _ => none
def allD : PN := pn1 fun x R => match lstOf R x with
  | some xs => (boolsOf xs).map fun bs => (.bl (bs.all id), R)
  | none => none
def anyD : PN := pn1 fun x R => match lstOf R x with
  | some xs => (boolsOf xs).map fun bs => (.bl (bs.any id), R)
  | none => none
def sumD : PN := pn1 fun x R => match lstOf R x with
  | some xs => (intsOf xs).map fun ns => (.int ns.sum, R)
  | none => none
def insI (i : Int) : List Int → List Int
  | [] => [i]
  | j :: r => if i ≤ j then i :: j :: r else j :: insI i r
def sortI : List Int → List Int
  | [] => []
  | i :: r => insI i (sortI r)
def sortedD (m : Bool) : PN := pn1 fun x R => match lstOf R x with
  | some xs => match intsOf xs with
    | some ns => if ns.length < 64 then mkL m ((sortI ns).map .int) R else none
    | none => none
  | none => none
def minI : List Int → Option Int
  | [] => none
  | i :: r => some (r.foldl min i)
def maxI : List Int → Option Int
  | [] => none
  | i :: r => some (r.foldl max i)
def minD : PN := pn1 fun x R => match lstOf R x with
  | some xs => match intsOf xs with
    | some ns => (minI ns).map fun i => (.int i, R)
    | none => none
  | none => none
def maxD : PN := pn1 fun x R => match lstOf R x with
  | some xs => match intsOf xs with
    | some ns => (maxI ns).map fun i => (.int i, R)
    | none => none
  | none => none
/-- the built-in class of a value -/
def tyD (R : Rg) (x : D) : Option String := match x with
  | .non => some "NoneType"
  | .bl _ => some "bool"
  | .int _ => some "int"
  | .str _ => some "str"
  | .byt _ => some "bytes"
  | .tup _ => some "tuple"
  | x => match viewD R x with
    | .lst _ => some "list"
    | .dct _ => some "dict"
    | _ => none
def isiD : PN := pn2 fun x y R => match tyD R x, y with
  | some a, .ty b => (kitB a b).map fun k => (.bl k, R)
  | _, _ => none
theorem rN_1 {K : PySem.W.Frag} {p : P1} {xs : List V} {H : Hp} {Q : VK} (h : rN K (pn1 p) xs H Q) : ∃ x, xs = [x] := by
  obtain ⟨B, io, R, ds, rep, rd, q⟩ := h
  cases rd with
  | nil => exact q.elim
  | cons r t =>
    cases t with
    | nil => exact ⟨_, rfl⟩
    | cons r t => exact q.elim
theorem rN_2 {K : PySem.W.Frag} {p : P2} {xs : List V} {H : Hp} {Q : VK} (h : rN K (pn2 p) xs H Q) : ∃ x y, xs = [x, y] := by
  obtain ⟨B, io, R, ds, rep, rd, q⟩ := h
  cases rd with
  | nil => exact q.elim
  | cons r t =>
    cases t with
    | nil => exact q.elim
    | cons r t =>
      cases t with
      | nil => exact ⟨_, _, rfl⟩
      | cons r t => exact q.elim
theorem dct_len {pins : List (Addr × Obj)} {σ : S} {H : Hp} {s : Shared} (I : Inv X pins σ H s) {a : Addr} {kvs : List (Key × V)} (h : Rd H a (.dK kvs)) : kvs.length ≤ sizeLine := (dk_rd I.hok h).1
theorem ok_len : CallR X (.builtin "len") (rN X.K lenD) := by
  intro pins s σ H xs us Q I r h
  obtain ⟨x, rfl⟩ := rN_1 h
  obtain ⟨B, io, R, dx, d, R', rep, rx, e, q⟩ := rN1 h
  split at e
  · split at e
    · rename_i hl
      cases e
      cases rx
      refine call_len_str pins s σ H _ us Q I r ⟨_, rfl, ?_, ?_⟩
      · rw [strOf_length]
        exact hl
      · rw [strOf_length]
        exact q io H _ (Step.refl _ _) rep (.int _)
    · cases e
  · split at e
    · rename_i x hl
      cases e
      cases rx
      refine call_len pins s σ H _ us Q I r ⟨_, x.length, rfl, ⟨by rw [List.size_toArray]; exact hl, by rw [List.size_toArray]⟩, q io H _ (Step.refl _ _) rep (.int _)⟩
    · cases e
  · split at e
    · rename_i ks ek
      cases e
      obtain ⟨a, kvs, rfl, hd, rk⟩ := rx.dict rep ek
      obtain ⟨u, rfl, ru⟩ := vals1 r
      obtain rfl : u = Value.ref a := ru
      refine d_len I hd fun t s' I' => ⟨.int kvs.length, H, I', ⟨t, rfl⟩, ?_⟩
      rw [← rk.len]
      exact q io H _ (Step.refl _ _) rep (.int _)
    · obtain ⟨zs, es, e2⟩ := Option.map_eq_some_iff.mp e
      cases e2
      obtain ⟨a, vs, rfl, hq, rs⟩ := rx.seq rep es
      refine call_len_seq pins s σ H _ us Q I r ⟨a, vs, rfl, hq, ?_⟩
      rw [← rs.len]
      exact q io H _ (Step.refl _ _) rep (.int _)
theorem ok_list (hc : X.calm = true) (m : Bool) : CallR X (.type "list") (rN X.K (listD m)) := by
  intro pins s σ H xs us Q I r h
  obtain ⟨x, rfl⟩ := rN_1 h
  obtain ⟨B, io, R, dx, d, R', rep, rx, e, q⟩ := rN1 h
  split at e
  · rename_i ks ek
    obtain ⟨a, kvs, rfl, hd, rk⟩ := rx.dict rep ek
    refine call_listD hc pins s σ H _ us Q I r ⟨a, kvs, rfl, hd, fun p hp => ?_⟩
    obtain ⟨io', st, rep', r'⟩ := mkL_ok rep hp (keys_rd rk) e
    exact q io' _ _ st rep' r'
  · split at e
    · rename_i zs es
      obtain ⟨a, vs, rfl, hq, rs⟩ := rx.seq rep es
      refine call_list_of pins s σ H _ us Q I r ⟨a, vs, rfl, hq, fun p hp => ?_⟩
      obtain ⟨io', st, rep', r'⟩ := mkL_ok rep hp rs e
      exact q io' _ _ st rep' r'
    · cases e
theorem ok_tuple : CallR X (.type "tuple") (rN X.K tupleD) := by
  intro pins s σ H xs us Q I r h
  obtain ⟨x, rfl⟩ := rN_1 h
  obtain ⟨B, io, R, dx, d, R', rep, rx, e, q⟩ := rN1 h
  obtain ⟨zs, es, e2⟩ := Option.map_eq_some_iff.mp e
  cases e2
  obtain ⟨a, vs, rfl, hq, rs⟩ := rx.seq rep es
  refine call_tuple_of pins s σ H _ us Q I r ⟨a, vs, rfl, ?_⟩
  rcases hq with hq | hq
  · refine .inl ⟨hq, fun p hp => ?_⟩
    obtain ⟨st, rep', r'⟩ := tup_ok rep hp rs
    exact q io _ _ st rep' r'
  · exact .inr ⟨hq, q io H _ (Step.refl _ _) rep (.tup hq rs)⟩
theorem ok_int : CallR X (.type "int") (rN X.K intD) := by
  intro pins s σ H xs us Q I r h
  obtain ⟨x, rfl⟩ := rN_1 h
  obtain ⟨B, io, R, dx, d, R', rep, rx, e, q⟩ := rN1 h
  split at e
  · cases e
    cases rx
    exact call_int1 pins s σ H _ us Q I r (.inl ⟨_, rfl, q io H _ (Step.refl _ _) rep (.int _)⟩)
  · cases e
theorem bools_rd {K : PySem.W.Frag} {bar : Addr → Prop} {io : Io} {H : Hp} : ∀ {ds : List D} {vs : List V} {bs : List Bool}, RDs K bar io H ds vs → boolsOf ds = some bs → vs = bs.map V.bl
  | _, _, bs, .nil, e => by
    cases e
    rfl
  | d :: ds, v :: vs, bs, .cons r t, e => by
    cases d <;> simp [boolsOf] at e
    obtain ⟨cs, e1, e2⟩ := e
    subst e2
    cases r
    rw [bools_rd t e1]
    rfl
theorem ints_rd {K : PySem.W.Frag} {bar : Addr → Prop} {io : Io} {H : Hp} : ∀ {ds : List D} {vs : List V} {bs : List Int}, RDs K bar io H ds vs → intsOf ds = some bs → vs = bs.map V.int
  | _, _, bs, .nil, e => by
    cases e
    rfl
  | d :: ds, v :: vs, bs, .cons r t, e => by
    cases d <;> simp [intsOf] at e
    obtain ⟨cs, e1, e2⟩ := e
    subst e2
    cases r
    rw [ints_rd t e1]
    rfl
theorem ok_all (hc : X.calm = true) : CallR X (.builtin "all") (rN X.K allD) := by
  intro pins s σ H xs us Q I r h
  obtain ⟨x, rfl⟩ := rN_1 h
  obtain ⟨B, io, R, dx, d, R', rep, rx, e, q⟩ := rN1 h
  split at e
  · rename_i zs es
    obtain ⟨bs, e1, e2⟩ := Option.map_eq_some_iff.mp e
    cases e2
    obtain ⟨a, vs, rfl, hq, rs⟩ := rx.list rep es
    have ev := bools_rd rs e1
    subst ev
    exact cr_all hc pins s σ H _ us Q I r ⟨a, bs, rfl, hq, q io H _ (Step.refl _ _) rep (.bl _)⟩
  · cases e
theorem ok_any (hc : X.calm = true) : CallR X (.builtin "any") (rN X.K anyD) := by
  intro pins s σ H xs us Q I r h
  obtain ⟨x, rfl⟩ := rN_1 h
  obtain ⟨B, io, R, dx, d, R', rep, rx, e, q⟩ := rN1 h
  split at e
  · rename_i zs es
    obtain ⟨bs, e1, e2⟩ := Option.map_eq_some_iff.mp e
    cases e2
    obtain ⟨a, vs, rfl, hq, rs⟩ := rx.list rep es
    have ev := bools_rd rs e1
    subst ev
    exact cr_any hc pins s σ H _ us Q I r ⟨a, bs, rfl, hq, q io H _ (Step.refl _ _) rep (.bl _)⟩
  · cases e
theorem ok_sum (hc : X.calm = true) : CallR X (.builtin "sum") (rN X.K sumD) := by
  intro pins s σ H xs us Q I r h
  obtain ⟨x, rfl⟩ := rN_1 h
  obtain ⟨B, io, R, dx, d, R', rep, rx, e, q⟩ := rN1 h
  split at e
  · rename_i zs es
    obtain ⟨bs, e1, e2⟩ := Option.map_eq_some_iff.mp e
    cases e2
    obtain ⟨a, vs, rfl, hq, rs⟩ := rx.list rep es
    have ev := ints_rd rs e1
    subst ev
    exact cr_sum hc pins s σ H _ us Q I r ⟨a, bs, rfl, hq, q io H _ (Step.refl _ _) rep (.int _)⟩
  · cases e
theorem insI_perm (i : Int) : ∀ l : List Int, (insI i l).Perm (i :: l)
  | [] => .refl _
  | j :: r => by
    unfold insI
    split
    · exact .refl _
    · exact ((insI_perm i r).cons j).trans (.swap i j r)
theorem sortI_perm : ∀ l : List Int, (sortI l).Perm l
  | [] => .refl _
  | i :: r => (insI_perm i _).trans ((sortI_perm r).cons i)
theorem insI_sorted (i : Int) : ∀ l : List Int, l.Pairwise (· ≤ ·) → (insI i l).Pairwise (· ≤ ·)
  | [], _ => by simp [insI]
  | j :: r, h => by
    have h' := List.pairwise_cons.mp h
    unfold insI
    split
    · rename_i hij
      refine List.pairwise_cons.mpr ⟨fun a ha => ?_, h⟩
      rcases List.mem_cons.mp ha with e | e
      · rw [e]; exact hij
      · exact Int.le_trans hij (h'.1 a e)
    · rename_i hij
      refine List.pairwise_cons.mpr ⟨fun a ha => ?_, insI_sorted i r h'.2⟩
      rcases List.mem_cons.mp ((insI_perm i r).mem_iff.mp ha) with e | e
      · omega
      · exact h'.1 a e
theorem sortI_sorted : ∀ l : List Int, (sortI l).Pairwise (· ≤ ·)
  | [] => .nil
  | i :: r => insI_sorted i _ (sortI_sorted r)
theorem sorted_one {a b : List Int} (p : a.Perm b) (ha : a.Pairwise (· ≤ ·)) (hb : b.Pairwise (· ≤ ·)) : a = b :=
  p.eq_of_pairwise (fun x y _ _ h k => Int.le_antisymm h k) ha hb
theorem rds_ints {K : PySem.W.Frag} {bar : Addr → Prop} {io : Io} {H : Hp} : ∀ ns : List Int, RDs K bar io H (ns.map D.int) (ns.map V.int)
  | [] => .nil
  | n :: r => .cons (.int n) (rds_ints r)
theorem ok_sorted (m : Bool) : CallR X (.builtin "sorted") (rN X.K (sortedD m)) := by
  intro pins s σ H xs us Q I r h
  obtain ⟨x, rfl⟩ := rN_1 h
  obtain ⟨B, io, R, dx, d, R', rep, rx, e, q⟩ := rN1 h
  split at e
  · rename_i zs es
    split at e
    · rename_i ns e1
      split at e
      · rename_i h64
        obtain ⟨a, vs, rfl, hq, rs⟩ := rx.list rep es
        have ev := ints_rd rs e1
        subst ev
        refine cr_sorted pins s σ H _ us Q I r ⟨a, ns, rfl, hq, h64, fun ns' p hp hs hn => ?_⟩
        have en : ns' = sortI ns := sorted_one (hp.trans (sortI_perm ns).symm) hs (sortI_sorted ns)
        rw [en]
        obtain ⟨io', st, rep', r'⟩ := mkL_ok rep hn (rds_ints (sortI ns)) e
        exact q io' _ _ st rep' r'
      · cases e
    · cases e
  · cases e
theorem tyD_ty {pins : List (Addr × Obj)} {σ : S} {H : Hp} {s : Shared} {B : Addr → Prop} {io : Io} {R : Rg} {d : D} {v : V} {t : String} (I : Inv X pins σ H s) (rep : Rep X.K B io R H) (r : RD X.K (bars B io) io H d v) (e : tyD R d = some t) : TyX X.K H v (.type t) := by
  have lst : ∀ {a : Addr} {vs : List V}, SqL X.K H a vs → TyX X.K H (.ref a) (.type "list") := fun h => by
    rcases h with (h | ⟨o, h⟩) | ⟨o, its, n, h1, h2, _⟩
    · exact .base (.lst h)
    · exact .base (.frz h)
    · exact .kList h1 h2
  have dct : ∀ {a : Addr} {vs : List (Key × V)}, Rd H a (.dK vs) → TyX X.K H (.ref a) (.type "dict") := fun h => by
    rcases h with h | ⟨o, h⟩
    · exact .base (.dK h)
    · exact .fDict h
  cases r with
  | non => cases e; exact .base .non
  | bl b => cases e; exact .base (.bl b)
  | int i => cases e; exact .base (.int i)
  | str x => cases e; exact .base (.str _)
  | byt x => cases e; exact .byt _
  | tup h r =>
    cases e
    rcases h with (h | ⟨o, h⟩) | ⟨o, its, n, h1, h2, _⟩
    · exact .base (.tup h)
    · exact .fTuple h
    · exact .kTuple h1 h2
  | lst h r => cases e; exact lst h.sq
  | dct n h r => cases e; exact dct h
  | ins n h r => cases e
  | ty n => cases e
  | glo x => cases e
  | @ref i a hi q =>
    have e' : (match roV ((R[i]?).getD O.dead) with
      | .lst _ => some "list"
      | .dct _ => some "dict"
      | _ => none) = some t := e
    cases e1 : R[i]? with
    | none =>
      rw [e1] at e'
      cases e'
    | some o =>
      rw [e1] at e'
      cases o with
      | lst xs =>
        cases e'
        obtain ⟨p, vs, h1, h2, r⟩ := rep.atLst e1
        rw [← q p h1]
        exact lst (.inl (.inl h2))
      | dct xs =>
        cases e'
        obtain ⟨p, vs, h1, h2, r⟩ := rep.atDct e1
        rw [← q p h1]
        exact dct (.inl h2)
      | dctL xs =>
        cases e'
        obtain ⟨p, ob, vs, h1, h2, r⟩ := rep.atDctL e1
        rw [← q p h1]
        exact dct (.inr ⟨ob, h2⟩)
      | _ => cases e'
theorem ok_isi : CallR X (.builtin "isinstance") (rN X.K isiD) := by
  intro pins s σ H xs us Q I r h
  obtain ⟨x, y, rfl⟩ := rN_2 h
  obtain ⟨B, io, R, dx, dy, d, R', rep, rx, ry, e, q⟩ := rN2 h
  split at e
  · rename_i a b et
    obtain ⟨k, ek, e2⟩ := Option.map_eq_some_iff.mp e
    cases e2
    cases ry
    exact call_isi pins s σ H _ us Q I r ⟨x, .ty b, .type a, .type b, k, rfl, .ty b, tyD_ty I rep rx et, kit_ty ek, q io H _ (Step.refl _ _) rep (.bl _)⟩
  · cases e
end
end Om
/-! Om, part G: expressions, node by node. -/
namespace Om
open PySem PySem.Spec PyProof.Rows L2
def cmpP : CmpOp → Option P2
  | .Eq => some (eqD' false)
  | .NotEq => some (eqD' true)
  | .Lt => some (ltD' .lt)
  | .Gt => some (ltD' .gt)
  | .LtE => some (ltD' .le)
  | .GtE => some (ltD' .ge)
  | .Is => some (isD false)
  | .IsNot => some (isD true)
  | .In => some (inD false)
  | .NotIn => some (inD true)
def binP (m : Bool) : Operator → Option P2
  | .Add => some (addD m)
  | .Sub => some subD
  | .Mult => some (mulD m)
  | .FloorDiv => some fdivD
  | .Mod => some modD
  | .Pow => some powD
  | _ => none
/-- a op b op c -/
def cCh (p q : P2) (a b c : SE) : SE := fun s R => (a s R).bind fun x R1 => (b s R1).bind fun y R2 => (lift (p x y R2)).bind fun z R3 => match z with
  | .bl true => (c s R3).bind fun w R4 => lift (q y w R4)
  | .bl false => .ok (.bl false) R3
  | _ => .err
def bOf (a : SE) : SB := fun s R => (a s R).bind fun x R1 => match x with
  | .bl k => .ok k R1
  | _ => .err
def cTup (a : SA) : SE := fun s R => (a s R).bind fun xs R1 => if xs.length ≤ LINE then .ok (.tup xs) R1 else .err
def cLst (m : Bool) (a : SA) : SE := fun s R => (a s R).bind fun xs R1 => lift (mkL m xs R1)
/-- the tree of what stands at an argument -/
def snaps (R : Rg) (ds : List D) : Option (List D) := ds.mapM (snapD R)
def pure1 (any : Bool) (r : Res D) (R : Rg) : Res D := match r with
  | .ok d R1 => match snapD R1 d with
    | some t => if (any || flatD t) = true then .ok t R else .err
    | none => .err
  | .exc c f R1 => if flatD f = true ∨ f = .undef then .exc c f R else .err
  | .err => .err
/-- a call that is handed trees and hands back a tree -/
def callP (F : SF) (ds : List D) (R : Rg) : Res D := match snaps R ds with
  | some ts => pure1 (pureDs ds) (F ts []) R
  | none => .err
section
variable {X : Cx} {W : WX} {a b c e : Expr} {es : List Expr} {ma mb mc : SE} {mes : SA} {ka kb : SB} {pos : Pos}
theorem ok_cmp (hu : X.A.units + 65 < cLine) {op : CmpOp} {p : P2} (h : cmpP op = some p) : OpR X (compareOp op) (fun x y H Q => rN X.K (pn2 p) [x, y] H Q) := by
  cases op <;> cases h
  · exact ok_eq (by omega) false
  · exact ok_eq (by omega) true
  · exact ok_lt (by omega) .lt
  · exact ok_lt (by omega) .le
  · exact ok_lt (by omega) .gt
  · exact ok_lt (by omega) .ge
  · exact ok_is false
  · exact ok_is true
  · exact ok_in hu false
  · exact ok_in hu true
theorem ok_bin {m : Bool} {op : Operator} {p : P2} (h : binP m op = some p) : OpR X (binaryOp op) (fun x y H Q => rN X.K (pn2 p) [x, y] H Q) := by
  cases op <;> cases h
  · exact ok_add m
  · exact ok_sub
  · exact ok_mul m
  · exact ok_mod
  · exact ok_pow
  · exact ok_fdiv
section
variable {K : PySem.W.Frag} {σ : S} {H : Hp} {Q : VK}
/-- the same, stated otherwise -/
theorem Told.conv {A Z : Type} {rel : Rel A Z} {m m' : List D → List D → Rg → Res A} {Q : Z → Hp → Prop} (h : Told K W σ H rel [] m Q) (e : ∀ s R, m [] s R = m' [] s R) : Told K W σ H rel [] m' Q := by
  obtain ⟨B, io, R, s, ds, rep, rs, rd, p⟩ := h
  cases rd
  refine ⟨B, io, R, s, [], rep, rs, .nil, ?_⟩
  rw [← e]
  exact p
theorem Told.fin1 {v : V} (h : Told K W σ H (RD K) [v] (fun ds _ R => match ds with | [d] => .ok d R | _ => .err) Q) : Q v H := by
  obtain ⟨B, io, R, s, ds, rep, rs, rd, p⟩ := h
  obtain ⟨d, ds, rfl, r, rd⟩ := rd.cons_inv
  cases rd.nil_inv
  exact p io H v (Step.refl _ _) rep r
theorem Told.rets {vs : List V} {Q : List V → Hp → Prop} (h : Told K W σ H (RDs K) vs (fun ds _ R => .ok ds R) Q) : Q vs H := by
  obtain ⟨B, io, R, s, ds, rep, rs, rd, p⟩ := h
  exact p io H vs (Step.refl _ _) rep rd
theorem Told.retB {vs : List V} {k : Bool} {Q : Bool → Hp → Prop} (h : Told K W σ H (fun _ _ _ a b => a = b) vs (fun _ _ R => .ok k R) Q) : Q k H := by
  obtain ⟨B, io, R, s, ds, rep, rs, rd, p⟩ := h
  exact p io H k (Step.refl _ _) rep rfl
theorem Told.ret0 {vs : List V} {d : D} {v : V} (r : ∀ bar io H, RD K bar io H d v) (h : Told K W σ H (RD K) vs (fun _ _ R => .ok d R) Q) : Q v H := by
  obtain ⟨B, io, R, s, ds, rep, rs, rd, p⟩ := h
  exact p io H v (Step.refl _ _) rep (r _ _ _)
theorem Told.drop {A Z : Type} {rel : Rel A Z} {vs : List V} {m : List D → Rg → Res A} {Q : Z → Hp → Prop} (h : Told K W σ H rel vs (fun _ => m) Q) : Told K W σ H rel [] (fun _ => m) Q := by
  obtain ⟨B, io, R, s, ds, rep, rs, rd, p⟩ := h
  exact ⟨B, io, R, s, [], rep, rs, .nil, p⟩
end
/-! ### arguments -/
theorem sa_nil : PA X [] (tA X.K W cNil) := pa_nil.imp fun σ H Q h => Told.rets (Told.conv h fun _ _ => rfl)
theorem sa_cons (h1 : PE X e (tE X.K W ma)) (h2 : PA X es (tA X.K W mes)) (hs : starEach (e :: es) X.env = (false, eval e X.env) :: starEach es X.env) : PA X (e :: es) (tA X.K W (cCons ma mes)) :=
  (pa_cons h1 h2 hs).imp fun σ H Q h => by
    have h0 := Told.eval (vs := []) (m := ma) (F := fun ds s R => (mes s R).bind fun es R1 => .ok (ds ++ es) R1) (Told.conv h fun _ _ => rfl)
    exact h0.imp fun v H1 t => (Told.evalA (vs := [v]) (F := fun ds _ R => .ok ds R) t).imp fun us H2 t => Told.rets t
/-! ### displays -/
theorem se_tup {k : Nat} (h : PA X es (tA X.K W mes)) : PE X (.Tuple es k pos) (tE X.K W (cTup mes)) := (pe_tup h).imp fun σ H Q h => by
  have h0 := Told.evalA (vs := []) (m := mes) (F := fun ds _ R => if ds.length ≤ LINE then .ok (.tup ds) R else .err) (Told.conv h fun _ _ => rfl)
  refine h0.imp fun us H1 t => ?_
  obtain ⟨B, io, R, s, ds, rep, rs, rd, p⟩ := t
  have p : Pst X.K B io H1 W σ (RD X.K) (if ds.length ≤ LINE then .ok (.tup ds) R else .err) Q := p
  split at p
  · rename_i hl
    have rd : RDs X.K (bars B io) io H1 ds us := rd
    refine ⟨by rw [← rd.len]; exact hl, fun q hq => ?_⟩
    obtain ⟨st, rep', r'⟩ := tup_ok rep hq rd
    exact p io _ _ st rep' r'
  · exact p.elim
theorem se_lst {m : Bool} (h : PA X es (tA X.K W mes)) : PE X (.List es pos) (tE X.K W (cLst m mes)) := (pe_lst h).imp fun σ H Q h => by
  have h0 := Told.evalA (vs := []) (m := mes) (F := fun ds _ R => lift (mkL m ds R)) (Told.conv h fun _ _ => rfl)
  refine h0.imp fun us H1 t => ?_
  obtain ⟨B, io, R, s, ds, rep, rs, rd, p⟩ := t
  have p : Pst X.K B io H1 W σ (RD X.K) (lift (mkL m ds R)) Q := p
  cases e : mkL m ds R with
  | none =>
    rw [e] at p
    exact p.elim
  | some z =>
    rw [e] at p
    have rd : RDs X.K (bars B io) io H1 ds us := rd
    refine ⟨by rw [← rd.len]; exact mkL_len e, fun q hq => ?_⟩
    obtain ⟨io', st, rep', r'⟩ := mkL_ok rep hq rd e
    exact p io' _ _ st rep' r'
/-! ### operators -/
theorem se_bin {m : Bool} {op : Operator} {p : P2} (hp : binP m op = some p) (h1 : PE X a (tE X.K W ma)) (h2 : PE X b (tE X.K W mb)) : PE X (.BinOp a op b pos) (tE X.K W (cOp2 p ma mb)) :=
  se_op2 (fun _ _ _ x y z => pe_op z x y) (ok_bin hp) h1 h2
theorem se_neg (h : PE X a (tE X.K W ma)) : PE X (.UnaryOp .USub a pos) (tE X.K W (cOp1 negD ma)) := (pe_un ok_neg h).imp fun σ H Q h => by
  have h0 := Told.eval (vs := []) (m := ma) (F := fun ds _ R => lift (pn1 negD ds R)) (Told.conv h fun _ _ => rfl)
  exact h0.imp fun v H1 t => Told.op t
theorem se_cmp (hu : X.A.units + 65 < cLine) {op : CmpOp} {p : P2} (hp : cmpP op = some p) (h1 : PE X a (tE X.K W ma)) (h2 : PE X b (tE X.K W mb)) (hm : behindInMarks op b = false) : PE X (.Compare a [op] [b] pos) (tE X.K W (cOp2 p ma mb)) :=
  se_op2 (fun _ _ _ x y z => pe_cmpR z x y hm) (ok_cmp hu hp) h1 h2
theorem tst_of {K : PySem.W.Frag} {σ : S} {H : Hp} {m : SE} {Q : Bool → Hp → Prop} (h : tB K W (bOf m) σ H Q) : tE K W m σ H fun x H' => ∃ k, x = .bl k ∧ Q k H' := by
  have h0 := Told.eval (vs := []) (m := m) (F := fun ds _ R => match ds with | [.bl k] => .ok k R | _ => .err) (rel := fun _ _ _ a b => a = b) (Q := Q) (Told.conv h fun s R => by
    show (m s R).bind _ = (m s R).bind _
    congr 1
    funext d R1
    cases d <;> rfl)
  refine h0.imp fun v H1 t => ?_
  obtain ⟨B, io, R, s, ds, rep, rs, rd, p⟩ := t
  obtain ⟨d, ds, rfl, r, rd⟩ := rd.cons_inv
  cases rd.nil_inv
  cases r <;> first
    | exact ⟨_, rfl, p io H1 _ (Step.refl _ _) rep rfl⟩
    | exact p.elim
theorem sb_cmp (hu : X.A.units + 65 < cLine) {op : CmpOp} {p : P2} (hp : cmpP op = some p) (h1 : PE X a (tE X.K W ma)) (h2 : PE X b (tE X.K W mb)) (hm : behindInMarks op b = false) : PT X (.Compare a [op] [b] pos) (tB X.K W (bOf (cOp2 p ma mb))) := by
  refine (pt_cmpR (ok_cmp hu hp) h1 h2 hm).imp fun σ H Q h => ?_
  have h1 := tst_of h
  have z := Told.eval (K := X.K) (W := W) (σ := σ) (H := H) (rel := RD X.K) (vs := []) (m := ma) (F := fun ds s R => (mb s R).bind fun y R2 => lift (pn2 p (ds ++ [y]) R2)) (Told.conv h1 fun _ _ => rfl)
  exact z.imp fun v H1 t => (Told.eval (vs := [v]) (m := mb) (F := fun ds s R => lift (pn2 p ds R)) t).imp fun w H2 t => Told.op t
theorem ch_core {K : PySem.W.Frag} {σ : S} {H : Hp} {p q : P2} {Q : VK} (h : tE K W (cCh p q ma mb mc) σ H Q) :
    tChain (fun x y H Q => rN K (pn2 p) [x, y] H Q) (fun x y H Q => rN K (pn2 q) [x, y] H Q) (tE K W ma) (tE K W mb) (tE K W mc) σ H Q := by
  have z := Told.eval (vs := []) (m := ma) (F := fun ds s R => (mb s R).bind fun y R2 => (fun ds s R => (match ds with
    | [x, y] => (lift (p x y R)).bind fun z R3 => match z with
      | .bl true => (mc s R3).bind fun w R4 => lift (q y w R4)
      | .bl false => .ok (.bl false) R3
      | _ => .err
    | _ => .err : Res D)) (ds ++ [y]) s R2) (Told.conv h fun _ _ => rfl)
  refine z.imp fun v H1 t => (Told.eval (vs := [v]) (m := mb) (F := fun ds s R => (match ds with
    | [x, y] => (lift (p x y R)).bind fun z R3 => match z with
      | .bl true => (mc s R3).bind fun w R4 => lift (q y w R4)
      | .bl false => .ok (.bl false) R3
      | _ => .err
    | _ => .err : Res D)) t).imp fun w H2 t => ?_
  obtain ⟨B, io, R, s, ds, rep, rs, rd, t⟩ := t
  obtain ⟨dx, ds, rfl, rx, rd⟩ := RDs.cons_inv rd
  obtain ⟨dy, ds, rfl, ry, rd⟩ := rd.cons_inv
  cases rd.nil_inv
  refine ⟨B, io, R, [dx, dy], rep, .cons rx (.cons ry .nil), ?_⟩
  have t : Pst K B io H2 W σ (RD K) ((lift (p dx dy R)).bind fun z R3 => match z with
      | .bl true => (mc s R3).bind fun w R4 => lift (q dy w R4)
      | .bl false => .ok (.bl false) R3
      | _ => .err) Q := t
  show match p dx dy R with
    | some (d, R') => _
    | none => False
  cases e : p dx dy R with
  | none =>
    rw [e] at t
    exact t
  | some zz =>
    obtain ⟨d, R3⟩ := zz
    rw [e] at t
    intro io3 H3 u st3 rep3 r3
    have c3 := st3.car rep
    have ry3 := ry.car c3
    have rs3 := rs.car c3
    cases d with
    | bl k =>
      cases r3
      refine ⟨k, rfl, ?_⟩
      cases k with
      | false =>
        rw [if_neg (by decide)]
        exact t io3 H3 _ st3 rep3 (.bl false)
      | true =>
        rw [if_pos rfl]
        have t2 : Pst K B io H2 W σ (RD K) ((mc s R3).bind fun w R4 => lift (q dy w R4)) Q := t
        refine (Told.eval (K := K) (W := W) (σ := σ) (rel := RD K) (vs := [w]) (m := mc) (F := fun ds s R => lift (pn2 q ds R)) (Q := Q) ⟨B, io3, R3, s, [dy], rep3, rs3, .cons ry3 .nil, t2.shift st3⟩).imp fun x H4 t => Told.op t
    | _ => exact t.elim
theorem se_ch (hu : X.A.units + 65 < cLine) {op op' : CmpOp} {p q : P2} (hp : cmpP op = some p) (hq : cmpP op' = some q) (h1 : PE X a (tE X.K W ma)) (h2 : PE X b (tE X.K W mb)) (h3 : PE X c (tE X.K W mc)) (hm : lastMarks [op, op'] [b, c] = false) :
    PE X (.Compare a [op, op'] [b, c] pos) (tE X.K W (cCh p q ma mb mc)) := (pe_chain (ok_cmp hu hp) (ok_cmp hu hq) h1 h2 h3 hm).imp fun σ H Q h => ch_core h
theorem sb_ch (hu : X.A.units + 65 < cLine) {op op' : CmpOp} {p q : P2} (hp : cmpP op = some p) (hq : cmpP op' = some q) (h1 : PE X a (tE X.K W ma)) (h2 : PE X b (tE X.K W mb)) (h3 : PE X c (tE X.K W mc)) (hm : lastMarks [op, op'] [b, c] = false) :
    PT X (.Compare a [op, op'] [b, c] pos) (tB X.K W (bOf (cCh p q ma mb mc))) := (pt_chain (ok_cmp hu hp) (ok_cmp hu hq) h1 h2 h3 hm).imp fun σ H Q h => ch_core (tst_of h)
theorem bl_inv {K : PySem.W.Frag} {bar : Addr → Prop} {io : Io} {H : Hp} {d : D} {k : Bool} (r : RD K bar io H d (.bl k)) : d = .bl k := by
  cases r
  rfl
/-- a value that must be a truth, then a way -/
theorem way {K : PySem.W.Frag} {σ : S} {H : Hp} {m : SE} {f g : SE} {Q : VK} (h : tE K W (fun s R => (m s R).bind fun x R1 => match x with
    | .bl true => f s R1
    | .bl false => g s R1
    | _ => .err) σ H Q) : tE K W m σ H fun x H1 => ∃ c, x = .bl c ∧ if c = true then tE K W f σ H1 Q else tE K W g σ H1 Q := by
  have h0 := Told.eval (vs := []) (m := m) (F := fun ds s R => match ds with | [.bl true] => f s R | [.bl false] => g s R | _ => .err) (rel := RD K) (Q := Q) (Told.conv h fun s R => by
    show (m s R).bind _ = (m s R).bind _
    congr 1
    funext d R1
    cases d <;> try rfl
    rename_i b
    cases b <;> rfl)
  refine h0.imp fun v H1 t => ?_
  obtain ⟨B, io, R, s, ds, rep, rs, rd, p⟩ := t
  obtain ⟨d, ds, rfl, r, rd⟩ := rd.cons_inv
  cases rd.nil_inv
  cases r <;> first
    | exact p.elim
    | (rename_i k
       refine ⟨k, rfl, ?_⟩
       cases k with
       | true =>
         rw [if_pos rfl]
         exact ⟨B, io, R, s, [], rep, rs, .nil, p⟩
       | false =>
         rw [if_neg (by decide)]
         exact ⟨B, io, R, s, [], rep, rs, .nil, p⟩)
theorem con_bl {K : PySem.W.Frag} {σ : S} {H : Hp} {k : Bool} {Q : VK} (h : tE K W (fun _ R => .ok (.bl k) R) σ H Q) : Q (.bl k) H := Told.ret0 (fun _ _ _ => .bl k) h
theorem se_and {r : List Expr} (h1 : PE X a (tE X.K W ma)) (h2 : PE X (.BoolOp .And (b :: r) pos) (tE X.K W mb)) : PE X (.BoolOp .And (a :: b :: r) pos) (tE X.K W (cAnd ma mb)) := (pe_and h1 h2).imp fun σ H Q h =>
  (way (m := ma) (f := mb) (g := fun _ R => .ok (.bl false) R) h).imp fun v H1 ⟨c, e, q⟩ => ⟨c, e, by
    cases c with
    | true => rw [if_pos rfl] at q ⊢; exact q
    | false => rw [if_neg (by decide)] at q ⊢; exact con_bl q⟩
theorem se_or {r : List Expr} (h1 : PE X a (tE X.K W ma)) (h2 : PE X (.BoolOp .Or (b :: r) pos) (tE X.K W mb)) : PE X (.BoolOp .Or (a :: b :: r) pos) (tE X.K W (cOr ma mb)) := (pe_or h1 h2).imp fun σ H Q h =>
  (way (m := ma) (f := fun _ R => .ok (.bl true) R) (g := mb) h).imp fun v H1 ⟨c, e, q⟩ => ⟨c, e, by
    cases c with
    | true => rw [if_pos rfl] at q ⊢; exact con_bl q
    | false => rw [if_neg (by decide)] at q ⊢; exact q⟩
def cNot (a : SE) : SE := fun s R => (a s R).bind fun x R1 => match x with
  | .bl true => .ok (.bl false) R1
  | .bl false => .ok (.bl true) R1
  | _ => .err
theorem se_not (h1 : PE X a (tE X.K W ma)) : PE X (.UnaryOp .Not a pos) (tE X.K W (cNot ma)) := (pe_not h1).imp fun σ H Q h =>
  (way (m := ma) (f := fun _ R => .ok (.bl false) R) (g := fun _ R => .ok (.bl true) R) h).imp fun v H1 ⟨c, e, q⟩ => ⟨c, e, by
    cases c with
    | true => rw [if_pos rfl] at q; exact con_bl q
    | false => rw [if_neg (by decide)] at q; exact con_bl q⟩
theorem se_if (hc : PT X c (tB X.K W kb)) (h1 : PE X a (tE X.K W ma)) (h2 : PE X b (tE X.K W mb)) : PE X (.IfExp c a b pos) (tE X.K W (cIf kb ma mb)) := (pe_ifExp hc h1 h2).imp fun σ H Q h => by
  have h0 := Told.evalB (vs := []) (m := kb) (F := fun k ds s R => if k = true then ma s R else mb s R) (Told.conv h fun _ _ => rfl)
  refine h0.imp fun k H1 t => ?_
  cases k with
  | true => rw [if_pos rfl]; exact Told.conv t fun _ _ => if_pos rfl
  | false => rw [if_neg (by decide)]; exact Told.conv t fun _ _ => if_neg (by decide)
/-! ### tests -/
theorem sb_not (h : PT X a (tB X.K W ka)) : PT X (.UnaryOp .Not a pos) (tB X.K W (bNot ka)) := (pt_not h).imp fun σ H Q h => by
  have h0 := Told.evalB (vs := []) (m := ka) (F := fun k ds s R => .ok (!k) R) (Told.conv h fun _ _ => rfl)
  exact h0.imp fun k H1 t => Told.retB t
theorem sb_and {r : List Expr} (h1 : PT X a (tB X.K W ka)) (h2 : PW X (.BoolOp .And (b :: r) pos) (tB X.K W kb)) : PW X (.BoolOp .And (a :: b :: r) pos) (tB X.K W (bAnd ka kb)) := (pw_and h1 h2).imp fun σ H Q h => by
  have h0 := Told.evalB (vs := []) (m := ka) (F := fun k ds s R => if k = true then kb s R else .ok false R) (Told.conv h fun _ _ => rfl)
  refine h0.imp fun k H1 t => ?_
  cases k with
  | true => rw [if_pos rfl]; exact Told.conv t fun _ _ => if_pos rfl
  | false => rw [if_neg (by decide)]; exact Told.retB (Told.conv t fun _ _ => if_neg (by decide))
theorem sb_or {r : List Expr} (h1 : PT X a (tB X.K W ka)) (h2 : PW X (.BoolOp .Or (b :: r) pos) (tB X.K W kb)) : PW X (.BoolOp .Or (a :: b :: r) pos) (tB X.K W (bOr ka kb)) := (pw_or h1 h2).imp fun σ H Q h => by
  have h0 := Told.evalB (vs := []) (m := ka) (F := fun k ds s R => if k = true then .ok true R else kb s R) (Told.conv h fun _ _ => rfl)
  refine h0.imp fun k H1 t => ?_
  cases k with
  | true => rw [if_pos rfl]; exact Told.retB (Told.conv t fun _ _ => if_pos rfl)
  | false => rw [if_neg (by decide)]; exact Told.conv t fun _ _ => if_neg (by decide)
theorem tru_rd {K : PySem.W.Frag} {B : Addr → Prop} {io : Io} {R : Rg} {H : Hp} {d : D} {v : V} {k : Bool} (rep : Rep K B io R H) (r : RD K (bars B io) io H d v) (e : truD R d = some k) : TruV K v H k := by
  have lst : ∀ {ds : List D} {a : Addr} {vs : List V}, SqL K H a vs → RDs K (bars B io) io H ds vs → TruV K (.ref a) H (!ds.isEmpty) := fun {ds a vs} h r => by
    refine .inl ⟨vs, h, ?_⟩
    cases r <;> rfl
  cases r with
  | non => cases e; exact rfl
  | bl b => cases e; exact rfl
  | int i => cases e; exact rfl
  | str x =>
    have e' : (if x.length ≤ LINE then some (x.length != 0) else none) = some k := e
    split at e'
    · rename_i hl
      cases e'
      refine ⟨by rw [strOf_length]; exact hl, ?_⟩
      rw [strOf_length]
      cases hx : x.length <;> simp <;> omega
    · cases e'
  | tup h r =>
    cases e
    refine .inr (.inl ⟨_, h, ?_⟩)
    cases r <;> rfl
  | lst h r => cases e; exact lst h.sq r
  | @ref i a hi q =>
    have e' : (match roV ((R[i]?).getD O.dead) with
      | .lst xs => some (!xs.isEmpty)
      | _ => none) = some k := e
    cases e1 : R[i]? with
    | none =>
      rw [e1] at e'
      cases e'
    | some o =>
      rw [e1] at e'
      cases o with
      | lst xs =>
        cases e'
        obtain ⟨p, vs, h1, h2, r⟩ := rep.atLst e1
        rw [← q p h1]
        exact lst (.inl (.inl h2)) r
      | _ => cases e'
  | _ => cases e
theorem sb_val (h : PE X a (tE X.K W ma)) (he : ∀ whole, isTrue a X.env whole = (do let v ← whole; standAt a.pos; holding [v] (truthy v))) : PT X a (tB X.K W (bVal ma)) := (pt_truth h he).imp fun σ H Q h => by
  have h0 := Told.eval (vs := []) (m := ma) (F := fun ds s R => match ds with | [x] => (match truD R x with | some k => .ok k R | none => .err) | _ => .err) (rel := fun _ _ _ a b => a = b) (Q := Q) (Told.conv h fun _ _ => rfl)
  refine h0.imp fun v H1 t => ?_
  obtain ⟨B, io, R, s, ds, rep, rs, rd, p⟩ := t
  obtain ⟨d, ds, rfl, r, rd⟩ := rd.cons_inv
  cases rd.nil_inv
  have p : Pst X.K B io H1 W σ (fun _ _ _ a b => a = b) (match truD R d with | some k => .ok k R | none => .err) Q := p
  cases e : truD R d with
  | none =>
    rw [e] at p
    exact p.elim
  | some k =>
    rw [e] at p
    exact ⟨k, tru_rd rep r e, p io H1 k (Step.refl _ _) rep rfl⟩
/-! ### subscripts, calls of what is built in -/
theorem se_ix (hu : X.A.units + 1 < cLine) (h1 : PE X a (tE X.K W ma)) (h2 : PE X b (tE X.K W mb)) (hs : PlainIx b) : PE X (.Subscript a b pos) (tE X.K W (cOp2 ixD ma mb)) := by
  refine (pe_ix (ok_ix hu) h1 h2 hs).imp fun σ H Q q => ?_
  have z := Told.eval (K := X.K) (W := W) (σ := σ) (H := H) (rel := RD X.K) (vs := []) (m := ma) (F := fun ds s R => (mb s R).bind fun y R2 => lift (pn2 ixD (ds ++ [y]) R2)) (Q := Q) (Told.conv q fun _ _ => rfl)
  exact z.imp fun v H1 t => (Told.eval (vs := [v]) (m := mb) (F := fun ds s R => lift (pn2 ixD ds R)) t).imp fun w H2 t => Told.op t
theorem cb_core {K : PySem.W.Frag} {σ : S} {H : Hp} {p : PN} {Q : VK} (h : tE K W (cOpN p mes) σ H Q) : tCB (rN K p) (tA K W mes) σ H Q := by
  have h0 := Told.evalA (vs := []) (m := mes) (F := fun ds _ R => lift (p ds R)) (Told.conv h fun _ _ => rfl)
  exact h0.imp fun us H1 t => Told.op t
end
end Om
/-! Om, part H: targets, statements, loops. -/
namespace Om
open PySem PySem.Spec PyProof.Rows L2
/-! ### targets -/
def gVar (i : Nat) : SG := fun d s R => .ok (s.set i d) R
def gErr : SG := fun _ _ _ => .err
abbrev SGs := List D → List D → Rg → Res (List D)
def gN : SGs := fun ds s R => match ds with
  | [] => .ok s R
  | _ => .err
def gC (g : SG) (r : SGs) : SGs := fun ds s R => match ds with
  | d :: ds => (g d s R).bind fun s1 R1 => r ds s1 R1
  | [] => .err
def gT (n : Nat) (g : SGs) : SG := fun d s R => match seqOf R d with
  | some xs => if xs.length = n then g xs s R else .err
  | none => .err
section
variable (K : PySem.W.Frag) (ws : List Nat) (B : Addr → Prop) (io : Io) (H : Hp) (σ : S)
/-- ws: the slots that may be touched -/
def PstG (r : Res (List D)) (Q : S → Hp → Prop) : Prop := match r with
  | .ok s R' => ∀ io' H' σ', Step io H io' H' → Rep K B io' R' H' → RS K (bars B io') io' H' s σ' → wipe σ' ws = wipe σ ws → Q σ' H'
  | _ => False
end
def tG (K : PySem.W.Frag) (ws : List Nat) (m : SG) : TG := fun v σ H Q => ∃ B io R s d, Rep K B io R H ∧ RS K (bars B io) io H s σ ∧ RD K (bars B io) io H d v ∧ PstG K ws B io H σ (m d s R) Q
def tGs (K : PySem.W.Frag) (ws : List Nat) (m : SGs) : TGs := fun vs σ H Q => ∃ B io R s ds, Rep K B io R H ∧ RS K (bars B io) io H s σ ∧ RDs K (bars B io) io H ds vs ∧ PstG K ws B io H σ (m ds s R) Q
section
variable {ws : List Nat}
theorem wipe_set {v : Option V} : ∀ {ws : List Nat} {σ : S} {i : Nat}, i ∈ ws → wipe (σ.set i v) ws = wipe σ ws
  | w :: ws, σ, i, h => by
    unfold wipe
    by_cases e : i = w
    · subst e
      by_cases h2 : i ∈ ws
      · rw [wipe_set h2]
      · have c : ∀ {us : List Nat} {τ : S}, i ∉ us → wipe (τ.set i v) us = (wipe τ us).set i v := by
          intro us
          induction us with
          | nil => exact fun _ => rfl
          | cons u us ih =>
            intro τ hn
            have h1 : i ≠ u := fun z => hn (by rw [z]; exact List.mem_cons_self)
            unfold wipe
            rw [ih fun z => hn (List.mem_cons_of_mem _ z)]
            rw [List.set_comm _ _ h1]
        rw [c h2, List.set_set]
    · have h2 : i ∈ ws := by
        rcases List.mem_cons.mp h with z | z
        · exact absurd z e
        · exact z
      rw [wipe_set h2]
variable {X : Cx} {W : WX} {a b c e : Expr} {es : List Expr} {ma mb mc : SE} {pos : Pos}
theorem _root_.L2.PG.imp {t t' : TG} (h : PG X e t) (i : ∀ v σ H Q, t' v σ H Q → t v σ H Q) : PG X e t' := ⟨fun pins s σ H v u Q I r q => h.run pins s σ H v u Q I r (i v σ H Q q)⟩
theorem _root_.L2.PGs.imp {t t' : TGs} (h : PGs X es t) (i : ∀ v σ H Q, t' v σ H Q → t v σ H Q) : PGs X es t' := ⟨fun pins s σ H v u Q I r q => h.run pins s σ H v u Q I r (i v σ H Q q)⟩
theorem _root_.L2.PG.or {t t' : TG} (h : PG X e t) (h' : PG X e t') : PG X e (fun v σ H Q => t v σ H Q ∨ t' v σ H Q) := ⟨fun pins s σ H v u Q I r q => by
  rcases q with q | q
  · exact h.run pins s σ H v u Q I r q
  · exact h'.run pins s σ H v u Q I r q⟩
theorem RS.set {K : PySem.W.Frag} {bar : Addr → Prop} {io : Io} {H : Hp} {s : List D} {σ : S} {d : D} {v : V} (r : RS K bar io H s σ) (i : Nat) (q : RD K bar io H d v) : RS K bar io H (s.set i d) (σ.set i (some v)) := by
  refine ⟨by rw [List.length_set, List.length_set]; exact r.1, fun j x e => ?_⟩
  by_cases hj : i = j
  · subst hj
    by_cases hl : i < s.length
    · rw [List.getElem?_set_self hl] at e
      cases e
      have hl' : i < σ.length := by rw [← r.1]; exact hl
      exact ⟨_, List.getElem?_set_self hl', .inr ⟨v, rfl, q⟩⟩
    · rw [List.getElem?_eq_none (by rw [List.length_set]; omega)] at e
      cases e
  · rw [List.getElem?_set_ne hj] at e ⊢
    exact r.2 j x e
theorem sg_var {i : Nat} (h : PG X e (gName i)) (hi : i ∈ ws) : PG X e (tG X.K ws (gVar i)) := h.imp fun v σ H Q ⟨B, io, R, s, d, rep, rs, rd, p⟩ => p io H _ (Step.refl _ _) rep (rs.set i rd) (wipe_set hi)
theorem sg_err : PG X e (tG X.K ws gErr) := ⟨fun _ _ _ _ _ _ _ _ _ ⟨_, _, _, _, _, _, _, _, p⟩ => p.elim⟩
theorem PstG.bind {K : PySem.W.Frag} {B : Addr → Prop} {io : Io} {H : Hp} {σ : S} {r : Res (List D)} {f : List D → Rg → Res (List D)} {Q : S → Hp → Prop} (p : PstG K ws B io H σ (r.bind f) Q) :
    PstG K ws B io H σ r fun σ' H1 => ∃ io1 R1 s1, Step io H io1 H1 ∧ Rep K B io1 R1 H1 ∧ RS K (bars B io1) io1 H1 s1 σ' ∧ PstG K ws B io1 H1 σ' (f s1 R1) Q := by
  cases r with
  | ok s R =>
    intro io1 H1 σ' st rep rs wp
    refine ⟨io1, R, s, st, rep, rs, ?_⟩
    have p : PstG K ws B io H σ (f s R) Q := p
    cases e : f s R with
    | ok s2 R2 =>
      rw [e] at p
      exact fun io2 H2 σ2 st2 rep2 rs2 wp2 => p io2 H2 σ2 (st.trans st2) rep2 rs2 (wp2.trans wp)
    | exc _ _ _ =>
      rw [e] at p
      exact p.elim
    | err =>
      rw [e] at p
      exact p.elim
  | exc _ _ _ => exact p.elim
  | err => exact p.elim
theorem PstG.imp {K : PySem.W.Frag} {B : Addr → Prop} {io : Io} {H : Hp} {σ : S} {r : Res (List D)} {Q Q' : S → Hp → Prop} (p : PstG K ws B io H σ r Q) (i : ∀ σ H', Q σ H' → Q' σ H') : PstG K ws B io H σ r Q' := by
  cases r with
  | ok s R => exact fun io1 H1 σ' st rep rs wp => i _ _ (p io1 H1 σ' st rep rs wp)
  | exc _ _ _ => exact p.elim
  | err => exact p.elim
theorem sgs_nil : PGs X [] (tGs X.K ws gN) := pgs_nil.imp fun vs σ H Q ⟨B, io, R, s, ds, rep, rs, rd, p⟩ => by
  cases rd with
  | nil => exact ⟨rfl, p io H σ (Step.refl _ _) rep rs rfl⟩
  | cons _ _ => exact p.elim
theorem sgs_cons {g : SG} {gs : SGs} (h1 : PG X e (tG X.K ws g)) (h2 : PGs X es (tGs X.K ws gs)) (hs : (assignEach (e :: es) X.env).map (·.2) = assign e X.env :: (assignEach es X.env).map (·.2)) : PGs X (e :: es) (tGs X.K ws (gC g gs)) :=
  (pgs_cons h1 h2 hs).imp fun vs σ H Q ⟨B, io, R, s, ds, rep, rs, rd, p⟩ => by
    cases rd with
    | nil => exact p.elim
    | cons r t =>
      refine ⟨_, _, rfl, B, io, R, s, _, rep, rs, r, (PstG.bind p).imp fun σ1 H1 ⟨io1, R1, s1, st, rep1, rs1, p1⟩ => ?_⟩
      exact ⟨B, io1, R1, s1, _, rep1, rs1, t.car (st.car rep), p1⟩
theorem sg_tup {k n : Nat} {g : SGs} (hc : X.calm = true) (h : PGs X es (tGs X.K ws g)) (hn : (assignEach es X.env).length = n) (hst : (assignEach es X.env).findIdx? (·.1) = none) : PG X (.Tuple es k pos) (tG X.K ws (gT n g)) :=
  ((pg_tup (pos := pos) (k := k) hc h hn hst).or (pg_lst (pos := pos) (k := k) hc h hn hst)).imp fun v σ H Q ⟨B, io, R, s, d, rep, rs, rd, p⟩ => by
    have p : PstG X.K ws B io H σ (match seqOf R d with
      | some xs => if xs.length = n then g xs s R else .err
      | none => .err) Q := p
    cases e : seqOf R d with
    | none =>
      rw [e] at p
      exact p.elim
    | some xs =>
      rw [e] at p
      obtain ⟨a, vs, rfl, hq, rx⟩ := rd.seq rep e
      have p : PstG X.K ws B io H σ (if xs.length = n then g xs s R else .err) Q := p
      split at p
      · rename_i hl
        have hl' : vs.length = n := by rw [← rx.len]; exact hl
        rcases hq with hq | hq
        · exact .inr ⟨a, vs, rfl, hq, hl', B, io, R, s, xs, rep, rs, rx, p⟩
        · exact .inl ⟨a, vs, rfl, hq, hl', B, io, R, s, xs, rep, rs, rx, p⟩
      · exact p.elim
/-! ### statements -/
section
variable (K : PySem.W.Frag) (B : Addr → Prop) (io : Io) (H : Hp) (W : WX)
def PstS (o : Out) (D : Ends) : Prop := match o with
  | .nx s R' => ∀ io' H' σ', Step io H io' H' → Rep K B io' R' H' → RS K (bars B io') io' H' s σ' → D.nx σ' H'
  | .bk s R' => ∀ io' H' σ', Step io H io' H' → Rep K B io' R' H' → RS K (bars B io') io' H' s σ' → D.bk σ' H'
  | .ct s R' => ∀ io' H' σ', Step io H io' H' → Rep K B io' R' H' → RS K (bars B io') io' H' s σ' → D.ct σ' H'
  | .rt d R' => ∀ io' H' v, Step io H io' H' → Rep K B io' R' H' → RD K (bars B io') io' H' d v → D.rt v H'
  | .exc c f s R' => ∀ io' H' σ' cls d, Step io H io' H' → Rep K B io' R' H' → RS K (bars B io') io' H' s σ' → RX K (bars B io') io' H' c f cls d → W cls d σ' H'
  | .err => False
end
def tS (K : PySem.W.Frag) (W : WX) (m : SS) : TS := fun D σ H => ∃ B io R s, Rep K B io R H ∧ RS K (bars B io) io H s σ ∧ PstS K B io H W (m s R) D
def sErr : SS := fun _ _ => .err
def sPass : SS := fun s R => .nx s R
def sBrk : SS := fun s R => .bk s R
def sCont : SS := fun s R => .ct s R
def sSeq (a b : SS) : SS := fun s R => match a s R with
  | .nx s1 R1 => b s1 R1
  | o => o
def sBind {A : Type} (r : Res A) (s : List D) (f : A → Rg → Out) : Out := match r with
  | .ok a R => f a R
  | .exc c x R => .exc c x s R
  | .err => .err
def sRet (a : SE) : SS := fun s R => sBind (a s R) s fun d R1 => .rt d R1
def sRetN : SS := fun _ R => .rt .non R
def sExpr (a : SE) : SS := fun s R => sBind (a s R) s fun _ R1 => .nx s R1
def sGo (g : SG) (d : D) (s : List D) (R : Rg) : Out := match g d s R with
  | .ok s1 R1 => .nx s1 R1
  | _ => .err
def sAsg (a : SE) (g : SG) : SS := fun s R => sBind (a s R) s fun d R1 => sGo g d s R1
def sIf (c : SB) (a b : SS) : SS := fun s R => sBind (c s R) s fun k R1 => if k = true then a s R1 else b s R1
def sAug (i : Nat) (p : P2) (a : SE) : SS := fun s R => match s[i]? with
  | some .undef => .err
  | some x => sBind (a s R) s fun y R1 => match p x y R1 with
    | some (z, R2) => .nx (s.set i z) R2
    | none => .err
  | none => .err
theorem PstS.shift {K : PySem.W.Frag} {B : Addr → Prop} {io io1 : Io} {H H1 : Hp} {o : Out} {D : Ends} (st : Step io H io1 H1) (h : PstS K B io H W o D) : PstS K B io1 H1 W o D := by
  cases o with
  | nx s R => exact fun io' H' σ' st' => h io' H' σ' (st.trans st')
  | bk s R => exact fun io' H' σ' st' => h io' H' σ' (st.trans st')
  | ct s R => exact fun io' H' σ' st' => h io' H' σ' (st.trans st')
  | rt d R => exact fun io' H' v st' => h io' H' v (st.trans st')
  | exc c f s R => exact fun io' H' σ' cls d st' => h io' H' σ' cls d (st.trans st')
  | err => exact h
theorem PstS.bind {K : PySem.W.Frag} {B : Addr → Prop} {io : Io} {H : Hp} {σ : S} {A Z : Type} {rel : Rel A Z} {r : Res A} {s : List D} {f : A → Rg → Out} {D : Ends} (p : PstS K B io H W (sBind r s f) D)
    (rs : RS K (bars B io) io H s σ) (rep : ∃ R, Rep K B io R H) : Pst K B io H W σ rel r fun z H1 => ∃ io1 R1 a, Step io H io1 H1 ∧ Rep K B io1 R1 H1 ∧ rel (bars B io1) io1 H1 a z ∧ PstS K B io1 H1 W (f a R1) D := by
  cases r with
  | ok a R => exact fun io1 H1 z st rep1 q => ⟨io1, R, a, st, rep1, q, PstS.shift st p⟩
  | exc c x R =>
    obtain ⟨R0, rep⟩ := rep
    exact fun io1 H1 cls d st rep1 q => p io1 H1 σ cls d st rep1 (rs.car (st.car rep)) q
  | err => exact p
theorem ss_err {st : Stmt} : PS X st (tS X.K W sErr) := ⟨fun _ _ _ _ _ _ ⟨_, _, _, _, _, _, p⟩ => p.elim⟩
theorem sss_err {st : List Stmt} : PSs X st (tS X.K W sErr) := ⟨fun _ _ _ _ _ _ ⟨_, _, _, _, _, _, p⟩ => p.elim⟩
theorem ss_nil : PSs X [] (tS X.K W sPass) := pss_nil.imp fun D σ H ⟨B, io, R, s, rep, rs, p⟩ => p io H σ (Step.refl _ _) rep rs
theorem ss_pass : PS X (.Pass pos) (tS X.K W sPass) := ps_pass.imp fun D σ H ⟨B, io, R, s, rep, rs, p⟩ => p io H σ (Step.refl _ _) rep rs
theorem ss_break : PS X (.Break pos) (tS X.K W sBrk) := ps_break.imp fun D σ H ⟨B, io, R, s, rep, rs, p⟩ => p io H σ (Step.refl _ _) rep rs
theorem ss_continue : PS X (.Continue pos) (tS X.K W sCont) := ps_continue.imp fun D σ H ⟨B, io, R, s, rep, rs, p⟩ => p io H σ (Step.refl _ _) rep rs
theorem ss_cons {st : Stmt} {sts : List Stmt} {m n : SS} (h1 : PS X st (tS X.K W m)) (h2 : PSs X sts (tS X.K W n)) : PSs X (st :: sts) (tS X.K W (sSeq m n)) := (pss_cons h1 h2).imp fun D σ H ⟨B, io, R, s, rep, rs, p⟩ => by
  refine ⟨B, io, R, s, rep, rs, ?_⟩
  have p : PstS X.K B io H W (match m s R with
    | .nx s1 R1 => n s1 R1
    | o => o) D := p
  cases e : m s R with
  | nx s1 R1 =>
    rw [e] at p
    exact fun io1 H1 σ1 st rep1 rs1 => ⟨B, io1, R1, s1, rep1, rs1, PstS.shift st p⟩
  | _ =>
    rw [e] at p
    exact p
theorem ss_ret (h : PE X e (tE X.K W ma)) : PS X (.Return (some e) pos) (tS X.K W (sRet ma)) := (ps_ret h).imp fun D σ H ⟨B, io, R, s, rep, rs, p⟩ =>
  ⟨B, io, R, s, [], rep, rs, .nil, (PstS.bind (rel := RD X.K) p rs ⟨R, rep⟩).imp fun v H1 ⟨io1, R1, a, st, rep1, q, p1⟩ => p1 io1 H1 v (Step.refl _ _) rep1 q⟩
theorem ss_retN : PS X (.Return none pos) (tS X.K W sRetN) := ps_retN.imp fun D σ H ⟨B, io, R, s, rep, rs, p⟩ => p io H _ (Step.refl _ _) rep .non
theorem ss_expr (h : PE X e (tE X.K W ma)) (hs : swapsWith e none pos.line X.env = pure false) : PS X (.Expr e pos) (tS X.K W (sExpr ma)) := (ps_expr h hs).imp fun D σ H ⟨B, io, R, s, rep, rs, p⟩ =>
  ⟨B, io, R, s, [], rep, rs, .nil, (PstS.bind (rel := RD X.K) p rs ⟨R, rep⟩).imp fun v H1 ⟨io1, R1, a, st, rep1, q, p1⟩ => p1 io1 H1 σ (Step.refl _ _) rep1 (rs.car (st.car rep))⟩
theorem PstS.go {K : PySem.W.Frag} {B : Addr → Prop} {io : Io} {H : Hp} {g : SG} {d : D} {s : List D} {R : Rg} {E : Ends} {σ : S} (p : PstS K B io H W (sGo g d s R) E) : PstG K ws B io H σ (g d s R) E.nx := by
  unfold sGo at p
  cases e : g d s R with
  | ok s1 R1 =>
    rw [e] at p
    exact fun io' H' σ' st rep rs _ => p io' H' σ' st rep rs
  | exc _ _ _ =>
    rw [e] at p
    exact p.elim
  | err =>
    rw [e] at p
    exact p.elim
theorem asg_core {K : PySem.W.Frag} {g : SG} {D : Ends} {σ : S} {H : Hp} (h : tS K W (sAsg ma g) D σ H) : tAsg (tE K W ma) (tG K ws g) D σ H := by
  obtain ⟨B, io, R, s, rep, rs, p⟩ := h
  refine ⟨B, io, R, s, [], rep, rs, .nil, (PstS.bind (rel := RD K) p rs ⟨R, rep⟩).imp fun v H1 ⟨io1, R1, a, st, rep1, q, p1⟩ => ?_⟩
  exact ⟨B, io1, R1, s, a, rep1, rs.car (st.car rep), q, p1.go⟩
theorem ss_asg {tg : Expr} {g : SG} (h : PE X e (tE X.K W ma)) (hg : PG X tg (tG X.K ws g)) (hs : swapsWithSole [tg] e pos.line X.env = pure false) (hw : swappedStores [tg] e X.env = pure none)
    (h1 : (assignEach [tg] X.env).map (·.2) = [assign tg X.env]) : PS X (.Assign [tg] e pos) (tS X.K W (sAsg ma g)) := (ps_asg h hg hs hw h1).imp fun D σ H h => asg_core h
theorem ss_if {kb : SB} {p q : List Stmt} {m n : SS} (hc : PT X c (tB X.K W kb)) (h1 : PSs X p (tS X.K W m)) (h2 : PSs X q (tS X.K W n)) : PS X (.If c p q pos) (tS X.K W (sIf kb m n)) := (ps_if hc h1 h2).imp fun D σ H ⟨B, io, R, s, rep, rs, p⟩ => by
  refine ⟨B, io, R, s, [], rep, rs, .nil, (PstS.bind (rel := fun _ _ _ a b => a = b) p rs ⟨R, rep⟩).imp fun k H1 ⟨io1, R1, a, st, rep1, q, p1⟩ => ?_⟩
  subst q
  cases a with
  | true =>
    rw [if_pos rfl] at p1 ⊢
    exact ⟨B, io1, R1, s, rep1, rs.car (st.car rep), p1⟩
  | false =>
    rw [if_neg (by decide)] at p1 ⊢
    exact ⟨B, io1, R1, s, rep1, rs.car (st.car rep), p1⟩
/-! ### what is walked -/
/-- the next thing at a turn, by the region as it stands: none is an error, some none the end -/
abbrev Src := Rg → Nat → Option (Option D)
abbrev SI := List D → Rg → Res Src
def fixS (xs : List D) : Src := fun _ i => some xs[i]?
def liveS (r : Nat) : Src := fun R i => match R[r]? with
  | some (.lst xs) => some xs[i]?
  | _ => none
def enuS (f : Src) : Src := fun R i => match f R i with
  | some (some d) => some (some (.tup [.int i, d]))
  | o => o
def rngS (lo : Int) (n : Nat) : Src := fun _ i => if i < n then some (some (.int (lo + i))) else some none
/-- what is hidden more is new -/
def Wid (B B' : Addr → Prop) (H : Hp) : Prop := ∀ a, B' a → B a ∨ H a = none
theorem Wid.refl (B : Addr → Prop) (H : Hp) : Wid B B H := fun _ h => .inl h
theorem Step.carB {K : PySem.W.Frag} {B B' : Addr → Prop} {io io1 : Io} {R : Rg} {H H1 : Hp} (st : Step io H io1 H1) (r : Rep K B io R H) (w : Wid B B' H) : Car K (bars B io) io H (bars B' io1) io1 H1 where
  tup := (st.car r).tup
  oth := fun a o h n => ⟨st.fr a o h fun z => n (.inr z), fun z => by
    rcases z with z | z
    · rcases w a z with z | z
      · exact n (.inl z)
      · rw [h] at z; cases z
    · rcases st.nw a z with y | y
      · exact n (.inr y)
      · rw [h] at y; cases y⟩
  ref := (st.car r).ref
def SrcOk (K : PySem.W.Frag) (B : Addr → Prop) (io : Io) (H : Hp) (J : It) (f : Src) : Prop :=
  ∀ B' io' R' H', Wid B B' H → Step io H io' H' → Rep K B' io' R' H' → ∀ i : Nat, match f R' i with
    | some (some d) => J.go i H' ∧ ∀ x H2, J.yld i H' x H2 → Step io' H' io' H2 ∧ Rep K B' io' R' H2 ∧ RD K (bars B' io') io' H2 d x
    | some none => J.stop i H'
    | none => True
def PstI (K : PySem.W.Frag) (W : WX) (B : Addr → Prop) (io : Io) (H : Hp) (σ : S) (r : Res Src) (Q : It → Hp → Prop) : Prop := match r with
  | .ok f R' => ∀ io' H' J, Step io H io' H' → Rep K B io' R' H' → SrcOk K B io' H' J f → Q J H'
  | .exc c f R' => ∀ io' H' cls d, Step io H io' H' → Rep K B io' R' H' → RX K (bars B io') io' H' c f cls d → W cls d σ H'
  | .err => False
def tI (K : PySem.W.Frag) (W : WX) (m : SI) : TI := fun σ H Q => ∃ B io R s, Rep K B io R H ∧ RS K (bars B io) io H s σ ∧ PstI K W B io H σ (m s R) Q
theorem _root_.L2.PI.imp {tg : Expr} {t t' : TI} (h : PI X tg e t) (i : ∀ σ H Q, t' σ H Q → t σ H Q) : PI X tg e t' := ⟨fun pins s σ H Q I q => h.run pins s σ H Q I (i σ H Q q)⟩
theorem _root_.L2.PI.or {tg : Expr} {t t' : TI} (h : PI X tg e t) (h' : PI X tg e t') : PI X tg e (fun σ H Q => t σ H Q ∨ t' σ H Q) := ⟨fun pins s σ H Q I q => by
  rcases q with q | q
  · exact h.run pins s σ H Q I q
  · exact h'.run pins s σ H Q I q⟩
theorem si_err {tg : Expr} : PI X tg e (tI X.K W (fun _ _ => .err)) := ⟨fun _ _ _ _ _ _ ⟨_, _, _, _, _, _, p⟩ => p.elim⟩
/-- the items of a list or of a tuple -/
def srcD (d : D) (R : Rg) : Res Src := match d with
  | .lst xs => .ok (fixS xs) R
  | .tup xs => .ok (fixS xs) R
  | .ref r => match R[r]? with
    | some (.lst _) => .ok (liveS r) R
    | _ => .err
  | _ => .err
def iSeq (m : SE) : SI := fun s R => (m s R).bind srcD
theorem rds_at {K : PySem.W.Frag} {bar : Addr → Prop} {io : Io} {H : Hp} : ∀ {ds : List D} {vs : List V} {i : Nat} {d : D}, RDs K bar io H ds vs → ds[i]? = some d → ∃ v, vs[i]? = some v ∧ RD K bar io H d v
  | _, _, _, _, .nil, e => by simp at e
  | _, _, 0, _, .cons r t, e => by
    have e : _ = _ := Option.some.inj e
    subst e
    exact ⟨_, rfl, r⟩
  | _, _, i + 1, _, .cons r t, e => rds_at (i := i) t (by simpa using e)
theorem src_lst {K : PySem.W.Frag} {B : Addr → Prop} {io : Io} {H : Hp} {R : Rg} {a : Addr} {xs : List D} {vs : List V} (rep : Rep K B io R H) (h : LstAt K (bars B io) H a vs) (r : RDs K (bars B io) io H xs vs) : SrcOk K B io H (Itl K a) (fixS xs) := by
  intro B' io' R' H' wd st rep' i
  have c := st.carB rep wd
  have hh := (h.car c).sq
  show match (some xs[i]? : Option (Option D)) with
    | some (some d) => _
    | some none => _
    | none => True
  cases e : xs[i]? with
  | none => exact ⟨vs, hh, by rw [← r.len]; exact List.getElem?_eq_none_iff.mp e⟩
  | some d =>
    obtain ⟨v, ev, rv⟩ := rds_at (r.car c) e
    refine ⟨⟨vs, v, hh, ev⟩, fun x H2 hy => ?_⟩
    obtain ⟨rfl, hy⟩ := hy
    have := hy vs hh
    rw [ev] at this
    cases this
    exact ⟨Step.refl _ _, rep', rv⟩
theorem src_live {K : PySem.W.Frag} {B : Addr → Prop} {io : Io} {H : Hp} {a : Addr} {r : Nat} (hr : r < io.length) (q : ∀ p, io[r]? = some (some p) → p = a) : SrcOk K B io H (Itl K a) (liveS r) := by
  intro B' io' R' H' wd st rep' i
  show match (match R'[r]? with
    | some (.lst xs) => some xs[i]?
    | _ => none : Option (Option D)) with
    | some (some d) => _
    | some none => _
    | none => True
  cases e : R'[r]? with
  | none => trivial
  | some o =>
    cases o with
    | lst xs =>
      obtain ⟨p, vs, h1, h2, rx⟩ := rep'.atLst e
      have ep : p = a := by
        rcases st.ix r hr with z | z
        · exact q p (z.symm.trans h1)
        · rw [z] at h1
          cases h1
      subst ep
      show match (some xs[i]? : Option (Option D)) with
        | some (some d) => _
        | some none => _
        | none => True
      cases e2 : xs[i]? with
      | none => exact ⟨vs, .inl (.inl h2), by rw [← rx.len]; exact List.getElem?_eq_none_iff.mp e2⟩
      | some d =>
        obtain ⟨v, ev, rv⟩ := rds_at rx e2
        refine ⟨⟨vs, v, .inl (.inl h2), ev⟩, fun x H2 hy => ?_⟩
        obtain ⟨rfl, hy⟩ := hy
        have := hy vs (.inl (.inl h2))
        rw [ev] at this
        cases this
        exact ⟨Step.refl _ _, rep', rv⟩
    | _ => trivial
theorem src_tup {K : PySem.W.Frag} {B : Addr → Prop} {io : Io} {H : Hp} {R : Rg} {a : Addr} {xs : List D} {vs : List V} (rep : Rep K B io R H) (h : SqT K H a vs) (r : RDs K (bars B io) io H xs vs) : SrcOk K B io H (Itt K a) (fixS xs) := by
  intro B' io' R' H' wd st rep' i
  have c := st.carB rep wd
  have hh := c.sqT h
  show match (some xs[i]? : Option (Option D)) with
    | some (some d) => _
    | some none => _
    | none => True
  cases e : xs[i]? with
  | none => exact ⟨vs, hh, by rw [← r.len]; exact List.getElem?_eq_none_iff.mp e⟩
  | some d =>
    obtain ⟨v, ev, rv⟩ := rds_at (r.car c) e
    refine ⟨⟨vs, v, hh, ev⟩, fun x H2 hy => ?_⟩
    obtain ⟨rfl, hy⟩ := hy
    have := hy vs hh
    rw [ev] at this
    cases this
    exact ⟨Step.refl _ _, rep', rv⟩
theorem PstI.shift {K : PySem.W.Frag} {B : Addr → Prop} {io io1 : Io} {H H1 : Hp} {σ : S} {r : Res Src} {Q : It → Hp → Prop} (st : Step io H io1 H1) (h : PstI K W B io H σ r Q) : PstI K W B io1 H1 σ r Q := by
  cases r with
  | ok a R => exact fun io' H' b st' => h io' H' b (st.trans st')
  | exc c f R => exact fun io' H' cls d st' => h io' H' cls d (st.trans st')
  | err => exact h
/-- a value is made, then it is walked -/
theorem tI_bind {K : PySem.W.Frag} {A Z : Type} {rel : Rel A Z} {r : Res A} {f : A → Rg → Res Src} {σ : S} {H : Hp} {B : Addr → Prop} {io : Io} {Q : It → Hp → Prop} (h : PstI K W B io H σ (r.bind f) Q) :
    Pst K B io H W σ rel r fun z H1 => ∃ io1 R1 a, Step io H io1 H1 ∧ Rep K B io1 R1 H1 ∧ rel (bars B io1) io1 H1 a z ∧ PstI K W B io1 H1 σ (f a R1) Q := by
  cases r with
  | ok a R => exact fun io1 H1 z st rep q => ⟨io1, R, a, st, rep, q, PstI.shift st h⟩
  | exc c x R => exact h
  | err => exact h
theorem si_seq {tg : Expr} (h : PE X e (tE X.K W ma)) : PI X tg e (tI X.K W (iSeq ma)) := ((pi_list (tg := tg) h).or (pi_tup (tg := tg) h)).imp fun σ H Q ⟨B, io, R, s, rep, rs, p⟩ => by
  have p : PstI X.K W B io H σ ((ma s R).bind srcD) Q := p
  have two : (∃ R1 xs, ma s R = .ok (.tup xs) R1) ∨ ¬ ∃ R1 xs, ma s R = .ok (.tup xs) R1 := Classical.em _
  rcases two with ⟨R1, xs, e⟩ | no
  · refine .inr ⟨B, io, R, s, [], rep, rs, .nil, ?_⟩
    show Pst X.K B io H W σ (RD X.K) (ma s R) _
    rw [e] at p ⊢
    intro io1 H1 v st rep1 r
    cases r with
    | tup h r => exact ⟨_, rfl, ⟨_, h⟩, p io1 H1 _ st rep1 (src_tup rep1 h r)⟩
  · refine .inl ⟨B, io, R, s, [], rep, rs, .nil, ?_⟩
    show Pst X.K B io H W σ (RD X.K) (ma s R) _
    cases e : ma s R with
    | ok d R1 =>
      rw [e] at p
      intro io1 H1 v st rep1 r
      have p := PstI.shift st p
      cases r with
      | tup h r => exact (no ⟨R1, _, e⟩).elim
      | lst h r => exact ⟨_, rfl, ⟨_, h.sq⟩, p io1 H1 _ (Step.refl _ _) rep1 (src_lst rep1 h r)⟩
      | @ref i a hi q =>
        have p : PstI X.K W B io1 H1 σ (match R1[i]? with
          | some (.lst _) => .ok (liveS i) R1
          | _ => .err) Q := p
        cases e1 : R1[i]? with
        | none =>
          rw [e1] at p
          exact p.elim
        | some o =>
          rw [e1] at p
          cases o with
          | lst xs =>
            obtain ⟨p2, vs, h1, h2, rx⟩ := rep1.atLst e1
            rw [← q p2 h1]
            exact ⟨_, rfl, ⟨_, .inl (.inl h2)⟩, p io1 H1 _ (Step.refl _ _) rep1 (src_live hi fun p3 h3 => by rw [h1] at h3; cases h3; rfl)⟩
          | _ => exact p.elim
      | _ => exact p.elim
    | exc c x R1 =>
      rw [e] at p
      exact p
    | err =>
      rw [e] at p
      exact p.elim
end
end Om
/-! Om, part I: loops, sources, stores at places. -/
namespace Om
open PySem PySem.Spec PyProof.Rows L2 RZ
/-- nothing may be raised -/
def noX : WX := fun _ _ _ _ => False
abbrev FUEL : Nat := 1099511627776
/-- what the end of a turn leads to -/
def turnO (k : List D → Rg → Out) (o : Out) : Out := match o with
  | .nx s R => k s R
  | .ct s R => k s R
  | .bk s R => .nx s R
  | .rt d R => .rt d R
  | .exc c f s R => .exc c f s R
  | .err => .err
def forL (g : SG) (b : SS) (f : Src) : Nat → Nat → List D → Rg → Out
  | 0, i, s, R => match f R i with
    | some none => .nx s R
    | _ => .err
  | n + 1, i, s, R => match f R i with
    | none => .err
    | some none => .nx s R
    | some (some d) => match g d s R with
      | .ok s1 R1 => turnO (forL g b f n (i + 1)) (b s1 R1)
      | _ => .err
def sFor (it : SI) (g : SG) (b : SS) : SS := fun s R => sBind (it s R) s fun f R1 => forL g b f FUEL 0 s R1
def whileL (c : SB) (b : SS) : Nat → List D → Rg → Out
  | 0, _, _ => .err
  | n + 1, s, R => sBind (c s R) s fun k R1 => if k = true then turnO (whileL c b n) (b s R1) else .nx s R1
def sWhile (c : SB) (b : SS) : SS := fun s R => whileL c b FUEL s R
section
variable {X : Cx} {W : WX} {a b c e : Expr} {es : List Expr} {ma mb mc : SE} {mas : SA} {pos : Pos} {ws : List Nat}
theorem turn_core {K : PySem.W.Frag} {B : Addr → Prop} {io : Io} {H : Hp} {k : List D → Rg → Out} {o : Out} {D : Ends} {N : S → Hp → Prop} (p : PstS K B io H W (turnO k o) D)
    (hN : ∀ s R io' H' σ', Step io H io' H' → Rep K B io' R H' → RS K (bars B io') io' H' s σ' → PstS K B io' H' W (k s R) D → N σ' H') : PstS K B io H W o { D with nx := N, ct := N, bk := D.nx } := by
  cases o with
  | nx s R => exact fun io' H' σ' st rep rs => hN s R io' H' σ' st rep rs (PstS.shift (o := k s R) st p)
  | ct s R => exact fun io' H' σ' st rep rs => hN s R io' H' σ' st rep rs (PstS.shift (o := k s R) st p)
  | bk s R => exact p
  | rt d R => exact p
  | exc c x s R => exact p
  | err => exact p
theorem for_core {K : PySem.W.Frag} {it : SI} {g : SG} {m : SS} {D : Ends} {σ : S} {H : Hp} (h : tS K W (sFor it g m) D σ H) : tFor (tI K W it) (tG K ws g) (tS K W m) D σ H := by
  obtain ⟨B, io, R, s, rep, rs, p⟩ := h
  refine ⟨B, io, R, s, rep, rs, ?_⟩
  have p : PstS K B io H W (sBind (it s R) s fun f R1 => forL g m f FUEL 0 s R1) D := p
  cases e : it s R with
  | exc c x R1 =>
    rw [e] at p
    exact fun io1 H1 cls d st rep1 q => p io1 H1 σ cls d st rep1 (rs.car (st.car rep)) q
  | err =>
    rw [e] at p
    exact p
  | ok f R1 =>
    rw [e] at p
    intro io1 H1 J st1 rep1 src
    refine ⟨fun i n σ' H' => ∃ io' R' s', Step io1 H1 io' H' ∧ Rep K B io' R' H' ∧ RS K (bars B io') io' H' s' σ' ∧ PstS K B io' H' W (forL g m f n i s' R') D, ⟨FUEL, io1, R1, s, Step.refl _ _, rep1, rs.car (st1.car rep), PstS.shift st1 p⟩, ?_⟩
    rintro i n σ2 H2 ⟨io2, R2, s2, st2, rep2, rs2, p2⟩
    have sr := src B io2 R2 H2 (Wid.refl B H1) st2 rep2 i
    cases ef : f R2 i with
    | none =>
      cases n with
      | zero => rw [forL, ef] at p2; exact p2.elim
      | succ n => rw [forL, ef] at p2; exact p2.elim
    | some o =>
      rw [ef] at sr
      cases o with
      | none =>
        refine .inl ⟨sr, ?_⟩
        have p3 : PstS K B io2 H2 W (.nx s2 R2) D := by
          cases n with
          | zero => rw [forL, ef] at p2; exact p2
          | succ n => rw [forL, ef] at p2; exact p2
        exact p3 io2 H2 σ2 (Step.refl _ _) rep2 rs2
      | some d =>
        obtain ⟨go, yl⟩ := sr
        cases n with
        | zero => rw [forL, ef] at p2; exact p2.elim
        | succ n =>
          rw [forL, ef] at p2
          refine .inr ⟨go, fun σ' H' => ∃ io' R' s', Step io1 H1 io' H' ∧ Rep K B io' R' H' ∧ RS K (bars B io') io' H' s' σ' ∧ PstS K B io' H' W (forL g m f n (i + 1) s' R') D, fun σ' H' q => ⟨n, Nat.lt_succ_self n, q⟩, fun x H3 hy => ?_⟩
          obtain ⟨st3, rep3, rx⟩ := yl x H3 hy
          refine ⟨B, io2, R2, s2, d, rep3, rs2.car (st3.car rep2), rx, ?_⟩
          have p2 : PstS K B io2 H2 W (match g d s2 R2 with
            | .ok s1 R1 => turnO (forL g m f n (i + 1)) (m s1 R1)
            | _ => .err) D := p2
          cases eg : g d s2 R2 with
          | ok s4 R4 =>
            rw [eg] at p2
            intro io4 H4 σ4 st4 rep4 rs4 _
            refine ⟨B, io4, R4, s4, rep4, rs4, turn_core (PstS.shift (st3.trans st4) (show PstS K B io2 H2 W (turnO (forL g m f n (i + 1)) (m s4 R4)) D from p2)) fun s5 R5 io5 H5 σ5 st5 rep5 rs5 p5 => ?_⟩
            exact ⟨io5, R5, s5, ((st2.trans st3).trans st4).trans st5, rep5, rs5, p5⟩
          | exc c x R4 =>
            rw [eg] at p2
            exact p2.elim
          | err =>
            rw [eg] at p2
            exact p2.elim
theorem ss_for {it : SI} {g : SG} {m : SS} {tg : Expr} {body : List Stmt} (hp : PassesOwn (model X.prog X.w) X.A X.env X.xe) (hc : X.calm = true) (hi : PI X tg e (tI X.K W it)) (hg : PG X tg (tG X.K ws g)) (hb : PSs X body (tS X.K W m))
    (hs : ∀ x, foldedSetIterable e X.env x = pure x) : PS X (.For tg e body [] pos) (tS X.K W (sFor it g m)) := (ps_for hp hc hi hg hb hs).imp fun D σ H h => for_core h
theorem while_core {K : PySem.W.Frag} {c : SB} {m : SS} {D : Ends} {σ : S} {H : Hp} (h : tS K W (sWhile c m) D σ H) : tWhile (tB K W c) (tS K W m) D σ H := by
  obtain ⟨B, io, R, s, rep, rs, p⟩ := h
  refine ⟨fun n σ' H' => ∃ io' R' s', Rep K B io' R' H' ∧ RS K (bars B io') io' H' s' σ' ∧ PstS K B io' H' W (whileL c m n s' R') D, ⟨FUEL, io, R, s, rep, rs, p⟩, ?_⟩
  rintro n σ2 H2 ⟨io2, R2, s2, rep2, rs2, p2⟩
  cases n with
  | zero => exact p2.elim
  | succ n =>
    rw [whileL] at p2
    refine ⟨B, io2, R2, s2, [], rep2, rs2, .nil, (PstS.bind (rel := fun _ _ _ a b => a = b) p2 rs2 ⟨R2, rep2⟩).imp fun k H3 ⟨io3, R3, k', st3, rep3, q, p3⟩ => ?_⟩
    subst q
    have rs3 := rs2.car (st3.car rep2)
    cases k' with
    | false =>
      rw [if_neg (by decide)] at p3 ⊢
      exact p3 io3 H3 σ2 (Step.refl _ _) rep3 rs3
    | true =>
      rw [if_pos rfl] at p3 ⊢
      refine ⟨fun σ' H' => ∃ io' R' s', Rep K B io' R' H' ∧ RS K (bars B io') io' H' s' σ' ∧ PstS K B io' H' W (whileL c m n s' R') D, fun σ' H' q => ⟨n, Nat.lt_succ_self n, q⟩, B, io3, R3, s2, rep3, rs3, turn_core p3 fun s5 R5 io5 H5 σ5 st5 rep5 rs5 p5 => ⟨io5, R5, s5, rep5, rs5, p5⟩⟩
theorem ss_while {k : SB} {m : SS} {body : List Stmt} (hp : PassesOwn (model X.prog X.w) X.A X.env X.xe) (hc : PT X c (tB X.K W k)) (hb : PSs X body (tS X.K W m)) : PS X (.While c body [] pos) (tS X.K W (sWhile k m)) := (ps_while hp hc hb).imp fun D σ H h => while_core h
/-! ### other sources -/
/-- over what a call's arguments make -/
def iArgs (f : List D → Rg → Res Src) (m : SA) : SI := fun s R => (m s R).bind f
theorem args_core {K : PySem.W.Frag} {f : List D → Rg → Res Src} {σ : S} {H : Hp} {Q : It → Hp → Prop} (h : tI K W (iArgs f mas) σ H Q) : tA K W mas σ H fun vs H1 => ∃ B io R ds, Rep K B io R H1 ∧ RDs K (bars B io) io H1 ds vs ∧ PstI K W B io H1 σ (f ds R) Q := by
  obtain ⟨B, io, R, s, rep, rs, p⟩ := h
  exact ⟨B, io, R, s, [], rep, rs, .nil, (tI_bind (rel := RDs K) p).imp fun vs H1 ⟨io1, R1, ds, st, rep1, q, p1⟩ => ⟨B, io1, R1, ds, rep1, q, p1⟩⟩
def rngOk (i : Int) : Bool := decide (-(2 ^ 62) ≤ i ∧ i < 2 ^ 62)
def rng1 : List D → Rg → Res Src := fun ds R => match ds with
  | [.int j] => if rngOk j = true then .ok (rngS 0 j.toNat) R else .err
  | _ => .err
def rng2 : List D → Rg → Res Src := fun ds R => match ds with
  | [.int i, .int j] => if rngOk i = true ∧ rngOk j = true then .ok (rngS i (j - i).toNat) R else .err
  | _ => .err
theorem src_rng {K : PySem.W.Frag} {B : Addr → Prop} {io : Io} {H : Hp} (lo : Int) (n : Nat) : SrcOk K B io H (Itr lo n) (rngS lo n) := by
  intro B' io' R' H' wd st rep' i
  unfold rngS
  by_cases h : i < n
  · rw [if_pos h]
    refine ⟨h, fun x H2 hy => ?_⟩
    obtain ⟨rfl, rfl⟩ := hy
    exact ⟨Step.refl _ _, rep', .int _⟩
  · rw [if_neg h]
    exact Nat.le_of_not_lt h
theorem si_range1 {tg : Expr} {p : Pos} (hg : Gl X "range") (hm : X.mg "range" = none) (ha : PA X [a] (tA X.K W mas)) (hs : starEach [a] X.env = [(false, eval a X.env)]) : PI X tg (.Call (.Name "range" p) [a] [] pos) (tI X.K W (iArgs rng1 mas)) :=
  (pi_range1 hg hm ha hs).imp fun σ H Q h => (args_core h).imp fun vs H1 ⟨B, io, R, ds, rep, rd, p⟩ => by
    unfold rng1 at p
    split at p
    · split at p
      · rename_i hj
        obtain ⟨r, t⟩ := (show _ ∧ _ from ⟨rd, trivial⟩)
        cases r with
        | cons r t =>
          cases t
          cases r
          have hj := of_decide_eq_true hj
          exact ⟨_, rfl, hj.1, hj.2, p io H1 _ (Step.refl _ _) rep (src_rng _ _)⟩
      · exact p.elim
    · exact p.elim
theorem si_range2 {tg : Expr} {p : Pos} (hg : Gl X "range") (hm : X.mg "range" = none) (ha : PA X [a, b] (tA X.K W mas)) (hs : starEach [a, b] X.env = [(false, eval a X.env), (false, eval b X.env)]) (hs2 : starEach [b] X.env = [(false, eval b X.env)]) : PI X tg (.Call (.Name "range" p) [a, b] [] pos) (tI X.K W (iArgs rng2 mas)) :=
  (pi_range2 hg hm ha hs hs2).imp fun σ H Q h => (args_core h).imp fun vs H1 ⟨B, io, R, ds, rep, rd, p⟩ => by
    unfold rng2 at p
    split at p
    · split at p
      · rename_i hj
        cases rd with
        | cons r t =>
          cases t with
          | cons r2 t =>
            cases t
            cases r
            cases r2
            have h1 := of_decide_eq_true hj.1
            have h2 := of_decide_eq_true hj.2
            exact ⟨_, _, rfl, ⟨h1.1, h1.2, h2.1, h2.2⟩, p io H1 _ (Step.refl _ _) rep (src_rng _ _)⟩
      · exact p.elim
    · exact p.elim
/-- enumerate of a list -/
def enum1 : List D → Rg → Res Src := fun ds R => match ds with
  | [.lst xs] => .ok (enuS (fixS xs)) R
  | [.ref r] => match R[r]? with
    | some (.lst _) => .ok (enuS (liveS r)) R
    | _ => .err
  | _ => .err
theorem src_enum {K : PySem.W.Frag} {B : Addr → Prop} {io : Io} {H : Hp} {a : Addr} {f : Src} (h : SrcOk K B io H (Itl K a) f) : SrcOk K B io H (Ite K a) (enuS f) := by
  intro B' io' R' H' wd st rep' i
  have q := h B' io' R' H' wd st rep' i
  unfold enuS
  cases e : f R' i with
  | none => trivial
  | some o =>
    rw [e] at q
    cases o with
    | none => exact q
    | some d =>
      obtain ⟨⟨xs, x, h1, h2⟩, yl⟩ := q
      refine ⟨⟨xs, x, h1, h2⟩, fun v H2 hy => ?_⟩
      obtain ⟨T, y, rfl, hT, rfl, hq⟩ := hy
      have e2 := hq xs h1
      rw [h2] at e2
      cases e2
      obtain ⟨_, _, rx⟩ := yl x H' ⟨rfl, hq⟩
      exact tup_ok rep' hT (.cons (.int _) (.cons rx .nil))
theorem si_enum {elts : List Expr} {kk : Nat} {tpos p : Pos} (hg : Gl X "enumerate") (hm : X.mg "enumerate" = none) (ha : PA X [a] (tA X.K W mas)) (hs : starEach [a] X.env = [(false, eval a X.env)]) : PI X (.Tuple elts kk tpos) (.Call (.Name "enumerate" p) [a] [] pos) (tI X.K W (iArgs enum1 mas)) :=
  (pi_enum hg hm ha hs).imp fun σ H Q h => (args_core h).imp fun vs H1 ⟨B, io, R, ds, rep, rd, p⟩ => by
    unfold enum1 at p
    split at p
    · cases rd with
      | cons r t =>
        cases t
        cases r with
        | lst h r => exact ⟨_, _, rfl, h.sq, p io H1 _ (Step.refl _ _) rep (src_enum (src_lst rep h r))⟩
    · cases rd with
      | cons r t =>
        cases t
        cases r with
        | @ref i a hi q =>
          split at p
          · rename_i e1
            obtain ⟨p2, vs, h1, h2, rx⟩ := rep.atLst e1
            rw [← q p2 h1]
            exact ⟨_, _, rfl, .inl (.inl h2), p io H1 _ (Step.refl _ _) rep (src_enum (src_live hi fun p3 h3 => by rw [h1] at h3; cases h3; rfl))⟩
          · exact p.elim
    · exact p.elim
/-- zip of two lists, or of two tuples -/
def zipS (f g : Src) : Src := fun R i => match f R i, g R i with
  | some (some d), some (some e) => some (some (.tup [d, e]))
  | some none, some _ => some none
  | some (some _), some none => some none
  | _, _ => none
def zip2 : List D → Rg → Res Src := fun ds R => match ds with
  | [.tup xs, .tup ys] => .ok (zipS (fixS xs) (fixS ys)) R
  | [x, y] => match lstOf R x, lstOf R y with
    | some _, some _ => match srcD x R, srcD y R with
      | .ok f _, .ok g _ => .ok (zipS f g) R
      | _, _ => .err
    | _, _ => .err
  | _ => .err
theorem src_zip {K : PySem.W.Frag} {B : Addr → Prop} {io : Io} {H : Hp} {a b : Addr} {f g : Src} (h : SrcOk K B io H (Itl K a) f) (k : SrcOk K B io H (Itl K b) g) : SrcOk K B io H (Itz K a b) (zipS f g) := by
  intro B' io' R' H' wd st rep' i
  have q := h B' io' R' H' wd st rep' i
  have q2 := k B' io' R' H' wd st rep' i
  unfold zipS
  cases e : f R' i with
  | none => trivial
  | some o =>
    cases e2 : g R' i with
    | none => cases o <;> trivial
    | some o2 =>
      rw [e] at q
      rw [e2] at q2
      cases o with
      | none =>
        obtain ⟨xs, h1, h2⟩ := q
        cases o2 with
        | none =>
          obtain ⟨ys, h3, h4⟩ := q2
          exact ⟨xs, ys, h1, h3, .inl h2⟩
        | some d =>
          obtain ⟨⟨ys, y, h3, h4⟩, _⟩ := q2
          exact ⟨xs, ys, h1, h3, .inl h2⟩
      | some d =>
        obtain ⟨⟨xs, x, h1, h2⟩, yl⟩ := q
        cases o2 with
        | none =>
          obtain ⟨ys, h3, h4⟩ := q2
          exact ⟨xs, ys, h1, h3, .inr h4⟩
        | some d2 =>
          obtain ⟨⟨ys, y, h3, h4⟩, yl2⟩ := q2
          refine ⟨⟨xs, ys, x, y, h1, h3, h2, h4⟩, fun v H2 hy => ?_⟩
          obtain ⟨T, x', y', rfl, hT, rfl, hq1, hq2⟩ := hy
          have e3 := hq1 xs h1
          rw [h2] at e3
          cases e3
          have e4 := hq2 ys h3
          rw [h4] at e4
          cases e4
          obtain ⟨_, _, rx⟩ := yl x H' ⟨rfl, hq1⟩
          obtain ⟨_, _, ry⟩ := yl2 y H' ⟨rfl, hq2⟩
          exact tup_ok rep' hT (.cons rx (.cons ry .nil))
theorem src_zipT {K : PySem.W.Frag} {B : Addr → Prop} {io : Io} {H : Hp} {a b : Addr} {f g : Src} (h : SrcOk K B io H (Itt K a) f) (k : SrcOk K B io H (Itt K b) g) : SrcOk K B io H (ItzT K a b) (zipS f g) := by
  intro B' io' R' H' wd st rep' i
  have q := h B' io' R' H' wd st rep' i
  have q2 := k B' io' R' H' wd st rep' i
  unfold zipS
  cases e : f R' i with
  | none => trivial
  | some o =>
    cases e2 : g R' i with
    | none => cases o <;> trivial
    | some o2 =>
      rw [e] at q
      rw [e2] at q2
      cases o with
      | none =>
        obtain ⟨xs, h1, h2⟩ := q
        cases o2 with
        | none =>
          obtain ⟨ys, h3, h4⟩ := q2
          exact ⟨xs, ys, h1, h3, .inl h2⟩
        | some d =>
          obtain ⟨⟨ys, y, h3, h4⟩, _⟩ := q2
          exact ⟨xs, ys, h1, h3, .inl h2⟩
      | some d =>
        obtain ⟨⟨xs, x, h1, h2⟩, yl⟩ := q
        cases o2 with
        | none =>
          obtain ⟨ys, h3, h4⟩ := q2
          exact ⟨xs, ys, h1, h3, .inr h4⟩
        | some d2 =>
          obtain ⟨⟨ys, y, h3, h4⟩, yl2⟩ := q2
          refine ⟨⟨xs, ys, x, y, h1, h3, h2, h4⟩, fun v H2 hy => ?_⟩
          obtain ⟨T, x', y', rfl, hT, rfl, hq1, hq2⟩ := hy
          have e3 := hq1 xs h1
          rw [h2] at e3
          cases e3
          have e4 := hq2 ys h3
          rw [h4] at e4
          cases e4
          obtain ⟨_, _, rx⟩ := yl x H' ⟨rfl, hq1⟩
          obtain ⟨_, _, ry⟩ := yl2 y H' ⟨rfl, hq2⟩
          exact tup_ok rep' hT (.cons rx (.cons ry .nil))
/-- the source of a list -/
theorem srcD_lst {K : PySem.W.Frag} {B : Addr → Prop} {io : Io} {R R1 : Rg} {H : Hp} {d : D} {v : V} {xs : List D} {f : Src} (rep : Rep K B io R H) (r : RD K (bars B io) io H d v) (hl : lstOf R d = some xs) (e : srcD d R = .ok f R1) :
    R1 = R ∧ ∃ a vs, v = .ref a ∧ SqL K H a vs ∧ SrcOk K B io H (Itl K a) f := by
  cases r with
  | lst h r =>
    cases e
    exact ⟨rfl, _, _, rfl, h.sq, src_lst rep h r⟩
  | @ref i a hi q =>
    have e' : (match R[i]? with
      | some (.lst _) => .ok (liveS i) R
      | _ => .err : Res Src) = .ok f R1 := e
    split at e'
    · rename_i e1
      cases e'
      obtain ⟨p2, vs, h1, h2, rx⟩ := rep.atLst e1
      have ep := q p2 h1
      subst ep
      exact ⟨rfl, _, _, rfl, .inl (.inl h2), src_live hi fun p3 h3 => by rw [h1] at h3; cases h3; rfl⟩
    · cases e'
  | _ => cases hl
theorem si_zip {elts : List Expr} {kk : Nat} {tpos p : Pos} (hg : Gl X "zip") (hm : X.mg "zip" = none) (ha : PA X [a, b] (tA X.K W mas)) (hs : starEach [a, b] X.env = (false, eval a X.env) :: starEach [b] X.env) (hpl : (backTo pos (starEach [b] X.env)).any (·.1) = false) : PI X (.Tuple elts kk tpos) (.Call (.Name "zip" p) [a, b] [] pos) (tI X.K W (iArgs zip2 mas)) :=
  (pi_zipA hg hm ha hs hpl).imp fun σ H Q h => (args_core h).imp fun vs H1 ⟨B, io, R, ds, rep, rd, p⟩ => by
    unfold zip2 at p
    split at p
    · cases rd with
      | cons r t =>
        cases t with
        | cons r2 t =>
          cases t
          cases r with
          | tup h r =>
            cases r2 with
            | tup h2 r2 => exact ⟨_, _, _, _, rfl, .inr ⟨h, h2, p io H1 _ (Step.refl _ _) rep (src_zipT (src_tup rep h r) (src_tup rep h2 r2))⟩⟩
    · cases rd with
      | cons r t =>
        cases t with
        | cons r2 t =>
          cases t
          split at p
          · rename_i l1 l2
            split at p
            · rename_i e1 e2
              obtain ⟨_, a, xs, rfl, q1, s1⟩ := srcD_lst rep r l1 e1
              obtain ⟨_, b, ys, rfl, q2, s2⟩ := srcD_lst rep r2 l2 e2
              exact ⟨_, _, _, _, rfl, .inl ⟨q1, q2, p io H1 _ (Step.refl _ _) rep (src_zip s1 s2)⟩⟩
            · exact p.elim
          · exact p.elim
    · exact p.elim
/-! ### stores -/
def gIx (a b : SE) : SG := fun d s R => (a s R).bind fun x R1 => (b s R1).bind fun i R2 => match setD x i d R2 with
  | some R3 => .ok s R3
  | none => .err
theorem sg_ix (hu : X.A.units + 1 < cLine) (h1 : PE X a (tE X.K noX ma)) (h2 : PE X b (tE X.K noX mb))
    (ha : ∀ v, assign (.Subscript a b pos) X.env v = (do
      let ov ← holding [v] (eval a X.env)
      let iv ← holding [v, ov] (eval b X.env)
      standAt pos
      holding [v, ov, iv] (setItem ov iv v)
      release [v, ov, iv] [])) : PG X (.Subscript a b pos) (tG X.K ws (gIx ma mb)) := (pg_sub h1 h2 (ok_set hu) ha).imp fun v σ H Q ⟨B, io, R, s, d, rep, rs, rd, p⟩ => by
  have p : PstG X.K ws B io H σ ((ma s R).bind fun x R1 => (mb s R1).bind fun i R2 => match setD x i d R2 with
    | some R3 => .ok s R3
    | none => .err) Q := p
  refine ⟨B, io, R, s, [], rep, rs, .nil, ?_⟩
  show Pst X.K B io H noX σ (RD X.K) (ma s R) _
  cases e : ma s R with
  | exc c x R1 => rw [e] at p; exact p.elim
  | err => rw [e] at p; exact p.elim
  | ok x R1 =>
    rw [e] at p
    intro io1 H1 vx st1 rep1 rx
    have c1 := st1.car rep
    refine ⟨B, io1, R1, s, [], rep1, rs.car c1, .nil, ?_⟩
    show Pst X.K B io1 H1 noX σ (RD X.K) (mb s R1) _
    cases e2 : mb s R1 with
    | exc c x R1 => rw [Res.bind_ok, e2] at p; exact p.elim
    | err => rw [Res.bind_ok, e2] at p; exact p.elim
    | ok i R2 =>
      rw [Res.bind_ok, e2] at p
      intro io2 H2 vi st2 rep2 ri
      have c2 := st2.car rep1
      have p : PstG X.K ws B io H σ (match setD x i d R2 with
        | some R3 => .ok s R3
        | none => .err) Q := p
      cases e3 : setD x i d R2 with
      | none => rw [e3] at p; exact p.elim
      | some R3 =>
        rw [e3] at p
        exact ⟨B, io2, R2, x, i, d, R3, rep2, rx.car c2, ri, (rd.car c1).car c2, e3, fun H' st rep3 => p io2 H' σ ((st1.trans st2).trans st) rep3 (((rs.car c1).car c2).car (st.car rep2)) rfl⟩
end
end Om
/-! Om, part J: list comprehensions. -/
namespace Om
open PySem PySem.Spec PyProof.Rows L2 RZ
def wipeD (s : List D) : List Nat → List D
  | [] => s
  | i :: vs => (wipeD s vs).set i .undef
def compL (g : SG) (t : SB) (e : SE) (f : Src) (s0 : List D) : Nat → Nat → List D → Rg → Option (List D × Rg)
  | 0, i, acc, R => match f R i with
    | some none => some (acc, R)
    | _ => none
  | n + 1, i, acc, R => match f R i with
    | none => none
    | some none => some (acc, R)
    | some (some d) => match g d s0 R with
      | .ok s1 R1 => (match t s1 R1 with
        | .ok k R2 => if k = true then (match e s1 R2 with
          | .ok y R3 => if acc.length < LINE then compL g t e f s0 n (i + 1) (acc ++ [y]) R3 else none
          | _ => none) else compL g t e f s0 n (i + 1) acc R2
        | _ => none)
      | _ => none
def cComp (it : SI) (g : SG) (t : SB) (e : SE) (vs : List Nat) (m : Bool) : SE := fun s R => (it s R).bind fun f R1 => lift ((compL g t e f (wipeD s vs) FUEL 0 [] R1).bind fun z => mkL m z.1 z.2)
section
variable {K : PySem.W.Frag} {B : Addr → Prop} {io : Io} {R : Rg} {H : Hp} {p : Addr}
theorem RS.wipe {bar : Addr → Prop} {s : List D} {σ : S} (r : RS K bar io H s σ) : ∀ vs : List Nat, RS K bar io H (wipeD s vs) (wipe σ vs)
  | [] => r
  | i :: vs => by
    have q := RS.wipe r vs
    refine ⟨by simp only [wipeD, L2.wipe, List.length_set]; exact q.1, fun j d e => ?_⟩
    simp only [wipeD, L2.wipe] at e ⊢
    by_cases hj : i = j
    · subst hj
      by_cases hl : i < (wipeD s vs).length
      · rw [List.getElem?_set_self hl] at e
        cases e
        have hl2 : i < (L2.wipe σ vs).length := by rw [← q.1]; exact hl
        exact ⟨_, List.getElem?_set_self hl2, .inl rfl⟩
      · rw [List.getElem?_eq_none (by rw [List.length_set]; omega)] at e
        cases e
    · rw [List.getElem?_set_ne hj] at e ⊢
      exact q.2 j d e
/-- one thing is hidden -/
def hid (B : Addr → Prop) (p : Addr) : Addr → Prop := fun a => B a ∨ a = p
theorem car_hid {o : HO} (hp : H p = none) : Car K (bars B io) io H (bars (hid B p) io) io (upd H p o) where
  tup := fun a vs h => by
    rcases h with h | ⟨ob, h⟩
    · exact .inl (by rw [upd_ne (ne_of_none h hp)]; exact h)
    · exact .inr ⟨ob, by rw [upd_ne (ne_of_none h hp)]; exact h⟩
  oth := fun a u h n => ⟨by rw [upd_ne (ne_of_none h hp)]; exact h, fun z => by
    rcases z with (z | z) | z
    · exact n (.inl z)
    · exact ne_of_none h hp z
    · exact n (.inr z)⟩
  ref := fun i q h => ⟨h, fun e => e⟩
theorem Rep.hide {o : HO} (rep : Rep K B io R H) (hp : H p = none) : Rep K (hid B p) io R (upd H p o) where
  len := rep.len
  inj := rep.inj
  bt := fun a h => by
    rcases h with h | h
    · obtain ⟨u, e⟩ := rep.bt a h
      exact ⟨u, by rw [upd_ne (ne_of_none e hp)]; exact e⟩
    · rw [h, upd_same]
      exact ⟨_, rfl⟩
  bd := fun a h z => by
    rcases z with z | z
    · exact rep.bd a h z
    · obtain ⟨u, e⟩ := rep.has h
      rw [z, hp] at e
      cases e
  obj := fun i u e => (rep.obj i u e).car (car_hid hp) rfl fun q hq => by
    obtain ⟨w, ew⟩ := rep.has (ran_at hq)
    rw [upd_ne (ne_of_none ew hp)]
theorem wid_hid {H1 : Hp} (hp : H1 p = none) : Wid B (hid B p) H1 := fun a h => by
  rcases h with h | h
  · exact .inl h
  · rw [h]
    exact .inr hp
/-- the hidden thing is changed -/
theorem car_at {o : HO} {u : List V} (hb : B p) (hp : H p = some (.lst u)) : Car K (bars B io) io H (bars B io) io (upd H p o) where
  tup := fun a vs h => by
    have hn : a ≠ p := fun z => by
      rcases h with h | ⟨ob, h⟩
      · rw [z, hp] at h; cases h
      · rw [z, hp] at h; cases h
    rcases h with h | ⟨ob, h⟩
    · exact .inl (by rw [upd_ne hn]; exact h)
    · exact .inr ⟨ob, by rw [upd_ne hn]; exact h⟩
  oth := fun a u h n => ⟨by rw [upd_ne (fun z => n (.inl (by rw [z]; exact hb)))]; exact h, n⟩
  ref := fun i q h => ⟨h, fun e => e⟩
theorem Rep.at {o : HO} {u : List V} (rep : Rep K B io R H) (hb : B p) (hp : H p = some (.lst u)) : Rep K B io R (upd H p o) where
  len := rep.len
  inj := rep.inj
  bt := fun a h => by
    by_cases e : a = p
    · rw [e, upd_same]
      exact ⟨_, rfl⟩
    · rw [upd_ne e]
      exact rep.bt a h
  bd := rep.bd
  obj := fun i u e => (rep.obj i u e).car (car_at hb hp) rfl fun q hq => by
    rw [upd_ne fun z => rep.bd q (ran_at hq) (by rw [z]; exact hb)]
theorem Step.under {o : HO} {io1 : Io} {H1 : Hp} (hp : H p = none) (st : Step io H io1 H1) : Step io H io1 (upd H1 p o) where
  fr := fun a u h n => by
    rw [upd_ne (ne_of_none h hp)]
    exact st.fr a u h n
  nw := st.nw
  tr := fun a u h => by
    rw [upd_ne (ne_of_none h hp)]
    exact st.tr a u h
  le := st.le
  ix := st.ix
  fz := fun a ob u h => by
    rw [upd_ne (ne_of_none h hp)]
    exact st.fz a ob u h
/-- the hidden thing is shown -/
theorem car_show : Car K (bars (hid B p) io) io H (bars B io) io H where
  tup := fun a vs h => h
  oth := fun a u h n => ⟨h, fun z => n (by
    rcases z with z | z
    · exact .inl (.inl z)
    · exact .inr z)⟩
  ref := fun i q h => ⟨h, fun e => e⟩
theorem Rep.show (rep : Rep K (hid B p) io R H) : Rep K B io R H where
  len := rep.len
  inj := rep.inj
  bt := fun a h => rep.bt a (.inl h)
  bd := fun a h z => rep.bd a h (.inl z)
  obj := fun i u e => (rep.obj i u e).car car_show rfl fun _ _ => rfl
theorem car_adopt (nb : ¬ B p) : Car K (bars (hid B p) io) io H (bars B (io ++ [some p])) (io ++ [some p]) H where
  tup := fun a vs h => h
  oth := fun a u h n => ⟨h, fun z => n (by
    rcases z with z | z
    · exact .inl (.inl z)
    · rcases List.mem_append.mp z with z | z
      · exact .inr z
      · have e : some a = some p := by simpa using z
        cases e
        exact .inl (.inr rfl))⟩
  ref := fun i q h => ⟨by simp; omega, fun e => by rw [List.getElem?_append_left h] at e; exact e⟩
theorem Rep.adopt {o : O} (rep : Rep K (hid B p) io R H) (nb : ¬ B p) (h : RO K (bars B (io ++ [some p])) (io ++ [some p]) H io.length o) : Rep K B (io ++ [some p]) (R ++ [o]) H where
  len := by simp [rep.len]
  inj := fun i j q h1 h2 => by
    have at_ : ∀ k : Nat, (io ++ [some p])[k]? = some (some q) → io[k]? = some (some q) ∨ (k = io.length ∧ q = p) := fun k hk => by
      by_cases hl : k < io.length
      · rw [List.getElem?_append_left hl] at hk
        exact .inl hk
      · rw [List.getElem?_append_right (by omega)] at hk
        have : k - io.length = 0 := by
          have := (List.getElem?_eq_some_iff.mp hk).1
          simp at this
          omega
        rw [this] at hk
        have e : some p = some q := by simpa using hk
        cases e
        exact .inr ⟨by omega, rfl⟩
    have no : ∀ k : Nat, io[k]? = some (some q) → q ≠ p := fun k hk e => rep.bd q (ran_at hk) (.inr e)
    rcases at_ i h1 with a | ⟨a, a'⟩
    · rcases at_ j h2 with b | ⟨b, b'⟩
      · exact rep.inj i j q a b
      · exact absurd b' (no i a)
    · rcases at_ j h2 with b | ⟨b, b'⟩
      · exact absurd a' (no j b)
      · omega
  bt := fun a h => rep.bt a (.inl h)
  bd := fun a h z => by
    rcases List.mem_append.mp h with h | h
    · exact rep.bd a h (.inl z)
    · have e : some a = some p := by simpa using h
      cases e
      exact nb z
  obj := fun i u e => by
    by_cases hl : i < R.length
    · rw [List.getElem?_append_left hl] at e
      have hl' : i < io.length := by rw [rep.len]; exact hl
      exact (rep.obj i u e).car (car_adopt nb) (List.getElem?_append_left hl') fun q hq => rfl
    · rw [List.getElem?_append_right (by omega)] at e
      have hi := (List.getElem?_eq_some_iff.mp e).1
      have hz : i - R.length = 0 := by
        simp at hi
        omega
      rw [hz] at e
      have e' : o = u := by simpa using e
      cases e'
      have : i = io.length := by rw [rep.len]; omega
      rw [this]
      exact h
theorem Step.adopt {io1 : Io} {H1 : Hp} (hp : H p = none) (st : Step io H io1 H1) : Step io H (io1 ++ [some p]) H1 where
  fr := st.fr
  nw := fun a h => by
    rcases List.mem_append.mp h with h | h
    · exact st.nw a h
    · have e : some a = some p := by simpa using h
      cases e
      exact .inr hp
  tr := st.tr
  le := by
    have := st.le
    simp
    omega
  ix := fun i h => by
    have := st.le
    rw [List.getElem?_append_left (by omega)]
    exact st.ix i h
  fz := st.fz
/-- the list that was hidden is the value -/
theorem comp_end {m : Bool} {ds : List D} {vs : List V} {d : D} {io1 : Io} {H1 : Hp} {R1 : Rg} (rep0 : Rep K B io R H) (hp : H p = none) (st : Step io H io1 H1) (rep : Rep K (hid B p) io1 R1 H1) (h : H1 p = some (.lst vs)) (r : RDs K (bars (hid B p) io1) io1 H1 ds vs) {R' : Rg} (e : mkL m ds R1 = some (d, R')) :
    ∃ io2, Step io H io2 H1 ∧ Rep K B io2 R' H1 ∧ RD K (bars B io2) io2 H1 d (.ref p) := by
  have nb : ¬ B p := fun z => rep0.notBar hp (.inl z)
  unfold mkL at e
  split at e
  · split at e
    · cases e
      refine ⟨io1 ++ [some p], st.adopt hp, rep.adopt nb ⟨p, vs, by simp, h, r.car (car_adopt nb)⟩, .ref (by rw [← rep.len]; simp) fun q hq => ?_⟩
      rw [← rep.len] at hq
      have e : some p = some q := by simpa using hq
      cases e
      rfl
    · cases e
      refine ⟨io1, st, rep.show, .lst (.inl ⟨fun z => ?_, .inl h⟩) (r.car car_show)⟩
      rcases z with z | z
      · exact nb z
      · exact rep.bd p z (.inr rfl)
  · cases e
end
section
variable {X : Cx} {W : WX} {e : Expr}
theorem wipe_sub {ws : List Nat} : ∀ {us : List Nat} {σ : S}, (∀ i ∈ us, i ∈ ws) → wipe (wipe σ us) ws = wipe σ ws
  | [], _, _ => rfl
  | u :: us, σ, h => by
    show wipe ((wipe σ us).set u none) ws = _
    rw [wipe_set (h u List.mem_cons_self), wipe_sub fun i hi => h i (List.mem_cons_of_mem _ hi)]
theorem wipe_wipe {ws : List Nat} {σ : S} : wipe (wipe σ ws) ws = wipe σ ws := wipe_sub fun _ h => h
def PstL (K : PySem.W.Frag) (B : Addr → Prop) (io1 : Io) (H1 : Hp) (m : Bool) (r : Option (List D × Rg)) (Q : VK) : Prop := match r.bind fun z => mkL m z.1 z.2 with
  | some (d, R') => ∀ io' H' v, Step io1 H1 io' H' → Rep K B io' R' H' → RD K (bars B io') io' H' d v → Q v H'
  | none => False
theorem lc_body {K : PySem.W.Frag} {it : SI} {g : SG} {t : SB} {me : SE} {vs : List Nat} {m : Bool} {σ : S} {H : Hp} {Q : VK} (h : tE K W (cComp it g t me vs m) σ H Q) : tLc (tI K W it) (tG K vs g) (tB K noX t) (tE K noX me) vs σ H Q := by
  obtain ⟨B, io, R, s, _, rep, rs, _, p⟩ := h
  refine ⟨B, io, R, s, rep, rs, ?_⟩
  have p : Pst K B io H W σ (RD K) ((it s R).bind fun f R1 => lift ((compL g t me f (wipeD s vs) FUEL 0 [] R1).bind fun z => mkL m z.1 z.2)) Q := p
  cases e : it s R with
  | exc c x R1 =>
    rw [e] at p
    exact p
  | err =>
    rw [e] at p
    exact p
  | ok f R1 =>
    rw [e] at p
    intro io1 H1 J st1 rep1 src D hD
    have c1 := st1.car rep
    have p1 : PstL K B io1 H1 m (compL g t me f (wipeD s vs) FUEL 0 [] R1) Q := by
      have p := Pst.shift st1 p
      rw [Res.bind_ok] at p
      unfold PstL
      revert p
      cases (compL g t me f (wipeD s vs) FUEL 0 [] R1).bind fun z => mkL m z.1 z.2 with
      | none => exact fun p => p
      | some z => exact fun p => p
    clear p
    have rs0 : RS K (bars (hid B D) io1) io1 (upd H1 D (.lst [])) (wipeD s vs) (wipe σ vs) := ((rs.car c1).wipe vs).car (car_hid hD)
    generalize hs0 : wipeD s vs = s0 at p1 rs0
    refine ⟨fun i n H2 => ∃ io2 R2 acc us, Step io1 H1 io2 H2 ∧ Rep K (hid B D) io2 R2 H2 ∧ H2 D = some (.lst us) ∧ RDs K (bars (hid B D) io2) io2 H2 acc us ∧ RS K (bars (hid B D) io2) io2 H2 s0 (wipe σ vs) ∧ PstL K B io1 H1 m (compL g t me f s0 n i acc R2) Q,
      ⟨FUEL, io1, R1, [], [], Step.add hD, rep1.hide hD, upd_same, .nil, rs0, p1⟩, ?_⟩
    rintro i n H2 ⟨io2, R2, acc, us, st2, rep2, hD2, ra, rs2, p2⟩
    have sr := src (hid B D) io2 R2 H2 (wid_hid hD) st2 rep2 i
    have stop : ∀ {r}, PstL K B io1 H1 m (some (acc, R2)) Q → r = Q (.ref D) H2 → r := fun p e => by
      rw [e]
      unfold PstL at p
      have p : (match mkL m acc R2 with
        | some (d, R') => ∀ io' H' v, Step io1 H1 io' H' → Rep K B io' R' H' → RD K (bars B io') io' H' d v → Q v H'
        | none => False) := p
      cases e2 : mkL m acc R2 with
      | none => rw [e2] at p; exact p.elim
      | some z =>
        obtain ⟨d, R'⟩ := z
        rw [e2] at p
        obtain ⟨io3, st3, rep3, r3⟩ := comp_end rep1 hD st2 rep2 hD2 ra e2
        exact p io3 H2 _ st3 rep3 r3
    cases ef : f R2 i with
    | none =>
      cases n with
      | zero => rw [compL, ef] at p2; exact p2.elim
      | succ n => rw [compL, ef] at p2; exact p2.elim
    | some o =>
      rw [ef] at sr
      cases o with
      | none =>
        refine .inl ⟨sr, stop ?_ rfl⟩
        cases n with
        | zero => rw [compL, ef] at p2; exact p2
        | succ n => rw [compL, ef] at p2; exact p2
      | some d =>
        obtain ⟨go, yl⟩ := sr
        cases n with
        | zero => rw [compL, ef] at p2; exact p2.elim
        | succ n =>
          rw [compL, ef] at p2
          refine .inr ⟨go, fun H' => ∃ io2 R2 acc us, Step io1 H1 io2 H' ∧ Rep K (hid B D) io2 R2 H' ∧ H' D = some (.lst us) ∧ RDs K (bars (hid B D) io2) io2 H' acc us ∧ RS K (bars (hid B D) io2) io2 H' s0 (wipe σ vs) ∧ PstL K B io1 H1 m (compL g t me f s0 n (i + 1) acc R2) Q, fun H' q => ⟨n, Nat.lt_succ_self n, q⟩, fun x H3 hy => ?_⟩
          obtain ⟨st3, rep3, rx⟩ := yl x H3 hy
          have c3 := st3.car rep2
          refine ⟨hid B D, io2, R2, s0, d, rep3, rs2.car c3, rx, ?_⟩
          have p2 : PstL K B io1 H1 m (match g d s0 R2 with
            | .ok s1 R1 => (match t s1 R1 with
              | .ok k R2 => if k = true then (match me s1 R2 with
                | .ok y R3 => if acc.length < LINE then compL g t me f s0 n (i + 1) (acc ++ [y]) R3 else none
                | _ => none) else compL g t me f s0 n (i + 1) acc R2
              | _ => none)
            | _ => none) Q := p2
          cases eg : g d s0 R2 with
          | exc c x R4 => rw [eg] at p2; exact p2.elim
          | err => rw [eg] at p2; exact p2.elim
          | ok s4 R4 =>
            rw [eg] at p2
            intro io4 H4 σ4 st4 rep4 rs4 wp4
            have c4 := st4.car rep3
            have nD : ¬ ran io4 D := fun z => rep4.bd D z (.inr rfl)
            refine ⟨wp4.trans wipe_wipe, hid B D, io4, R4, s4, [], rep4, rs4, .nil, ?_⟩
            show Pst K (hid B D) io4 H4 noX σ4 (fun _ _ _ a b => a = b) (t s4 R4) _
            have p2 : PstL K B io1 H1 m (match t s4 R4 with
              | .ok k R2 => if k = true then (match me s4 R2 with
                | .ok y R3 => if acc.length < LINE then compL g t me f s0 n (i + 1) (acc ++ [y]) R3 else none
                | _ => none) else compL g t me f s0 n (i + 1) acc R2
              | _ => none) Q := p2
            cases et : t s4 R4 with
            | exc c x R4 => rw [et] at p2; exact p2.elim
            | err => rw [et] at p2; exact p2.elim
            | ok k R5 =>
              rw [et] at p2
              intro io5 H5 k' st5 rep5 ek
              subst ek
              have c5 := st5.car rep4
              have ra5 := ((ra.car c3).car c4).car c5
              have rs5 := ((rs2.car c3).car c4).car c5
              have st15 := ((st2.trans st3).trans st4).trans st5
              have nr : ∀ {io : Io} {R : Rg} {H : Hp}, Rep K (hid B D) io R H → ¬ ran io D := fun r z => r.bd D z (.inr rfl)
              have hD5 : H5 D = some (.lst us) := st5.fr D _ (st4.fr D _ (st3.fr D _ hD2 (nr rep2)) (nr rep3)) (nr rep4)
              have p2 : PstL K B io1 H1 m (if k = true then (match me s4 R5 with
                | .ok y R3 => if acc.length < LINE then compL g t me f s0 n (i + 1) (acc ++ [y]) R3 else none
                | _ => none) else compL g t me f s0 n (i + 1) acc R5) Q := p2
              cases k with
              | false =>
                rw [if_neg (by decide)] at p2 ⊢
                exact ⟨io5, R5, acc, us, st15, rep5, hD5, ra5, rs5, p2⟩
              | true =>
                rw [if_pos rfl] at p2 ⊢
                refine ⟨hid B D, io5, R5, s4, [], rep5, rs4.car c5, .nil, ?_⟩
                show Pst K (hid B D) io5 H5 noX σ4 (RD K) (me s4 R5) _
                cases ee : me s4 R5 with
                | exc c x R4 => rw [ee] at p2; exact p2.elim
                | err => rw [ee] at p2; exact p2.elim
                | ok y R6 =>
                  rw [ee] at p2
                  intro io6 H6 v st6 rep6 ry
                  have c6 := st6.car rep5
                  have hD6 := st6.fr D _ hD5 (nr rep5)
                  have p2 : PstL K B io1 H1 m (if acc.length < LINE then compL g t me f s0 n (i + 1) (acc ++ [y]) R6 else none) Q := p2
                  split at p2
                  · rename_i hl
                    have ra6 := ra5.car c6
                    have ca := car_at (K := K) (io := io6) (B := hid B D) (o := .lst (us ++ [v])) (.inr rfl) hD6
                    refine ⟨us, hD6, by rw [← ra.len]; exact hl, io6, R6, acc ++ [y], us ++ [v], (st15.trans st6).under hD, rep6.at (.inr rfl) hD6, upd_same, (ra6.append (.cons ry .nil)).car ca, (rs5.car c6).car ca, p2⟩
                  · exact p2.elim
theorem se_comp {elt tg iter : Expr} {ifs : List Expr} {scope : Scope} {own : List (Str × Nat)} {pos : Pos} {it : SI} {g : SG} {t : SB} {me : SE} {m : Bool} (hc : X.calm = true) (hN : X.N.Nodup) (hi : PI X tg iter (tI X.K W it)) (ok : BlkOk X.N X.env.scope scope own)
    (hg : ∀ (s : Shared) (H : Hp) (C : Addr) (cl : List (Str × Addr)) (fp : List Addr), PG (X.blk s H scope (compEnvC scope cl C X.env) fp) tg (tG X.K (own.map (·.2)) g)) (ht : ∀ (s : Shared) (H : Hp) (C : Addr) (cl : List (Str × Addr)) (fp : List Addr), PTs (X.blk s H scope (compEnvC scope cl C X.env) fp) ifs (tB X.K noX t))
    (he : ∀ (s : Shared) (H : Hp) (C : Addr) (cl : List (Str × Addr)) (fp : List Addr), PE (X.blk s H scope (compEnvC scope cl C X.env) fp) elt (tE X.K noX me)) (hs : ∀ x, foldedSetIterable iter X.env x = pure x) :
    PE X (.ListComp elt [⟨tg, iter, ifs, 0⟩] scope pos) (tE X.K W (cComp it g t me (own.map (·.2)) m)) := (pe_lc hc hN hi ok hg ht he hs).imp fun σ H Q h => lc_body h
theorem ss_setComp {i : Nat} {y : Str} {py spos : Pos} {elt tg iter : Expr} {ifs : List Expr} {scope : Scope} {own : List (Str × Nat)} {pos : Pos} {it : SI} {g : SG} {t : SB} {me : SE} {m : Bool} (hc : X.calm = true) (hN : X.N.Nodup) (hy : X.N[i]? = some y) (hyl : X.env.scope.names.lookup y = some .local)
    (hsw : swapsWith (.ListComp elt [⟨tg, iter, ifs, 0⟩] scope pos) (some (.Name y py)) spos.line X.env = pure true) (hi : PI X tg iter (tI X.K W it)) (ok : BlkOk X.N X.env.scope scope own)
    (hg : ∀ (s : Shared) (H : Hp) (C : Addr) (cl : List (Str × Addr)) (fp : List Addr), PG (X.blk s H scope (compEnvC scope cl C X.env) fp) tg (tG X.K (own.map (·.2)) g)) (ht : ∀ (s : Shared) (H : Hp) (C : Addr) (cl : List (Str × Addr)) (fp : List Addr), PTs (X.blk s H scope (compEnvC scope cl C X.env) fp) ifs (tB X.K noX t))
    (he : ∀ (s : Shared) (H : Hp) (C : Addr) (cl : List (Str × Addr)) (fp : List Addr), PE (X.blk s H scope (compEnvC scope cl C X.env) fp) elt (tE X.K noX me)) (hs : ∀ x, foldedSetIterable iter X.env x = pure x) :
    PS X (.Assign [.Name y py] (.ListComp elt [⟨tg, iter, ifs, 0⟩] scope pos) spos) (tS X.K W (sAsg (cComp it g t me (own.map (·.2)) m) (gVar i))) :=
  (ps_setLc hc hN hy hyl hsw hi ok hg ht he hs).imp fun D σ H h => by
    have h2 : tAsg (tE X.K W (cComp it g t me (own.map (·.2)) m)) (tG X.K [i] (gVar i)) D σ H := asg_core h
    exact lc_body (Told.imp h2 fun v H1 ⟨B, io, R, s, d, rep, rs, rd, p⟩ => p io H1 _ (Step.refl _ _) rep (rs.set i rd) (wipe_set List.mem_cons_self))
end
end Om
/-! Om, part K: defs. -/
namespace Om
open PySem PySem.Spec PyProof.Rows L2 RZ
/-! ### what is left of the region when a def ends -/
/-- the tree of a value, but for the places below n; the place k is refused -/
def frzN (n k : Nat) (R : Rg) : Nat → D → Option D
  | 0, d => if pureD d = true then some d else none
  | f + 1, d => if pureD d = true then some d else match d with
    | .ref i => if i < n then some (.ref i) else if i = k then none else (match R[i]? with
      | some (.lst xs) => (xs.mapM (frzN n k R f)).map .lst
      | some (.dct ks) => (ks.mapM fun p => (frzN n k R f p.2).map fun v => (p.1, v)).map .dct
      | some (.ins c fs) => (fs.mapM fun p => (frzN n k R f p.2).map fun v => (p.1, v)).map (.ins c)
      | _ => none)
    | .tup xs => (xs.mapM (frzN n k R f)).map .tup
    | .lst xs => (xs.mapM (frzN n k R f)).map .lst
    | .dct ks => (ks.mapM fun p => (frzN n k R f p.2).map fun v => (p.1, v)).map .dct
    | .ins c fs => (fs.mapM fun p => (frzN n k R f p.2).map fun v => (p.1, v)).map (.ins c)
    | _ => none
abbrev FZ : Nat := 8
def frzO (n k : Nat) (R : Rg) (o : O) : Option O := match o with
  | .lst xs => (xs.mapM (frzN n k R FZ)).map .lst
  | .dct ks => (ks.mapM fun p => (frzN n k R FZ p.2).map fun v => (p.1, v)).map .dct
  | .ins c fs => (fs.mapM fun p => (frzN n k R FZ p.2).map fun v => (p.1, v)).map (.ins c)
  | _ => none
def beqO : O → O → Bool
  | .lst a, .lst b => beqDs a b
  | .dct a, .dct b => beqKs a b
  | .ins c a, .ins d b => decide (c = d) && beqFs a b
  | .dead, .dead => true
  | .dctL a, .dctL b => beqKs a b
  | _, _ => false
theorem beqO_iff : ∀ a b : O, beqO a b = true ↔ a = b
  | .lst a, b => by cases b <;> simp [beqO, beqDs_iff a]
  | .dct a, b => by cases b <;> simp [beqO, beqKs_iff a]
  | .ins c a, b => by cases b <;> simp [beqO, beqFs_iff a]
  | .dead, b => by cases b <;> simp [beqO]
  | .dctL a, b => by cases b <;> simp [beqO, beqKs_iff a]
instance : DecidableEq O := fun a b => decidable_of_iff (beqO a b = true) (beqO_iff a b)
def keepG (n k : Nat) (R : Rg) : Rg → Rg → Option Rg
  | [], _ => some []
  | o :: R0, o1 :: R1 => (if o = o1 then some o1 else frzO n k R o1).bind fun o2 => (keepG n k R R0 R1).map fun t => o2 :: t
  | _ :: _, [] => none
/-- the first places as they stand: those that were not changed stay, the others must be trees again -/
def keepR (n k : Nat) (R0 R : Rg) : Option Rg := if R.take n = R0 then some R0 else keepG n k R R0 R
/-- a def's end. live: its value is a new thing that its caller may change -/
def fin (live : Bool) (R0 : Rg) (o : Out) : Res D := match o with
  | .rt d R => (match live, d with
    | true, .ref k => if R0.length ≤ k then (match R[k]? with
      | some o => match frzO R0.length k R o, keepR R0.length k R0 R with
        | some o', some R1 => .ok (.ref R0.length) (R1 ++ [o'])
        | _, _ => .err
      | none => .err) else .err
    | true, _ => .err
    | false, d => match frzN R0.length R.length R FZ d, keepR R0.length R.length R0 R with
      | some d', some R1 => .ok d' R1
      | _, _ => .err)
  | .nx _ R => (match keepR R0.length R.length R0 R with
    | some R1 => .ok .non R1
    | none => .err)
  | .exc c f _ R => (match (if f = .undef then some f else frzN R0.length R.length R FZ f), keepR R0.length R.length R0 R with
    | some f', some R1 => .exc c f' R1
    | _, _ => .err)
  | _ => .err
section
variable {K : PySem.W.Frag} {B : Addr → Prop} {io io0 io1 io2 : Io} {R R0 R1 : Rg} {H H0 H1 : Hp} {n k : Nat}
/-- the places that stay -/
structure Kept (n k : Nat) (io1 io2 : Io) : Prop where
  lt : n ≤ io2.length
  le : n ≤ io1.length
  at_ : ∀ i : Nat, i < n → io2[i]? = io1[i]?
  ran_ : ∀ a, ran io2 a → ran io1 a
  only : ∀ (i : Nat) (p : Addr), io1[i]? = some (some p) → ran io2 p → i < n ∨ i = k
theorem Kept.nb (q : Kept n k io1 io2) {a : Addr} (h : ¬ bars B io1 a) : ¬ bars B io2 a := fun z => by
  rcases z with z | z
  · exact h (.inl z)
  · exact h (.inr (q.ran_ a z))
theorem Kept.new (q : Kept n k io1 io2) (rep : Rep K B io1 R H) {i : Nat} {p : Addr} (h : io1[i]? = some (some p)) (h1 : ¬ i < n) (h2 : i ≠ k) : ¬ bars B io2 p := fun z => by
  rcases z with z | z
  · exact rep.bd p (ran_at h) z
  · rcases q.only i p h z with y | y
    · exact h1 y
    · exact h2 y
mutual
theorem pure_car {bar bar' : Addr → Prop} {io io' : Io} (hb : ∀ a, ¬ bar a → ¬ bar' a) : ∀ {d : D} {v : V}, pureD d = true → RD K bar io H d v → RD K bar' io' H d v
  | _, _, _, .non => .non
  | _, _, _, .bl b => .bl b
  | _, _, _, .int i => .int i
  | _, _, _, .str x => .str x
  | _, _, _, .byt x => .byt x
  | _, _, _, .ty n => .ty n
  | _, _, _, .glo x => .glo x
  | _, _, e, .tup h r => .tup h (pure_cars hb (by simpa [pureD] using e) r)
  | _, _, e, .lst h r => .lst (h.nb hb) (pure_cars hb (by simpa [pureD] using e) r)
  | _, _, e, .dct n h r => .dct (hb _ n) h (pure_cark hb (by simpa [pureD] using e) r)
  | _, _, e, .ins n h r => .ins (hb _ n) h (pure_carf hb (by simpa [pureD] using e) r)
  | _, _, e, .ref h q => by simp [pureD] at e
theorem pure_cars {bar bar' : Addr → Prop} {io io' : Io} (hb : ∀ a, ¬ bar a → ¬ bar' a) : ∀ {ds : List D} {vs : List V}, pureDs ds = true → RDs K bar io H ds vs → RDs K bar' io' H ds vs
  | _, _, _, .nil => .nil
  | _, _, e, .cons r t => by
    have e' := e
    simp only [pureDs, Bool.and_eq_true] at e'
    exact .cons (pure_car hb e'.1 r) (pure_cars hb e'.2 t)
theorem pure_cark {bar bar' : Addr → Prop} {io io' : Io} (hb : ∀ a, ¬ bar a → ¬ bar' a) : ∀ {ds : List (D × D)} {vs : List (Key × V)}, pureKs ds = true → RKs K bar io H ds vs → RKs K bar' io' H ds vs
  | _, _, _, .nil => .nil
  | _, _, e, .cons k r t => by
    have e' := e
    simp only [pureKs, Bool.and_eq_true] at e'
    exact .cons k (pure_car hb e'.1.2 r) (pure_cark hb e'.2 t)
theorem pure_carf {bar bar' : Addr → Prop} {io io' : Io} (hb : ∀ a, ¬ bar a → ¬ bar' a) : ∀ {ds : List (Nat × D)} {vs : List (Str × V)}, pureFs ds = true → RFs K bar io H ds vs → RFs K bar' io' H ds vs
  | _, _, _, .nil => .nil
  | _, _, e, .cons k r t => by
    have e' := e
    simp only [pureFs, Bool.and_eq_true] at e'
    exact .cons k (pure_car hb e'.1 r) (pure_carf hb e'.2 t)
end
theorem map_rds {bar bar' : Addr → Prop} {io io' : Io} {f : D → Option D} (hf : ∀ d v a, f d = some a → RD K bar io H d v → RD K bar' io' H a v) : ∀ {ds : List D} {vs : List V} {as : List D}, ds.mapM f = some as → RDs K bar io H ds vs → RDs K bar' io' H as vs
  | [], _, as, e, .nil => by
    have e : some [] = some as := e
    cases e
    exact .nil
  | d :: ds, _, as, e, .cons r t => by
    rw [List.mapM_cons] at e
    cases e1 : f d with
    | none =>
      rw [e1] at e
      cases e
    | some a =>
      rw [e1] at e
      cases e2 : ds.mapM f with
      | none =>
        rw [e2] at e
        cases e
      | some bs =>
        rw [e2] at e
        cases e
        exact .cons (hf d _ a e1 r) (map_rds hf e2 t)
theorem map_rks {bar bar' : Addr → Prop} {io io' : Io} {f : D → Option D} (hf : ∀ d v a, f d = some a → RD K bar io H d v → RD K bar' io' H a v) : ∀ {ds : List (D × D)} {vs : List (Key × V)} {as : List (D × D)}, ds.mapM (fun p => (f p.2).map fun v => (p.1, v)) = some as → RKs K bar io H ds vs → RKs K bar' io' H as vs
  | [], _, as, e, .nil => by
    have e : some [] = some as := e
    cases e
    exact .nil
  | (k, d) :: ds, _, as, e, .cons hk r t => by
    rw [List.mapM_cons] at e
    cases e1 : f d with
    | none =>
      simp only [e1] at e
      cases e
    | some a =>
      simp only [e1] at e
      cases e2 : ds.mapM (fun p => (f p.2).map fun v => (p.1, v)) with
      | none =>
        rw [e2] at e
        cases e
      | some bs =>
        rw [e2] at e
        cases e
        exact .cons hk (hf d _ a e1 r) (map_rks hf e2 t)
theorem map_rfs {bar bar' : Addr → Prop} {io io' : Io} {f : D → Option D} (hf : ∀ d v a, f d = some a → RD K bar io H d v → RD K bar' io' H a v) : ∀ {ds : List (Nat × D)} {vs : List (Str × V)} {as : List (Nat × D)}, ds.mapM (fun p => (f p.2).map fun v => (p.1, v)) = some as → RFs K bar io H ds vs → RFs K bar' io' H as vs
  | [], _, as, e, .nil => by
    have e : some [] = some as := e
    cases e
    exact .nil
  | (k, d) :: ds, _, as, e, .cons hk r t => by
    rw [List.mapM_cons] at e
    cases e1 : f d with
    | none =>
      simp only [e1] at e
      cases e
    | some a =>
      simp only [e1] at e
      cases e2 : ds.mapM (fun p => (f p.2).map fun v => (p.1, v)) with
      | none =>
        rw [e2] at e
        cases e
      | some bs =>
        rw [e2] at e
        cases e
        exact .cons hk (hf d _ a e1 r) (map_rfs hf e2 t)
theorem frz_rd (q : Kept n k io1 io2) (rep : Rep K B io1 R H) : ∀ (f : Nat) {d : D} {v : V} {a : D}, frzN n k R f d = some a → RD K (bars B io1) io1 H d v → RD K (bars B io2) io2 H a v
  | 0, d, v, a, e, r => by
    unfold frzN at e
    split at e
    · rename_i hp
      cases e
      exact pure_car (fun a h => q.nb h) hp r
    · cases e
  | f + 1, d, v, a, e, r => by
    unfold frzN at e
    split at e
    · rename_i hp
      cases e
      exact pure_car (fun a h => q.nb h) hp r
    · have ih : ∀ d v a, frzN n k R f d = some a → RD K (bars B io1) io1 H d v → RD K (bars B io2) io2 H a v := fun d v a e r => frz_rd q rep f e r
      cases r with
      | tup h r =>
        obtain ⟨ys, e1, e2⟩ := Option.map_eq_some_iff.mp e
        subst e2
        exact .tup h (map_rds ih e1 r)
      | lst h r =>
        obtain ⟨ys, e1, e2⟩ := Option.map_eq_some_iff.mp e
        subst e2
        exact .lst (h.nb fun a h => q.nb h) (map_rds ih e1 r)
      | dct nb h r =>
        obtain ⟨ys, e1, e2⟩ := Option.map_eq_some_iff.mp e
        subst e2
        exact .dct (q.nb nb) h (map_rks ih e1 r)
      | ins nb h r =>
        obtain ⟨ys, e1, e2⟩ := Option.map_eq_some_iff.mp e
        subst e2
        exact .ins (q.nb nb) h (map_rfs ih e1 r)
      | @ref i b hi hq =>
        have e : (if i < n then some (D.ref i) else if i = k then none else (match R[i]? with
          | some (.lst xs) => (xs.mapM (frzN n k R f)).map .lst
          | some (.dct ks) => (ks.mapM fun p => (frzN n k R f p.2).map fun v => (p.1, v)).map .dct
          | some (.ins c fs) => (fs.mapM fun p => (frzN n k R f p.2).map fun v => (p.1, v)).map (.ins c)
          | _ => none)) = some a := e
        split at e
        · rename_i hn
          cases e
          exact .ref (Nat.lt_of_lt_of_le hn q.lt) fun p hp => hq p (by rw [← q.at_ i hn]; exact hp)
        · rename_i hn
          split at e
          · cases e
          · rename_i hk
            split at e
            · rename_i e1
              obtain ⟨p, vs, h1, h2, r⟩ := rep.atLst e1
              obtain ⟨ys, e3, e4⟩ := Option.map_eq_some_iff.mp e
              subst e4
              rw [← hq p h1]
              exact .lst (.inl ⟨q.new rep h1 hn hk, .inl h2⟩) (map_rds ih e3 r)
            · rename_i e1
              obtain ⟨p, vs, h1, h2, r⟩ := rep.atDct e1
              obtain ⟨ys, e3, e4⟩ := Option.map_eq_some_iff.mp e
              subst e4
              rw [← hq p h1]
              exact .dct (q.new rep h1 hn hk) (.inl h2) (map_rks ih e3 r)
            · rename_i e1
              obtain ⟨p, dx, vs, h1, h2, r⟩ := rep.atIns e1
              obtain ⟨ys, e3, e4⟩ := Option.map_eq_some_iff.mp e
              subst e4
              rw [← hq p h1]
              exact .ins (q.new rep h1 hn hk) h2 (map_rfs ih e3 r)
            · cases e
      | _ => cases e
mutual
theorem low_car {bar bar' : Addr → Prop} {io0 io io' : Io} {H0 : Hp} (hb : ∀ a, ¬ bar a → ¬ bar' a) (hi : io0.length ≤ io'.length) (hat : ∀ i : Nat, i < io0.length → io'[i]? = io[i]?) {bar0 : Addr → Prop} : ∀ {d : D} {v0 v : V}, RD K bar0 io0 H0 d v0 → RD K bar io H d v → RD K bar' io' H d v
  | _, _, _, _, .non => .non
  | _, _, _, _, .bl b => .bl b
  | _, _, _, _, .int i => .int i
  | _, _, _, _, .str x => .str x
  | _, _, _, _, .byt x => .byt x
  | _, _, _, _, .ty n => .ty n
  | _, _, _, _, .glo x => .glo x
  | _, _, _, .tup _ z, .tup h r => .tup h (low_cars hb hi hat z r)
  | _, _, _, .lst _ z, .lst h r => .lst (h.nb hb) (low_cars hb hi hat z r)
  | _, _, _, .dct _ _ z, .dct n h r => .dct (hb _ n) h (low_cark hb hi hat z r)
  | _, _, _, .ins _ _ z, .ins n h r => .ins (hb _ n) h (low_carf hb hi hat z r)
  | _, _, _, .ref hl _, .ref h q => .ref (Nat.lt_of_lt_of_le hl hi) fun p e => q p (by rw [← hat _ hl]; exact e)
theorem low_cars {bar bar' : Addr → Prop} {io0 io io' : Io} {H0 : Hp} (hb : ∀ a, ¬ bar a → ¬ bar' a) (hi : io0.length ≤ io'.length) (hat : ∀ i : Nat, i < io0.length → io'[i]? = io[i]?) {bar0 : Addr → Prop} : ∀ {ds : List D} {vs0 vs : List V}, RDs K bar0 io0 H0 ds vs0 → RDs K bar io H ds vs → RDs K bar' io' H ds vs
  | _, _, _, _, .nil => .nil
  | _, _, _, .cons z y, .cons r t => .cons (low_car hb hi hat z r) (low_cars hb hi hat y t)
theorem low_cark {bar bar' : Addr → Prop} {io0 io io' : Io} {H0 : Hp} (hb : ∀ a, ¬ bar a → ¬ bar' a) (hi : io0.length ≤ io'.length) (hat : ∀ i : Nat, i < io0.length → io'[i]? = io[i]?) {bar0 : Addr → Prop} : ∀ {ds : List (D × D)} {vs0 vs : List (Key × V)}, RKs K bar0 io0 H0 ds vs0 → RKs K bar io H ds vs → RKs K bar' io' H ds vs
  | _, _, _, _, .nil => .nil
  | _, _, _, .cons _ z y, .cons k r t => .cons k (low_car hb hi hat z r) (low_cark hb hi hat y t)
theorem low_carf {bar bar' : Addr → Prop} {io0 io io' : Io} {H0 : Hp} (hb : ∀ a, ¬ bar a → ¬ bar' a) (hi : io0.length ≤ io'.length) (hat : ∀ i : Nat, i < io0.length → io'[i]? = io[i]?) {bar0 : Addr → Prop} : ∀ {ds : List (Nat × D)} {vs0 vs : List (Str × V)}, RFs K bar0 io0 H0 ds vs0 → RFs K bar io H ds vs → RFs K bar' io' H ds vs
  | _, _, _, _, .nil => .nil
  | _, _, _, .cons _ z y, .cons k r t => .cons k (low_car hb hi hat z r) (low_carf hb hi hat y t)
end
theorem keepG_ok (q : Kept n k io1 io2) (rep : Rep K B io1 R H1) (lo : io0.length ≤ n) (m : Nat) : ∀ {R0 R1 R2 : Rg}, (∀ (i : Nat) (o : O), R0[i]? = some o → RO K (bars B io0) io0 H0 (m + i) o) → (∀ (i : Nat) (o : O), R1[i]? = some o → RO K (bars B io1) io1 H1 (m + i) o) → m + R0.length ≤ n →
    keepG n k R R0 R1 = some R2 → R2.length = R0.length ∧ ∀ (i : Nat) (o : O), R2[i]? = some o → RO K (bars B io2) io2 H1 (m + i) o
  | [], R1, R2, h0, h1, hn, e => by
    cases e
    exact ⟨rfl, fun i o e => by cases e⟩
  | o :: R0, [], R2, h0, h1, hn, e => by cases e
  | o :: R0, o1 :: R1, R2, h0, h1, hn, e => by
    rw [keepG] at e
    obtain ⟨o2, e1, e2⟩ := Option.bind_eq_some_iff.mp e
    obtain ⟨t, e3, e4⟩ := Option.map_eq_some_iff.mp e2
    subst e4
    have hm : m < n := by
      have : (o :: R0).length = R0.length + 1 := rfl
      omega
    have z0 := h0 0 o rfl
    have z1 := h1 0 o1 rfl
    rw [Nat.add_zero] at z0 z1
    have hat := q.at_ m hm
    have hd : RO K (bars B io2) io2 H1 m o2 := by
      split at e1
      · rename_i eo
        cases e1
        subst eo
        have hat2 : ∀ i : Nat, i < io0.length → io2[i]? = io1[i]? := fun i hi => q.at_ i (Nat.lt_of_lt_of_le hi lo)
        have hl2 : io0.length ≤ io2.length := Nat.le_trans lo q.lt
        cases o with
        | dead => exact hat.trans z1
        | lst xs =>
          obtain ⟨_, _, _, _, r0⟩ := z0
          obtain ⟨p, vs, e5, e6, r1⟩ := z1
          exact ⟨p, vs, hat.trans e5, e6, low_cars (fun a h => q.nb h) hl2 hat2 r0 r1⟩
        | dct xs =>
          obtain ⟨_, _, _, _, r0⟩ := z0
          obtain ⟨p, vs, e5, e6, r1⟩ := z1
          exact ⟨p, vs, hat.trans e5, e6, low_cark (fun a h => q.nb h) hl2 hat2 r0 r1⟩
        | ins c xs =>
          obtain ⟨_, _, _, _, _, r0⟩ := z0
          obtain ⟨p, dx, vs, e5, e6, r1⟩ := z1
          exact ⟨p, dx, vs, hat.trans e5, e6, low_carf (fun a h => q.nb h) hl2 hat2 r0 r1⟩
        | dctL xs =>
          obtain ⟨_, _, _, _, _, r0⟩ := z0
          obtain ⟨p, ob, vs, e5, e6, r1⟩ := z1
          exact ⟨p, ob, vs, hat.trans e5, e6, low_cark (fun a h => q.nb h) hl2 hat2 r0 r1⟩
      · cases o1 with
        | dead => cases e1
        | dctL xs => cases e1
        | lst xs =>
          obtain ⟨p, vs, e5, e6, r1⟩ := z1
          obtain ⟨ys, e7, e8⟩ := Option.map_eq_some_iff.mp e1
          subst e8
          exact ⟨p, vs, hat.trans e5, e6, map_rds (fun d v a e r => frz_rd q rep FZ e r) e7 r1⟩
        | dct xs =>
          obtain ⟨p, vs, e5, e6, r1⟩ := z1
          obtain ⟨ys, e7, e8⟩ := Option.map_eq_some_iff.mp e1
          subst e8
          exact ⟨p, vs, hat.trans e5, e6, map_rks (fun d v a e r => frz_rd q rep FZ e r) e7 r1⟩
        | ins c xs =>
          obtain ⟨p, dx, vs, e5, e6, r1⟩ := z1
          obtain ⟨ys, e7, e8⟩ := Option.map_eq_some_iff.mp e1
          subst e8
          exact ⟨p, dx, vs, hat.trans e5, e6, map_rfs (fun d v a e r => frz_rd q rep FZ e r) e7 r1⟩
    have ih := keepG_ok q rep lo (m + 1) (R0 := R0) (R1 := R1) (R2 := t) (fun i o e => by
      have := h0 (i + 1) o e
      rw [show m + 1 + i = m + (i + 1) by omega]
      exact this) (fun i o e => by
      have := h1 (i + 1) o e
      rw [show m + 1 + i = m + (i + 1) by omega]
      exact this) (by
      have : (o :: R0).length = R0.length + 1 := rfl
      omega) e3
    refine ⟨congrArg (· + 1) ih.1, fun i u e => ?_⟩
    cases i with
    | zero =>
      cases e
      exact hd
    | succ i =>
      have := ih.2 i u e
      rw [show m + (i + 1) = m + 1 + i by omega]
      exact this
theorem keepR_ok (q : Kept n k io1 io2) (rep0 : Rep K B io0 R0 H0) (rep : Rep K B io1 R H1) (hn : n = R0.length) (e : keepR n k R0 R = some R1) : R1.length = n ∧ ∀ (i : Nat) (o : O), R1[i]? = some o → RO K (bars B io2) io2 H1 i o := by
  have lo : io0.length ≤ n := by
    rw [rep0.len, hn]
    exact Nat.le_refl _
  have core : ∀ {Ra : Rg}, (∀ (i : Nat) (o : O), Ra[i]? = some o → RO K (bars B io1) io1 H1 i o) → keepG n k R R0 Ra = some R1 → R1.length = n ∧ ∀ (i : Nat) (o : O), R1[i]? = some o → RO K (bars B io2) io2 H1 i o := fun {Ra} ha e => by
    have z := keepG_ok q rep lo 0 (R0 := R0) (R1 := Ra) (fun i o e => by
      rw [Nat.zero_add]
      exact rep0.obj i o e) (fun i o e => by
      rw [Nat.zero_add]
      exact ha i o e) (by omega) e
    refine ⟨by rw [z.1, hn], fun i o e => ?_⟩
    have := z.2 i o e
    rw [Nat.zero_add] at this
    exact this
  unfold keepR at e
  split at e
  · rename_i et
    cases e
    have self : ∀ l : Rg, keepG n k R l l = some l := fun l => by
      induction l with
      | nil => rfl
      | cons o l ih => rw [keepG, if_pos rfl, ih]; rfl
    have et' : ∀ (i : Nat) (o : O), R0[i]? = some o → R[i]? = some o := fun i o e => by
      rw [← et, List.getElem?_take] at e
      split at e
      · exact e
      · cases e
    exact core (Ra := R0) (fun i o e => rep.obj i o (et' i o e)) (self _)
  · exact core (fun i o e => rep.obj i o e) e
/-- the region of what is left -/
theorem Rep.kept (rep : Rep K B io1 R H) (q : Kept n k io1 io2) (g : Nat → Nat) (hg : ∀ i : Nat, i < io2.length → io2[i]? = io1[g i]?) (gi : ∀ i j : Nat, i < io2.length → j < io2.length → g i = g j → i = j) (hl : io2.length = R1.length) (ho : ∀ (i : Nat) (o : O), R1[i]? = some o → RO K (bars B io2) io2 H i o) : Rep K B io2 R1 H where
  len := hl
  inj := fun i j p h1 h2 => by
    have l1 := (List.getElem?_eq_some_iff.mp h1).1
    have l2 := (List.getElem?_eq_some_iff.mp h2).1
    rw [hg i l1] at h1
    rw [hg j l2] at h2
    exact gi i j l1 l2 (rep.inj _ _ p h1 h2)
  bt := rep.bt
  bd := fun a h => rep.bd a (q.ran_ a h)
  obj := ho
theorem Step.kept (st : Step io0 H0 io1 H1) (q : Kept n k io1 io2) (hn : n = io0.length) : Step io0 H0 io2 H1 where
  fr := st.fr
  nw := fun a h => st.nw a (q.ran_ a h)
  tr := st.tr
  le := by
    have := q.lt
    omega
  ix := fun i h => by
    rw [q.at_ i (by omega)]
    exact st.ix i h
  fz := st.fz
theorem take_kept (rep : Rep K B io1 R H) (hn : n ≤ io1.length) : Kept n k io1 (io1.take n) where
  lt := by
    rw [List.length_take]
    omega
  le := hn
  at_ := fun i h => List.getElem?_take_of_lt h
  ran_ := fun a h => List.mem_of_mem_take h
  only := fun i p h1 h2 => by
    obtain ⟨j, e⟩ := at_ran h2
    rw [List.getElem?_take] at e
    split at e
    · rename_i hj
      exact .inl (by rw [rep.inj i j p h1 e]; exact hj)
    · cases e
theorem live_kept {p : Addr} (rep : Rep K B io1 R H) (hn : n ≤ io1.length) (hp : io1[k]? = some (some p)) : Kept n k io1 (io1.take n ++ [some p]) where
  lt := by
    rw [List.length_append, List.length_take]
    omega
  le := hn
  at_ := fun i h => by
    rw [List.getElem?_append_left (by rw [List.length_take]; omega)]
    exact List.getElem?_take_of_lt h
  ran_ := fun a h => by
    rcases List.mem_append.mp h with h | h
    · exact List.mem_of_mem_take h
    · have e : some a = some p := by simpa using h
      cases e
      exact ran_at hp
  only := fun i a h1 h2 => by
    rcases List.mem_append.mp h2 with h | h
    · obtain ⟨j, e⟩ := at_ran h
      rw [List.getElem?_take] at e
      split at e
      · rename_i hj
        exact .inl (by rw [rep.inj i j a h1 e]; exact hj)
      · cases e
    · have e : some a = some p := by simpa using h
      cases e
      exact .inr (rep.inj i k _ h1 hp)
/-- what is wanted behind a call -/
def PstF (K : PySem.W.Frag) (B : Addr → Prop) (io : Io) (H : Hp) (r : Res D) (Q : VK) (E : XK) : Prop := match r with
  | .ok d R' => ∀ io' H' v, Step io H io' H' → Rep K B io' R' H' → RD K (bars B io') io' H' d v → Q v H'
  | .exc c f R' => ∀ io' H' cls dx, Step io H io' H' → Rep K B io' R' H' → RX K (bars B io') io' H' c f cls dx → E cls dx H'
  | .err => False
theorem fin_ok {live : Bool} {o : Out} {Q : VK} {E : XK} (rep0 : Rep K B io0 R0 H0) (p : PstF K B io0 H0 (fin live R0 o) Q E) : PstS K B io0 H0 (fun cls d _ H => E cls d H) o { nx := fun _ H' => Q .non H', rt := Q } := by
  have hl0 := rep0.len
  cases o with
  | nx s R =>
    intro io1 H1 σ st rep rs
    have p : PstF K B io0 H0 (match keepR R0.length R.length R0 R with
      | some R1 => .ok .non R1
      | none => .err) Q E := p
    cases e : keepR R0.length R.length R0 R with
    | none => rw [e] at p; exact p.elim
    | some R1 =>
      rw [e] at p
      have hn : R0.length ≤ io1.length := by have := st.le; omega
      have q := take_kept (k := R.length) rep hn
      have z := keepR_ok q rep0 rep rfl e
      have hl : (io1.take R0.length).length = R0.length := by rw [List.length_take]; omega
      exact p _ H1 .non (st.kept q (by omega)) (rep.kept q (fun i => i) (fun i h => List.getElem?_take_of_lt (by omega)) (fun i j _ _ h => h) (by rw [hl, z.1]) z.2) .non
  | rt d R =>
    intro io1 H1 v st rep rd
    have hn : R0.length ≤ io1.length := by have := st.le; omega
    cases live with
    | false =>
      have p : PstF K B io0 H0 (match frzN R0.length R.length R FZ d, keepR R0.length R.length R0 R with
        | some d', some R1 => .ok d' R1
        | _, _ => .err) Q E := by
        cases d <;> exact p
      cases e : frzN R0.length R.length R FZ d with
      | none => rw [e] at p; exact p.elim
      | some d' =>
        cases e2 : keepR R0.length R.length R0 R with
        | none => rw [e, e2] at p; exact p.elim
        | some R1 =>
          rw [e, e2] at p
          have q := take_kept (k := R.length) rep hn
          have z := keepR_ok q rep0 rep rfl e2
          have hl : (io1.take R0.length).length = R0.length := by rw [List.length_take]; omega
          exact p _ H1 v (st.kept q (by omega)) (rep.kept q (fun i => i) (fun i h => List.getElem?_take_of_lt (by omega)) (fun i j _ _ h => h) (by rw [hl, z.1]) z.2) (frz_rd q rep FZ e rd)
    | true =>
      cases rd with
      | @ref k a hk hq =>
        have p : PstF K B io0 H0 (if R0.length ≤ k then (match R[k]? with
          | some o => match frzO R0.length k R o, keepR R0.length k R0 R with
            | some o', some R1 => .ok (.ref R0.length) (R1 ++ [o'])
            | _, _ => .err
          | none => .err) else .err) Q E := p
        split at p
        · rename_i hle
          cases e0 : R[k]? with
          | none => rw [e0] at p; exact p.elim
          | some o =>
            rw [e0] at p
            have p : PstF K B io0 H0 (match frzO R0.length k R o, keepR R0.length k R0 R with
              | some o', some R1 => .ok (.ref R0.length) (R1 ++ [o'])
              | _, _ => .err) Q E := p
            cases e : frzO R0.length k R o with
            | none => rw [e] at p; exact p.elim
            | some o' =>
              cases e2 : keepR R0.length k R0 R with
              | none => rw [e, e2] at p; exact p.elim
              | some R1 =>
                rw [e, e2] at p
                have hp : ∃ b, io1[k]? = some (some b) := by
                  cases o with
                  | dead => cases e
                  | dctL xs => cases e
                  | lst xs => obtain ⟨b, _, h, _⟩ := rep.atLst e0; exact ⟨b, h⟩
                  | dct xs => obtain ⟨b, _, h, _⟩ := rep.atDct e0; exact ⟨b, h⟩
                  | ins c xs => obtain ⟨b, _, _, h, _⟩ := rep.atIns e0; exact ⟨b, h⟩
                obtain ⟨b, hp⟩ := hp
                have eb := hq b hp
                subst eb
                have q := live_kept rep hn hp
                have z := keepR_ok q rep0 rep rfl e2
                have hl : (io1.take R0.length).length = R0.length := by rw [List.length_take]; omega
                have hat : (io1.take R0.length ++ [some b])[R0.length]? = some (some b) := by
                  rw [List.getElem?_append_right (by omega), hl]
                  simp
                have hobj : RO K (bars B (io1.take R0.length ++ [some b])) (io1.take R0.length ++ [some b]) H1 R0.length o' := by
                  cases o with
                  | dead => cases e
                  | dctL xs => cases e
                  | lst xs =>
                    obtain ⟨b', vs, h1, h2, r⟩ := rep.atLst e0
                    obtain ⟨ys, e3, e4⟩ := Option.map_eq_some_iff.mp e
                    subst e4
                    rw [hp] at h1
                    cases h1
                    exact ⟨b, vs, hat, h2, map_rds (fun d v a e r => frz_rd q rep FZ e r) e3 r⟩
                  | dct xs =>
                    obtain ⟨b', vs, h1, h2, r⟩ := rep.atDct e0
                    obtain ⟨ys, e3, e4⟩ := Option.map_eq_some_iff.mp e
                    subst e4
                    rw [hp] at h1
                    cases h1
                    exact ⟨b, vs, hat, h2, map_rks (fun d v a e r => frz_rd q rep FZ e r) e3 r⟩
                  | ins c xs =>
                    obtain ⟨b', dx, vs, h1, h2, r⟩ := rep.atIns e0
                    obtain ⟨ys, e3, e4⟩ := Option.map_eq_some_iff.mp e
                    subst e4
                    rw [hp] at h1
                    cases h1
                    exact ⟨b, dx, vs, hat, h2, map_rfs (fun d v a e r => frz_rd q rep FZ e r) e3 r⟩
                refine p _ H1 (.ref b) (st.kept q (by omega)) (rep.kept q (fun i => if i < R0.length then i else k) (fun i h => ?_) (fun i j h1 h2 h => ?_) ?_ (fun i u h => ?_)) (.ref (by rw [List.length_append, hl]; simp) fun c hc => ?_)
                · rw [List.length_append, hl] at h
                  by_cases hi : i < R0.length
                  · show _ = io1[if i < R0.length then i else k]?
                    rw [if_pos hi]
                    exact q.at_ i hi
                  · show _ = io1[if i < R0.length then i else k]?
                    rw [if_neg hi]
                    have : i = R0.length := by simp at h; omega
                    rw [this, hat, hp]
                · rw [List.length_append, hl] at h1 h2
                  simp at h1 h2
                  by_cases hi : i < R0.length
                  · by_cases hj : j < R0.length
                    · simpa [hi, hj] using h
                    · simp [hi, hj] at h
                      omega
                  · by_cases hj : j < R0.length
                    · simp [hi, hj] at h
                      omega
                    · omega
                · rw [List.length_append, List.length_append, hl, z.1]
                  rfl
                · by_cases hi : i < R0.length
                  · rw [List.getElem?_append_left (by rw [z.1]; exact hi)] at h
                    exact z.2 i u h
                  · rw [List.getElem?_append_right (by rw [z.1]; omega), z.1] at h
                    have h3 := (List.getElem?_eq_some_iff.mp h).1
                    simp at h3
                    have : i = R0.length := by omega
                    subst this
                    rw [Nat.sub_self] at h
                    have : o' = u := by simpa using h
                    subst this
                    exact hobj
                · rw [hat] at hc
                  cases hc
                  rfl
        · exact p.elim
      | _ => exact p.elim
  | bk s R => exact p.elim
  | ct s R => exact p.elim
  | exc c f s R =>
    intro io1 H1 σ cls dx st rep rs rx
    have hn : R0.length ≤ io1.length := by have := st.le; omega
    have p : PstF K B io0 H0 (match (if f = .undef then some f else frzN R0.length R.length R FZ f), keepR R0.length R.length R0 R with
      | some f', some R1 => .exc c f' R1
      | _, _ => .err) Q E := p
    cases e : (if f = .undef then some f else frzN R0.length R.length R FZ f) with
    | none => rw [e] at p; exact p.elim
    | some f' =>
      cases e2 : keepR R0.length R.length R0 R with
      | none => rw [e, e2] at p; exact p.elim
      | some R1 =>
        rw [e, e2] at p
        have q := take_kept (k := R.length) rep hn
        have z := keepR_ok q rep0 rep rfl e2
        have hl : (io1.take R0.length).length = R0.length := by rw [List.length_take]; omega
        refine p _ H1 cls dx (st.kept q (by omega)) (rep.kept q (fun i => i) (fun i h => List.getElem?_take_of_lt (by omega)) (fun i j _ _ h => h) (by rw [hl, z.1]) z.2) ⟨rx.1, ?_⟩
        rcases rx.2 with ⟨e3, e4⟩ | ⟨d1, v, e3, e4, r⟩
        · subst e3
          rw [if_pos rfl] at e
          cases e
          exact .inl ⟨rfl, e4⟩
        · split at e
          · cases e
            rename_i e5
            subst e5
            exact (by cases r)
          · exact .inr ⟨d1, v, e3, e4, frz_rd q rep FZ e r⟩
  | err => exact p.elim
end
end Om
/-! Om, part L: calls of defs, slices, methods of what is built in, other statements. -/
namespace Om
open PySem PySem.Spec PyProof.Rows L2 RZ
/-! ### calls of defs -/
def cCall (F : SF) (dfl : List D) (mas : SA) : SE := fun s R => (mas s R).bind fun ds R1 => F (ds ++ dfl) R1
/-- a def's promise, by what it computes -/
def spF (K : PySem.W.Frag) (n : Nat) (F : SF) : Sp := fun vs H Q E => ∃ B io R ds, Rep K B io R H ∧ RDs K (bars B io) io H ds vs ∧ ds.length = n ∧ PstF K B io H (F ds R) Q E
section
variable {X : Cx} {W : WX} {k n : Nat} {f : Addr} {fd : FuncData} {ps : List Str} {sp : Sp} {dvs : List V} {ds : List Value} {x : Str} {p pos apos p2 : Pos} {a b c e o : Expr} {es : List Expr} {t : TA} {ma mb mc : SE} {mas : SA} {F : SF} {dfl : List D} {ws : List Nat}
theorem run_fnW {pins : List (Addr × Obj)} {σ : S} {H : Hp} {s : Shared} {Q : VK} {us : List Value} {vs : List V} (F : FnOk X.prog X.w X.K X.mg X.base (CX X.prog X.w) k f fd ps sp) (hr : Room k X.A) (hb : Binds X.K fd ps ds) (hd : Vals dvs ds) (tk : Takes X W)
    (I : Inv X pins σ H s) (r : Vals vs us) (h : sp (vs ++ dvs) H Q (fun cls d H' => W cls d σ H')) : wpAny (model X.prog X.w) X.A (call (.ref f) us) (EP X pins σ Q) X.xe s := by
  have r2 : Vals (vs ++ dvs) (us ++ ds) := r.append hd
  have hl : (us ++ ds).length = ps.length := by rw [← r2.length]; exact F.len _ _ _ _ h
  refine wpAny_call (codeAny_mono (F.run X.A X.stack s H ⟨us, []⟩ (us ++ ds) (vs ++ dvs) Q _ hr I.env0 (hb s us I.kIn hl) r2 h) fun r s' hq => ?_)
  cases r with
  | error e => exact tk e s' (XE.of_call (W := W) I (fun cls d H' h => h) hq)
  | ok fl =>
    cases fl with
    | ret u => exact I.after hq
    | next => exact False.elim hq
    | brk => exact False.elim hq
    | cont => exact False.elim hq
def tCallW (W : WX) (sp : Sp) (dvs : List V) (t : TA) : TE := fun σ H Q => t σ H fun vs H1 => sp (vs ++ dvs) H1 Q fun cls d H' => W cls d σ H'
theorem pe_callW (F : FnOk X.prog X.w X.K X.mg X.base (CX X.prog X.w) k f fd ps sp) (hr : Room k X.A) (hg : Gl X x) (hm : X.mg x = some (.ref f)) (hk : PySem.W.keepIn X.K (.ref f) = true) (hb : Binds X.K fd ps ds) (hd : Vals dvs ds) (tk : Takes X W)
    (ha : PA X (e :: es) t) (hdb : (x == ("__debug__" : Str)) = false) (he : starEach (e :: es) X.env = (false, eval e X.env) :: starEach es X.env) (hpl : (backTo pos (starEach es X.env)).any (·.1) = false) :
    PE X (.Call (.Name x p) (e :: es) [] pos) (tCallW W sp dvs t) := by
  refine ⟨fun pins s σ H Q I h => ?_⟩
  refine wpAny_Call_Name_kw (ld_glob I hg hm ?_ hdb)
  refine PySem.W.callWith_K (h₀ := X.base) I.ok.mod.kin hk (thn (ha.run pos pins s σ H _ I h) fun us s1 ⟨vs, H1, I1, r, q⟩ => ⟨I1.kIn, ?_⟩) he hpl
  exact run_fnW F hr hb hd tk I1 r q
theorem pe_callW0 (F : FnOk X.prog X.w X.K X.mg X.base (CX X.prog X.w) k f fd ps sp) (hr : Room k X.A) (hg : Gl X x) (hm : X.mg x = some (.ref f)) (hk : PySem.W.keepIn X.K (.ref f) = true) (hb : Binds X.K fd ps ds) (hd : Vals dvs ds) (tk : Takes X W)
    (hdb : (x == ("__debug__" : Str)) = false) : PE X (.Call (.Name x p) [] [] pos) (tCallW W sp dvs tNil) := by
  refine ⟨fun pins s σ H Q I h => ?_⟩
  refine wpAny_Call_Name_kw (ld_glob I hg hm ?_ hdb)
  exact PySem.W.callWith_K0 I.kIn hk (run_fnW (us := []) F hr hb hd tk I .nil h)
theorem call_core {K : PySem.W.Frag} {σ : S} {H : Hp} {Q : VK} (hn : ∀ ds R, ds.length ≠ n → F ds R = .err) (hdv : ∀ bar io H, RDs K bar io H dfl dvs) (h : tE K W (cCall F dfl mas) σ H Q) : tCallW W (spF K n F) dvs (tA K W mas) σ H Q := by
  have h0 := Told.evalA (vs := []) (m := mas) (F := fun ds _ R => F (ds ++ dfl) R) (rel := RD K) (Told.conv h fun _ _ => rfl)
  refine h0.imp fun us H1 ⟨B, io, R, s, ds, rep, rs, rd, t⟩ => ?_
  have rd : RDs K (bars B io) io H1 ds us := rd
  have t : Pst K B io H1 W σ (RD K) (F (ds ++ dfl) R) Q := t
  refine ⟨B, io, R, ds ++ dfl, rep, rd.append (hdv _ _ _), ?_, ?_⟩
  · exact Classical.byContradiction fun z => by
      rw [hn _ R z] at t
      exact t
  · unfold PstF
    revert t
    cases F (ds ++ dfl) R with
    | ok d R' => exact fun t => t
    | exc c x R' => exact fun t => t
    | err => exact fun t => t
theorem se_call (FO : FnOk X.prog X.w X.K X.mg X.base (CX X.prog X.w) k f fd ps (spF X.K n F)) (hr : Room k X.A) (hg : Gl X x) (hm : X.mg x = some (.ref f)) (hk : PySem.W.keepIn X.K (.ref f) = true) (hb : Binds X.K fd ps ds) (hd : Vals dvs ds) (tk : Takes X W)
    (hn : ∀ ds R, ds.length ≠ n → F ds R = .err) (hdv : ∀ bar io H, RDs X.K bar io H dfl dvs)
    (ha : PA X (e :: es) (tA X.K W mas)) (hdb : (x == ("__debug__" : Str)) = false) (he : starEach (e :: es) X.env = (false, eval e X.env) :: starEach es X.env) (hpl : (backTo pos (starEach es X.env)).any (·.1) = false) :
    PE X (.Call (.Name x p) (e :: es) [] pos) (tE X.K W (cCall F dfl mas)) := (pe_callW FO hr hg hm hk hb hd tk ha hdb he hpl).imp fun σ H Q h => call_core hn hdv h
theorem tA_nil {K : PySem.W.Frag} {σ : S} {H : Hp} {Q : List V → Hp → Prop} (h : tA K W cNil σ H Q) : tNil σ H Q := by
  obtain ⟨B, io, R, s, ds, rep, rs, rd, t⟩ := h
  exact t io H [] (Step.refl _ _) rep .nil
theorem se_call0 (FO : FnOk X.prog X.w X.K X.mg X.base (CX X.prog X.w) k f fd ps (spF X.K n F)) (hr : Room k X.A) (hg : Gl X x) (hm : X.mg x = some (.ref f)) (hk : PySem.W.keepIn X.K (.ref f) = true) (hb : Binds X.K fd ps ds) (hd : Vals dvs ds) (tk : Takes X W)
    (hn : ∀ ds R, ds.length ≠ n → F ds R = .err) (hdv : ∀ bar io H, RDs X.K bar io H dfl dvs) (hdb : (x == ("__debug__" : Str)) = false) :
    PE X (.Call (.Name x p) [] [] pos) (tE X.K W (cCall F dfl cNil)) := (pe_callW0 FO hr hg hm hk hb hd tk hdb).imp fun σ H Q h => tA_nil (W := W) (call_core hn hdv h)
/-! ### slices -/
def cutD (xs : List D) (lo hi : Option Int) : List D := (xs.drop (HT.sIx xs.length 0 lo)).take (HT.sIx xs.length xs.length hi - HT.sIx xs.length 0 lo)
def cutN (xs : List Nat) (lo hi : Option Int) : List Nat := (xs.drop (HT.sIx xs.length 0 lo)).take (HT.sIx xs.length xs.length hi - HT.sIx xs.length 0 lo)
def slD (m : Bool) (x : D) (lo hi : Option Int) (R : Rg) : Option (D × Rg) := match x with
  | .str x => if x.length ≤ LINE then some (.str (cutN x lo hi), R) else none
  | .tup xs => some (.tup (cutD xs lo hi), R)
  | x => match lstOf R x with
    | some xs => mkL m (cutD xs lo hi) R
    | none => none
theorem rds_drop {K : PySem.W.Frag} {bar : Addr → Prop} {io : Io} {H : Hp} : ∀ {ds : List D} {vs : List V} (n : Nat), RDs K bar io H ds vs → RDs K bar io H (ds.drop n) (vs.drop n)
  | _, _, 0, r => r
  | _, _, _ + 1, .nil => .nil
  | _, _, n + 1, .cons _ t => rds_drop n t
theorem rds_take {K : PySem.W.Frag} {bar : Addr → Prop} {io : Io} {H : Hp} : ∀ {ds : List D} {vs : List V} (n : Nat), RDs K bar io H ds vs → RDs K bar io H (ds.take n) (vs.take n)
  | _, _, 0, _ => .nil
  | _, _, _ + 1, .nil => .nil
  | _, _, n + 1, .cons r t => .cons r (rds_take n t)
theorem rds_cut {K : PySem.W.Frag} {bar : Addr → Prop} {io : Io} {H : Hp} {ds : List D} {vs : List V} (lo hi : Option Int) (r : RDs K bar io H ds vs) : RDs K bar io H (cutD ds lo hi) (cutV vs lo hi) := by
  unfold cutD cutV
  rw [r.len]
  exact rds_take _ (rds_drop _ r)
def rSl (K : PySem.W.Frag) (m : Bool) : V → Option Int → Option Int → Hp → VK → Prop := fun x lo hi H Q => ∃ B io R dx, Rep K B io R H ∧ RD K (bars B io) io H dx x ∧ match slD m dx lo hi R with
  | some (d, R') => ∀ io' H' v, Step io H io' H' → Rep K B io' R' H' → RD K (bars B io') io' H' d v → Q v H'
  | none => False
theorem cutS_eq (x : List Nat) (lo hi : Option Int) : cutS (strOf x) lo hi = strOf (cutN x lo hi) := by
  unfold cutS cutN
  rw [strOf_length]
  rfl
theorem ok_sl (m : Bool) : SlR X (rSl X.K m) := by
  intro pins s σ H x v vl vu lo hi sl Q I rx hs pl pu h
  obtain ⟨B, io, R, dx, rep, rd, q⟩ := h
  cases e : slD m dx lo hi R with
  | none => rw [e] at q; exact q.elim
  | some z =>
    obtain ⟨d, R'⟩ := z
    rw [e] at q
    have q : ∀ io' H' v, Step io H io' H' → Rep X.K B io' R' H' → RD X.K (bars B io') io' H' d v → Q v H' := q
    unfold slD at e
    split at e
    · rename_i z
      split at e
      · rename_i hl
        cases e
        cases rd
        refine sl_str pins s σ H _ v vl vu lo hi sl Q I rx hs pl pu ⟨_, rfl, by rw [strOf_length]; exact hl, ?_⟩
        rw [cutS_eq]
        exact q io H _ (Step.refl _ _) rep (.str _)
      · cases e
    · cases e
      cases rd with
      | @tup a _ vs hq r =>
        have r2 := rds_cut lo hi r
        refine sl_tupA pins s σ H _ v vl vu lo hi sl Q I rx hs pl pu ⟨_, _, rfl, hq, fun z => ?_, fun z p hp => ?_⟩
        · have e : cutV vs lo hi = vs := by
            unfold cutV
            rw [z.1, z.2, List.drop_zero, Nat.sub_zero, List.take_length]
          refine q io H _ (Step.refl _ _) rep (.tup hq ?_)
          rw [e] at r2
          exact r2
        · obtain ⟨st, rep', rd'⟩ := tup_ok rep hp r2
          exact q io _ _ st rep' rd'
    · split at e
      · rename_i xs el
        obtain ⟨a, vs, ex, hq, r⟩ := RD.list rep rd el
        refine sl_list pins s σ H x v vl vu lo hi sl Q I rx hs pl pu ⟨a, vs, ex, hq, fun p hp => ?_⟩
        obtain ⟨io', st, rep', rd'⟩ := mkL_ok rep hp (rds_cut lo hi r) e
        exact q io' _ _ st rep' rd'
      · cases e
/-- a bound of a slice -/
def cPart (a : Option SE) (s : List D) (R : Rg) : Res (Option Int) := match a with
  | none => .ok none R
  | some a => (a s R).bind fun d R1 => match d with
    | .int i => .ok (some i) R1
    | _ => .err
def cSl (m : Bool) (a : SE) (lo hi : Option SE) : SE := fun s R => (a s R).bind fun x R1 => (cPart lo s R1).bind fun l R2 => (cPart hi s R2).bind fun u R3 => lift (slD m x l u R3)
def tO (K : PySem.W.Frag) (W : WX) (m : Option SE) : TO := fun σ H Q => Told K W σ H (fun _ _ _ a b => a = b) [] (fun _ => cPart m) Q
theorem _root_.L2.PO.imp {e : Option Expr} {t t' : TO} (h : PO X e t) (i : ∀ σ H Q, t' σ H Q → t σ H Q) : PO X e t' := ⟨fun pins s σ H Q I q => h.run pins s σ H Q I (i σ H Q q)⟩
theorem so_none : PO X none (tO X.K W none) := po_none.imp fun σ H Q ⟨B, io, R, s, ds, rep, rs, rd, p⟩ => p io H none (Step.refl _ _) rep rfl
theorem so_some (h : PE X a (tE X.K W ma)) : PO X (some a) (tO X.K W (some ma)) := (po_some h).imp fun σ H Q h => by
  have h0 := Told.eval (vs := []) (m := ma) (F := fun ds s R => match ds with
    | [.int i] => .ok (some i) R
    | _ => .err) (rel := fun _ _ _ a b => a = b) (Q := Q) (Told.conv h fun s R => by
    show (ma s R).bind _ = (ma s R).bind _
    congr 1
    funext d R1
    cases d <;> rfl)
  refine h0.imp fun v H1 ⟨B, io, R, s, ds, rep, rs, rd, t⟩ => ?_
  obtain ⟨d, ds, rfl, r, rd⟩ := RDs.cons_inv rd
  cases rd.nil_inv
  cases r with
  | int i => exact ⟨i, rfl, t io H1 _ (Step.refl _ _) rep rfl⟩
  | _ => exact t.elim
theorem se_slice {lo hi : Option Expr} {ml mh : Option SE} {m : Bool} (h : PE X a (tE X.K W ma)) (h1 : PO X lo (tO X.K W ml)) (h2 : PO X hi (tO X.K W mh)) : PE X (.Subscript a (.Slice lo hi none p2) pos) (tE X.K W (cSl m ma ml mh)) :=
  (pe_slice (ok_sl m) h h1 h2).imp fun σ H Q h => by
    have h0 := Told.eval (vs := []) (m := ma) (F := fun ds s R => (cPart ml s R).bind fun l R2 => (cPart mh s R2).bind fun u R3 => lift (pn1 (fun x R => slD m x l u R) ds R3)) (rel := RD X.K) (Q := Q) (Told.conv h fun _ _ => rfl)
    refine h0.imp fun v H1 ⟨B, io, R, s, ds, rep, rs, rd, t⟩ => ?_
    refine ⟨B, io, R, s, [], rep, rs, .nil, (Pst.bind (rel' := fun _ _ _ a b => a = b) t).imp fun l H2 ⟨io2, R2, l', st2, rep2, e2, t2⟩ => ?_⟩
    subst e2
    have c2 := st2.car rep
    refine ⟨B, io2, R2, s, [], rep2, rs.car c2, .nil, (Pst.bind (rel' := fun _ _ _ a b => a = b) t2).imp fun u H3 ⟨io3, R3, u', st3, rep3, e3, t3⟩ => ?_⟩
    subst e3
    have c3 := st3.car rep2
    obtain ⟨d, ds, rfl, r, rd⟩ := RDs.cons_inv rd
    cases rd.nil_inv
    refine ⟨B, io3, R3, d, rep3, (r.car c2).car c3, ?_⟩
    have t3 : Pst X.K B io3 H3 W σ (RD X.K) (lift (slD m d l' u' R3)) Q := t3
    cases e : slD m d l' u' R3 with
    | none => rw [e] at t3; exact t3
    | some z => rw [e] at t3; exact t3
/-- x[::-1] -/
def revD (m : Bool) : P1 := fun x R => match lstOf R x with
  | some xs => mkL m xs.reverse R
  | none => none
theorem rds_app {K : PySem.W.Frag} {bar : Addr → Prop} {io : Io} {H : Hp} : ∀ {ds es : List D} {vs ws : List V}, RDs K bar io H ds vs → RDs K bar io H es ws → RDs K bar io H (ds ++ es) (vs ++ ws)
  | _, _, _, _, .nil, r => r
  | _, _, _, _, .cons h t, r => .cons h (rds_app t r)
theorem rds_rev {K : PySem.W.Frag} {bar : Addr → Prop} {io : Io} {H : Hp} : ∀ {ds : List D} {vs : List V}, RDs K bar io H ds vs → RDs K bar io H ds.reverse vs.reverse
  | _, _, .nil => .nil
  | _, _, .cons h t => by
    rw [List.reverse_cons, List.reverse_cons]
    exact rds_app (rds_rev t) (.cons h .nil)
theorem se_rev {m : Bool} {k : Nat} {p1 p2 p3 : Pos} (h1 : PE X a (tE X.K W ma)) : PE X (.Subscript a (.Slice none none (some (.UnaryOp .USub (.Constant (.int 1) k p1) p2)) p3) pos) (tE X.K W (cOp1 (revD m) ma)) := (pe_revL h1).imp fun σ H Q h => by
  have h0 := Told.eval (vs := []) (m := ma) (F := fun ds _ R => match ds with
    | [x] => lift (revD m x R)
    | _ => .err) (rel := RD X.K) (Q := Q) (Told.conv h fun _ _ => rfl)
  refine h0.imp fun v H1 ⟨B, io, R, s, ds, rep, rs, rd, t⟩ => ?_
  obtain ⟨d, ds, rfl, r, rd⟩ := RDs.cons_inv rd
  cases rd.nil_inv
  have t : Pst X.K B io H1 W σ (RD X.K) (lift (revD m d R)) Q := t
  unfold revD at t
  cases el : lstOf R d with
  | none => rw [el] at t; exact t.elim
  | some xs =>
    rw [el] at t
    obtain ⟨p, vs, rfl, hq, rr⟩ := RD.list rep r el
    refine ⟨p, vs, rfl, hq, fun q hp => ?_⟩
    have t : Pst X.K B io H1 W σ (RD X.K) (lift (mkL m xs.reverse R)) Q := t
    cases e : mkL m xs.reverse R with
    | none => rw [e] at t; exact t.elim
    | some z =>
      obtain ⟨d', R'⟩ := z
      rw [e] at t
      obtain ⟨io', st, rep', rd'⟩ := mkL_ok rep hp (rds_rev rr) e
      exact t io' _ _ st rep' rd'
/-! ### other statements -/
theorem ss_aug {i : Nat} {op : Operator} {p : P2} {pos' : Pos} {y : Str} (hN : X.N.Nodup) (hi : X.N[i]? = some y) (hx : Loc X.env.scope y) (hf : X.fn y = true ∨ X.env.scope.names.lookup y = some .local) (ho : PIp X op (fun x y H Q => rN X.K (pn2 p) [x, y] H Q)) (h : PE X e (tE X.K W ma)) :
    PS X (.AugAssign (.Name y pos') op e pos) (tS X.K W (sAug i p ma)) := (ps_aug hN hi hx h ho hf).imp fun D σ H ⟨B, io, R, s, rep, rs, q⟩ => by
  unfold sAug at q
  have go : ∀ x, s[i]? = some x → x ≠ .undef → PstS X.K B io H W (sBind (ma s R) s fun y R1 => match p x y R1 with
      | some (z, R2) => .nx (s.set i z) R2
      | none => .err) D → tAug i (tE X.K W ma) (fun x y H Q => rN X.K (pn2 p) [x, y] H Q) D σ H := fun x e hu q => by
    obtain ⟨o, e1, r⟩ := rs.2 i x e
    rcases r with r | ⟨v, e2, r⟩
    · exact absurd r hu
    · subst e2
      refine ⟨v, e1, B, io, R, s, [], rep, rs, .nil, (PstS.bind (rel := RD X.K) q rs ⟨R, rep⟩).imp fun y H1 ⟨io1, R1, dy, st1, rep1, ry, q1⟩ => ?_⟩
      have c1 := st1.car rep
      refine ⟨B, io1, R1, [x, dy], rep1, .cons (r.car c1) (.cons ry .nil), ?_⟩
      show match p x dy R1 with
        | some (d, R') => _
        | none => _
      cases e3 : p x dy R1 with
      | none => rw [e3] at q1; exact q1.elim
      | some z =>
        obtain ⟨z, R2⟩ := z
        rw [e3] at q1
        exact fun io2 H2 w st2 rep2 rw' => q1 io2 H2 _ st2 rep2 (((rs.car c1).car (st2.car rep1)).set i rw')
  split at q
  · exact q.elim
  · rename_i x hu e
    exact go x e (fun z => hu z) q
  · exact q.elim
def sPar2 (i j : Nat) (m : SA) : SS := fun s R => sBind (m s R) s fun ds R1 => match ds with
  | [x, y] => .nx ((s.set i x).set j y) R1
  | _ => .err
def sPar3 (i j l : Nat) (m : SA) : SS := fun s R => sBind (m s R) s fun ds R1 => match ds with
  | [x, y, z] => .nx (((s.set i x).set j y).set l z) R1
  | _ => .err
theorem par2_core {K : PySem.W.Frag} {i j : Nat} {D : Ends} {σ : S} {H : Hp} (h : tS K W (sPar2 i j mas) D σ H) : tPar i j (tA K W mas) D σ H := by
  obtain ⟨B, io, R, s, rep, rs, q⟩ := h
  refine ⟨B, io, R, s, [], rep, rs, .nil, (PstS.bind (rel := RDs K) q rs ⟨R, rep⟩).imp fun vs H1 ⟨io1, R1, ds, st1, rep1, rd, q1⟩ => ?_⟩
  split at q1
  · obtain ⟨r, t⟩ := (show _ ∧ True from ⟨rd, trivial⟩)
    cases r with
    | cons r1 t =>
      cases t with
      | cons r2 t =>
        cases t
        exact ⟨_, _, rfl, q1 io1 H1 _ (Step.refl _ _) rep1 (((rs.car (st1.car rep)).set i r1).set j r2)⟩
  · exact q1.elim
theorem par3_core {K : PySem.W.Frag} {i j l : Nat} {D : Ends} {σ : S} {H : Hp} (h : tS K W (sPar3 i j l mas) D σ H) : tPar3 i j l (tA K W mas) D σ H := by
  obtain ⟨B, io, R, s, rep, rs, q⟩ := h
  refine ⟨B, io, R, s, [], rep, rs, .nil, (PstS.bind (rel := RDs K) q rs ⟨R, rep⟩).imp fun vs H1 ⟨io1, R1, ds, st1, rep1, rd, q1⟩ => ?_⟩
  split at q1
  · obtain ⟨r, t⟩ := (show _ ∧ True from ⟨rd, trivial⟩)
    cases r with
    | cons r1 t =>
      cases t with
      | cons r2 t =>
        cases t with
        | cons r3 t =>
          cases t
          exact ⟨_, _, _, rfl, q1 io1 H1 _ (Step.refl _ _) rep1 ((((rs.car (st1.car rep)).set i r1).set j r2).set l r3)⟩
  · exact q1.elim
/-! ### methods of what is built in -/
abbrev PM := D → List D → Rg → Option (D × Rg)
def pnM (p : PM) : PN := fun ds R => match ds with
  | x :: ds => p x ds R
  | [] => none
def isT (T : Nat) (x : D) (R : Rg) : Bool := match T with
  | 0 => (lstOf R x).isSome
  | 1 => (dctOf R x).isSome
  | 2 => (match x with
    | .str _ => true
    | _ => false)
  | 3 => (match x with
    | .byt _ => true
    | _ => false)
  | _ => false
def tyN (T : Nat) : String := match T with
  | 0 => "list"
  | 1 => "dict"
  | 3 => "bytes"
  | _ => "str"
def cMeth (T : Nat) (p : PM) (a : SE) (as : SA) : SE := fun s R => (a s R).bind fun x R1 => if isT T x R1 = true then (as s R1).bind fun ds R2 => lift (p x ds R2) else .err
/-- the class of a value, and that it bears no dict -/
def TyS (X : Cx) (T : String) (x : V) (H : Hp) : Prop := ∀ (pins : List (Addr × Obj)) (σ : S) (s : Shared) (v : Value), Inv X pins σ H s → RelV x v → s.TypeIs v T ∧ ∀ a, v = .ref a → ∃ ob, s.heap.get? a = some ob ∧ ob.dict = none
theorem ty_ok {B : Addr → Prop} {io : Io} {R : Rg} {H : Hp} {T : Nat} {d : D} {v : V} (rep : Rep X.K B io R H) (r : RD X.K (bars B io) io H d v) (h : isT T d R = true) : TyS X (tyN T) v H := by
  match T with
  | 0 =>
    obtain ⟨xs, e⟩ := Option.isSome_iff_exists.mp (show (lstOf R d).isSome = true from h)
    obtain ⟨a, vs, rfl, hq, _⟩ := RD.list rep r e
    exact fun pins σ s v I rv => tyV_is I rv (.inl ⟨rfl, vs, hq⟩)
  | 1 =>
    obtain ⟨xs, e⟩ := Option.isSome_iff_exists.mp (show (dctOf R d).isSome = true from h)
    obtain ⟨a, kvs, rfl, hq, _⟩ := RD.dict rep r e
    intro pins σ s v I rv
    obtain rfl : v = Value.ref a := rv
    obtain ⟨t1, t2, _⟩ := isD_at I (.inl ⟨kvs, hq⟩)
    exact ⟨t1, t2⟩
  | 2 =>
    cases r with
    | str x => exact fun pins σ s v I rv => tyV_is I rv rfl
    | _ => cases h
  | 3 =>
    cases r with
    | byt x =>
      intro pins σ s v I rv
      obtain ⟨t, rfl⟩ := rv
      exact ⟨PySem.W.typeIs_bytes s _ t, fun _ e => nomatch e⟩
    | _ => cases h
  | _ + 4 => cases h
def tBMS0 (X : Cx) (T : String) (r : V → List V → Hp → VK → Prop) (to : TE) : TE := fun σ H Q => to σ H fun x H1 => TyS X T x H1 ∧ r x [] H1 Q
def tBMS (X : Cx) (T : String) (r : V → List V → Hp → VK → Prop) (to : TE) (t : TA) : TE := fun σ H Q => to σ H fun x H1 => TyS X T x H1 ∧ t σ H1 fun xs H2 => r x xs H2 Q
section
variable {o e : Expr} {es : List Expr} {to : TE} {t : TA} {name : Str} {apos cpos : Pos} {T id : String} {r : V → List V → Hp → VK → Prop}
theorem pe_bmS0 (pa : PlainAttrs T) (slot : Slot T name id) (hty : typeOf (.builtin id) = pure (.type "method_descriptor")) (hm : MtR X id r) (ho : PE X o to)
    (hbase : attributeBase o name X.env (eval o X.env) = eval o X.env) (hline : (apos.endLine == cpos.line) = true) : PE X (.Call (.Attribute o name apos) [] [] cpos) (tBMS0 X T r to) := by
  refine ⟨fun pins s σ H Q I h => ?_⟩
  refine wpAny_Call_method0_late hbase hline (thn (ho.run pins s σ H _ I h) fun v s1 ⟨x, H1, I1, r1, ty, q1⟩ => ?_)
  obtain ⟨h1, h2⟩ := ty _ _ _ _ I1 r1
  exact ⟨T, id, pa, slot, hty, h1, h2, Calls.callWith_builtin rfl (PySem.evalArgs_none (hm pins s1 σ H1 x [] v [] Q I1 r1 .nil q1))⟩
theorem pe_bmS (pa : PlainAttrs T) (slot : Slot T name id) (hty : typeOf (.builtin id) = pure (.type "method_descriptor")) (hm : MtR X id r) (ho : PE X o to) (ha : PA X (e :: es) t)
    (hbase : attributeBase o name X.env (eval o X.env) = eval o X.env)
    (hfew : ((backTo cpos (starEach (e :: es) X.env)).all (fun x => !x.1) && (backToKw cpos (keywordEach [] X.env)).all (fun x => x.1.isSome)
      && decide ((e :: es).length + ([] : List Keyword).length + (if ([] : List Keyword).isEmpty then 0 else 1) < 30)) = true)
    (hline : (apos.endLine == cpos.line) = true) (hs : starEach (e :: es) X.env = (false, eval e X.env) :: starEach es X.env) (hplain : (backTo cpos (starEach es X.env)).any (·.1) = false) :
    PE X (.Call (.Attribute o name apos) (e :: es) [] cpos) (tBMS X T r to t) := by
  refine ⟨fun pins s σ H Q I h => ?_⟩
  refine wpAny_Call_method_late hbase hfew hline rfl (thn (ho.run pins s σ H _ I h) fun v s1 ⟨x, H1, I1, r1, ty, q1⟩ => ?_)
  obtain ⟨h1, h2⟩ := ty _ _ _ _ I1 r1
  refine ⟨T, id, pa, slot, hty, h1, h2, ?_⟩
  have hA := ha.run cpos pins s1 σ H1 _ I1 q1
  rw [hs] at hA ⊢
  refine Calls.callWith_builtin (by show (false || (backTo cpos (starEach es X.env)).any (·.1)) = false; rw [hplain] <;> rfl) (Calls.evalArgs_plain ?_)
  exact thn hA fun us s2 ⟨vs, H2, I2, r2, q2⟩ => hm pins s2 σ H2 x vs v us Q I2 r1 r2 q2
end
theorem meth_core {σ : S} {H : Hp} {T : Nat} {p : PM} {Q : VK} (h : tE X.K W (cMeth T p ma mas) σ H Q) : tBMS X (tyN T) (fun x xs H Q => rN X.K (pnM p) (x :: xs) H Q) (tE X.K W ma) (tA X.K W mas) σ H Q := by
  have h0 := Told.eval (vs := []) (m := ma) (F := fun ds s R => match ds with
    | [x] => if isT T x R = true then (mas s R).bind fun es R2 => lift (p x es R2) else .err
    | _ => .err) (rel := RD X.K) (Q := Q) (Told.conv h fun _ _ => rfl)
  refine h0.imp fun v H1 ⟨B, io, R, s, ds, rep, rs, rd, t⟩ => ?_
  obtain ⟨d, ds, rfl, r, rd⟩ := RDs.cons_inv rd
  cases rd.nil_inv
  have t : Pst X.K B io H1 W σ (RD X.K) (if isT T d R = true then (mas s R).bind fun es R2 => lift (p d es R2) else .err) Q := t
  split at t
  · rename_i hT
    refine ⟨ty_ok rep r hT, ?_⟩
    have h1 : Told X.K W σ H1 (RD X.K) [v] (fun ds s R => (mas s R).bind fun es R2 => lift (pnM p (ds ++ es) R2)) Q := ⟨B, io, R, s, [d], rep, rs, .cons r .nil, t⟩
    exact (Told.evalA (vs := [v]) (m := mas) (F := fun ds _ R => lift (pnM p ds R)) h1).imp fun us H2 t => Told.op t
  · exact t.elim
theorem meth0_core {σ : S} {H : Hp} {T : Nat} {p : PM} {Q : VK} (h : tE X.K W (cMeth T p ma cNil) σ H Q) : tBMS0 X (tyN T) (fun x xs H Q => rN X.K (pnM p) (x :: xs) H Q) (tE X.K W ma) σ H Q := by
  refine (meth_core h).imp fun v H1 ⟨ty, q⟩ => ⟨ty, tA_nil q⟩
end
end Om
/-! Om, part V: methods of dicts and texts; dict(..), str(..). -/
namespace Om
open PySem PySem.Spec PyProof.Rows L2 RZ
theorem dct_setV {K : PySem.W.Frag} {B : Addr → Prop} {io : Io} {R : Rg} {H : Hp} {i : Nat} {p : Addr} {ds : List (D × D)} {vs : List (Key × V)} (rep : Rep K B io R H) (h1 : io[i]? = some (some p)) (hf : ∀ ob u, H p ≠ some (.frz ob u)) (r : RKs K (bars B io) io H ds vs) :
    Step io H io (upd H p (.dK vs)) ∧ Rep K B io (R.set i (.dct ds)) (upd H p (.dK vs)) :=
  have st : Step io H io (upd H p (.dK vs)) := Step.mut h1 hf
  ⟨st, rep.mut h1 hf ⟨p, _, h1, upd_same, r.car (st.car rep)⟩⟩
theorem rNMv {K : PySem.W.Frag} {p : PM} {x : V} {xs : List V} {H : Hp} {Q : VK} (h : rN K (pnM p) (x :: xs) H Q) : ∃ B io R dx ds d R', Rep K B io R H ∧ RD K (bars B io) io H dx x ∧ RDs K (bars B io) io H ds xs ∧ p dx ds R = some (d, R') ∧
    ∀ io' H' v, Step io H io' H' → Rep K B io' R' H' → RD K (bars B io') io' H' d v → Q v H' := by
  obtain ⟨B, io, R, ds, rep, rd, q⟩ := h
  obtain ⟨dx, ds, rfl, r, rd⟩ := rd.cons_inv
  have q : match p dx ds R with
    | some (d, R') => ∀ io' H' v, Step io H io' H' → Rep K B io' R' H' → RD K (bars B io') io' H' d v → Q v H'
    | none => False := q
  cases e : p dx ds R with
  | none => rw [e] at q; exact q.elim
  | some z =>
    obtain ⟨d, R'⟩ := z
    rw [e] at q
    exact ⟨B, io, R, dx, ds, d, R', rep, r, rd, e, q⟩
/-! ### dict methods -/
def getD : PM := fun x ds R => match dctOf R x, ds with
  | some ks, [k] => if keyOk k = true then some ((lookD ks k).getD .non, R) else none
  | some ks, [k, d] => if keyOk k = true then some ((lookD ks k).getD d, R) else none
  | _, _ => none
def dpopD : PM := fun x ds R => match x, ds with
  | .ref i, [k] => (match R[i]? with
    | some (.dct ks) => if keyOk k = true then (lookD ks k).map fun v => (v, R.set i (.dct (delK ks k))) else none
    | _ => none)
  | .ref i, [k, d] => (match R[i]? with
    | some (.dct ks) => if keyOk k = true then (match lookD ks k with
      | some v => some (v, R.set i (.dct (delK ks k)))
      | none => some (d, R)) else none
    | _ => none)
  | _, _ => none
section
variable {X : Cx}
theorem om_get (hu : X.A.units + 1 < cLine) : MtR X "dict.get" (fun x xs H Q => rN X.K (pnM getD) (x :: xs) H Q) := by
  intro pins s σ H x xs v us Q I rx rv h
  obtain ⟨B, io, R, dx, ds, d, R', rep, r, rd, e, q⟩ := rNMv h
  unfold getD at e
  split at e
  · rename_i ks k ek
    split at e
    · rename_i hk
      cases e
      obtain ⟨a, kvs, rfl, hd, rk⟩ := r.dict rep ek
      obtain ⟨q0, e0⟩ := key_of hk
      cases rd with
      | cons rk1 t =>
        cases t
        have ey := key_rd rk1 e0
        subst ey
        obtain rfl : v = Value.ref a := rx
        cases rv with
        | cons ru t =>
          cases t
          have g : DGet H a (kV q0) (valV kvs q0) := .inl ⟨kvs, q0, hd, rfl, rfl⟩
          refine d_get1 hu I g ru fun w' s' I' rw' => ⟨_, H, I', rw', ?_⟩
          have lk := look_rd e0 rk
          cases el : lookD ks k with
          | none =>
            rw [el] at lk q
            rw [show valV kvs q0 = none from lk]
            exact q io H _ (Step.refl _ _) rep .non
          | some w =>
            rw [el] at lk q
            obtain ⟨w2, e1, r2⟩ := lk
            rw [show valV kvs q0 = some w2 from e1]
            exact q io H _ (Step.refl _ _) rep r2
    · cases e
  · rename_i ks k d0 ek
    split at e
    · rename_i hk
      cases e
      obtain ⟨a, kvs, rfl, hd, rk⟩ := r.dict rep ek
      obtain ⟨q0, e0⟩ := key_of hk
      cases rd with
      | cons rk1 t =>
        cases t with
        | cons rd0 t =>
          cases t
          have ey := key_rd rk1 e0
          subst ey
          obtain rfl : v = Value.ref a := rx
          cases rv with
          | cons ru t =>
            cases t with
            | cons rz t =>
              cases t
              have g : DGet H a (kV q0) (valV kvs q0) := .inl ⟨kvs, q0, hd, rfl, rfl⟩
              refine d_get2 hu I g ru rz fun w' s' I' rw' => ⟨_, H, I', rw', ?_⟩
              have lk := look_rd e0 rk
              cases el : lookD ks k with
              | none =>
                rw [el] at lk q
                rw [show valV kvs q0 = none from lk]
                exact q io H _ (Step.refl _ _) rep rd0
              | some w =>
                rw [el] at lk q
                obtain ⟨w2, e1, r2⟩ := lk
                rw [show valV kvs q0 = some w2 from e1]
                exact q io H _ (Step.refl _ _) rep r2
    · cases e
  · cases e
theorem om_dpop : MtR X "dict.pop" (fun x xs H Q => rN X.K (pnM dpopD) (x :: xs) H Q) := by
  intro pins s σ H x xs v us Q I rx rv h
  obtain ⟨B, io, R, dx, ds, d, R', rep, r, rd, e, q⟩ := rNMv h
  unfold dpopD at e
  split at e
  · rename_i i k
    cases r with
    | @ref i a hi hq =>
      split at e
      · rename_i ks e1
        split at e
        · rename_i hk
          obtain ⟨y, e2, e3⟩ := Option.map_eq_some_iff.mp e
          cases e3
          obtain ⟨p, kvs, h1, h2, rk⟩ := rep.atDct e1
          have ep := hq p h1
          subst ep
          obtain ⟨q0, e0⟩ := key_of hk
          cases rd with
          | cons rk1 t =>
            cases t
            have ey := key_rd rk1 e0
            subst ey
            obtain rfl : v = Value.ref p := rx
            cases rv with
            | cons ru t =>
              cases t
              have lk := look_rd e0 rk
              rw [e2] at lk
              obtain ⟨w, l1, l2⟩ := lk
              obtain ⟨st, rep'⟩ := dct_setV rep h1 (nofz h2 (fun _ _ z => by cases z)) (del_rd e0 rk)
              exact d_pop I h2 ru l1 (.inl rfl) fun w' s' I' rw' => ⟨_, _, I', rw', q io _ _ st rep' (l2.car (st.car rep))⟩
        · cases e
      · cases e
  · rename_i i k d0
    cases r with
    | @ref i a hi hq =>
      split at e
      · rename_i ks e1
        split at e
        · rename_i hk
          obtain ⟨p, kvs, h1, h2, rk⟩ := rep.atDct e1
          have ep := hq p h1
          subst ep
          obtain ⟨q0, e0⟩ := key_of hk
          cases rd with
          | cons rk1 t =>
            cases t with
            | cons rd0 t =>
              cases t
              have ey := key_rd rk1 e0
              subst ey
              obtain rfl : v = Value.ref p := rx
              cases rv with
              | cons ru t =>
                cases t with
                | cons rz t =>
                  cases t
                  have lk := look_rd e0 rk
                  split at e
                  · rename_i y e2
                    cases e
                    rw [e2] at lk
                    obtain ⟨w, l1, l2⟩ := lk
                    obtain ⟨st, rep'⟩ := dct_setV rep h1 (nofz h2 (fun _ _ z => by cases z)) (del_rd e0 rk)
                    exact d_pop I h2 ru l1 (.inr ⟨_, rfl⟩) fun w' s' I' rw' => ⟨_, _, I', rw', q io _ _ st rep' (l2.car (st.car rep))⟩
                  · rename_i e2
                    cases e
                    rw [e2] at lk
                    exact d_popD I h2 ru lk fun s' I' => ⟨_, H, I', rz, q io H _ (Step.refl _ _) rep rd0⟩
        · cases e
      · cases e
  · cases e
end
/-! ### texts -/
def strsOf : List D → Option (List (List Nat))
  | [] => some []
  | .str b :: r => (strsOf r).map (b :: ·)
  | _ => none
def splitN (a b : List Nat) : List (List Nat) := TL.spl b 0 [] a
def lineOk (b : List Nat) : Bool := b.all (· < 256) && decide (b ≠ [])
def splitD (m : Bool) : PM := fun x ds R => match x, ds with
  | .str a, [.str b] => if lineOk b = true ∧ a.length + 2 ≤ LINE then mkL m ((splitN a b).map .str) R else none
  | _, _ => none
def joinD : PM := fun x ds R => match x, ds with
  | .str a, [y] => (match (seqOf R y).bind strsOf with
    | some ys => if (ys.map (·.length)).sum + ys.length * a.length ≤ 16777216 then some (.str (TL.joinL a ys), R) else none
    | none => none)
  | _, _ => none
section
variable {X : Cx}
theorem tl_strOf (a : List Nat) : TL.tl (strOf a) = a := rfl
theorem strs_rd {K : PySem.W.Frag} {bar : Addr → Prop} {io : Io} {H : Hp} : ∀ {ds : List D} {vs : List V} {bs : List (List Nat)}, RDs K bar io H ds vs → strsOf ds = some bs → vs = (bs.map strOf).map V.str
  | _, _, bs, .nil, e => by
    cases e
    rfl
  | d :: ds, v :: vs, bs, .cons r t, e => by
    cases d <;> simp [strsOf] at e
    obtain ⟨cs, e1, e2⟩ := e
    subst e2
    cases r
    rw [strs_rd t e1]
    rfl
theorem rds_strs {K : PySem.W.Frag} {bar : Addr → Prop} {io : Io} {H : Hp} : ∀ ns : List (List Nat), RDs K bar io H (ns.map D.str) ((ns.map strOf).map V.str)
  | [] => .nil
  | n :: r => .cons (.str n) (rds_strs r)
theorem split_eq {a b : List Nat} (h : lineOk b = true) : Txt.split (strOf a) (strOf b) = (splitN a b).map strOf := by
  have h' : (b.all (· < 256)) = true ∧ b ≠ [] := by simpa [lineOk] using h
  refine TL.map_tl_inj ?_
  have z := TL.split_spl (strOf a) (strOf b) (by rw [tl_strOf]; exact h'.2) (TL.kind_ok (by
    show (b.toArray.all (· < 256)) = true
    simpa using h'.1))
  rw [z, tl_strOf, tl_strOf]
  unfold splitN
  simp [Function.comp_def, tl_strOf]
theorem om_split (m : Bool) : MtR X "str.split" (fun x xs H Q => rN X.K (pnM (splitD m)) (x :: xs) H Q) := by
  intro pins s σ H x xs v us Q I rx rv h
  obtain ⟨B, io, R, dx, ds, d, R', rep, r, rd, e, q⟩ := rNMv h
  unfold splitD at e
  split at e
  · rename_i a b
    split at e
    · rename_i hb
      cases r
      cases rd with
      | cons r1 t =>
        cases t
        cases r1
        have hne : b ≠ [] := by
          have h' : (b.all (· < 256)) = true ∧ b ≠ [] := by simpa [lineOk] using hb.1
          exact h'.2
        refine mt_split pins s σ H _ _ v us Q I rx rv ⟨_, _, rfl, rfl, ?_, ?_, ?_⟩
        · rw [strOf_length]
          cases b with
          | nil => exact absurd rfl hne
          | cons _ _ => rfl
        · rw [strOf_length]
          exact hb.2
        · rw [split_eq hb.1]
          intro p hp
          obtain ⟨io', st, rep', r'⟩ := mkL_ok rep hp (rds_strs (splitN a b)) e
          exact q io' _ _ st rep' r'
    · cases e
  · cases e
theorem om_join : MtR X "str.join" (fun x xs H Q => rN X.K (pnM joinD) (x :: xs) H Q) := by
  intro pins s σ H x xs v us Q I rx rv h
  obtain ⟨B, io, R, dx, ds, d, R', rep, r, rd, e, q⟩ := rNMv h
  unfold joinD at e
  split at e
  · rename_i a y
    split at e
    · rename_i ys ey
      split at e
      · rename_i hl
        cases e
        obtain ⟨zs, e1, e2⟩ := Option.bind_eq_some_iff.mp ey
        cases r
        cases rd with
        | cons r1 t =>
          cases t
          obtain ⟨b, vs, rfl, hq, rs⟩ := r1.seq rep e1
          have ev := strs_rd rs e2
          subst ev
          refine mt_join pins s σ H _ _ v us Q I rx rv ⟨_, b, ys.map strOf, rfl, rfl, hq, ?_, ?_⟩
          · rw [strOf_length, List.length_map, List.map_map]
            rw [show (List.map ((fun x : Str => x.length) ∘ strOf) ys) = ys.map (·.length) from by
              apply List.map_congr_left
              intro z _
              exact strOf_length z]
            exact hl
          · have ej : Txt.join (strOf a) (ys.map strOf) = strOf (TL.joinL a ys) := by
              refine TL.ext_tl ?_
              rw [TL.join_eq, TL.tl_join, tl_strOf, tl_strOf, List.map_map]
              congr 1
              simp [Function.comp_def, tl_strOf]
            rw [ej]
            exact q io H _ (Step.refl _ _) rep (.str _)
      · cases e
    · cases e
  · cases e
end
/-! ### str(..), int(..), dict(..) -/
def strD : PN := pn1 fun x R => match x with
  | .str a => some (.str a, R)
  | .int i => if 0 ≤ i ∧ i.natAbs.log2 < 1920 then some (.str (TL.numL i.toNat), R) else none
  | _ => none
def intX : PN := pn1 fun x R => match x with
  | .int i => some (.int i, R)
  | .str a => if a.length ≤ 640 then (PySem.intText? (strOf a)).map fun n => (.int n, R) else none
  | _ => none
def pairsD : List D → Option (List (D × D))
  | [] => some []
  | .tup [k, v] :: r => if keyOk k = true then (pairsD r).map ((k, v) :: ·) else none
  | _ => none
def mergeD (ks more : List (D × D)) : List (D × D) := more.foldl (fun acc p => setK acc p.1 p.2) ks
def dictD (m : Bool) : PN := pn1 fun x R => match dctOf R x with
  | some ks => mkK m ks R
  | none => match (lstOf R x).bind pairsD with
    | some ps => mkK m (mergeD [] ps) R
    | none => none
section
variable {X : Cx}
theorem ok_strD : CallR X (.type "str") (rN X.K strD) := by
  intro pins s σ H xs us Q I r h
  obtain ⟨x, rfl⟩ := rN_1 h
  obtain ⟨B, io, R, dx, d, R', rep, rx, e, q⟩ := rN1 h
  split at e
  · cases e
    cases rx
    exact SkE.call_str_str pins s σ H _ us Q I r ⟨_, rfl, q io H _ (Step.refl _ _) rep (.str _)⟩
  · rename_i i
    split at e
    · rename_i hi
      cases e
      cases rx
      refine call_str_int pins s σ H _ us Q I r ⟨_, rfl, hi.2, ?_⟩
      have es : (Str.ofString (toString i) : Str) = strOf (TL.numL i.toNat) := by
        refine TL.ext_tl ?_
        rw [tl_strOf]
        have z := TL.tl_num i.toNat
        rw [Int.toNat_of_nonneg hi.1] at z
        exact z
      rw [show (Str.ofString (toString i) : Str) = _ from es]
      exact q io H _ (Step.refl _ _) rep (.str _)
    · cases e
  · cases e
theorem ok_intX : CallR X (.type "int") (rN X.K intX) := by
  intro pins s σ H xs us Q I r h
  obtain ⟨x, rfl⟩ := rN_1 h
  obtain ⟨B, io, R, dx, d, R', rep, rx, e, q⟩ := rN1 h
  split at e
  · cases e
    cases rx
    exact call_int1 pins s σ H _ us Q I r (.inl ⟨_, rfl, q io H _ (Step.refl _ _) rep (.int _)⟩)
  · split at e
    · rename_i hl
      obtain ⟨n, en, e2⟩ := Option.map_eq_some_iff.mp e
      cases e2
      cases rx
      exact call_int_str pins s σ H _ us Q I r ⟨_, _, rfl, en, by rw [strOf_length]; exact hl, q io H _ (Step.refl _ _) rep (.int _)⟩
    · cases e
  · cases e
theorem nodup_put {kvs : List (Key × V)} {k : Key} (v : V) (hn : (kvs.map (·.1)).Nodup) : ((putK kvs k v).map (·.1)).Nodup := by
  cases e : valV kvs k with
  | none => exact nd_putK v hn e
  | some w =>
    unfold putK
    rw [if_pos (by rw [valV_any, e]; rfl), List.map_map]
    rw [show List.map ((fun x : Key × V => x.1) ∘ fun kv => if kv.1 = k then (kv.1, v) else kv) kvs = kvs.map (·.1) from by
      apply List.map_congr_left
      intro z _
      show (if z.1 = k then (z.1, v) else z).1 = z.1
      split <;> rfl]
    exact hn
theorem merge_rd {K : PySem.W.Frag} {bar : Addr → Prop} {io : Io} {H : Hp} : ∀ {more : List (D × D)} {mv : List (Key × V)} {ks : List (D × D)} {kvs : List (Key × V)}, (kvs.map (·.1)).Nodup → RKs K bar io H more mv → RKs K bar io H ks kvs → RKs K bar io H (mergeD ks more) (mergeK kvs mv)
  | _, _, _, _, _, .nil, r => r
  | (k, d) :: more, (q0, w) :: mv, ks, kvs, hn, .cons hk rv t, r => by
    show RKs K bar io H (mergeD (setK ks k d) more) (mergeK (putK kvs q0 w) mv)
    exact merge_rd (nodup_put _ hn) t (set_rd hk rv hn r)
theorem pairs_rd {K : PySem.W.Frag} {bar : Addr → Prop} {io : Io} {H : Hp} : ∀ {ds : List D} {vs : List V} {ps : List (D × D)}, RDs K bar io H ds vs → pairsD ds = some ps → ∃ as kvs, vs = as.map V.ref ∧ Paired (fun p (kv : Key × V) => SqT K H p [kV kv.1, kv.2]) as kvs ∧ RKs K bar io H ps kvs
  | _, _, ps, .nil, e => by
    cases e
    exact ⟨[], [], rfl, .nil, .nil⟩
  | d :: ds, v :: vs, ps, .cons r t, e => by
    unfold pairsD at e
    split at e
    · rename_i e0
      cases e0
    · rename_i k w r0 e0
      cases e0
      split at e
      · rename_i hk
        obtain ⟨qs, e1, e2⟩ := Option.map_eq_some_iff.mp e
        subst e2
        obtain ⟨as, kvs, rfl, pr, rk⟩ := pairs_rd t e1
        obtain ⟨q0, ek⟩ := key_of hk
        cases r with
        | @tup a _ us hT rds =>
          cases rds with
          | cons r1 rds =>
            cases rds with
            | cons r2 rds =>
              cases rds
              have ey := key_rd r1 ek
              subst ey
              exact ⟨a :: as, (q0, _) :: kvs, rfl, .cons hT pr, .cons ek r2 rk⟩
      · cases e
    · cases e
theorem ok_dict (hc : X.calm = true) (m : Bool) : CallR X (.type "dict") (rN X.K (dictD m)) := by
  intro pins s σ H xs us Q I r h
  obtain ⟨x, rfl⟩ := rN_1 h
  obtain ⟨B, io, R, dx, d, R', rep, rx, e, q⟩ := rN1 h
  split at e
  · rename_i ks ek
    obtain ⟨a, kvs, rfl, hd, rk⟩ := rx.dict rep ek
    refine call_dictD pins s σ H _ us Q I r ⟨a, kvs, rfl, hd, fun p hp => ?_⟩
    obtain ⟨io', st, rep', r'⟩ := mkK_ok rep hp rk e
    exact q io' _ _ st rep' r'
  · split at e
    · rename_i ps ep
      obtain ⟨zs, e1, e2⟩ := Option.bind_eq_some_iff.mp ep
      obtain ⟨a, vs, rfl, hq, rs⟩ := rx.list rep e1
      obtain ⟨as, kvs, rfl, pr, rk⟩ := pairs_rd rs e2
      refine call_dictP hc pins s σ H _ us Q I r ⟨a, as, kvs, rfl, hq, pr, fun p hp => ?_⟩
      obtain ⟨io', st, rep', r'⟩ := mkK_ok rep hp (merge_rd (by simp) rk .nil) e
      exact q io' _ _ st rep' r'
    · cases e
end
/-! ### text in text; text * number -/
def inX (neg : Bool) : P2 := fun x y R => match x, y with
  | .str [c], .str z => some (.bl (decide (c ∈ z) != neg), R)
  | x, y => inD neg x y R
def mulX (m : Bool) : P2 := fun x y R => match x, y with
  | .str a, .int k => if -(2 ^ 63) ≤ k ∧ k < 2 ^ 63 ∧ a.length * k.toNat ≤ LINE then some (.str (List.replicate k.toNat a).flatten, R) else none
  | x, y => mulD m x y R
section
variable {X : Cx}
theorem ok_inX (hu : X.A.units + 65 < cLine) (neg : Bool) : OpR X (compareOp (if neg = true then .NotIn else .In)) (fun x y H Q => rN X.K (pn2 (inX neg)) [x, y] H Q) := by
  intro pins s σ H x y v u Q I rv ru h
  obtain ⟨B, io, R, dx, dy, d, R', rep, rx, ry, e, q⟩ := rN2 h
  unfold inX at e
  split at e
  · rename_i c z
    cases e
    cases rx
    cases ry
    have fin := q io H _ (Step.refl _ _) rep (.bl _)
    cases neg with
    | false => exact op_in_sign pins s σ H _ _ v u Q I rv ru ⟨c, strOf z, rfl, rfl, by
        rw [show ((decide (c ∈ z)) != false) = decide (c ∈ (strOf z).cps.toList) from by rw [Bool.bne_false]; exact decide_eq_decide.mpr Iff.rfl] at fin
        exact fin⟩
    | true => exact op_notIn_sign pins s σ H _ _ v u Q I rv ru ⟨c, strOf z, rfl, rfl, by
        rw [show ((decide (c ∈ z)) != true) = !decide (c ∈ (strOf z).cps.toList) from by rw [Bool.bne_true]; exact congrArg Bool.not (decide_eq_decide.mpr Iff.rfl)] at fin
        exact fin⟩
  · exact ok_in hu neg pins s σ H x y v u Q I rv ru ⟨B, io, R, [dx, dy], rep, .cons rx (.cons ry .nil), by
      show match inD neg dx dy R with
        | some (d, R') => _
        | none => False
      rw [e]
      exact q⟩
theorem flat_go (a : Array Nat) : ∀ (k : Nat) (b : Array Nat), ((List.replicate k a).foldl (· ++ ·) b).toList = b.toList ++ (List.replicate k a.toList).flatten
  | 0, b => by simp
  | k + 1, b => by
    rw [List.replicate_succ, List.replicate_succ, List.foldl_cons, flat_go a k, List.flatten_cons, Array.toList_append, List.append_assoc]
theorem flat_one (a : Array Nat) (k : Nat) : (⟨(List.replicate k a).foldl (· ++ ·) #[]⟩ : Str) = strOf (List.replicate k a.toList).flatten := by
  refine TL.ext_tl ?_
  rw [tl_strOf]
  exact flat_go a k #[]
theorem ok_mulX (m : Bool) : OpR X (binaryOp .Mult) (fun x y H Q => rN X.K (pn2 (mulX m)) [x, y] H Q) := by
  intro pins s σ H x y v u Q I rv ru h
  obtain ⟨B, io, R, dx, dy, d, R', rep, rx, ry, e, q⟩ := rN2 h
  unfold mulX at e
  split at e
  · rename_i a k
    split at e
    · rename_i hk
      obtain ⟨k1, k2, k3⟩ := hk
      cases e
      cases rx
      cases ry
      obtain ⟨t, rfl⟩ := rv
      obtain ⟨t', rfl⟩ := ru
      have fin := q io H _ (Step.refl _ _) rep (.str (List.replicate k.toNat a).flatten)
      have hz : (strOf a).length = a.length := strOf_length a
      refine PySem.P.mul_str (by simp; omega) (fun h1 _ => ?_) (fun h1 _ => ?_) ?_
      · rw [hz]
        have e1 : k = (k.toNat : Int) := (Int.toNat_of_nonneg (by omega)).symm
        have k4 : a.length * k.toNat ≤ 16777216 := k3
        intro z
        have z2 := Int.lt_of_lt_of_le (Int.lt_iff_add_one_le.mp z |> fun h => Int.lt_of_lt_of_le (Int.lt_succ _) h) (Int.le_refl _)
        have z3 : (2 ^ 63 - 1 : Int) < (a.length : Int) * k := by
          have := Int.lt_mul_of_ediv_lt (show (0 : Int) < k by omega) z
          exact this
        rw [e1] at z3
        have : ((a.length * k.toNat : Nat) : Int) = (a.length : Int) * (k.toNat : Int) := by simp
        omega
      · rw [hz]
        unfold Builtin.Str.tooLong
        have k4 : a.length * k.toNat ≤ 16777216 := k3
        simp [sizeLine]
        omega
      · split
        · rename_i h1
          have e0 : k.toNat = 0 := by omega
          rw [e0] at fin
          exact ⟨by show (0 : Nat) ≤ _; omega, V.str Str.empty, H, I.tok _, ⟨_, rfl⟩, fin⟩
        · split
          · rename_i h1 h2
            rw [Bool.or_eq_true] at h2
            have ea : (List.replicate k.toNat a).flatten = a := by
              rcases h2 with h2 | h2
              · have e1 : k = 1 := by simpa using h2
                subst e1
                simp
              · have e1 : (strOf a).length = 0 := by simpa using h2
                rw [hz] at e1
                have e2 : a = [] := List.length_eq_zero_iff.mp e1
                subst e2
                simp
            rw [ea] at fin
            exact ⟨V.str (strOf a), H, I, ⟨_, rfl⟩, fin⟩
          · refine ⟨?_, V.str ⟨(List.replicate k.toNat (strOf a).cps).foldl (· ++ ·) #[]⟩, H, I.tok _, ⟨_, rfl⟩, ?_⟩
            · have z := flat_one (strOf a).cps k.toNat
              rw [z, strOf_length, List.length_flatten, List.map_replicate, List.sum_replicate_nat]
              have k4 : a.length * k.toNat ≤ 16777216 := k3
              show k.toNat * a.length ≤ 16777216
              rw [Nat.mul_comm]
              exact k4
            · have z := flat_one (strOf a).cps k.toNat
              rw [z]
              exact fin
    · cases e
  · exact ok_mul m pins s σ H x y v u Q I rv ru ⟨B, io, R, [dx, dy], rep, .cons rx (.cons ry .nil), by
      show match mulD m dx dy R with
        | some (d, R') => _
        | none => False
      rw [e]
      exact q⟩
end
end Om
/-! Om, part Vb: dicts walked, dict comprehensions and displays, starred targets. -/
namespace Om
open PySem PySem.Spec PyProof.Rows L2 RZ
/-! ### locks -/
def lkAt (md : SE) (s : List D) (R : Rg) : Option (Nat × List (D × D)) := match md s R with
  | .ok (.ref r) _ => (match R[r]? with
    | some (.dct ks) => some (r, ks)
    | _ => none)
  | _ => none
def unLk (r : Nat) (R : Rg) : Option Rg := match R[r]? with
  | some (.dctL ks) => some (R.set r (.dct ks))
  | _ => none
/-- cc, while the dict that md tells is not changed -/
def cLock (md cc : SE) : SE := fun s R => match lkAt md s R with
  | some (r, ks) => (match cc s (R.set r (.dctL ks)) with
    | .ok d R1 => (match unLk r R1 with
      | some R2 => .ok d R2
      | none => .err)
    | _ => .err)
  | none => cc s R
def sLock (md : SE) (cc : SS) : SS := fun s R => match lkAt md s R with
  | some (r, ks) => (match cc s (R.set r (.dctL ks)) with
    | .nx s1 R1 => (match unLk r R1 with
      | some R2 => .nx s1 R2
      | none => .err)
    | .rt d R1 => (match unLk r R1 with
      | some R2 => .rt d R2
      | none => .err)
    | .bk s1 R1 => (match unLk r R1 with
      | some R2 => .bk s1 R2
      | none => .err)
    | .ct s1 R1 => (match unLk r R1 with
      | some R2 => .ct s1 R2
      | none => .err)
    | _ => .err)
  | none => cc s R
section
variable {K : PySem.W.Frag} {B : Addr → Prop} {io io1 : Io} {R R1 R2 : Rg} {H H1 : Hp} {p : Addr} {r : Nat} {ks : List (D × D)} {kvs : List (Key × V)} {od : Obj}
theorem lkAt_ok {md : SE} {s : List D} (e : lkAt md s R = some (r, ks)) : R[r]? = some (.dct ks) := by
  unfold lkAt at e
  split at e
  · split at e
    · rename_i h
      cases e
      exact h
    · cases e
  · cases e
theorem lock_in (rep : Rep K B io R H) (h1 : io[r]? = some (some p)) (h2 : H p = some (.dK kvs)) (rk : RKs K (bars B io) io H ks kvs) (od : Obj) :
    Rep K B io (R.set r (.dctL ks)) (upd H p (.frz od (.dK kvs))) ∧ Step io H io (upd H p (.frz od (.dK kvs))) :=
  have st : Step io H io (upd H p (.frz od (.dK kvs))) := Step.mut h1 (nofz h2 (fun _ _ z => by cases z))
  ⟨rep.mut h1 (nofz h2 (fun _ _ z => by cases z)) ⟨p, od, kvs, h1, upd_same, rk.car (st.car rep)⟩, st⟩
theorem lock_out (h1 : io[r]? = some (some p)) (h2 : H p = some (.dK kvs)) (st : Step io (upd H p (.frz od (.dK kvs))) io1 H1) (rep : Rep K B io1 R1 H1) (e : unLk r R1 = some R2) :
    H1 p = some (.frz od (.dK kvs)) ∧ Step io H io1 (upd H1 p (.dK kvs)) ∧ Rep K B io1 R2 (upd H1 p (.dK kvs)) ∧ Car K (bars B io1) io1 H1 (bars B io1) io1 (upd H1 p (.dK kvs)) := by
  have hz : H1 p = some (.frz od (.dK kvs)) := st.fz p od _ upd_same
  have hr : r < io.length := (List.getElem?_eq_some_iff.mp h1).1
  unfold unLk at e
  split at e
  · rename_i ks' e1
    cases e
    obtain ⟨p', o', kvs', q1, q2, rk⟩ := rep.atDctL e1
    have ep : p' = p := by
      rcases st.ix r hr with z | z
      · rw [z, h1] at q1
        cases q1
        rfl
      · rw [z] at q1
        cases q1
    subst ep
    rw [hz] at q2
    cases q2
    have rp : ran io1 p' := ran_at q1
    have c : Car K (bars B io1) io1 H1 (bars B io1) io1 (upd H1 p' (.dK kvs)) := {
      tup := fun a vs h => by
        have hn : a ≠ p' := fun z => by
          rcases h with h | ⟨ob, h⟩
          · rw [z, hz] at h; cases h
          · rw [z, hz] at h; cases h
        rcases h with h | ⟨ob, h⟩
        · exact .inl (by rw [upd_ne hn]; exact h)
        · exact .inr ⟨ob, by rw [upd_ne hn]; exact h⟩
      oth := fun a o h n => ⟨by rw [upd_ne (fun z => n (.inr (by rw [z]; exact rp)))]; exact h, n⟩
      ref := fun i q h => ⟨h, fun e => e⟩ }
    refine ⟨hz, ?_, ?_, c⟩
    · exact {
        fr := fun a o h n => by
          have hn : a ≠ p' := fun z => n (by rw [z]; exact ran_at h1)
          rw [upd_ne hn]
          exact st.fr a o (by rw [upd_ne hn]; exact h) n
        nw := fun a h => by
          rcases st.nw a h with z | z
          · exact .inl z
          · by_cases hn : a = p'
            · rw [hn, upd_same] at z
              cases z
            · rw [upd_ne hn] at z
              exact .inr z
        tr := fun a o h => by
          by_cases hn : a = p'
          · rw [hn, upd_same]
            exact ⟨_, rfl⟩
          · rw [upd_ne hn]
            exact st.tr a o (by rw [upd_ne hn]; exact h)
        le := st.le
        ix := st.ix
        fz := fun a ob u h => by
          have hn : a ≠ p' := fun z => by
            rw [z, h2] at h
            cases h
          rw [upd_ne hn]
          exact st.fz a ob u (by rw [upd_ne hn]; exact h) }
    · exact {
        len := by rw [List.length_set]; exact rep.len
        inj := rep.inj
        bt := fun a h => by
          by_cases hn : a = p'
          · rw [hn, upd_same]
            exact ⟨_, rfl⟩
          · rw [upd_ne hn]
            exact rep.bt a h
        bd := rep.bd
        obj := fun j u e => by
          by_cases hj : r = j
          · subst hj
            have hl : r < R1.length := (List.getElem?_eq_some_iff.mp e1).1
            rw [List.getElem?_set_self hl] at e
            cases e
            exact ⟨p', _, q1, upd_same, rk.car c⟩
          · rw [List.getElem?_set_ne hj] at e
            refine (rep.obj j u e).car c rfl fun q hq => ?_
            rw [upd_ne]
            intro z
            rw [z] at hq
            exact hj (rep.inj r j p' q1 hq) }
  · cases e
end
section
variable {X : Cx} {W : WX} {a b c e : Expr} {es : List Expr} {ma mb mc : SE} {mas : SA} {pos : Pos}
theorem _root_.L2.PE.bool {t t' : TE} (h : PE X e t) (h' : PE X e t') : PE X e (fun σ H Q => t σ H Q ∨ t' σ H Q) := ⟨fun pins s σ H Q I q => by
  rcases q with q | q
  · exact h.run pins s σ H Q I q
  · exact h'.run pins s σ H Q I q⟩
theorem _root_.L2.PS.bool {st : Stmt} {t t' : TS} (h : PS X st t) (h' : PS X st t') : PS X st (fun D σ H => t D σ H ∨ t' D σ H) := ⟨fun pins s σ H D I q => by
  rcases q with q | q
  · exact h.run pins s σ H D I q
  · exact h'.run pins s σ H D I q⟩
theorem se_lock {md : SE} (h : PE X e (tE X.K W ma)) : PE X e (tE X.K W (cLock md ma)) := ((pe_lock h).bool h).imp fun σ H Q ⟨B, io, R, s, ds, rep, rs, rd, p⟩ => by
  have p : Pst X.K B io H W σ (RD X.K) (match lkAt md s R with
    | some (r, ks) => (match ma s (R.set r (.dctL ks)) with
      | .ok d R1 => (match unLk r R1 with
        | some R2 => .ok d R2
        | none => .err)
      | _ => .err)
    | none => ma s R) Q := p
  cases e1 : lkAt md s R with
  | none =>
    rw [e1] at p
    exact .inr ⟨B, io, R, s, ds, rep, rs, rd, p⟩
  | some z =>
    obtain ⟨r, ks⟩ := z
    rw [e1] at p
    have eR := lkAt_ok e1
    obtain ⟨p0, kvs, h1, h2, rk⟩ := rep.atDct eR
    refine .inl ⟨p0, .dK kvs, h2, trivial, fun od => ?_⟩
    obtain ⟨rep1, st1⟩ := lock_in rep h1 h2 rk od
    have c1 := st1.car rep
    refine ⟨B, io, R.set r (.dctL ks), s, ds, rep1, rs.car c1, rd.car c1, ?_⟩
    show Pst X.K B io _ W σ (RD X.K) (ma s (R.set r (.dctL ks))) _
    have p : Pst X.K B io H W σ (RD X.K) (match ma s (R.set r (.dctL ks)) with
      | .ok d R1 => (match unLk r R1 with
        | some R2 => .ok d R2
        | none => .err)
      | _ => .err) Q := p
    cases e2 : ma s (R.set r (.dctL ks)) with
    | exc c x R1 => rw [e2] at p; exact p.elim
    | err => rw [e2] at p; exact p.elim
    | ok d R1 =>
      rw [e2] at p
      intro io2 H2 v st2 rep2 rv
      have p : Pst X.K B io H W σ (RD X.K) (match unLk r R1 with
        | some R2 => .ok d R2
        | none => .err) Q := p
      cases e3 : unLk r R1 with
      | none => rw [e3] at p; exact p.elim
      | some R2 =>
        rw [e3] at p
        obtain ⟨q1, q2, q3, q4⟩ := lock_out h1 h2 st2 rep2 e3
        exact ⟨q1, p io2 _ v q2 q3 (rv.car q4)⟩
theorem ss_lock {md : SE} {st : Stmt} {m : SS} (h : PS X st (tS X.K W m)) : PS X st (tS X.K W (sLock md m)) := ((ps_lock h).bool h).imp fun D σ H ⟨B, io, R, s, rep, rs, p⟩ => by
  have p : PstS X.K B io H W (match lkAt md s R with
    | some (r, ks) => (match m s (R.set r (.dctL ks)) with
      | .nx s1 R1 => (match unLk r R1 with
        | some R2 => .nx s1 R2
        | none => .err)
      | .rt d R1 => (match unLk r R1 with
        | some R2 => .rt d R2
        | none => .err)
      | .bk s1 R1 => (match unLk r R1 with
        | some R2 => .bk s1 R2
        | none => .err)
      | .ct s1 R1 => (match unLk r R1 with
        | some R2 => .ct s1 R2
        | none => .err)
      | _ => .err)
    | none => m s R) D := p
  cases e1 : lkAt md s R with
  | none =>
    rw [e1] at p
    exact .inr ⟨B, io, R, s, rep, rs, p⟩
  | some z =>
    obtain ⟨r, ks⟩ := z
    rw [e1] at p
    have eR := lkAt_ok e1
    obtain ⟨p0, kvs, h1, h2, rk⟩ := rep.atDct eR
    refine .inl ⟨p0, .dK kvs, h2, trivial, fun od => ?_⟩
    obtain ⟨rep1, st1⟩ := lock_in rep h1 h2 rk od
    have c1 := st1.car rep
    refine ⟨B, io, R.set r (.dctL ks), s, rep1, rs.car c1, ?_⟩
    have p : PstS X.K B io H W (match m s (R.set r (.dctL ks)) with
      | .nx s1 R1 => (match unLk r R1 with
        | some R2 => .nx s1 R2
        | none => .err)
      | .rt d R1 => (match unLk r R1 with
        | some R2 => .rt d R2
        | none => .err)
      | .bk s1 R1 => (match unLk r R1 with
        | some R2 => .bk s1 R2
        | none => .err)
      | .ct s1 R1 => (match unLk r R1 with
        | some R2 => .ct s1 R2
        | none => .err)
      | _ => .err) D := p
    cases e2 : m s (R.set r (.dctL ks)) with
    | exc c x s1 R1 => rw [e2] at p; exact p.elim
    | err => rw [e2] at p; exact p.elim
    | nx s1 R1 =>
      rw [e2] at p
      intro io2 H2 σ2 st2 rep2 rs2
      cases e3 : unLk r R1 with
      | none => simp only [e3] at p; exact p.elim
      | some R2 =>
        simp only [e3] at p
        obtain ⟨q1, q2, q3, q4⟩ := lock_out h1 h2 st2 rep2 e3
        exact ⟨q1, p io2 _ σ2 q2 q3 (rs2.car q4)⟩
    | bk s1 R1 =>
      rw [e2] at p
      intro io2 H2 σ2 st2 rep2 rs2
      cases e3 : unLk r R1 with
      | none => simp only [e3] at p; exact p.elim
      | some R2 =>
        simp only [e3] at p
        obtain ⟨q1, q2, q3, q4⟩ := lock_out h1 h2 st2 rep2 e3
        exact ⟨q1, p io2 _ σ2 q2 q3 (rs2.car q4)⟩
    | ct s1 R1 =>
      rw [e2] at p
      intro io2 H2 σ2 st2 rep2 rs2
      cases e3 : unLk r R1 with
      | none => simp only [e3] at p; exact p.elim
      | some R2 =>
        simp only [e3] at p
        obtain ⟨q1, q2, q3, q4⟩ := lock_out h1 h2 st2 rep2 e3
        exact ⟨q1, p io2 _ σ2 q2 q3 (rs2.car q4)⟩
    | rt d R1 =>
      rw [e2] at p
      intro io2 H2 v st2 rep2 rv
      cases e3 : unLk r R1 with
      | none => simp only [e3] at p; exact p.elim
      | some R2 =>
        simp only [e3] at p
        obtain ⟨q1, q2, q3, q4⟩ := lock_out h1 h2 st2 rep2 e3
        exact ⟨q1, p io2 _ v q2 q3 (rv.car q4)⟩
/-! ### what is walked -/
def srcX (d : D) (R : Rg) : Res Src := match d with
  | .str x => .ok (fixS (x.map fun c => .str [c])) R
  | .ref r => (match R[r]? with
    | some (.dctL ks) => .ok (fixS (ks.map (·.1))) R
    | _ => srcD (.ref r) R)
  | d => srcD d R
def iAny (m : SE) : SI := fun s R => (m s R).bind srcX
def itmD (d : D) (R : Rg) : Res Src := match d with
  | .ref r => (match R[r]? with
    | some (.dctL ks) => .ok (fixS (ks.map fun p => .tup [p.1, p.2])) R
    | _ => .err)
  | _ => .err
def iItm (m : SE) : SI := fun s R => (m s R).bind itmD
theorem src_str {K : PySem.W.Frag} {B : Addr → Prop} {io : Io} {H : Hp} (x : List Nat) : SrcOk K B io H (Its (strOf x)) (fixS (x.map fun c => .str [c])) := by
  intro B' io' R' H' wd st rep' i
  show match (some (x.map fun c => D.str [c])[i]? : Option (Option D)) with
    | some (some d) => _
    | some none => _
    | none => True
  rw [List.getElem?_map]
  cases e : x[i]? with
  | none => exact List.getElem?_eq_none_iff.mp e
  | some c =>
    have hi := (List.getElem?_eq_some_iff.mp e).1
    refine ⟨show i < x.toArray.size by simpa using hi, fun v H2 hy => ?_⟩
    obtain ⟨rfl, c', e2, rfl⟩ := hy
    have e3 : c' = c := by
      have : x[i]? = some c' := by simpa [strOf] using e2
      rw [e] at this
      cases this
      rfl
    subst e3
    exact ⟨Step.refl _ _, rep', .str [c']⟩
theorem src_keys {K : PySem.W.Frag} {B : Addr → Prop} {io : Io} {H : Hp} {R : Rg} {a : Addr} {o : Obj} {ks : List (D × D)} {kvs : List (Key × V)} (rep : Rep K B io R H) (hd : H a = some (.frz o (.dK kvs))) (rk : RKs K (bars B io) io H ks kvs) : SrcOk K B io H (Itk a o kvs) (fixS (ks.map (·.1))) := by
  intro B' io' R' H' wd st rep' i
  have c := st.carB rep wd
  have hd' := st.fz _ _ _ hd
  have rk' := keys_rd (rk.car c)
  show match (some (ks.map (·.1))[i]? : Option (Option D)) with
    | some (some d) => _
    | some none => _
    | none => True
  cases e : (ks.map (·.1))[i]? with
  | none => exact ⟨hd', by rw [← rk.len]; simpa using e⟩
  | some d =>
    obtain ⟨v, ev, rv⟩ := rds_at rk' e
    refine ⟨⟨hd', by have := (List.getElem?_eq_some_iff.mp ev).1; simpa using this⟩, fun x H2 hy => ?_⟩
    obtain ⟨rfl, k, w, e2, rfl⟩ := hy
    rw [List.getElem?_map, e2] at ev
    cases ev
    exact ⟨Step.refl _ _, rep', rv⟩
theorem rks_at {K : PySem.W.Frag} {bar : Addr → Prop} {io : Io} {H : Hp} : ∀ {ks : List (D × D)} {kvs : List (Key × V)} {i : Nat} {p : D × D}, RKs K bar io H ks kvs → ks[i]? = some p → ∃ q v, kvs[i]? = some (q, v) ∧ RD K bar io H p.1 (kV q) ∧ RD K bar io H p.2 v
  | _, _, _, _, .nil, e => by simp at e
  | _, _, 0, p, .cons hk r t, e => by
    have e : _ = _ := Option.some.inj e
    subst e
    have z := keys_rd (RKs.cons (K := K) (bar := bar) (io := io) (H := H) hk r .nil)
    cases z with
    | cons z _ => exact ⟨_, _, rfl, z, r⟩
  | _, _, i + 1, _, .cons _ _ t, e => rks_at (i := i) t (by simpa using e)
theorem src_items {K : PySem.W.Frag} {B : Addr → Prop} {io : Io} {H : Hp} {R : Rg} {a : Addr} {o : Obj} {ks : List (D × D)} {kvs : List (Key × V)} (rep : Rep K B io R H) (hd : H a = some (.frz o (.dK kvs))) (rk : RKs K (bars B io) io H ks kvs) : SrcOk K B io H (Iti a o kvs) (fixS (ks.map fun p => .tup [p.1, p.2])) := by
  intro B' io' R' H' wd st rep' i
  have c := st.carB rep wd
  have hd' := st.fz _ _ _ hd
  have rk' := rk.car c
  show match (some (ks.map fun p => D.tup [p.1, p.2])[i]? : Option (Option D)) with
    | some (some d) => _
    | some none => _
    | none => True
  rw [List.getElem?_map]
  cases e : ks[i]? with
  | none => exact ⟨hd', by rw [← rk.len]; simpa using e⟩
  | some d =>
    obtain ⟨q, v, ev, r1, r2⟩ := rks_at rk' e
    refine ⟨⟨hd', (List.getElem?_eq_some_iff.mp ev).1⟩, fun x H2 hy => ?_⟩
    obtain ⟨T, k, w, e2, rfl, hT, rfl⟩ := hy
    rw [ev] at e2
    cases e2
    exact tup_ok rep' hT (.cons r1 (.cons r2 .nil))
theorem si_any {tg : Expr} (h : PE X e (tE X.K W ma)) : PI X tg e (tI X.K W (iAny ma)) := ((si_seq (tg := tg) h).or ((pi_str (tg := tg) h).or (pi_keys (tg := tg) h))).imp fun σ H Q ⟨B, io, R, s, rep, rs, p⟩ => by
  have p : PstI X.K W B io H σ ((ma s R).bind srcX) Q := p
  cases e1 : ma s R with
  | err => rw [e1] at p; exact p.elim
  | exc c x R1 =>
    rw [e1] at p
    refine .inl ⟨B, io, R, s, rep, rs, ?_⟩
    show PstI X.K W B io H σ ((ma s R).bind srcD) Q
    rw [e1]
    exact p
  | ok d R1 =>
    rw [e1, Res.bind_ok] at p
    have old : srcX d R1 = srcD d R1 → tI X.K W (iSeq ma) σ H Q := fun z => by
      refine ⟨B, io, R, s, rep, rs, ?_⟩
      show PstI X.K W B io H σ ((ma s R).bind srcD) Q
      rw [e1, Res.bind_ok, ← z]
      exact p
    cases d with
    | str x =>
      refine .inr (.inl ⟨B, io, R, s, [], rep, rs, .nil, ?_⟩)
      show Pst X.K B io H W σ (RD X.K) (ma s R) _
      rw [e1]
      intro io1 H1 v st rep1 r
      cases r
      exact ⟨_, rfl, p io1 H1 _ st rep1 (src_str x)⟩
    | ref r =>
      cases e2 : R1[r]? with
      | none => exact .inl (old (by simp only [srcX, e2]))
      | some o =>
        cases o with
        | dctL ks =>
          refine .inr (.inr ⟨B, io, R, s, [], rep, rs, .nil, ?_⟩)
          show Pst X.K B io H W σ (RD X.K) (ma s R) _
          rw [e1]
          intro io1 H1 v st rep1 rv
          have p : PstI X.K W B io H σ (srcX (.ref r) R1) Q := p
          simp only [srcX, e2] at p
          cases rv with
          | @ref _ a hi hq =>
            obtain ⟨p2, o2, kvs, q1, q2, rk⟩ := rep1.atDctL e2
            rw [← hq p2 q1]
            exact ⟨_, o2, rfl, .inl ⟨kvs, q2, p io1 H1 _ st rep1 (src_keys rep1 q2 rk)⟩⟩
        | _ => exact .inl (old (by simp only [srcX, e2]))
    | _ => exact .inl (old rfl)
theorem si_itm {elts : List Expr} {kk : Nat} {tpos apos cpos : Pos} (h : PE X e (tE X.K W ma)) (hbase : attributeBase e "items" X.env (eval e X.env) = eval e X.env) (hline : (apos.endLine == cpos.line) = true) :
    PI X (.Tuple elts kk tpos) (.Call (.Attribute e "items" apos) [] [] cpos) (tI X.K W (iItm ma)) := (pi_items h hbase hline).imp fun σ H Q ⟨B, io, R, s, rep, rs, p⟩ => by
  have p : PstI X.K W B io H σ ((ma s R).bind itmD) Q := p
  refine ⟨B, io, R, s, [], rep, rs, .nil, ?_⟩
  show Pst X.K B io H W σ (RD X.K) (ma s R) _
  cases e1 : ma s R with
  | err => rw [e1] at p; exact p.elim
  | exc c x R1 => rw [e1] at p; exact p
  | ok d R1 =>
    rw [e1, Res.bind_ok] at p
    intro io1 H1 v st rep1 rv
    cases rv with
    | @ref r a hi hq =>
      cases e2 : R1[r]? with
      | none => simp only [itmD, e2] at p; exact p.elim
      | some o =>
        cases o with
        | dctL ks =>
          simp only [itmD, e2] at p
          obtain ⟨p2, o2, kvs, q1, q2, rk⟩ := rep1.atDctL e2
          rw [← hq p2 q1]
          exact ⟨_, o2, kvs, rfl, q2, p io1 H1 _ st rep1 (src_items rep1 q2 rk)⟩
        | _ => simp only [itmD, e2] at p; exact p.elim
    | _ => exact p.elim
end
end Om
/-! Om, part Vc: dict comprehensions and displays, starred targets. -/
namespace Om
open PySem PySem.Spec PyProof.Rows L2 RZ
/-! ### dict comprehensions -/
def compK (g : SG) (t : SB) (ek ev : SE) (f : Src) (s0 : List D) : Nat → Nat → List (D × D) → Rg → Option (List (D × D) × Rg)
  | 0, i, acc, R => match f R i with
    | some none => some (acc, R)
    | _ => none
  | n + 1, i, acc, R => match f R i with
    | none => none
    | some none => some (acc, R)
    | some (some d) => match g d s0 R with
      | .ok s1 R1 => (match t s1 R1 with
        | .ok k R2 => if k = true then (match ek s1 R2 with
          | .ok y R3 => (match ev s1 R3 with
            | .ok z R4 => if keyOk y = true ∧ acc.length < LINE then compK g t ek ev f s0 n (i + 1) (setK acc y z) R4 else none
            | _ => none)
          | _ => none) else compK g t ek ev f s0 n (i + 1) acc R2
        | _ => none)
      | _ => none
def cDComp (it : SI) (g : SG) (t : SB) (ek ev : SE) (vs : List Nat) (m : Bool) : SE := fun s R => (it s R).bind fun f R1 => lift ((compK g t ek ev f (wipeD s vs) FUEL 0 [] R1).bind fun z => mkK m z.1 z.2)
section
variable {K : PySem.W.Frag} {B : Addr → Prop} {io : Io} {R : Rg} {H : Hp} {p : Addr}
theorem car_atK {o : HO} {u : List (Key × V)} (hb : B p) (hp : H p = some (.dK u)) : Car K (bars B io) io H (bars B io) io (upd H p o) where
  tup := fun a vs h => by
    have hn : a ≠ p := fun z => by
      rcases h with h | ⟨ob, h⟩
      · rw [z, hp] at h; cases h
      · rw [z, hp] at h; cases h
    rcases h with h | ⟨ob, h⟩
    · exact .inl (by rw [upd_ne hn]; exact h)
    · exact .inr ⟨ob, by rw [upd_ne hn]; exact h⟩
  oth := fun a u h n => ⟨by rw [upd_ne (fun z => n (.inl (by rw [z]; exact hb)))]; exact h, n⟩
  ref := fun i q h => ⟨h, fun e => e⟩
theorem Rep.atK {o : HO} {u : List (Key × V)} (rep : Rep K B io R H) (hb : B p) (hp : H p = some (.dK u)) : Rep K B io R (upd H p o) where
  len := rep.len
  inj := rep.inj
  bt := fun a h => by
    by_cases e : a = p
    · rw [e, upd_same]
      exact ⟨_, rfl⟩
    · rw [upd_ne e]
      exact rep.bt a h
  bd := rep.bd
  obj := fun i u e => (rep.obj i u e).car (car_atK hb hp) rfl fun q hq => by
    rw [upd_ne fun z => rep.bd q (ran_at hq) (by rw [z]; exact hb)]
theorem comp_endK {m : Bool} {ds : List (D × D)} {vs : List (Key × V)} {d : D} {io1 : Io} {H1 : Hp} {R1 : Rg} (rep0 : Rep K B io R H) (hp : H p = none) (st : Step io H io1 H1) (rep : Rep K (hid B p) io1 R1 H1) (h : H1 p = some (.dK vs)) (r : RKs K (bars (hid B p) io1) io1 H1 ds vs) {R' : Rg} (e : mkK m ds R1 = some (d, R')) :
    ∃ io2, Step io H io2 H1 ∧ Rep K B io2 R' H1 ∧ RD K (bars B io2) io2 H1 d (.ref p) := by
  have nb : ¬ B p := fun z => rep0.notBar hp (.inl z)
  unfold mkK at e
  split at e
  · split at e
    · cases e
      refine ⟨io1 ++ [some p], st.adopt hp, rep.adopt nb ⟨p, vs, by simp, h, r.car (car_adopt nb)⟩, .ref (by rw [← rep.len]; simp) fun q hq => ?_⟩
      rw [← rep.len] at hq
      have e : some p = some q := by simpa using hq
      cases e
      rfl
    · cases e
      refine ⟨io1, st, rep.show, .dct (fun z => ?_) (.inl h) (r.car car_show)⟩
      rcases z with z | z
      · exact nb z
      · exact rep.bd p z (.inr rfl)
  · cases e
end
def PstK (K : PySem.W.Frag) (B : Addr → Prop) (io1 : Io) (H1 : Hp) (m : Bool) (r : Option (List (D × D) × Rg)) (Q : VK) : Prop := match r.bind fun z => mkK m z.1 z.2 with
  | some (d, R') => ∀ io' H' v, Step io1 H1 io' H' → Rep K B io' R' H' → RD K (bars B io') io' H' d v → Q v H'
  | none => False
section
variable {X : Cx} {W : WX} {e : Expr}
theorem dc_body {K : PySem.W.Frag} {it : SI} {g : SG} {t : SB} {mk me : SE} {vs : List Nat} {m : Bool} {σ : S} {H : Hp} {Q : VK} (h : tE K W (cDComp it g t mk me vs m) σ H Q) : tDc (tI K W it) (tG K vs g) (tB K noX t) (tE K noX mk) (tE K noX me) vs σ H Q := by
  obtain ⟨B, io, R, s, _, rep, rs, _, p⟩ := h
  refine ⟨B, io, R, s, rep, rs, ?_⟩
  have p : Pst K B io H W σ (RD K) ((it s R).bind fun f R1 => lift ((compK g t mk me f (wipeD s vs) FUEL 0 [] R1).bind fun z => mkK m z.1 z.2)) Q := p
  cases e : it s R with
  | exc c x R1 =>
    rw [e] at p
    exact p
  | err =>
    rw [e] at p
    exact p
  | ok f R1 =>
    rw [e] at p
    intro io1 H1 J st1 rep1 src D hD
    have c1 := st1.car rep
    have p1 : PstK K B io1 H1 m (compK g t mk me f (wipeD s vs) FUEL 0 [] R1) Q := by
      have p := Pst.shift st1 p
      rw [Res.bind_ok] at p
      unfold PstK
      revert p
      cases (compK g t mk me f (wipeD s vs) FUEL 0 [] R1).bind fun z => mkK m z.1 z.2 with
      | none => exact fun p => p
      | some z => exact fun p => p
    clear p
    have rs0 : RS K (bars (hid B D) io1) io1 (upd H1 D (.dK [])) (wipeD s vs) (wipe σ vs) := ((rs.car c1).wipe vs).car (car_hid hD)
    generalize hs0 : wipeD s vs = s0 at p1 rs0
    refine ⟨fun i n H2 => ∃ io2 R2 acc us, Step io1 H1 io2 H2 ∧ Rep K (hid B D) io2 R2 H2 ∧ H2 D = some (.dK us) ∧ (us.map (·.1)).Nodup ∧ RKs K (bars (hid B D) io2) io2 H2 acc us ∧ RS K (bars (hid B D) io2) io2 H2 s0 (wipe σ vs) ∧ PstK K B io1 H1 m (compK g t mk me f s0 n i acc R2) Q,
      ⟨FUEL, io1, R1, [], [], Step.add hD, rep1.hide hD, upd_same, by simp, .nil, rs0, p1⟩, ?_⟩
    rintro i n H2 ⟨io2, R2, acc, us, st2, rep2, hD2, nd2, ra, rs2, p2⟩
    have sr := src (hid B D) io2 R2 H2 (wid_hid hD) st2 rep2 i
    have stop : ∀ {r}, PstK K B io1 H1 m (some (acc, R2)) Q → r = Q (.ref D) H2 → r := fun p e => by
      rw [e]
      unfold PstK at p
      have p : (match mkK m acc R2 with
        | some (d, R') => ∀ io' H' v, Step io1 H1 io' H' → Rep K B io' R' H' → RD K (bars B io') io' H' d v → Q v H'
        | none => False) := p
      cases e2 : mkK m acc R2 with
      | none => rw [e2] at p; exact p.elim
      | some z =>
        obtain ⟨d, R'⟩ := z
        rw [e2] at p
        obtain ⟨io3, st3, rep3, r3⟩ := comp_endK rep1 hD st2 rep2 hD2 ra e2
        exact p io3 H2 _ st3 rep3 r3
    cases ef : f R2 i with
    | none =>
      cases n with
      | zero => rw [compK, ef] at p2; exact p2.elim
      | succ n => rw [compK, ef] at p2; exact p2.elim
    | some o =>
      rw [ef] at sr
      cases o with
      | none =>
        refine .inl ⟨sr, stop ?_ rfl⟩
        cases n with
        | zero => rw [compK, ef] at p2; exact p2
        | succ n => rw [compK, ef] at p2; exact p2
      | some d =>
        obtain ⟨go, yl⟩ := sr
        cases n with
        | zero => rw [compK, ef] at p2; exact p2.elim
        | succ n =>
          rw [compK, ef] at p2
          refine .inr ⟨go, fun H' => ∃ io2 R2 acc us, Step io1 H1 io2 H' ∧ Rep K (hid B D) io2 R2 H' ∧ H' D = some (.dK us) ∧ (us.map (·.1)).Nodup ∧ RKs K (bars (hid B D) io2) io2 H' acc us ∧ RS K (bars (hid B D) io2) io2 H' s0 (wipe σ vs) ∧ PstK K B io1 H1 m (compK g t mk me f s0 n (i + 1) acc R2) Q, fun H' q => ⟨n, Nat.lt_succ_self n, q⟩, fun x H3 hy => ?_⟩
          obtain ⟨st3, rep3, rx⟩ := yl x H3 hy
          have c3 := st3.car rep2
          refine ⟨hid B D, io2, R2, s0, d, rep3, rs2.car c3, rx, ?_⟩
          have p2 : PstK K B io1 H1 m (match g d s0 R2 with
            | .ok s1 R1 => (match t s1 R1 with
              | .ok k R2 => if k = true then (match mk s1 R2 with
                | .ok y R3 => (match me s1 R3 with
                  | .ok z R4 => if keyOk y = true ∧ acc.length < LINE then compK g t mk me f s0 n (i + 1) (setK acc y z) R4 else none
                  | _ => none)
                | _ => none) else compK g t mk me f s0 n (i + 1) acc R2
              | _ => none)
            | _ => none) Q := p2
          cases eg : g d s0 R2 with
          | exc c x R4 => rw [eg] at p2; exact p2.elim
          | err => rw [eg] at p2; exact p2.elim
          | ok s4 R4 =>
            rw [eg] at p2
            intro io4 H4 σ4 st4 rep4 rs4 wp4
            have c4 := st4.car rep3
            refine ⟨wp4.trans wipe_wipe, hid B D, io4, R4, s4, [], rep4, rs4, .nil, ?_⟩
            show Pst K (hid B D) io4 H4 noX σ4 (fun _ _ _ a b => a = b) (t s4 R4) _
            have p2 : PstK K B io1 H1 m (match t s4 R4 with
              | .ok k R2 => if k = true then (match mk s4 R2 with
                | .ok y R3 => (match me s4 R3 with
                  | .ok z R4 => if keyOk y = true ∧ acc.length < LINE then compK g t mk me f s0 n (i + 1) (setK acc y z) R4 else none
                  | _ => none)
                | _ => none) else compK g t mk me f s0 n (i + 1) acc R2
              | _ => none) Q := p2
            cases et : t s4 R4 with
            | exc c x R4 => rw [et] at p2; exact p2.elim
            | err => rw [et] at p2; exact p2.elim
            | ok k R5 =>
              rw [et] at p2
              intro io5 H5 k' st5 rep5 ek
              subst ek
              have c5 := st5.car rep4
              have ra5 := ((ra.car c3).car c4).car c5
              have rs5 := ((rs2.car c3).car c4).car c5
              have st15 := ((st2.trans st3).trans st4).trans st5
              have nr : ∀ {io : Io} {R : Rg} {H : Hp}, Rep K (hid B D) io R H → ¬ ran io D := fun r z => r.bd D z (.inr rfl)
              have hD5 : H5 D = some (.dK us) := st5.fr D _ (st4.fr D _ (st3.fr D _ hD2 (nr rep2)) (nr rep3)) (nr rep4)
              have p2 : PstK K B io1 H1 m (if k = true then (match mk s4 R5 with
                | .ok y R3 => (match me s4 R3 with
                  | .ok z R4 => if keyOk y = true ∧ acc.length < LINE then compK g t mk me f s0 n (i + 1) (setK acc y z) R4 else none
                  | _ => none)
                | _ => none) else compK g t mk me f s0 n (i + 1) acc R5) Q := p2
              cases k with
              | false =>
                rw [if_neg (by decide)] at p2 ⊢
                exact ⟨io5, R5, acc, us, st15, rep5, hD5, nd2, ra5, rs5, p2⟩
              | true =>
                rw [if_pos rfl] at p2 ⊢
                refine ⟨hid B D, io5, R5, s4, [], rep5, rs4.car c5, .nil, ?_⟩
                show Pst K (hid B D) io5 H5 noX σ4 (RD K) (mk s4 R5) _
                cases ee : mk s4 R5 with
                | exc c x R4 => rw [ee] at p2; exact p2.elim
                | err => rw [ee] at p2; exact p2.elim
                | ok y R6 =>
                  rw [ee] at p2
                  intro io6 H6 vy st6 rep6 ry
                  have c6 := st6.car rep5
                  have hD6 := st6.fr D _ hD5 (nr rep5)
                  refine ⟨hid B D, io6, R6, s4, [], rep6, (rs4.car c5).car c6, .nil, ?_⟩
                  show Pst K (hid B D) io6 H6 noX σ4 (RD K) (me s4 R6) _
                  have p2 : PstK K B io1 H1 m (match me s4 R6 with
                    | .ok z R4 => if keyOk y = true ∧ acc.length < LINE then compK g t mk me f s0 n (i + 1) (setK acc y z) R4 else none
                    | _ => none) Q := p2
                  cases ez : me s4 R6 with
                  | exc c x R4 => rw [ez] at p2; exact p2.elim
                  | err => rw [ez] at p2; exact p2.elim
                  | ok z R7 =>
                    rw [ez] at p2
                    intro io7 H7 vz st7 rep7 rz
                    have c7 := st7.car rep6
                    have hD7 := st7.fr D _ hD6 (nr rep6)
                    have p2 : PstK K B io1 H1 m (if keyOk y = true ∧ acc.length < LINE then compK g t mk me f s0 n (i + 1) (setK acc y z) R7 else none) Q := p2
                    split at p2
                    · rename_i hl
                      obtain ⟨q0, e0⟩ := key_of hl.1
                      have ey := key_rd (ry.car c7) e0
                      have ra7 := (ra5.car c6).car c7
                      have ca := car_atK (K := K) (io := io7) (B := hid B D) (o := .dK (putK us q0 vz)) (.inr rfl) hD7
                      refine ⟨us, q0, ey, hD7, by rw [← ra.len]; exact hl.2, io7, R7, setK acc y z, putK us q0 vz, ((st15.trans st6).trans st7).under hD, rep7.atK (.inr rfl) hD7, upd_same, nodup_put _ nd2, (set_rd e0 rz nd2 ra7).car ca, ((rs5.car c6).car c7).car ca, p2⟩
                    · exact p2.elim
theorem se_dcomp {kx vx tg iter : Expr} {ifs : List Expr} {scope : Scope} {own : List (Str × Nat)} {pos : Pos} {it : SI} {g : SG} {t : SB} {mk me : SE} {m : Bool} (hc : X.calm = true) (hN : X.N.Nodup) (hi : PI X tg iter (tI X.K W it)) (ok : BlkOk X.N X.env.scope scope own)
    (hg : ∀ (s : Shared) (H : Hp) (C : Addr) (cl : List (Str × Addr)) (fp : List Addr), PG (X.blk s H scope (compEnvC scope cl C X.env) fp) tg (tG X.K (own.map (·.2)) g)) (ht : ∀ (s : Shared) (H : Hp) (C : Addr) (cl : List (Str × Addr)) (fp : List Addr), PTs (X.blk s H scope (compEnvC scope cl C X.env) fp) ifs (tB X.K noX t))
    (hk : ∀ (s : Shared) (H : Hp) (C : Addr) (cl : List (Str × Addr)) (fp : List Addr), PE (X.blk s H scope (compEnvC scope cl C X.env) fp) kx (tE X.K noX mk))
    (he : ∀ (s : Shared) (H : Hp) (C : Addr) (cl : List (Str × Addr)) (fp : List Addr), PE (X.blk s H scope (compEnvC scope cl C X.env) fp) vx (tE X.K noX me)) (hs : ∀ x, foldedSetIterable iter X.env x = pure x) :
    PE X (.DictComp kx vx [⟨tg, iter, ifs, 0⟩] scope pos) (tE X.K W (cDComp it g t mk me (own.map (·.2)) m)) := (pe_dc hc hN hi ok hg ht hk he hs).imp fun σ H Q h => dc_body h
end
/-! ### dict displays -/
def cPairs : List (SE × SE) → List D → Rg → Res (List (D × D))
  | [], _, R => .ok [] R
  | (k, v) :: r, s, R => (k s R).bind fun a R1 => (v s R1).bind fun b R2 => (cPairs r s R2).bind fun l R3 => .ok ((a, b) :: l) R3
def cDisp (m : Bool) (ps : List (SE × SE)) : SE := fun s R => (cPairs ps s R).bind fun l R1 => if (l.all fun p => keyOk p.1) = true ∧ l.length ≤ 15 then lift (mkK m (mergeD [] l) R1) else .err
def relP (K : PySem.W.Frag) : Rel (List (D × D)) (List (V × V)) := fun bar io H l vs => Paired (fun (p : D × D) (q : V × V) => RD K bar io H p.1 q.1 ∧ RD K bar io H p.2 q.2) l vs
theorem relP.car {K : PySem.W.Frag} {bar bar' : Addr → Prop} {io io1 : Io} {H H1 : Hp} (c : Car K bar io H bar' io1 H1) : ∀ {l : List (D × D)} {vs : List (V × V)}, relP K bar io H l vs → relP K bar' io1 H1 l vs
  | _, _, .nil => .nil
  | _, _, .cons r t => .cons ⟨r.1.car c, r.2.car c⟩ (relP.car c t)
theorem relP.keys {K : PySem.W.Frag} {bar : Addr → Prop} {io : Io} {H : Hp} : ∀ {l : List (D × D)} {vs : List (V × V)}, relP K bar io H l vs → (l.all fun p => keyOk p.1) = true → ∃ kvs : List (Key × V), vs = kvs.map (fun kv => (kV kv.1, kv.2)) ∧ RKs K bar io H l kvs
  | _, _, .nil, _ => ⟨[], rfl, .nil⟩
  | (a, b) :: l, (x, y) :: vs, .cons r t, h => by
    rw [List.all_cons, Bool.and_eq_true] at h
    obtain ⟨kvs, rfl, rk⟩ := relP.keys t h.2
    obtain ⟨q0, e0⟩ := key_of h.1
    have ey := key_rd r.1 e0
    have ey : x = kV q0 := ey
    subst ey
    exact ⟨(q0, y) :: kvs, rfl, .cons e0 r.2 rk⟩
theorem pairs_core {K : PySem.W.Frag} {W : WX} {σ : S} {s : List D} : ∀ (ps : List (SE × SE)) {B : Addr → Prop} {io : Io} {R : Rg} {H : Hp} {Q : List (V × V) → Hp → Prop}, Rep K B io R H → RS K (bars B io) io H s σ → Pst K B io H W σ (relP K) (cPairs ps s R) Q → tPairs (ps.map fun p => (tE K W p.1, tE K W p.2)) σ H Q
  | [], B, io, R, H, Q, rep, rs, p => p io H [] (Step.refl _ _) rep .nil
  | (k, v) :: r, B, io, R, H, Q, rep, rs, p => by
    have p : Pst K B io H W σ (relP K) ((k s R).bind fun a R1 => (v s R1).bind fun b R2 => (cPairs r s R2).bind fun l R3 => .ok ((a, b) :: l) R3) Q := p
    refine ⟨B, io, R, s, [], rep, rs, .nil, (Pst.bind (rel' := RD K) p).imp fun x H1 ⟨io1, R1, a, st1, rep1, ra, p1⟩ => ?_⟩
    have c1 := st1.car rep
    refine ⟨B, io1, R1, s, [], rep1, rs.car c1, .nil, (Pst.bind (rel' := RD K) p1).imp fun y H2 ⟨io2, R2, b, st2, rep2, rb, p2⟩ => ?_⟩
    have c2 := st2.car rep1
    refine pairs_core r rep2 ((rs.car c1).car c2) ((Pst.bind (rel' := relP K) p2).imp fun l H3 ⟨io3, R3, l', st3, rep3, rl, p3⟩ => ?_)
    have c3 := st3.car rep2
    exact p3 io3 H3 _ (Step.refl _ _) rep3 (.cons ⟨(ra.car c2).car c3, rb.car c3⟩ rl)
section
variable {X : Cx} {W : WX}
theorem se_disp {pos : Pos} {keys : List (Option Expr)} {values : List Expr} {ps : List (SE × SE)} {m : Bool} (h : PPs X pos keys values (ps.map fun p => (tE X.K W p.1, tE X.K W p.2))) (hall : keys.all (·.isSome) = true) (hl : keys.length = values.length) (h0 : keys ≠ []) (h15 : keys.length ≤ 15) :
    PE X (.Dict keys values pos) (tE X.K W (cDisp m ps)) := (pe_disp h hall hl h0 h15).imp fun σ H Q ⟨B, io, R, s, _, rep, rs, _, p⟩ D hD => by
  have p : Pst X.K B io H W σ (RD X.K) ((cPairs ps s R).bind fun l R1 => if (l.all fun p => keyOk p.1) = true ∧ l.length ≤ 15 then lift (mkK m (mergeD [] l) R1) else .err) Q := p
  have rep1 : Rep X.K (hid B D) io R (upd H D (.dK [])) := rep.hide hD
  refine pairs_core ps rep1 (rs.car (car_hid hD)) ?_
  cases e : cPairs ps s R with
  | err => rw [e] at p; exact p.elim
  | exc c x R1 =>
    rw [e] at p
    intro io1 H1 cls d st1 rep2 rx
    have hD1 : ¬ ran io D := fun z => by
      obtain ⟨u, hu⟩ := rep.has z
      rw [hD] at hu
      cases hu
    refine p io1 H1 cls d ?_ rep2.show ?_
    · exact {
        fr := fun a o h n => st1.fr a o (by rw [upd_ne (ne_of_none h hD)]; exact h) n
        nw := fun a h => by
          rcases st1.nw a h with z | z
          · exact .inl z
          · by_cases hn : a = D
            · rw [hn, upd_same] at z; cases z
            · rw [upd_ne hn] at z; exact .inr z
        tr := fun a o h => st1.tr a o (by rw [upd_ne (ne_of_none h hD)]; exact h)
        le := st1.le
        ix := st1.ix
        fz := fun a ob u h => st1.fz a ob u (by rw [upd_ne (ne_of_none h hD)]; exact h) }
    · obtain ⟨x1, x2⟩ := rx
      refine ⟨x1, ?_⟩
      rcases x2 with x2 | ⟨dx, v, x2, x3, x4⟩
      · exact .inl x2
      · exact .inr ⟨dx, v, x2, x3, x4.car car_show⟩
  | ok l R1 =>
    rw [e] at p
    intro io1 H1 vs st1 rep2 rl
    have p : Pst X.K B io H W σ (RD X.K) (if (l.all fun p => keyOk p.1) = true ∧ l.length ≤ 15 then lift (mkK m (mergeD [] l) R1) else .err) Q := p
    split at p
    · rename_i hk
      have nr : ¬ ran io D := fun z => by
        obtain ⟨u, hu⟩ := rep.has z
        rw [hD] at hu
        cases hu
      have hD1 : H1 D = some (.dK []) := st1.fr D _ upd_same nr
      obtain ⟨kvs, rfl, rk⟩ := relP.keys rl hk.1
      refine ⟨hD1, kvs, rfl, by rw [← rk.len]; exact hk.2, ?_⟩
      have nr1 : ¬ ran io1 D := fun z => rep2.bd D z (.inr rfl)
      cases e2 : mkK m (mergeD [] l) R1 with
      | none => rw [e2] at p; exact p.elim
      | some z =>
        obtain ⟨d, R'⟩ := z
        rw [e2] at p
        have ca := car_atK (K := X.K) (io := io1) (B := hid B D) (o := .dK (mergeK [] kvs)) (.inr rfl) hD1
        have st2 : Step io H io1 (upd H1 D (.dK (mergeK [] kvs))) := {
          fr := fun a o h n => by
            rw [upd_ne (ne_of_none h hD)]
            exact st1.fr a o (by rw [upd_ne (ne_of_none h hD)]; exact h) n
          nw := fun a h => by
            rcases st1.nw a h with z | z
            · exact .inl z
            · by_cases hn : a = D
              · rw [hn, upd_same] at z; cases z
              · rw [upd_ne hn] at z; exact .inr z
          tr := fun a o h => by
            rw [upd_ne (ne_of_none h hD)]
            exact st1.tr a o (by rw [upd_ne (ne_of_none h hD)]; exact h)
          le := st1.le
          ix := st1.ix
          fz := fun a ob u h => by
            rw [upd_ne (ne_of_none h hD)]
            exact st1.fz a ob u (by rw [upd_ne (ne_of_none h hD)]; exact h) }
        obtain ⟨io3, st3, rep3, r3⟩ := comp_endK rep hD st2 (rep2.atK (.inr rfl) hD1) upd_same ((merge_rd (by simp) rk .nil).car ca) e2
        exact p io3 _ _ st3 rep3 r3
    · exact p.elim
end
/-! ### a, *b, c = e -/
section
variable {prog : Program} {w : World} {A : Around} {E : Value → Shared → Prop} {s : Shared}
theorem star_unpack {l : Addr} {items : Array Value} {n i : Nat} {Q : List Value → Shared → Prop} (hl : s.heap.IsList l items ∨ IsTup s.heap l items) (hh : A.handled = none) (hi : i < n) (hn : n ≤ items.size + 1) (hz : items.size ≤ 16777216)
    (h : ∀ (h' : Heap) (tk : Nat), (∀ b o, s.heap.get? b = some o → h'.get? b = some o) → Q (items.toList.take i ++ [.ref h'.objs.size] ++ (items.toList.drop i).drop (items.size + 1 - n)) { s with heap := h'.push { cls := .type "list", data := .seq ((items.toList.drop i).take (items.size + 1 - n)).toArray }, toks := tk }) :
    wpAny (model prog w) A (unpackItems (.ref l) n (some i)) Q E s := by
  have hlt : l ≠ s.heap.objs.size := by
    rcases hl with hl | hl
    · obtain ⟨o, ho, _⟩ := hl; exact Nat.ne_of_lt (Heap.lt_size ho)
    · obtain ⟨o, ho, _⟩ := hl; exact Nat.ne_of_lt (Heap.lt_size ho)
  have hfl : (items.toList.take i).length = i := by rw [List.length_take, Array.length_toList]; omega
  have hrl : (items.toList.drop i).length = items.size - i := by rw [List.length_drop, Array.length_toList]
  have hmid : (items.toList.drop i).length - (n - 1 - i) = items.size + 1 - n := by rw [hrl]; omega
  rcases hl with hl | hl
  · unfold unpackItems
    refine wpAny_bind ?_
    unfold notIterableAtAll
    refine wpAny_bind (wpAny_specialOf hl.typeIs slot_list_iter.lookup ?_)
    refine wpAny_pure ?_
    simp only [Bool.false_eq_true, if_false]
    refine wpAny_bind (wpAny_holding (wpAny_pyIter_list hl ?_))
    refine wpAny_bind (wpAny_holding (PySem.W.kun_draw hlt i 0 _ _ ⟨_, Heap.get?_push_size _ rfl, rfl, rfl⟩ (hl.push _) (by omega) fun h₁ hit₁ hs₁ => ?_))
    have hl₁ : h₁.IsList l items := (hl.push _).extBut hs₁.extBut hlt
    rw [Nat.zero_add] at hit₁
    have hit₁' := hit₁
    obtain ⟨oi, hoi, _⟩ := hit₁'
    have hl₁' := hl₁
    obtain ⟨ol, hol, _⟩ := hl₁'
    rw [List.drop_zero]
    rw [if_neg (show ¬ ((items.toList.take i).length < i) by rw [hfl]; omega)]
    refine wpAny_bind (wpAny_holding (PySem.W.kun_collect (s := { s with heap := h₁ }) (T := "list_iterator") (.inr (.inr (.inl rfl))) (Walks.list (A := A.in1) hh s.heap.objs.size l hlt items) (fun j u st => st.1.typeIs) (k := i) (by omega) ⟨hit₁, hl₁⟩ (Heap.lt_size hoi) (Heap.lt_size hol) (fun h₂ tk hk => ?_) (by rw [sizeLine_eq]; omega)))
    show wpAny _ _ (if (items.toList.drop i).length < n - 1 - i then _ else _) _ _ _
    rw [if_neg (by rw [hrl]; omega)]
    show wpAny _ _ (newList ((items.toList.drop i).take ((items.toList.drop i).length - (n - 1 - i))) >>= fun d => pure (items.toList.take i ++ [d] ++ (items.toList.drop i).drop ((items.toList.drop i).length - (n - 1 - i)))) _ _ _
    rw [hmid]
    refine wpAny_bind (wpAny_newList (hsz := by rw [List.length_take, hrl, sizeLine_eq]; omega) (wpAny_pure (h h₂ tk (fun b o e => ?_))))
    exact hk b o (Nat.ne_of_lt (Heap.lt_size e)) (hs₁.extBut b o (Nat.ne_of_lt (Heap.lt_size e)) (Heap.get?_push_of_some _ e))
  · unfold unpackItems
    refine wpAny_bind ?_
    unfold notIterableAtAll
    refine wpAny_bind (wpAny_specialOf hl.typeIs slot_tuple_iter.lookup ?_)
    refine wpAny_pure ?_
    simp only [Bool.false_eq_true, if_false]
    refine wpAny_bind (wpAny_holding (iter_tuple hl ?_))
    refine wpAny_bind (wpAny_holding (draw_tuple hlt i 0 _ _ ⟨_, Heap.get?_push_size _ rfl, rfl, rfl⟩ (hl.push _) (by omega) fun h₁ hit₁ hs₁ => ?_))
    have hl₁ : IsTup h₁ l items := (hl.push _).extBut hs₁.extBut hlt
    rw [Nat.zero_add] at hit₁
    have hit₁' := hit₁
    obtain ⟨oi, hoi, _⟩ := hit₁'
    have hl₁' := hl₁
    obtain ⟨ol, hol, _⟩ := hl₁'
    rw [List.drop_zero]
    rw [if_neg (show ¬ ((items.toList.take i).length < i) by rw [hfl]; omega)]
    refine wpAny_bind (wpAny_holding (PySem.W.kun_collect (s := { s with heap := h₁ }) (T := "tuple_iterator") (.inr (.inr (.inr rfl))) (Walks.tuple (A := A.in1) hh s.heap.objs.size l hlt items) (fun j u st => st.1.typeIs) (k := i) (by omega) ⟨hit₁, hl₁⟩ (Heap.lt_size hoi) (Heap.lt_size hol) (fun h₂ tk hk => ?_) (by rw [sizeLine_eq]; omega)))
    show wpAny _ _ (if (items.toList.drop i).length < n - 1 - i then _ else _) _ _ _
    rw [if_neg (by rw [hrl]; omega)]
    show wpAny _ _ (newList ((items.toList.drop i).take ((items.toList.drop i).length - (n - 1 - i))) >>= fun d => pure (items.toList.take i ++ [d] ++ (items.toList.drop i).drop ((items.toList.drop i).length - (n - 1 - i)))) _ _ _
    rw [hmid]
    refine wpAny_bind (wpAny_newList (hsz := by rw [List.length_take, hrl, sizeLine_eq]; omega) (wpAny_pure (h h₂ tk (fun b o e => ?_))))
    exact hk b o (Nat.ne_of_lt (Heap.lt_size e)) (hs₁.extBut b o (Nat.ne_of_lt (Heap.lt_size e)) (Heap.get?_push_of_some _ e))
end
/-- the list, its items before the star, those behind -/
def gStar (n i : Nat) (g : SGs) (m : Bool) : SG := fun d s R => match seqOf R d with
  | some xs => if i < n ∧ n ≤ xs.length + 1 then (match mkL m ((xs.drop i).take (xs.length + 1 - n)) R with
    | some (y, R1) => g (xs.take i ++ [y] ++ (xs.drop i).drop (xs.length + 1 - n)) s R1
    | none => .err) else .err
  | none => .err
section
variable {X : Cx} {W : WX} {es : List Expr} {pos : Pos} {ws : List Nat}
def gStr (K : PySem.W.Frag) (n i : Nat) (t : TGs) : TG := fun v σ H Q => ∃ a xs, v = .ref a ∧ (SqL K H a xs ∨ SqT K H a xs) ∧ i < n ∧ n ≤ xs.length + 1 ∧ ∀ p, H p = none → t (xs.take i ++ [.ref p] ++ (xs.drop i).drop (xs.length + 1 - n)) σ (upd H p (.lst ((xs.drop i).take (xs.length + 1 - n)))) Q
theorem pg_star {k n i : Nat} {t : TGs} (hc : X.calm = true) (h : PGs X es t) (hn : (assignEach es X.env).length = n) (hst : (assignEach es X.env).findIdx? (·.1) = some i) : PG X (.Tuple es k pos) (gStr X.K n i t) := by
  refine ⟨fun pins s σ H v u Q I r hw => ?_⟩
  obtain ⟨a, xs, e1, hq, h1, h2, hw⟩ := hw
  subst e1
  cases r
  have key : ∀ (its : List Value), Vals xs its → xs.length ≤ sizeLine → (s.heap.IsList a its.toArray ∨ IsTup s.heap a its.toArray) → wpAny (model X.prog X.w) X.A (assign (.Tuple es k pos) X.env (.ref a)) (fun _ s' => ∃ σ' H', Inv X pins σ' H' s' ∧ Q σ' H') X.xe s := fun its rv hz hl => by
    have hsz : its.toArray.size = xs.length := by simp [rv.length]
    rw [PyProof.Rows.assign_Tuple]
    refine wpAny_bind (wpAny_standAt ?_)
    unfold unpack
    rw [hn, hst]
    refine wpAny_bind (wpAny_holding (star_unpack hl (I.ok.hd hc) h1 (by rw [hsz]; exact h2) (by rw [hsz]; exact hz) fun h' tk hk => ?_))
    have I1 : Inv X pins σ H { s with heap := h', toks := tk } := I.kept (t' := tk) fun b o e => hk b o e
    have hp := I1.hok.fresh (Nat.le_refl _)
    have I2 := I1.laid (a := h'.objs.size) (o := .lst ((xs.drop i).take (xs.length + 1 - n))) (h' := h'.push { cls := .type "list", data := .seq ((its.drop i).take (xs.length + 1 - n)).toArray }) (t' := tk) (fun _ _ q => Heap.get?_push_of_some _ q) (Nat.le_refl _)
      ⟨by rw [List.length_take, List.length_drop]; omega, (its.drop i).take (xs.length + 1 - n), _, Vals.take _ (Vals.drop _ rv), Heap.get?_push_size _ rfl⟩
    rw [hsz]
    refine h.run pins _ σ _ _ _ Q I2 ?_ (hw h'.objs.size hp)
    exact Vals.append (Vals.append (Vals.take _ rv) (.cons rfl .nil)) (Vals.drop _ (Vals.drop _ rv))
  rcases hq with hq | hq
  · obtain ⟨its, rv, pl, hz⟩ := I.list hq
    exact key its rv hz (.inl pl.isList)
  · obtain ⟨its, rv, ht, hz⟩ := I.tuple hq
    exact key its rv hz (.inr ht)
theorem sg_star {k n i : Nat} {g : SGs} {m : Bool} (hc : X.calm = true) (h : PGs X es (tGs X.K ws g)) (hn : (assignEach es X.env).length = n) (hst : (assignEach es X.env).findIdx? (·.1) = some i) : PG X (.Tuple es k pos) (tG X.K ws (gStar n i g m)) :=
  (pg_star (pos := pos) (k := k) hc h hn hst).imp fun v σ H Q ⟨B, io, R, s, d, rep, rs, rd, p⟩ => by
    have p : PstG X.K ws B io H σ (match seqOf R d with
      | some xs => if i < n ∧ n ≤ xs.length + 1 then (match mkL m ((xs.drop i).take (xs.length + 1 - n)) R with
        | some (y, R1) => g (xs.take i ++ [y] ++ (xs.drop i).drop (xs.length + 1 - n)) s R1
        | none => .err) else .err
      | none => .err) Q := p
    cases e : seqOf R d with
    | none =>
      rw [e] at p
      exact p.elim
    | some xs =>
      rw [e] at p
      obtain ⟨a, vs, rfl, hq, rx⟩ := rd.seq rep e
      have p : PstG X.K ws B io H σ (if i < n ∧ n ≤ xs.length + 1 then (match mkL m ((xs.drop i).take (xs.length + 1 - n)) R with
        | some (y, R1) => g (xs.take i ++ [y] ++ (xs.drop i).drop (xs.length + 1 - n)) s R1
        | none => .err) else .err) Q := p
      split at p
      · rename_i hl
        refine ⟨a, vs, rfl, hq, hl.1, by rw [← rx.len]; exact hl.2, fun q hq0 => ?_⟩
        cases e2 : mkL m ((xs.drop i).take (xs.length + 1 - n)) R with
        | none => rw [e2] at p; exact p.elim
        | some z =>
          obtain ⟨y, R1⟩ := z
          rw [e2] at p
          obtain ⟨io1, st, rep1, ry⟩ := mkL_ok rep hq0 (rds_take (xs.length + 1 - n) (rds_drop i rx)) e2
          have hlen : xs.length = vs.length := rx.len
          simp only [hlen] at p st rep1 ry
          have c1 := st.car rep
          have rx1 := rx.car c1
          refine ⟨B, io1, R1, s, _, rep1, rs.car c1, ((rds_take i rx1).append (.cons ry .nil)).append (rds_drop (vs.length + 1 - n) (rds_drop i rx1)), ?_⟩
          have p : PstG X.K ws B io H σ (g (xs.take i ++ [y] ++ (xs.drop i).drop (vs.length + 1 - n)) s R1) Q := p
          revert p
          cases g (xs.take i ++ [y] ++ (xs.drop i).drop (vs.length + 1 - n)) s R1 with
          | ok s2 R2 => exact fun p io2 H2 σ2 st2 rep2 rs2 wp => p io2 H2 σ2 (st.trans st2) rep2 rs2 wp
          | exc _ _ _ => exact fun p => p
          | err => exact fun p => p
      · exact p.elim
end
end Om
/-! Om, part Vd: dicts of the module. -/
namespace Om
open PySem PySem.Spec PyProof.Rows L2 RZ
abbrev Tb := List (List Nat × Int)
def lookT (tb : Tb) (z : List Nat) : Option Int := match tb with
  | [] => none
  | (k, i) :: r => if k = z then some i else lookT r z
def optI (o : Option Int) : D := match o with
  | some i => .int i
  | none => .non
structure KT (K : PySem.W.Frag) (w : World) (a : Addr) (tb : Tb) : Prop where
  ex : ∃ es n, KDict K w a es n ∧ ∀ z, RelO ((lookT tb z).map V.int) (findBy Value.isStrOf es (strOf z))
/-- what is looked at: keys and values -/
def rowT (e : DictEntry) : Option (List Nat × Int) := match e.key, e.val with
  | .str x _, .int i _ => some (x.cps.toList, i)
  | _, _ => none
def tabB (K : PySem.W.Frag) (a : Addr) (tb : Tb) : Bool := match K.lookup a with
  | some ⟨_, _, .dict es _, _⟩ => decide (es.toList.map rowT = tb.map some)
  | _ => false
theorem find_rows : ∀ {l : List DictEntry} {tb : Tb}, l.map rowT = tb.map some → ∀ z, RelO ((lookT tb z).map V.int) ((l.find? fun e => Value.isStrOf (strOf z) e.key).map (·.val))
  | [], [], _, z => trivial
  | [], _ :: _, h, z => by cases h
  | _ :: _, [], h, z => by cases h
  | e :: l, (k, i) :: tb, h, z => by
    rw [List.map_cons, List.map_cons] at h
    injection h with h1 h2
    have ih := find_rows h2 z
    unfold rowT at h1
    split at h1
    · rename_i x t j u ek ev
      cases h1
      have eb : Value.isStrOf (strOf z) e.key = decide (x.cps.toList = z) := by
        rw [ek]
        unfold Value.isStrOf
        by_cases hx : x.cps.toList = z
        · have : x = strOf z := by
            rw [← hx]
            unfold strOf
            rw [Array.toArray_toList]
          rw [this]
          simp [strOf]
        · have : ¬ x = strOf z := fun e => hx (by rw [e]; rfl)
          rw [decide_eq_false hx]
          simp
          intro e
          exact this e
      rw [List.find?_cons, eb]
      by_cases hx : x.cps.toList = z
      · rw [decide_eq_true hx]
        show RelO ((if x.cps.toList = z then some i else lookT tb z).map V.int) (some e.val)
        rw [if_pos hx, ev]
        exact ⟨u, rfl⟩
      · rw [decide_eq_false hx]
        show RelO ((if x.cps.toList = z then some i else lookT tb z).map V.int) _
        rw [if_neg hx]
        exact ih
    · cases h1
theorem tabB_ok {K : PySem.W.Frag} {w : World} {a : Addr} {tb : Tb} (h : tabB K a tb = true) (hd : ∃ es n, KDict K w a es n) : KT K w a tb := by
  obtain ⟨es, n, D⟩ := hd
  unfold tabB at h
  rw [D.at_] at h
  have h' : es.toList.map rowT = tb.map some := of_decide_eq_true h
  refine ⟨es, n, D, fun z => ?_⟩
  have := find_rows h' z
  unfold findBy
  rw [← List.find?_toArray] at this
  rw [Array.toArray_toList] at this
  exact this
section
variable {X : Cx} {a : Addr} {tb : Tb}
/-- x in T, x not in T -/
def inT (tb : Tb) (neg : Bool) : P1 := fun x R => match x with
  | .str z => some (.bl ((lookT tb z).isSome != neg), R)
  | _ => none
/-- T[x] -/
def ixT (tb : Tb) : P1 := fun x R => match x with
  | .str z => (lookT tb z).map fun i => (.int i, R)
  | _ => none
/-- T.get(x), T.get(x, d) -/
def getT (tb : Tb) : PN := fun ds R => match ds with
  | [.str z] => some (optI (lookT tb z), R)
  | [.str z, d] => some ((match lookT tb z with
    | some i => .int i
    | none => d), R)
  | _ => none
theorem relO_some {o : Option V} {v : V} {p : Option Value} (h : RelO o p) (e : o = some v) : ∃ u, p = some u ∧ RelV v u := by
  subst e
  cases p with
  | none => exact h.elim
  | some u => exact ⟨u, rfl, h⟩
theorem relO_is {o : Option V} {p : Option Value} (h : RelO o p) : p.isSome = o.isSome := by
  cases o <;> cases p <;> first
    | rfl
    | exact h.elim
theorem ok_inT (D : KT X.K X.w a tb) (neg : Bool) : OpR X (compareOp (if neg = true then .NotIn else .In)) (fun x y H Q => y = .ref a ∧ rN X.K (pn1 (inT tb neg)) [x] H Q) := by
  intro pins s σ H x y v u Q I rv ru h
  obtain ⟨ey, h⟩ := h
  subst ey
  obtain ⟨es, n, KD, hf⟩ := D.ex
  obtain ⟨B, io, R, dx, d, R', rep, rx, e, q⟩ := rN1 h
  unfold inT at e
  split at e
  · rename_i z
    cases e
    cases rx
    obtain ⟨t, rfl⟩ := rv
    cases ru
    have fin := q io H _ (Step.refl _ _) rep (.bl _)
    have e1 := relO_is (hf z)
    rw [Option.isSome_map] at e1
    cases neg with
    | false =>
      refine wpAny_in_of (PySem.strKind_is X.prog X.w (strOf z) t) KD.low (PySem.W.mapOf_K (prog := X.prog) I.kIn KD.at_ KD.lit) ?_
      show EP X pins σ Q (.bool (findBy Value.isStrOf es (strOf z)).isSome) _
      rw [e1]
      rw [Bool.bne_false] at fin
      exact ⟨.bl _, H, I.tok _, rfl, fin⟩
    | true =>
      refine wpAny_notIn_of (PySem.strKind_is X.prog X.w (strOf z) t) KD.low (PySem.W.mapOf_K (prog := X.prog) I.kIn KD.at_ KD.lit) ?_
      show EP X pins σ Q (.bool (!(findBy Value.isStrOf es (strOf z)).isSome)) _
      rw [e1]
      rw [Bool.bne_true] at fin
      exact ⟨.bl _, H, I.tok _, rfl, fin⟩
  · cases e
theorem ok_ixT (D : KT X.K X.w a tb) : IxR X (fun x y H Q => x = .ref a ∧ rN X.K (pn1 (ixT tb)) [y] H Q) := by
  intro value slice pins s σ H x y v u Q I rv ru h hs
  obtain ⟨ey, h⟩ := h
  subst ey
  obtain ⟨es, n, KD, hf⟩ := D.ex
  obtain ⟨B, io, R, dx, d, R', rep, rx, e, q⟩ := rN1 h
  unfold ixT at e
  split at e
  · rename_i z
    obtain ⟨i, ei, e2⟩ := Option.map_eq_some_iff.mp e
    cases e2
    cases rx
    obtain ⟨t, rfl⟩ := ru
    obtain rfl : v = Value.ref a := rv
    obtain ⟨u0, e3, r3⟩ := relO_some (hf z) (by rw [ei]; rfl)
    have hm := PySem.W.mapOf_K (prog := X.prog) (w := X.w) I.kIn KD.at_ KD.lit
    exact tail_any hm.typeIs PySem.F.slot_dict_getitem.lookup (wpAny_getItem_of (strKind_is X.prog X.w (strOf z) t) hm e3 ⟨_, H, I.tok _, r3, q io H _ (Step.refl _ _) rep (.int _)⟩) hs
  · cases e
theorem ok_getT (D : KT X.K X.w a tb) : MtR X "dict.get" (fun x xs H Q => x = .ref a ∧ rN X.K (getT tb) xs H Q) := by
  intro pins s σ H x xs v us Q I rx rv h
  obtain ⟨ey, B, io, R, ds, rep, rd, q⟩ := h
  subst ey
  obtain ⟨es, n, KD, hf⟩ := D.ex
  have hm := PySem.W.mapOf_K (prog := X.prog) (w := X.w) I.kIn KD.at_ KD.lit
  obtain rfl : v = Value.ref a := rx
  cases rd with
  | nil => exact q.elim
  | cons r1 rd =>
    cases rd with
    | nil =>
      cases r1 with
      | str z =>
        cases rv with
        | cons ru t =>
          cases t
          obtain ⟨t, rfl⟩ := ru
          refine call_meetsIn PySem.F.slot_dict_get hm.typeIs PySem.F.entry_dict_get (PySem.F.args_dict_get_2 _ _) (meets_dict_get (strKind X.prog X.w) a (strKind_is X.prog X.w (strOf z) t) KD.low) ⟨_, hm, ?_⟩
          have q : ∀ io' H' v, Step io H io' H' → Rep X.K B io' R H' → RD X.K (bars B io') io' H' (optI (lookT tb z)) v → Q v H' := q
          have hz := hf z
          cases el : lookT tb z with
          | none =>
            rw [el] at q hz
            cases ef : findBy Value.isStrOf es (strOf z) with
            | none => exact ⟨.non, H, I.tok _, rfl, q io H _ (Step.refl _ _) rep .non⟩
            | some u => rw [ef] at hz; exact hz.elim
          | some i =>
            rw [el] at q hz
            obtain ⟨u0, e3, r3⟩ := relO_some hz rfl
            rw [e3]
            exact ⟨.int i, H, I.tok _, r3, q io H _ (Step.refl _ _) rep (.int i)⟩
      | _ => exact q.elim
    | cons r2 rd =>
      cases rd with
      | cons _ _ => cases r1 <;> exact q.elim
      | nil =>
        cases r1 with
        | str z =>
          rename_i d0 w0
          cases rv with
          | cons ru t =>
            cases t with
            | cons rz t =>
              cases t
              obtain ⟨t, rfl⟩ := ru
              refine call_meetsIn PySem.F.slot_dict_get hm.typeIs PySem.F.entry_dict_get (PySem.F.args_dict_get_3 _ _ _) (meets_dict_get_default (strKind X.prog X.w) a (strKind_is X.prog X.w (strOf z) t) KD.low _) ⟨_, hm, ?_⟩
              have q : ∀ io' H' v, Step io H io' H' → Rep X.K B io' R H' → RD X.K (bars B io') io' H' (match lookT tb z with
                | some i => .int i
                | none => d0) v → Q v H' := q
              have hz := hf z
              cases el : lookT tb z with
              | none =>
                rw [el] at q hz
                cases ef : findBy Value.isStrOf es (strOf z) with
                | none => exact ⟨_, H, I.tok _, rz, q io H _ (Step.refl _ _) rep r2⟩
                | some u => rw [ef] at hz; exact hz.elim
              | some i =>
                rw [el] at q hz
                obtain ⟨u0, e3, r3⟩ := relO_some hz rfl
                rw [e3]
                exact ⟨.int i, H, I.tok _, r3, q io H _ (Step.refl _ _) rep (.int i)⟩
        | _ => exact q.elim
end
section
variable {X : Cx} {W : WX} {b c e : Expr} {es : List Expr} {ma mb : SE} {mas : SA} {pos : Pos} {a : Addr} {tb : Tb}
/-- one operand, the other is known -/
theorem op1_core {K : PySem.W.Frag} {σ : S} {H : Hp} {p : P1} {Q : VK} (h : tE K W (cOp1 p ma) σ H Q) : tE K W ma σ H fun v H1 => rN K (pn1 p) [v] H1 Q := by
  have h0 := Told.eval (vs := []) (m := ma) (F := fun ds _ R => lift (pn1 p ds R)) (Told.conv h fun _ _ => rfl)
  exact h0.imp fun v H1 t => Told.op t
theorem se_inT (D : KT X.K X.w a tb) (neg : Bool) (h1 : PE X b (tE X.K W ma)) (h2 : PE X c (tC (.ref a))) (hm : behindInMarks (if neg = true then .NotIn else .In) c = false) : PE X (.Compare b [if neg = true then .NotIn else .In] [c] pos) (tE X.K W (cOp1 (inT tb neg) ma)) :=
  (pe_cmpR (ok_inT D neg) h1 h2 hm).imp fun σ H Q h => (op1_core h).imp fun v H1 q => ⟨rfl, q⟩
theorem sb_inT (D : KT X.K X.w a tb) (neg : Bool) (h1 : PE X b (tE X.K W ma)) (h2 : PE X c (tC (.ref a))) (hm : behindInMarks (if neg = true then .NotIn else .In) c = false) : PT X (.Compare b [if neg = true then .NotIn else .In] [c] pos) (tB X.K W (bOf (cOp1 (inT tb neg) ma))) :=
  (pt_cmpR (ok_inT D neg) h1 h2 hm).imp fun σ H Q h => (op1_core (tst_of h)).imp fun v H1 q => ⟨rfl, q⟩
theorem se_ixT (D : KT X.K X.w a tb) (h1 : PE X c (tC (.ref a))) (h2 : PE X b (tE X.K W ma)) (hs : PlainIx b) : PE X (.Subscript c b pos) (tE X.K W (cOp1 (ixT tb) ma)) :=
  (pe_ix (ok_ixT D) h1 h2 hs).imp fun σ H Q h => (op1_core h).imp fun v H1 q => ⟨rfl, q⟩
theorem tyT (D : KT X.K X.w a tb) {H : Hp} : TyS X "dict" (.ref a) H := fun pins σ s v I rv => by
  obtain ⟨es, n, KD, hf⟩ := D.ex
  obtain rfl : v = Value.ref a := rv
  refine ⟨kd_type KD I, fun b e => ?_⟩
  cases e
  exact ⟨_, I.kIn _ _ KD.at_, rfl⟩
theorem se_getT {apos cpos : Pos} (D : KT X.K X.w a tb) (h1 : PE X c (tC (.ref a))) (h2 : PA X (e :: es) (tA X.K W mas))
    (hbase : attributeBase c "get" X.env (eval c X.env) = eval c X.env)
    (hfew : ((backTo cpos (starEach (e :: es) X.env)).all (fun x => !x.1) && (backToKw cpos (keywordEach [] X.env)).all (fun x => x.1.isSome)
      && decide ((e :: es).length + ([] : List Keyword).length + (if ([] : List Keyword).isEmpty then 0 else 1) < 30)) = true)
    (hline : (apos.endLine == cpos.line) = true) (hs : starEach (e :: es) X.env = (false, eval e X.env) :: starEach es X.env) (hplain : (backTo cpos (starEach es X.env)).any (·.1) = false) :
    PE X (.Call (.Attribute c "get" apos) (e :: es) [] cpos) (tE X.K W (cOpN (getT tb) mas)) :=
  (pe_bmS PySem.F.plainAttrs_dict PySem.F.slot_dict_get PySem.F.type_dict_get (ok_getT D) h1 h2 hbase hfew hline hs hplain).imp fun σ H Q h => ⟨tyT D, Told.imp (cb_core h) fun us H1 q => ⟨rfl, q⟩⟩
end
end Om
/-! Om, part Fh: bytes.fromhex. -/
namespace Om
open PySem PySem.Spec PyProof.Rows L2 RZ
def HEXS : List Nat := [48, 49, 50, 51, 52, 53, 54, 55, 56, 57, 97, 98, 99, 100, 101, 102]
def hv (c : Nat) : Nat := if c ≤ 57 then c - 48 else c - 87
def hexB : List Nat → List UInt8
  | c :: d :: r => (hv c * 16 + hv d).toUInt8 :: hexB r
  | _ => []
structure FhOk (F : Nat → Nat → List Nat → Array UInt8 → Except Nat (Array UInt8)) : Prop where
  zero : ∀ i l o, F 0 i l o = .ok o
  nil : ∀ n i o, F (n + 1) i [] o = .ok o
  two : ∀ c d, c ∈ HEXS → d ∈ HEXS → ∀ n i r o, F (n + 1) i (c :: d :: r) o = F n (i + 2) r (o.push (hv c * 16 + hv d).toUInt8)
theorem fh_ex : ∃ F, (∀ {M : Model} {A : Around} {E : Value → Shared → Prop} {s : Shared} {P : Fin → Shared → Prop} {z : Str} {u : Tok} {b : Array UInt8}, b.size ≤ sizeLine → z.cps.findIdx? (· ≥ 128) = none → F z.cps.size 0 z.cps.toList #[] = .ok b →
    P (.done (.ret (.bytes b s.toks))) { s with toks := s.toks + 1 } → wpAny M A (Builtin.«bytes.fromhex» ⟨[.type "bytes", .str z u], []⟩) P E s) ∧ FhOk F := by
  apply Exists.intro
  constructor
  · intro M A E s P z u b hz h1 h2 h3
    unfold Builtin.«bytes.fromhex» Builtin.Bytes.fromhexM
    refine wpAny_bind (wpAny_of_eq (a := "bytes") (by first | rfl | kernel_rfl) ?_)
    refine PySem.W.KFB.if_not rfl ?_
    refine wpAny_bind (wpAny_of_eq (a := some z) (by first | rfl | kernel_rfl) ?_)
    dsimp only
    rw [h1]
    dsimp only
    split
    · rename_i i he
      exact absurd (h2.symm.trans he) (by simp)
    · rename_i b' he
      have eb : b = b' := Except.ok.inj (h2.symm.trans he)
      subst eb
      rw [if_pos (by decide)]
      refine wpAny_bind ?_
      show wpAny M A (mkBytes b) _ E s
      exact wpAny_mkBytes (hb := hz) (wpAny_pure h3)
  · refine ⟨fun i l o => rfl, fun n i o => rfl, fun c d hc hd n i r o => ?_⟩
    simp only [HEXS, List.mem_cons, List.not_mem_nil, or_false] at hc hd
    rcases hc with rfl | rfl | rfl | rfl | rfl | rfl | rfl | rfl | rfl | rfl | rfl | rfl | rfl | rfl | rfl | rfl <;> rcases hd with rfl | rfl | rfl | rfl | rfl | rfl | rfl | rfl | rfl | rfl | rfl | rfl | rfl | rfl | rfl | rfl <;> rfl
def hexOk : List Nat → Bool
  | [] => true
  | c :: d :: r => decide (c ∈ HEXS) && decide (d ∈ HEXS) && hexOk r
  | _ => false
theorem fh_run {F : Nat → Nat → List Nat → Array UInt8 → Except Nat (Array UInt8)} (hF : FhOk F) : ∀ (t : List Nat) (n i : Nat) (o : Array UInt8), hexOk t = true → t.length ≤ n → F n i t o = .ok (o ++ (hexB t).toArray)
  | [], 0, i, o, _, _ => by rw [hF.zero]; simp [hexB]
  | [], n + 1, i, o, _, _ => by rw [hF.nil]; simp [hexB]
  | [c], n, i, o, h, _ => by cases h
  | c :: d :: r, 0, i, o, _, hn => by simp at hn
  | c :: d :: r, n + 1, i, o, h, hn => by
    have h' : (c ∈ HEXS ∧ d ∈ HEXS) ∧ hexOk r = true := by simpa [hexOk] using h
    rw [hF.two c d h'.1.1 h'.1.2, fh_run hF r n (i + 2) _ h'.2 (by simp at hn; omega)]
    simp [hexB]
theorem hexB_len : ∀ t : List Nat, (hexB t).length ≤ t.length
  | [] => by simp [hexB]
  | [c] => by simp [hexB]
  | c :: d :: r => by
    have := hexB_len r
    simp [hexB]
    omega
theorem hex_low : ∀ {t : List Nat}, hexOk t = true → ∀ c ∈ t, c < 128
  | [], _, c, h => by cases h
  | [c], h, _, _ => by cases h
  | c :: d :: r, h, x, hx => by
    have h' : (c ∈ HEXS ∧ d ∈ HEXS) ∧ hexOk r = true := by simpa [hexOk] using h
    have lo : ∀ y, y ∈ HEXS → y < 128 := by decide
    rcases List.mem_cons.mp hx with e | hx
    · rw [e]; exact lo c h'.1.1
    · rcases List.mem_cons.mp hx with e | hx
      · rw [e]; exact lo d h'.1.2
      · exact hex_low h'.2 x hx
/-- the built-in method, bound to bytes -/
def fhBound : Obj := { cls := .type "builtin_function_or_method", data := .fields #[.builtin "bytes.fromhex", .type "bytes"] }
theorem type_fh : typeOf (.builtin "bytes.fromhex") = pure (.type "classmethod_descriptor") := by show builtinType _ = _; rw [builtinType_eq_fast]; kernel_rfl
theorem entry_fh : entryFor table "bytes.fromhex" = some Builtin.«bytes.fromhex» := entryFor_of_tree (by kernel_rfl)
theorem quiet_fh {as : Args} : (Code.builtin "bytes.fromhex" as).quiet = true := Code.quiet_builtin _ (by decide +kernel)
theorem type_bytes : isType (.type "bytes") = pure true := by first | rfl | kernel_rfl | (unfold isType; rw [isSubtype_type]; kernel_rfl)
theorem owner_fh : (kfb_private% "ownerAndName") "bytes.fromhex" = ("bytes", "fromhex") := by first | decide +kernel | kernel_rfl
theorem find_fh (K : PySem.W.Frag) : PySem.W.findCls K (.type "bytes") (.type "type") (PySem.Str.ofString "fromhex") = some (.get (.builtin "classmethod_descriptor.__get__") (.builtin "bytes.fromhex") .none (.type "bytes")) := by first | rfl | kernel_rfl
theorem sub_bytes : isSubtype (.type "bytes") (.type "bytes") = pure true := by first | rfl | (rw [isSubtype_type]; kernel_rfl)
theorem check_fh {z : Str} {u : Tok} : checkBoundCall "bytes.fromhex" ⟨[.type "bytes", .str z u], []⟩ = pure () := by first | kernel_rfl | rfl
section
variable {prog : Program} {w : World} {M : Model} {A : Around} {E : Value → Shared → Prop} {s : Shared} {K : PySem.W.Frag}
theorem run_getFh {P : PySem.Fin → Shared → Prop} (h : P (.done (.ret (.ref s.heap.objs.size))) { s with heap := s.heap.push fhBound }) :
    wpAny M A (Builtin.«classmethod_descriptor.__get__» ⟨[.builtin "bytes.fromhex", .none, .type "bytes"], []⟩) P E s := by
  unfold Builtin.«classmethod_descriptor.__get__»
  refine wpAny_bind (wpAny_of_eq (a := (.builtin "bytes.fromhex", none, some (.type "bytes"))) (by first | rfl | kernel_rfl) ?_)
  simp only [owner_fh]
  refine wpAny_bind (wpAny_of_eq (a := .type "bytes") rfl ?_)
  refine wpAny_bind (wpAny_of_eq (a := true) type_bytes ?_)
  refine PySem.W.KFB.if_not rfl ?_
  refine wpAny_bind (wpAny_of_eq (a := true) sub_bytes ?_)
  refine PySem.W.KFB.if_not rfl ?_
  exact wpAny_bind (wpAny_newObj_type (wpAny_pure h))
theorem fh_get {pl : Sem Bool} {Q : Value × List Value → Shared → Prop} (X : K.In s.heap)
    (h : Q (.ref s.heap.objs.size, []) { s with heap := s.heap.push fhBound, toks := s.toks + 1 }) : wpAny (model prog w) A (getMethod (.type "bytes") (PySem.Str.ofString "fromhex") pl) Q E s := by
  have hstub : opaqueClassAbove (.type "bytes") = pure none := by unfold opaqueClassAbove; dsimp only; rw [show Manifest.isStub "bytes" = false by decide +kernel]; rfl
  have ht : typeOf (.type "bytes") = pure (.type "type") := by first | rfl | kernel_rfl
  have L0 : PySem.W.Looks (model prog w) s.heap (typeOf (.type "bytes")) (.type "type") := PySem.W.Looks.of_pure ht
  have hg : PySem.W.findIn K (.type "type") "__getattribute__" = some (some (.builtin "type.__getattribute__")) := PySem.W.type_tga
  unfold getMethod specialOf
  refine wpAny_bind (wpAny_bind (L0.here ((PySem.W.looks_findIn X hg).here ?_)))
  dsimp only
  rw [if_pos PySem.W.canon_tga]
  refine wpAny_bind (wpAny_mono (Q := fun v => Q (v, [])) (E := E) ?_ (fun _ _ z => wpAny_pure z) fun _ _ z => z)
  have LO : PySem.W.Looks (model prog w) s.heap (opaqueClassAbove (.type "bytes")) none := PySem.W.Looks.of_pure hstub
  refine PySem.W.cls_open X LO L0 hg (PySem.W.looks_hook X (r := none) (by rfl)) (by show PySem.W.subIn K _ _ = _; rfl) (find_fh K) ?_
  show wpAny _ _ (holding [.builtin "bytes.fromhex"] (call (.builtin "classmethod_descriptor.__get__") [.builtin "bytes.fromhex", .none, .type "bytes"]) >>= fun v => ret v) _ _ _
  exact wpAny_bind (wpAny_holding (wpAny_call_entry PySem.W.KFB.slot_get type_fh PySem.W.KFB.entry_get (run_getFh ⟨_, rfl, wpAny_pure (wpAny_pure h)⟩) (PySem.W.KFB.args_get _ _ _)))
theorem fh_fields {pos : Pos} {u : Addr} {first : List Value} {args : List (Bool × Sem Value)} {Q : Value → Shared → Prop} (hplain : args.any (·.1) = false)
    (h : wpAny M A (evalArgs (.ref u) true args []) (fun x s₁ => s₁.heap.get? u = some fhBound ∧ wpAny M A (call (.ref u) (first ++ x.pos) x.kw) Q E s₁) E s) : wpAny M A (callWith pos (.ref u) first args []) Q E s := by
  unfold callWith
  refine wpAny_bind (wpAny_holding (wpAny_mono h (fun x s₁ h₁ => wpAny_bind (wpAny_standAt ?_)) fun _ _ x => x))
  obtain ⟨ho, hcall⟩ := h₁
  simp only [hplain, List.any_nil, Bool.or_false]
  refine wpAny_bind (m := keeperOf (.ref u)) ?_
  unfold keeperOf
  refine wpAny_bind (wpAny_load ho ?_)
  simp only [fhBound, show (Value.type "builtin_function_or_method" != Value.type "method") = true by decide, show (Value.type "builtin_function_or_method" == Value.type "builtin_function_or_method" || Value.type "builtin_function_or_method" == Value.type "method-wrapper") = true by decide, if_true]
  refine wpAny_pure ?_
  exact wpAny_bind (wpAny_mono hcall (fun r s₂ hr => wpAny_bind (wpAny_holding (wpAny_point (wpAny_pure hr)))) fun _ _ x => x)
theorem callWith_fh {pos : Pos} {u : Addr} {first : List Value} {env : Env} {e : Expr} {rest : List Expr} {Q : Value → Shared → Prop}
    (h : wpAny M A (spliced (backTo pos (starEach (e :: rest) env))) (fun vs s₁ => s₁.heap.get? u = some fhBound ∧ wpAny M A (call (.ref u) (first ++ vs)) Q E s₁) E s)
    (he : starEach (e :: rest) env = (false, eval e env) :: starEach rest env) (hplain : (backTo pos (starEach rest env)).any (·.1) = false) :
    wpAny M A (callWith pos (.ref u) first (backTo pos (starEach (e :: rest) env)) []) Q E s := by
  rw [he] at h ⊢
  refine fh_fields (by show (false || (backTo pos (starEach rest env)).any (·.1)) = false; rw [hplain]; rfl) ?_
  exact Calls.evalArgs_plain h
theorem call_fh {x : Addr} {t : List Nat} {u : Tok} {Q : Value → Shared → Prop} (ho : s.heap.get? x = some fhBound) (hx : hexOk t = true) (hl : t.length ≤ sizeLine) (h : Q (.bytes (hexB t).toArray s.toks) { s with toks := s.toks + 1 }) :
    wpAny (model prog w) A (call (.ref x) [.str (strOf t) u]) Q E s := by
  obtain ⟨F, hr, hF⟩ := fh_ex
  refine wpAny_call (codeAny_of_tree ?_)
  show wpAny _ A.in1 (callAny (.ref x) ⟨[.str (strOf t) u], []⟩) _ _ s
  simp only [callAny]
  refine wpAny_bind (wpAny_load ho ?_)
  simp only [fhBound, show (Value.type "builtin_function_or_method" == Value.type "method" || Value.type "builtin_function_or_method" == Value.type "builtin_function_or_method" || Value.type "builtin_function_or_method" == Value.type "method-wrapper") = true by decide, if_true]
  refine PySem.W.KFB.if_so (by decide) ?_
  refine wpAny_bind (wpAny_of_eq (a := ()) check_fh ?_)
  refine wpAny_bind (wpAny_pure (wpAny_pure ?_))
  refine ⟨quiet_fh, codeAny_builtin entry_fh (hr (b := (hexB t).toArray) ?_ ?_ ?_ h)⟩
  · have := hexB_len t
    rw [List.size_toArray]
    omega
  · rw [Array.findIdx?_eq_none_iff]
    intro c hc
    have : c ∈ t := by simpa [strOf] using hc
    have := hex_low hx c this
    simp
    omega
  · have := fh_run hF t t.length 0 #[] hx (Nat.le_refl _)
    rw [Array.empty_append] at this
    exact this
end
def fhHO (u : Addr) : HO := .ext fun h => h.get? u = some fhBound
theorem fh_at {X : Cx} {pins : List (Addr × Obj)} {s : Shared} {σ : S} {H : Hp} {u : Addr} (I : Inv X pins σ H s) (hu : H u = some (fhHO u)) : s.heap.get? u = some fhBound := by
  have x : ObjOk X.prog X.w H s.heap u (.ext fun h => h.get? u = some fhBound) := I.hok u _ hu
  exact x.1
def tFh (to : TE) (t : TA) : TE := fun σ H Q => to σ H fun x H1 => x = .ty "bytes" ∧ ∀ u, H1 u = none → t σ (upd H1 u (fhHO u)) fun vs H2 => H2 u = some (fhHO u) ∧ ∃ z : List Nat, vs = [.str (strOf z)] ∧ hexOk z = true ∧ z.length ≤ sizeLine ∧ Q (.byt (hexB z).toArray) H2
section
variable {X : Cx} {W : WX} {o e : Expr} {es : List Expr} {to : TE} {t : TA} {apos pos : Pos}
theorem pe_fh {pl : Sem Bool} (ho : PE X o to) (ha : PA X (e :: es) t) (hst : starEach (e :: es) X.env = (false, eval e X.env) :: starEach es X.env) (hpl : (backTo pos (starEach es X.env)).any (·.1) = false)
    (ht : eval (.Call (.Attribute o "fromhex" apos) (e :: es) [] pos) X.env = (do
      let ov ← eval o X.env
      standAt apos.atName
      let (f, first) ← holding [ov] (getMethod ov "fromhex" pl)
      callWith pos f first (backTo pos (starEach (e :: es) X.env)) (backToKw pos (keywordEach [] X.env)))) :
    PE X (.Call (.Attribute o "fromhex" apos) (e :: es) [] pos) (tFh to t) := by
  refine ⟨fun pins s σ H Q I h => ?_⟩
  refine PySem.W.methodCall_KW (pl := pl) (thn (ho.run pins s σ H _ I h) fun v s1 ⟨x, H1, I1, rx, ex, q⟩ => ?_) ht
  subst ex
  obtain rfl : v = Value.type "bytes" := rx
  refine fh_get I1.kIn ?_
  have eb : (s1.heap.push fhBound).get? s1.heap.objs.size = some fhBound := Heap.get?_push_size _ rfl
  have I2 := I1.laid (t' := s1.toks + 1) (a := s1.heap.objs.size) (o := fhHO s1.heap.objs.size) (h' := s1.heap.push fhBound) (fun b u q => Heap.get?_push_of_some _ q) (Nat.le_refl _) ⟨eb, ⟨_, eb⟩, fun h1 h2 f k => k _ f⟩
  show wpAny _ _ (callWith pos (.ref s1.heap.objs.size) [] (backTo pos (starEach (e :: es) X.env)) []) _ _ _
  refine callWith_fh (thn (ha.run pos pins _ σ _ _ I2 (q _ (I1.hok.fresh (Nat.le_refl _)))) fun us s2 ⟨vs, H2, I3, rv, hu, hr⟩ => ⟨fh_at I3 hu, ?_⟩) hst hpl
  obtain ⟨z, ev, hz, hl, k⟩ := hr
  subst ev
  obtain ⟨u1, rfl, ru1⟩ := vals1 rv
  obtain ⟨t1, rfl⟩ := ru1
  exact call_fh (fh_at I3 hu) hz hl ⟨.byt (hexB z).toArray, H2, I3.tok _, ⟨_, rfl⟩, k⟩
/-! ### as a part of the evaluator -/
def fhD : PN := pn1 fun x R => match x with
  | .str z => if hexOk z = true ∧ z.length ≤ LINE then some (.byt (hexB z), R) else none
  | _ => none
theorem fhD_inv {es : List D} {R R3 : Rg} {d : D} (h : fhD es R = some (d, R3)) : ∃ z : List Nat, es = [.str z] ∧ hexOk z = true ∧ z.length ≤ LINE ∧ d = .byt (hexB z) ∧ R3 = R := by
  unfold fhD pn1 at h
  split at h
  · rename_i x
    dsimp only at h
    split at h
    · rename_i z
      split at h
      · rename_i hz
        cases h
        exact ⟨z, rfl, hz.1, hz.2, rfl, rfl⟩
      · cases h
    · cases h
  · cases h
def isBy : D → Bool
  | .ty T => decide (T = "bytes")
  | _ => false
def eFh (a : SE) (as : SA) : SE := fun s R => (a s R).bind fun x R1 => if isBy x = true then (as s R1).bind fun ds R2 => lift (fhD ds R2) else .err
theorem fh_core {ma : SE} {mas : SA} {σ : S} {H : Hp} {Q : VK} (h : tE X.K W (eFh ma mas) σ H Q) : tFh (tE X.K W ma) (tA X.K W mas) σ H Q := by
  have h0 := Told.eval (vs := []) (m := ma) (F := fun ds s R => match ds with
    | [x] => if isBy x = true then (mas s R).bind fun es R2 => lift (fhD es R2) else .err
    | _ => .err) (rel := RD X.K) (Q := Q) (Told.conv h fun _ _ => rfl)
  refine h0.imp fun v H1 ⟨B, io, R, s, ds, rep, rs, rd, t0⟩ => ?_
  obtain ⟨d, ds, rfl, r, rd⟩ := RDs.cons_inv rd
  cases rd.nil_inv
  have t : Pst X.K B io H1 W σ (RD X.K) (if isBy d = true then (mas s R).bind fun es R2 => lift (fhD es R2) else .err) Q := t0
  clear t0
  split at t
  · rename_i hT
    cases r with
    | ty T =>
      have hT : T = "bytes" := of_decide_eq_true hT
      subst hT
      refine ⟨rfl, fun u hu => ?_⟩
      have st : Step io H1 io (upd H1 u (fhHO u)) := Step.add hu
      refine ⟨B, io, R, s, [], rep.add hu, rs.car (st.car rep), .nil, ?_⟩
      have hnr : ¬ ran io u := fun z => by
        obtain ⟨ob, hb⟩ := rep.has z
        rw [hu] at hb
        cases hb
      show Pst X.K B io (upd H1 u (fhHO u)) W σ (RDs X.K) (mas s R) _
      cases e : mas s R with
      | err => rw [e] at t; exact t.elim
      | exc c x R2 =>
        rw [e] at t
        exact fun io' H' cls dx st' rep' rx => t io' H' cls dx (st.trans st') rep' rx
      | ok es R2 =>
        rw [e] at t
        have t : Pst X.K B io H1 W σ (RD X.K) (lift (fhD es R2)) Q := t
        intro io' H' vs st' rep' rds
        cases ef : fhD es R2 with
        | none => rw [ef] at t; exact t.elim
        | some w =>
          obtain ⟨dd, R3⟩ := w
          refine ⟨st'.fr u _ upd_same hnr, ?_⟩
          obtain ⟨z, e1, e2, e3, e4, e5⟩ := fhD_inv ef
          subst e1 e4 e5
          cases rds with
          | cons rx rs0 =>
            cases rs0
            cases rx
            have t : Pst X.K B io H1 W σ (RD X.K) (lift (fhD [.str z] R3)) Q := t
            rw [ef] at t
            exact ⟨z, rfl, e2, e3, t io' H' _ (st.trans st') rep' (.byt _)⟩
    | _ => cases hT
  · exact t.elim
end
end Om
/-! Om, part Vg: bytes, extend, tuples of the module. -/
namespace Om
open PySem PySem.Spec PyProof.Rows L2 RZ
def okB (ns : List Int) : Bool := ns.all fun n => decide (0 ≤ n ∧ n < 256)
def bytL (ns : List Int) : List UInt8 := ns.map fun n => n.toNat.toUInt8
/-- bytes(x) -/
def bytesD : PN := pn1 fun x R => match x with
  | .byt b => some (.byt b, R)
  | x => match (lstOf R x).bind intsOf with
    | some ns => if okB ns = true then some (.byt (bytL ns), R) else none
    | none => none
/-- list(x) -/
def listX (m : Bool) : PN := pn1 fun x R => match x with
  | .byt b => if b.length ≤ LINE then mkL m (b.map fun c => .int ((c.toNat : Nat) : Int)) R else none
  | x => listD m [x] R
def hexL (b : List UInt8) : List Nat := (PySem.W.KBhx.text (b.map fun c => ((c.toNat : Nat) : Int))).cps.toList
/-- b.hex() -/
def hexM : PM := fun x ds R => match x, ds with
  | .byt b, [] => if b.length ≤ 8388608 then some (.str (hexL b), R) else none
  | _, _ => none
/-- list.extend: two lists that may be changed -/
def extendD : PM := fun x ds R => match x, ds with
  | .ref i, [.ref j] => (match R[i]?, R[j]? with
    | some (.lst xs), some (.lst ys) => if xs.length + ys.length ≤ LINE then some (.non, R.set i (.lst (xs ++ ys))) else none
    | _, _ => none)
  | _, _ => none
section
variable {X : Cx}
theorem rds_bytes {K : PySem.W.Frag} {bar : Addr → Prop} {io : Io} {H : Hp} : ∀ b : List UInt8, RDs K bar io H (b.map fun c => .int ((c.toNat : Nat) : Int)) ((b.map fun c => ((c.toNat : Nat) : Int)).map V.int)
  | [] => .nil
  | c :: b => .cons (.int _) (rds_bytes b)
theorem ok_bytes (hc : X.calm = true) : CallR X (.type "bytes") (rN X.K bytesD) := by
  intro pins s σ H xs us Q I r h
  obtain ⟨x, rfl⟩ := rN_1 h
  obtain ⟨B, io, R, dx, d, R', rep, rx, e, q⟩ := rN1 h
  obtain ⟨u, rfl, ru⟩ := vals1 r
  split at e
  · cases e
    cases rx
    exact rl_bytes hc pins s σ H _ u Q I ru (.inl ⟨_, rfl, q io H _ (Step.refl _ _) rep (.byt _)⟩)
  · split at e
    · rename_i ns en
      split at e
      · rename_i hb
        cases e
        obtain ⟨zs, e1, e2⟩ := Option.bind_eq_some_iff.mp en
        obtain ⟨a, vs, rfl, hS, rd⟩ := rx.list rep e1
        have ev := ints_rd rd e2
        subst ev
        refine rl_bytes hc pins s σ H _ u Q I ru (.inr ⟨a, ns, rfl, hS, fun n hn => of_decide_eq_true (List.all_eq_true.mp hb n hn), ?_⟩)
        exact q io H _ (Step.refl _ _) rep (.byt (bytL ns))
      · cases e
    · cases e
theorem ok_listX (hc : X.calm = true) (m : Bool) : CallR X (.type "list") (rN X.K (listX m)) := by
  intro pins s σ H xs us Q I r h
  obtain ⟨x, rfl⟩ := rN_1 h
  obtain ⟨B, io, R, dx, d, R', rep, rx, e, q⟩ := rN1 h
  split at e
  · rename_i b
    split at e
    · rename_i hl
      cases rx
      obtain ⟨u, rfl, ru⟩ := vals1 r
      refine rl_listB hc pins s σ H _ u Q I ru ⟨_, rfl, by rw [List.size_toArray]; exact hl, fun p hp => ?_⟩
      obtain ⟨io', st, rep', r'⟩ := mkL_ok rep hp (rds_bytes b) e
      exact q io' _ _ st rep' r'
    · cases e
  · refine ok_list hc m pins s σ H _ us Q I r ⟨B, io, R, [dx], rep, .cons rx .nil, ?_⟩
    rw [e]
    exact q
theorem om_hex : MtR X "bytes.hex" (fun x xs H Q => rN X.K (pnM hexM) (x :: xs) H Q) := by
  intro pins s σ H x xs v us Q I rx rv h
  obtain ⟨B, io, R, dx, ds, d, R', rep, r, rd, e, q⟩ := rNMv h
  unfold hexM at e
  split at e
  · rename_i b
    split at e
    · rename_i hl
      cases e
      cases r
      cases rd
      cases rv
      obtain ⟨t, rfl⟩ := rx
      refine PySem.W.KBhx.hex_K (ks := b.map fun c => ((c.toNat : Nat) : Int)) ?_ (by rw [List.length_map]; exact hl) fun t' k _ => ?_
      · show b.toArray.toList.map _ = _
        rfl
      · refine ⟨.str (strOf (hexL b)), H, I.tok _, ⟨t', ?_⟩, q io H _ (Step.refl _ _) rep (.str _)⟩
        unfold strOf hexL
        rw [Array.toArray_toList]
    · cases e
  · cases e
theorem om_extend : MtR X "list.extend" (fun x xs H Q => rN X.K (pnM extendD) (x :: xs) H Q) := by
  intro pins s σ H x xs v us Q I rx rv h
  obtain ⟨B, io, R, dx, ds, d, R', rep, r, rd, e, q⟩ := rNMv h
  unfold extendD at e
  split at e
  · rename_i i j
    cases r with
    | @ref i a hi hq =>
      cases rd with
      | cons ry t =>
        cases t
        cases ry with
        | @ref j b hj hq2 =>
          split at e
          · rename_i e1 e2
            split at e
            · rename_i hl
              cases e
              obtain ⟨p, vs, h1, h2, r1⟩ := rep.atLst e1
              obtain ⟨p2, vs2, g1, g2, r2⟩ := rep.atLst e2
              have ep := hq p h1
              subst ep
              have ep2 := hq2 p2 g1
              subst ep2
              have st : Step io H io (upd H p (.lst (vs ++ vs2))) := Step.mut h1 (nofz h2 (fun _ _ z => by cases z))
              have rep' := rep.mut h1 (nofz h2 (fun _ _ z => by cases z)) (o := .lst (_ ++ _)) ⟨p, _, h1, upd_same, (r1.append r2).car (st.car rep)⟩
              exact mt_extend pins s σ H _ _ v us Q I rx rv ⟨p, p2, vs, vs2, rfl, rfl, h2, g2, by rw [← r1.len, ← r2.len]; exact hl, q io _ _ st rep' .non⟩
            · cases e
          · cases e
  · cases e
end
/-! ### tuples of the module -/
def strV : Value → Option (List Nat)
  | .str x _ => some x.cps.toList
  | _ => none
def tupB (K : PySem.W.Frag) (a : Addr) (ts : List (List Nat)) : Bool := match K.lookup a with
  | some ⟨.type c, none, .seq its _, _⟩ => decide (c = "tuple") && (decide (its.size ≤ 1000) && decide (its.toList.map strV = ts.map some))
  | _ => false
structure KTup (K : PySem.W.Frag) (a : Addr) (ts : List (List Nat)) : Prop where
  at_ : ∃ (o : Obj) (its : Array Value) (n : Nat), K.lookup a = some o ∧ o.cls = .type "tuple" ∧ o.data = .seq its n ∧ its.size ≤ sizeLine ∧ Vals ((ts.map strOf).map V.str) its.toList
  kin : ∃ o, K.lookup a = some o ∧ o.cls = .type "tuple" ∧ o.dict = none
theorem vals_strs : ∀ {its : List Value} {ts : List (List Nat)}, its.map strV = ts.map some → Vals ((ts.map strOf).map V.str) its
  | [], [], _ => .nil
  | [], _ :: _, h => by cases h
  | _ :: _, [], h => by cases h
  | v :: its, t :: ts, h => by
    rw [List.map_cons, List.map_cons] at h
    injection h with h1 h2
    refine .cons ?_ (vals_strs h2)
    cases v with
    | str x u =>
      have e : x.cps.toList = t := Option.some.inj h1
      refine ⟨u, ?_⟩
      rw [← e]
      unfold strOf
      rw [Array.toArray_toList]
    | _ => cases h1
theorem tupB_ok {K : PySem.W.Frag} {a : Addr} {ts : List (List Nat)} (h : tupB K a ts = true) : KTup K a ts := by
  unfold tupB at h
  split at h
  · rename_i c its n sl e
    rw [Bool.and_eq_true, Bool.and_eq_true] at h
    obtain ⟨h1, h2, h3⟩ := h
    have h1 := of_decide_eq_true h1
    have h2 := of_decide_eq_true h2
    have h3 := of_decide_eq_true h3
    subst h1
    exact ⟨⟨_, its, n, e, rfl, rfl, Nat.le_trans h2 (by decide), vals_strs h3⟩, _, e, rfl, rfl⟩
  · cases h
theorem KTup.sq {K : PySem.W.Frag} {a : Addr} {ts : List (List Nat)} (h : KTup K a ts) (H : Hp) : SqT K H a ((ts.map strOf).map V.str) := .inr h.at_
theorem KTup.rd {K : PySem.W.Frag} {a : Addr} {ts : List (List Nat)} (h : KTup K a ts) (bar : Addr → Prop) (io : Io) (H : Hp) : RD K bar io H (.tup (ts.map .str)) (.ref a) := .tup (h.sq H) (rds_strs ts)
/-- T.index(x), T a tuple of the module -/
def idxZ : List (List Nat) → List Nat → Option Nat
  | [], _ => none
  | t :: ts, z => if t = z then some 0 else (idxZ ts z).map (· + 1)
theorem idxZ_ok : ∀ {ts : List (List Nat)} {z : List Nat} {j : Nat}, idxZ ts z = some j → ts[j]? = some z ∧ ∀ m, m < j → ts[m]? ≠ some z
  | [], _, _, h => by cases h
  | t :: ts, z, j, h => by
    unfold idxZ at h
    split at h
    · rename_i e
      cases h
      subst e
      exact ⟨rfl, fun m hm => absurd hm (Nat.not_lt_zero m)⟩
    · rename_i e
      obtain ⟨k, h1, h2⟩ := Option.map_eq_some_iff.mp h
      subst h2
      obtain ⟨g1, g2⟩ := idxZ_ok h1
      refine ⟨g1, fun m hm => ?_⟩
      cases m with
      | zero => intro hh; exact e (Option.some.inj hh)
      | succ m => exact g2 m (by omega)
def idxK (ts : List (List Nat)) : PN := fun ds R => match ds with
  | [.str z] => (idxZ ts z).map fun j => (.int (j : Int), R)
  | _ => none
section
variable {X : Cx} {W : WX} {o e : Expr} {es : List Expr} {mas : SA} {apos pos : Pos} {a : Addr} {ts : List (List Nat)}
theorem ok_idxK (Z : KTup X.K a ts) : MtR X "tuple.index" (fun x xs H Q => x = .ref a ∧ rN X.K (idxK ts) xs H Q) := by
  intro pins s σ H x xs v us Q I rx rv h
  obtain ⟨ey, B, io, R, ds, rep, rd, q⟩ := h
  subst ey
  cases rd with
  | nil => exact q.elim
  | cons r1 rd =>
    cases rd with
    | cons _ _ => cases r1 <;> exact q.elim
    | nil =>
      cases r1 with
      | str z =>
        have q : match (idxZ ts z).map fun j => (D.int (j : Int), R) with
          | some (d, R') => ∀ io' H' v, Step io H io' H' → Rep X.K B io' R' H' → RD X.K (bars B io') io' H' d v → Q v H'
          | none => False := q
        cases ej : idxZ ts z with
        | none => rw [ej] at q; exact q.elim
        | some j =>
          rw [ej] at q
          obtain ⟨h1, h2⟩ := idxZ_ok ej
          refine mt_tup_index pins s σ H _ _ v us Q I rx rv ⟨a, ts.map strOf, strOf z, j, rfl, rfl, Z.sq H, by rw [List.getElem?_map, h1]; rfl, fun m hm hh => ?_, q io H _ (Step.refl _ _) rep (.int _)⟩
          rw [List.getElem?_map] at hh
          obtain ⟨y, e1, e2⟩ := Option.map_eq_some_iff.mp hh
          exact h2 m hm (by rw [e1, strOf_inj e2])
      | _ => exact q.elim
theorem se_idxK (Z : KTup X.K a ts) (ho : PE X o (tC (.ref a))) (ha : PA X (e :: es) (tA X.K W mas)) (hbase : attributeBase o "index" X.env (eval o X.env) = eval o X.env)
    (hfew : ((backTo pos (starEach (e :: es) X.env)).all (fun x => !x.1) && (backToKw pos (keywordEach [] X.env)).all (fun x => x.1.isSome)
      && decide ((e :: es).length + ([] : List Keyword).length + (if ([] : List Keyword).isEmpty then 0 else 1) < 30)) = true)
    (hline : (apos.endLine == pos.line) = true) (hs : starEach (e :: es) X.env = (false, eval e X.env) :: starEach es X.env) (hplain : (backTo pos (starEach es X.env)).any (·.1) = false) :
    PE X (.Call (.Attribute o "index" apos) (e :: es) [] pos) (tE X.K W (cOpN (idxK ts) mas)) :=
  (pe_bmS F.plainAttrs_tuple F.slot_tuple_index F.type_tuple_index (ok_idxK Z) ho ha hbase hfew hline hs hplain).imp fun σ H Q h => ⟨fun pins σ s v I rv => tyV_is I rv (.inr (.inl ⟨rfl, Z.kin⟩)), Told.imp (cb_core h) fun us H1 q => ⟨rfl, q⟩⟩
end
end Om
/-! Om, part M: what is built in, by names. -/
namespace Om
open PySem PySem.Spec PyProof.Rows L2 RZ
/-! ### list methods -/
def appendD : PM := fun x ds R => match x, ds with
  | .ref i, [y] => (match R[i]? with
    | some (.lst xs) => if xs.length < LINE then some (.non, R.set i (.lst (xs ++ [y]))) else none
    | _ => none)
  | _, _ => none
def popD : PM := fun x ds R => match x, ds with
  | .ref i, [] => (match R[i]? with
    | some (.lst xs) => (xs[xs.length - 1]?).map fun y => (y, R.set i (.lst xs.dropLast))
    | _ => none)
  | .ref i, [.int k] => (match R[i]? with
    | some (.lst xs) => (ixN xs.length k).bind fun j => (xs[j]?).map fun y => (y, R.set i (.lst (xs.eraseIdx j)))
    | _ => none)
  | _, _ => none
section
variable {X : Cx}
theorem rds_at' {K : PySem.W.Frag} {bar : Addr → Prop} {io : Io} {H : Hp} {ds : List D} {vs : List V} {i : Nat} {d : D} (r : RDs K bar io H ds vs) (e : ds[i]? = some d) : ∃ v, vs[i]? = some v ∧ RD K bar io H d v := rds_at r e
theorem rds_erase {K : PySem.W.Frag} {bar : Addr → Prop} {io : Io} {H : Hp} : ∀ {ds : List D} {vs : List V} (n : Nat), RDs K bar io H ds vs → RDs K bar io H (ds.eraseIdx n) (vs.eraseIdx n)
  | _, _, _, .nil => .nil
  | _, _, 0, .cons _ t => t
  | _, _, n + 1, .cons r t => .cons r (rds_erase n t)
theorem rds_dl {K : PySem.W.Frag} {bar : Addr → Prop} {io : Io} {H : Hp} {ds : List D} {vs : List V} (r : RDs K bar io H ds vs) : RDs K bar io H ds.dropLast vs.dropLast := by
  rw [List.dropLast_eq_take, List.dropLast_eq_take, r.len]
  exact rds_take _ r
/-- the region's list at a place is changed -/
theorem lst_set {K : PySem.W.Frag} {B : Addr → Prop} {io : Io} {R : Rg} {H : Hp} {i : Nat} {p : Addr} {ds : List D} {vs : List V} (rep : Rep K B io R H) (h1 : io[i]? = some (some p)) (hf : ∀ ob u, H p ≠ some (.frz ob u)) (r : RDs K (bars B io) io H ds vs) :
    Step io H io (upd H p (.lst vs)) ∧ Rep K B io (R.set i (.lst ds)) (upd H p (.lst vs)) :=
  have st : Step io H io (upd H p (.lst vs)) := Step.mut h1 hf
  ⟨st, rep.mut h1 hf ⟨p, _, h1, upd_same, r.car (st.car rep)⟩⟩
theorem dct_set {K : PySem.W.Frag} {B : Addr → Prop} {io : Io} {R : Rg} {H : Hp} {i : Nat} {p : Addr} {ds : List (D × D)} {vs : List (Key × V)} (rep : Rep K B io R H) (h1 : io[i]? = some (some p)) (hf : ∀ ob u, H p ≠ some (.frz ob u)) (r : RKs K (bars B io) io H ds vs) :
    Step io H io (upd H p (.dK vs)) ∧ Rep K B io (R.set i (.dct ds)) (upd H p (.dK vs)) :=
  have st : Step io H io (upd H p (.dK vs)) := Step.mut h1 hf
  ⟨st, rep.mut h1 hf ⟨p, _, h1, upd_same, r.car (st.car rep)⟩⟩
theorem rNM {K : PySem.W.Frag} {p : PM} {x : V} {xs : List V} {H : Hp} {Q : VK} (h : rN K (pnM p) (x :: xs) H Q) : ∃ B io R dx ds d R', Rep K B io R H ∧ RD K (bars B io) io H dx x ∧ RDs K (bars B io) io H ds xs ∧ p dx ds R = some (d, R') ∧
    ∀ io' H' v, Step io H io' H' → Rep K B io' R' H' → RD K (bars B io') io' H' d v → Q v H' := by
  obtain ⟨B, io, R, ds, rep, rd, q⟩ := h
  obtain ⟨dx, ds, rfl, r, rd⟩ := rd.cons_inv
  have q : match p dx ds R with
    | some (d, R') => ∀ io' H' v, Step io H io' H' → Rep K B io' R' H' → RD K (bars B io') io' H' d v → Q v H'
    | none => False := q
  cases e : p dx ds R with
  | none => rw [e] at q; exact q.elim
  | some z =>
    obtain ⟨d, R'⟩ := z
    rw [e] at q
    exact ⟨B, io, R, dx, ds, d, R', rep, r, rd, e, q⟩
theorem om_append : MtR X "list.append" (fun x xs H Q => rN X.K (pnM appendD) (x :: xs) H Q) := by
  intro pins s σ H x xs v us Q I rx rv h
  obtain ⟨B, io, R, dx, ds, d, R', rep, r, rd, e, q⟩ := rNM h
  unfold appendD at e
  split at e
  · cases r with
    | @ref i a hi hq =>
      cases rd with
      | cons ry t =>
        cases t
        split at e
        · rename_i e1
          obtain ⟨p, vs, h1, h2, r⟩ := rep.atLst e1
          have ep := hq p h1
          subst ep
          split at e
          · rename_i hl
            cases e
            obtain ⟨st, rep'⟩ := lst_set rep h1 (nofz h2 (fun _ _ z => by cases z)) (r.append (.cons ry .nil))
            exact mt_append pins s σ H _ _ v us Q I rx rv ⟨p, vs, _, rfl, rfl, h2, by rw [← r.len]; exact hl, q io _ _ st rep' .non⟩
          · cases e
        · cases e
  · cases e
theorem om_pop : MtR X "list.pop" (fun x xs H Q => rN X.K (pnM popD) (x :: xs) H Q) := by
  intro pins s σ H x xs v us Q I rx rv h
  obtain ⟨B, io, R, dx, ds, d, R', rep, r, rd, e, q⟩ := rNM h
  unfold popD at e
  split at e
  · cases r with
    | @ref i a hi hq =>
      cases rd
      split at e
      · rename_i e1
        obtain ⟨p, vs, h1, h2, r⟩ := rep.atLst e1
        have ep := hq p h1
        subst ep
        obtain ⟨y, e2, e3⟩ := Option.map_eq_some_iff.mp e
        cases e3
        obtain ⟨w, ew, rw'⟩ := rds_at r e2
        obtain ⟨st, rep'⟩ := lst_set rep h1 (nofz h2 (fun _ _ z => by cases z)) (rds_dl r)
        rw [r.len] at ew
        exact mt_pop pins s σ H _ _ v us Q I rx rv ⟨p, vs, w, rfl, rfl, h2, ew, q io _ _ st rep' (rw'.car (st.car rep))⟩
      · cases e
  · cases r with
    | @ref i a hi hq =>
      cases rd with
      | cons ry t =>
        cases t
        cases ry
        split at e
        · rename_i e1
          obtain ⟨p, vs, h1, h2, r⟩ := rep.atLst e1
          have ep := hq p h1
          subst ep
          obtain ⟨j, ej, e2⟩ := Option.bind_eq_some_iff.mp e
          obtain ⟨y, e3, e4⟩ := Option.map_eq_some_iff.mp e2
          cases e4
          obtain ⟨w, ew, rw'⟩ := rds_at r e3
          obtain ⟨st, rep'⟩ := lst_set rep h1 (nofz h2 (fun _ _ z => by cases z)) (rds_erase j r)
          rw [r.len] at ej
          obtain ⟨k1, k2, k3, k4⟩ := ixN_seq ej
          have hz := (I.lstM h2).1
          have hn := line63
          exact mt_popAt pins s σ H _ _ v us Q I rx rv ⟨p, vs, _, j, w, rfl, rfl, h2, by omega, by omega, k1, ew, q io _ _ st rep' (rw'.car (st.car rep))⟩
        · cases e
  · cases e
/-- the first place of an equal one, data -/
def idxL : List D → D → Option Nat
  | [], _ => none
  | x :: xs, y => if x = y then some 0 else (idxL xs y).map (· + 1)
theorem idxL_ok : ∀ {xs : List D} {y : D} {j : Nat}, idxL xs y = some j → xs[j]? = some y ∧ ∀ (m : Nat) (z : D), m < j → xs[m]? = some z → z ≠ y
  | [], _, _, h => by cases h
  | x :: xs, y, j, h => by
    unfold idxL at h
    split at h
    · rename_i e
      cases h
      exact ⟨by rw [e]; rfl, fun m z hm => absurd hm (Nat.not_lt_zero m)⟩
    · rename_i e
      obtain ⟨i, e1, e2⟩ := Option.map_eq_some_iff.mp h
      subst e2
      obtain ⟨h1, h2⟩ := idxL_ok e1
      refine ⟨h1, fun m z hm hz => ?_⟩
      cases m with
      | zero =>
        have : x = z := by simpa using hz
        rw [← this]
        exact e
      | succ m => exact h2 m z (by omega) (by simpa using hz)
def indexD : PM := fun x ds R => match ds with
  | [y] => (match snapD R x, snapD R y with
    | some (.lst xs), some b => if eqOks 11 xs = true ∧ eqOk 12 b = true then (idxL xs b).map fun j => (.int (j : Nat), R) else none
    | _, _ => none)
  | _ => none
theorem toPs_at : ∀ {xs : List D} {j : Nat} {z : PyData}, (toPs xs)[j]? = some z → ∃ x, xs[j]? = some x ∧ z = toP x
  | [], _, _, h => by cases h
  | x :: xs, 0, z, h => ⟨x, rfl, by simpa [toPs] using h.symm⟩
  | x :: xs, j + 1, z, h => by
    obtain ⟨y, h1, h2⟩ := toPs_at (xs := xs) (j := j) (z := z) (by simpa [toPs] using h)
    exact ⟨y, by simpa using h1, h2⟩
theorem toPs_get : ∀ {xs : List D} {j : Nat} {x : D}, xs[j]? = some x → (toPs xs)[j]? = some (toP x)
  | [], _, _, h => by cases h
  | x :: xs, 0, z, h => by
    have : x = z := by simpa using h
    subst this
    rfl
  | x :: xs, j + 1, z, h => by
    have := toPs_get (xs := xs) (j := j) (x := z) (by simpa using h)
    simpa [toPs] using this
theorem eqOks_at {n : Nat} : ∀ {xs : List D} {j : Nat} {x : D}, eqOks n xs = true → xs[j]? = some x → eqOk n x = true
  | [], _, _, _, h => by cases h
  | y :: ys, 0, x, h, e => by
    have h' : eqOk n y = true ∧ eqOks n ys = true := by simpa [eqOks] using h
    have : y = x := by simpa using e
    subst this
    exact h'.1
  | y :: ys, j + 1, x, h, e => by
    have h' : eqOk n y = true ∧ eqOks n ys = true := by simpa [eqOks] using h
    exact eqOks_at h'.2 (by simpa using e)
theorem om_index (hu : X.A.units + 65 < cLine) : MtR X "list.index" (fun x xs H Q => rN X.K (pnM indexD) (x :: xs) H Q) := by
  intro pins s σ H x xs v us Q I rx rv h
  obtain ⟨B, io, R, dx, ds, d, R', rep, r, rd, e, q⟩ := rNM h
  unfold indexD at e
  split at e
  · rename_i y
    cases e1 : snapD R dx with
    | none => rw [e1] at e; cases e
    | some a =>
      cases e2 : snapD R y with
      | none => rw [e1, e2] at e; cases a <;> cases e
      | some b =>
        rw [e1, e2] at e
        cases a with
        | lst zs =>
          have e : (if eqOks 11 zs = true ∧ eqOk 12 b = true then (idxL zs b).map fun j => (D.int (j : Nat), R) else none) = some (d, R') := e
          split at e
          · rename_i hk
            obtain ⟨j, e3, e4⟩ := Option.map_eq_some_iff.mp e
            cases e4
            obtain ⟨h1, h2⟩ := idxL_ok e3
            cases rd with
            | cons ry t =>
              cases t
              have hl : eqOk 12 (.lst zs) = true := hk.1
              have dp := dp_snap rep 6 e1 r hl
              obtain ⟨a', ha'⟩ : ∃ a', x = .ref a' := by
                cases dp with
                | lst => exact ⟨_, rfl⟩
              subst ha'
              refine mt_indexD hu pins s σ H _ _ v us Q I rx rv ⟨a', _, toP b, toPs zs, j, toP b, rfl, rfl, dp, dp_snap rep 6 e2 ry hk.2, toP_shaped hl (by omega), toP_shaped hk.2 (by omega), toPs_get h1, ?_, ?_, q io H _ (Step.refl _ _) rep (.int _)⟩
              · rw [toP_eqv hk.2 hk.2]
                simp
              · intro m z hm hz
                obtain ⟨w, h3, rfl⟩ := toPs_at hz
                rw [toP_eqv (eqOks_at hk.1 h3) hk.2]
                exact decide_eq_false (h2 m w hm h3)
          · cases e
        | _ => cases e
  · cases e
/-- a method of what is built in -/
structure MtB (X : Cx) (T : String) (name : Str) (p : PM) : Prop where
  pa : PlainAttrs T
  ex : ∃ id, Slot T name id ∧ typeOf (.builtin id) = pure (.type "method_descriptor") ∧ MtR X id (fun x xs H Q => rN X.K (pnM p) (x :: xs) H Q)
/-- the methods, by names: the kind of the receiver -/
def metP (m : Bool) (name : Str) : List (Nat × PM) :=
  if name = "append" then [(0, appendD)]
  else if name = "pop" then [(0, popD), (1, dpopD)]
  else if name = "index" then [(0, indexD)]
  else if name = "get" then [(1, Om.getD)]
  else if name = "split" then [(2, splitD m)]
  else if name = "join" then [(2, joinD)]
  else if name = "extend" then [(0, extendD)]
  else if name = "hex" then [(3, hexM)]
  else []
theorem metP_ok (hu : X.A.units + 65 < cLine) {m : Bool} {name : Str} {T : Nat} {p : PM} (h : (T, p) ∈ metP m name) : MtB X (tyN T) name p := by
  unfold metP at h
  split at h
  · rename_i e
    subst e
    have e : (T, p) = (0, appendD) := by simpa using h
    cases e
    exact ⟨F.plainAttrs_list, _, F.slot_list_append, F.type_list_append, om_append⟩
  split at h
  · rename_i e
    subst e
    have e : (T, p) = (0, popD) ∨ (T, p) = (1, dpopD) := by simpa using h
    rcases e with e | e
    · cases e
      exact ⟨F.plainAttrs_list, _, F.slot_list_pop, F.type_list_pop, om_pop⟩
    · cases e
      exact ⟨F.plainAttrs_dict, _, F.slot_dict_pop, F.type_dict_pop, om_dpop⟩
  split at h
  · rename_i e
    subst e
    have e : (T, p) = (0, indexD) := by simpa using h
    cases e
    exact ⟨F.plainAttrs_list, _, F.slot_list_index, F.type_list_index, om_index hu⟩
  split at h
  · rename_i e
    subst e
    have e : (T, p) = (1, Om.getD) := by simpa using h
    cases e
    exact ⟨F.plainAttrs_dict, _, F.slot_dict_get, F.type_dict_get, om_get (by omega)⟩
  split at h
  · rename_i e
    subst e
    have e : (T, p) = (2, splitD m) := by simpa using h
    cases e
    exact ⟨F.plainAttrs_str, _, F.slot_str_split, F.type_str_split, om_split m⟩
  split at h
  · rename_i e
    subst e
    have e : (T, p) = (2, joinD) := by simpa using h
    cases e
    exact ⟨F.plainAttrs_str, _, F.slot_str_join, F.type_str_join, om_join⟩
  split at h
  · rename_i e
    subst e
    have e : (T, p) = (0, extendD) := by simpa using h
    cases e
    exact ⟨F.plainAttrs_list, _, F.slot_list_extend, F.type_list_extend, om_extend⟩
  split at h
  · rename_i e
    subst e
    have e : (T, p) = (3, hexM) := by simpa using h
    cases e
    exact ⟨PySem.W.FB.plainAttrs_bytes, _, PySem.W.FB.slot_bytes_hex, PySem.W.FB.type_bytes_hex, om_hex⟩
  · cases h
/-! ### sorted -/
def keysI : List (D × D) → Option (List Int)
  | [] => some []
  | (.int i, _) :: r => (keysI r).map (i :: ·)
  | _ => none
def sortedX (m : Bool) : PN := pn1 fun x R => match dctOf R x with
  | some ks => (match keysI ks with
    | some ns => if ns.length < 64 then mkL m ((sortI ns).map .int) R else none
    | none => none)
  | none => sortedD m [x] R
theorem keysI_rd {K : PySem.W.Frag} {bar : Addr → Prop} {io : Io} {H : Hp} : ∀ {ks : List (D × D)} {kvs : List (Key × V)} {ns : List Int}, RKs K bar io H ks kvs → keysI ks = some ns → kvs.map (·.1) = ns.map Sum.inl
  | _, _, ns, .nil, e => by
    cases e
    rfl
  | (.int i, _) :: ks, _ :: kvs, ns, .cons h r t, e => by
    obtain ⟨ms, e1, e2⟩ := Option.map_eq_some_iff.mp (show (keysI ks).map (i :: ·) = some ns from e)
    subst e2
    cases h
    rw [List.map_cons, List.map_cons, keysI_rd t e1]
theorem ok_sortedX (hc : X.calm = true) (m : Bool) : CallR X (.builtin "sorted") (rN X.K (sortedX m)) := by
  intro pins s σ H xs us Q I r h
  obtain ⟨x, rfl⟩ := rN_1 h
  obtain ⟨B, io, R, dx, d, R', rep, rx, e, q⟩ := rN1 h
  split at e
  · rename_i ks ek
    split at e
    · rename_i ns e1
      split at e
      · rename_i h64
        obtain ⟨a, kvs, rfl, hd, rk⟩ := rx.dict rep ek
        refine call_sortedDI hc pins s σ H _ us Q I r ⟨a, kvs, ns, rfl, hd, keysI_rd rk e1, h64, fun ns' p hp hs hn => ?_⟩
        have en : ns' = sortI ns := sorted_one (hp.trans (sortI_perm ns).symm) hs (sortI_sorted ns)
        rw [en]
        obtain ⟨io', st, rep', r'⟩ := mkL_ok rep hn (rds_ints (sortI ns)) e
        exact q io' _ _ st rep' r'
      · cases e
    · cases e
  · refine ok_sorted m pins s σ H _ us Q I r ⟨B, io, R, [dx], rep, .cons rx .nil, ?_⟩
    rw [e]
    exact q
theorem foldl_min : ∀ (l : List Int) (i : Int), l.foldl min i ∈ i :: l ∧ ∀ y ∈ i :: l, l.foldl min i ≤ y
  | [], i => ⟨by simp, fun y hy => by simp at hy; simp [hy]⟩
  | j :: l, i => by
    obtain ⟨h1, h2⟩ := foldl_min l (min i j)
    rw [List.foldl_cons]
    refine ⟨?_, fun y hy => ?_⟩
    · rcases List.mem_cons.mp h1 with h | h
      · rw [h]
        by_cases e : i ≤ j
        · rw [Int.min_eq_left e]; simp
        · rw [Int.min_eq_right (by omega)]; simp
      · simp [h]
    · rcases List.mem_cons.mp hy with h | h
      · have := h2 (min i j) List.mem_cons_self
        omega
      · rcases List.mem_cons.mp h with h | h
        · have := h2 (min i j) List.mem_cons_self
          omega
        · exact h2 y (List.mem_cons_of_mem _ h)
theorem foldl_max : ∀ (l : List Int) (i : Int), l.foldl max i ∈ i :: l ∧ ∀ y ∈ i :: l, y ≤ l.foldl max i
  | [], i => ⟨by simp, fun y hy => by simp at hy; simp [hy]⟩
  | j :: l, i => by
    obtain ⟨h1, h2⟩ := foldl_max l (max i j)
    rw [List.foldl_cons]
    refine ⟨?_, fun y hy => ?_⟩
    · rcases List.mem_cons.mp h1 with h | h
      · rw [h]
        by_cases e : i ≤ j
        · rw [Int.max_eq_right e]; simp
        · rw [Int.max_eq_left (by omega)]; simp
      · simp [h]
    · rcases List.mem_cons.mp hy with h | h
      · have := h2 (max i j) List.mem_cons_self
        omega
      · rcases List.mem_cons.mp h with h | h
        · have := h2 (max i j) List.mem_cons_self
          omega
        · exact h2 y (List.mem_cons_of_mem _ h)
theorem ok_min (hc : X.calm = true) : CallR X (.builtin "min") (rN X.K minD) := by
  intro pins s σ H xs us Q I r h
  obtain ⟨x, rfl⟩ := rN_1 h
  obtain ⟨B, io, R, dx, d, R', rep, rx, e, q⟩ := rN1 h
  split at e
  · rename_i ys ey
    split at e
    · rename_i ns e1
      obtain ⟨i, e2, e3⟩ := Option.map_eq_some_iff.mp e
      cases e3
      obtain ⟨a, vs, rfl, hS, rd⟩ := rx.list rep ey
      have ev := ints_rd rd e1
      subst ev
      cases ns with
      | nil => cases e2
      | cons j l =>
        cases e2
        obtain ⟨h1, h2⟩ := foldl_min l j
        refine cr_min hc pins s σ H _ us Q I r ⟨a, j :: l, rfl, hS, by simp, fun m hm hy => ?_⟩
        have : m = l.foldl min j := by
          have k1 := hy _ h1
          have k2 := h2 m hm
          omega
        subst this
        exact q io H _ (Step.refl _ _) rep (.int _)
    · cases e
  · cases e
theorem ok_max (hc : X.calm = true) : CallR X (.builtin "max") (rN X.K maxD) := by
  intro pins s σ H xs us Q I r h
  obtain ⟨x, rfl⟩ := rN_1 h
  obtain ⟨B, io, R, dx, d, R', rep, rx, e, q⟩ := rN1 h
  split at e
  · rename_i ys ey
    split at e
    · rename_i ns e1
      obtain ⟨i, e2, e3⟩ := Option.map_eq_some_iff.mp e
      cases e3
      obtain ⟨a, vs, rfl, hS, rd⟩ := rx.list rep ey
      have ev := ints_rd rd e1
      subst ev
      cases ns with
      | nil => cases e2
      | cons j l =>
        cases e2
        obtain ⟨h1, h2⟩ := foldl_max l j
        refine cr_max hc pins s σ H _ us Q I r ⟨a, j :: l, rfl, hS, by simp, fun m hm hy => ?_⟩
        have : m = l.foldl max j := by
          have k1 := hy _ h1
          have k2 := h2 m hm
          omega
        subst this
        exact q io H _ (Step.refl _ _) rep (.int _)
    · cases e
  · cases e
/-! ### functions -/
def bltP (m : Bool) (x : Str) : Option PN :=
  if x = "len" then some lenD
  else if x = "isinstance" then some isiD
  else if x = "list" then some (listX m)
  else if x = "tuple" then some tupleD
  else if x = "int" then some intX
  else if x = "str" then some strD
  else if x = "dict" then some (dictD m)
  else if x = "all" then some allD
  else if x = "any" then some anyD
  else if x = "sum" then some sumD
  else if x = "sorted" then some (sortedX m)
  else if x = "min" then some minD
  else if x = "max" then some maxD
  else if x = "bytes" then some bytesD
  else none
theorem pick {A : Type} {x y : Str} {a p : A} {o : Option A} (h : (if x = y then some a else o) = some p) : (x = y ∧ a = p) ∨ (x ≠ y ∧ o = some p) := by
  by_cases e : x = y
  · rw [if_pos e] at h
    exact .inl ⟨e, Option.some.inj h⟩
  · rw [if_neg e] at h
    exact .inr ⟨e, h⟩
theorem bltP_ok (hc : X.calm = true) {m : Bool} {x : Str} {p : PN} (h : bltP m x = some p) : (x ≠ "__name__" ∧ (x == ("__debug__" : Str)) = false) ∧ ((∃ id, bootBuiltins x = some (.builtin id) ∧ CallR X (.builtin id) (rN X.K p)) ∨ ∃ T, bootBuiltins x = some (.type T) ∧ CallR X (.type T) (rN X.K p)) := by
  unfold bltP at h
  rcases pick h with ⟨e1, e2⟩ | ⟨_, h⟩
  · subst e1 e2
    exact ⟨⟨by decide +kernel, by decide +kernel⟩, .inl ⟨_, by decide +kernel, ok_len⟩⟩
  rcases pick h with ⟨e1, e2⟩ | ⟨_, h⟩
  · subst e1 e2
    exact ⟨⟨by decide +kernel, by decide +kernel⟩, .inl ⟨_, by decide +kernel, ok_isi⟩⟩
  rcases pick h with ⟨e1, e2⟩ | ⟨_, h⟩
  · subst e1 e2
    exact ⟨⟨by decide +kernel, by decide +kernel⟩, .inr ⟨_, by decide +kernel, ok_listX hc m⟩⟩
  rcases pick h with ⟨e1, e2⟩ | ⟨_, h⟩
  · subst e1 e2
    exact ⟨⟨by decide +kernel, by decide +kernel⟩, .inr ⟨_, by decide +kernel, ok_tuple⟩⟩
  rcases pick h with ⟨e1, e2⟩ | ⟨_, h⟩
  · subst e1 e2
    exact ⟨⟨by decide +kernel, by decide +kernel⟩, .inr ⟨_, by decide +kernel, ok_intX⟩⟩
  rcases pick h with ⟨e1, e2⟩ | ⟨_, h⟩
  · subst e1 e2
    exact ⟨⟨by decide +kernel, by decide +kernel⟩, .inr ⟨_, by decide +kernel, ok_strD⟩⟩
  rcases pick h with ⟨e1, e2⟩ | ⟨_, h⟩
  · subst e1 e2
    exact ⟨⟨by decide +kernel, by decide +kernel⟩, .inr ⟨_, by decide +kernel, ok_dict hc m⟩⟩
  rcases pick h with ⟨e1, e2⟩ | ⟨_, h⟩
  · subst e1 e2
    exact ⟨⟨by decide +kernel, by decide +kernel⟩, .inl ⟨_, by decide +kernel, ok_all hc⟩⟩
  rcases pick h with ⟨e1, e2⟩ | ⟨_, h⟩
  · subst e1 e2
    exact ⟨⟨by decide +kernel, by decide +kernel⟩, .inl ⟨_, by decide +kernel, ok_any hc⟩⟩
  rcases pick h with ⟨e1, e2⟩ | ⟨_, h⟩
  · subst e1 e2
    exact ⟨⟨by decide +kernel, by decide +kernel⟩, .inl ⟨_, by decide +kernel, ok_sum hc⟩⟩
  rcases pick h with ⟨e1, e2⟩ | ⟨_, h⟩
  · subst e1 e2
    exact ⟨⟨by decide +kernel, by decide +kernel⟩, .inl ⟨_, by decide +kernel, ok_sortedX hc m⟩⟩
  rcases pick h with ⟨e1, e2⟩ | ⟨_, h⟩
  · subst e1 e2
    exact ⟨⟨by decide +kernel, by decide +kernel⟩, .inl ⟨_, by decide +kernel, ok_min hc⟩⟩
  rcases pick h with ⟨e1, e2⟩ | ⟨_, h⟩
  · subst e1 e2
    exact ⟨⟨by decide +kernel, by decide +kernel⟩, .inl ⟨_, by decide +kernel, ok_max hc⟩⟩
  rcases pick h with ⟨e1, e2⟩ | ⟨_, h⟩
  · subst e1 e2
    exact ⟨⟨by decide +kernel, by decide +kernel⟩, .inr ⟨_, by decide +kernel, ok_bytes hc⟩⟩
  cases h
/-- types as values -/
def tyB (x : Str) : Option String :=
  if x = "int" then some "int"
  else if x = "bool" then some "bool"
  else if x = "str" then some "str"
  else if x = "tuple" then some "tuple"
  else if x = "list" then some "list"
  else if x = "dict" then some "dict"
  else if x = "bytes" then some "bytes"
  else none
theorem tyB_ok {x : Str} {T : String} (h : tyB x = some T) : x ≠ "__name__" ∧ (x == ("__debug__" : Str)) = false ∧ bootBuiltins x = some (.type T) := by
  unfold tyB at h
  repeat (split at h; (rename_i e; subst e; cases h; exact ⟨by decide +kernel, by decide +kernel, by decide +kernel⟩))
  cases h
end
end Om
/-! Om, part R: instances of the text's own classes. -/
namespace Om
open PySem PySem.Spec PyProof.Rows L2 RZ
theorem atN_inj {i j : Nat} (hi : i < atTab.length) (hj : j < atTab.length) (h : atN i = atN j) : i = j := by
  have all : ∀ i : _root_.Fin atTab.length, ∀ j : _root_.Fin atTab.length, atN i.1 = atN j.1 → i.1 = j.1 := by decide +kernel
  exact all ⟨i, hi⟩ ⟨j, hj⟩ h
def lookF : List (Nat × D) → Nat → Option D
  | [], _ => none
  | (m, d) :: r, n => if m = n then some d else lookF r n
def putFD : List (Nat × D) → Nat → D → List (Nat × D)
  | [], n, d => [(n, d)]
  | (m, x) :: r, n, d => if m = n then (m, d) :: r else (m, x) :: putFD r n d
section
variable {K : PySem.W.Frag} {bar : Addr → Prop} {B : Addr → Prop} {io : Io} {R : Rg} {H : Hp}
theorem lookF_rd {n : Nat} (hn : n < atTab.length) : ∀ {fs : List (Nat × D)} {fvs : List (Str × V)}, RFs K bar io H fs fvs → match lookF fs n with
    | some d => ∃ v, fvs.lookup (atN n) = some v ∧ RD K bar io H d v
    | none => fvs.lookup (atN n) = none
  | _, _, .nil => rfl
  | (m, d) :: fs, (_, v) :: fvs, .cons hm r t => by
    unfold lookF
    by_cases e : m = n
    · subst e
      rw [if_pos rfl]
      exact ⟨v, by simp, r⟩
    · rw [if_neg e]
      have ne : (atN n == atN m) = false := beq_eq_false_iff_ne.mpr fun z => e (atN_inj hm hn z.symm)
      have ih := lookF_rd hn t
      revert ih
      cases lookF fs n with
      | none => exact fun ih => by simp only [List.lookup_cons, ne]; exact ih
      | some d' => exact fun ⟨v', h1, h2⟩ => ⟨v', by simp only [List.lookup_cons, ne]; exact h1, h2⟩
theorem putF_rd {n : Nat} {d : D} {v : V} (hn : n < atTab.length) (rv : RD K bar io H d v) : ∀ {fs : List (Nat × D)} {fvs : List (Str × V)}, RFs K bar io H fs fvs → RFs K bar io H (putFD fs n d) (putF (atN n) v fvs)
  | _, _, .nil => .cons hn rv .nil
  | (m, x) :: fs, (_, w) :: fvs, .cons hm r t => by
    unfold putFD putF
    by_cases e : m = n
    · subst e
      rw [if_pos rfl, if_pos rfl]
      exact .cons hm rv t
    · rw [if_neg e, if_neg (fun z => e (atN_inj hm hn z))]
      exact .cons hm r (putF_rd hn rv t)
theorem putFD_len (n : Nat) (d : D) : ∀ fs : List (Nat × D), (putFD fs n d).length ≤ fs.length + 1
  | [] => by simp [putFD]
  | (m, x) :: fs => by
    unfold putFD
    split
    · simp
    · have := putFD_len n d fs
      simp only [List.length_cons]; omega
theorem RFs.len : ∀ {fs : List (Nat × D)} {fvs : List (Str × V)}, RFs K bar io H fs fvs → fs.length = fvs.length
  | _, _, .nil => rfl
  | _, _, .cons _ _ t => congrArg (· + 1) (RFs.len t)
theorem RD.inst {d : D} {v : V} {c : Nat} {fs : List (Nat × D)} (rep : Rep K B io R H) (r : RD K (bars B io) io H d v) (e : insOf R d = some (c, fs)) : ∃ a dx fvs, v = .ref a ∧ H a = some (.ins (He.ga K (clN c)) dx fvs) ∧ RFs K (bars B io) io H fs fvs := by
  cases r with
  | ins n h r =>
    cases e
    exact ⟨_, _, _, rfl, h, r⟩
  | @ref i a hi q =>
    rw [insOf_ref] at e
    cases e1 : R[i]? with
    | none => rw [e1] at e; cases e
    | some o =>
      rw [e1] at e
      cases o with
      | ins c' ys =>
        cases e
        obtain ⟨p, dx, vs, h1, h2, r⟩ := rep.atIns e1
        rw [← q p h1]
        exact ⟨p, dx, vs, rfl, h2, r⟩
      | _ => cases e
  | _ => cases e
end
/-! ### attributes -/
/-- which attributes a class's instances may bear -/
abbrev CaT := List (Nat × List Nat)
def okAt (ca : CaT) (c n : Nat) : Bool := ca.any fun p => decide (p.1 = c) && decide (n ∈ p.2)
structure CaOk (K : PySem.W.Frag) (c n : Nat) : Prop where
  cls : Cls K (He.ga K (clN c))
  no : NoAttr K (He.ga K (clN c)) (atN n)
  lt : n < atTab.length
def fldD (ca : CaT) (n : Nat) : P1 := fun x R => match insOf R x with
  | some (c, fs) => if okAt ca c n = true then (lookF fs n).map fun d => (d, R) else none
  | none => none
/-- o.f = v: the region behind it -/
def setF (ca : CaT) (n : Nat) (x v : D) (R : Rg) : Option Rg := match x with
  | .ref i => (match R[i]? with
    | some (.ins c fs) => if okAt ca c n = true ∧ fs.length < 1000 then some (R.set i (.ins c (putFD fs n v))) else none
    | _ => none)
  | _ => none
section
variable {X : Cx} {W : WX} {a b c e o : Expr} {es : List Expr} {ma mb mc mo : SE} {mas : SA} {pos pos' tpos : Pos} {ca : CaT} {n : Nat} {f : Str}
theorem se_fld (hca : ∀ c n, okAt ca c n = true → CaOk X.K c n) (hf : atN n = f) (h1 : PE X e (tE X.K W ma)) (hb : attributeBase e f X.env (eval e X.env) = eval e X.env) : PE X (.Attribute e f pos) (tE X.K W (cOp1 (fldD ca n) ma)) := (pe_fld h1 hb).imp fun σ H Q h => by
  have h0 := Told.eval (vs := []) (m := ma) (F := fun ds _ R => match ds with
    | [x] => lift (fldD ca n x R)
    | _ => .err) (rel := RD X.K) (Q := Q) (Told.conv h fun _ _ => rfl)
  refine h0.imp fun v H1 ⟨B, io, R, s, ds, rep, rs, rd, t⟩ => ?_
  obtain ⟨d, ds, rfl, r, rd⟩ := RDs.cons_inv rd
  cases rd.nil_inv
  have t : Pst X.K B io H1 W σ (RD X.K) (lift (fldD ca n d R)) Q := t
  unfold fldD at t
  cases ei : insOf R d with
  | none => rw [ei] at t; exact t.elim
  | some z =>
    obtain ⟨c, fs⟩ := z
    rw [ei] at t
    have t : Pst X.K B io H1 W σ (RD X.K) (lift (if okAt ca c n = true then (lookF fs n).map fun d => (d, R) else none)) Q := t
    split at t
    · rename_i hk
      have k := hca c n hk
      obtain ⟨p, dx, fvs, rfl, hp, rf⟩ := RD.inst rep r ei
      have q := lookF_rd k.lt rf
      cases el : lookF fs n with
      | none => rw [el] at t; exact t.elim
      | some y =>
        rw [el] at t q
        obtain ⟨w, h1, h2⟩ := q
        rw [hf] at h1
        have no := k.no
        rw [hf] at no
        exact ⟨p, _, dx, fvs, w, rfl, hp, k.cls, no, h1, t io H1 w (Step.refl _ _) rep h2⟩
    · exact t.elim
/-- o.f = e -/
def sSetF (ca : CaT) (n : Nat) (a o : SE) : SS := fun s R => sBind (a s R) s fun v R1 => sBind (o s R1) s fun x R2 => match setF ca n x v R2 with
  | some R3 => .nx s R3
  | none => .err
theorem setF_ok {K : PySem.W.Frag} {B : Addr → Prop} {io : Io} {R R' : Rg} {H : Hp} {x d : D} {v w : V} (hca : ∀ c n, okAt ca c n = true → CaOk K c n) (rep : Rep K B io R H) (r : RD K (bars B io) io H x v) (rw_ : RD K (bars B io) io H d w) (e : setF ca n x d R = some R') :
    ∃ p c dx fvs, v = .ref p ∧ H p = some (.ins (He.ga K (clN c)) dx fvs) ∧ CaOk K c n ∧ fvs.length < 1000 ∧ Step io H io (upd H p (.ins (He.ga K (clN c)) dx (putF (atN n) w fvs))) ∧ Rep K B io R' (upd H p (.ins (He.ga K (clN c)) dx (putF (atN n) w fvs))) := by
  cases r with
  | @ref i a hi q =>
    have e : (match R[i]? with
      | some (.ins c fs) => if okAt ca c n = true ∧ fs.length < 1000 then some (R.set i (.ins c (putFD fs n d))) else none
      | _ => none) = some R' := e
    cases e1 : R[i]? with
    | none => rw [e1] at e; cases e
    | some o =>
      rw [e1] at e
      cases o with
      | ins c fs =>
        have e : (if okAt ca c n = true ∧ fs.length < 1000 then some (R.set i (.ins c (putFD fs n d))) else none) = some R' := e
        split at e
        · rename_i hk
          cases e
          obtain ⟨p, dx, fvs, h1, h2, rf⟩ := rep.atIns e1
          have k := hca c n hk.1
          rw [← q p h1]
          have st : Step io H io (upd H p (.ins (He.ga K (clN c)) dx (putF (atN n) w fvs))) := Step.mut h1 (nofz h2 (fun _ _ z => by cases z))
          exact ⟨p, c, dx, fvs, rfl, h2, k, by rw [← rf.len]; exact hk.2, st, rep.mut h1 (nofz h2 (fun _ _ z => by cases z)) ⟨p, dx, _, h1, upd_same, (putF_rd k.lt rw_ rf).car (st.car rep)⟩⟩
        · cases e
      | _ => cases e
  | _ => cases e
theorem setF_core {K : PySem.W.Frag} (hca : ∀ c n, okAt ca c n = true → CaOk K c n) {D : Ends} {σ : S} {H : Hp} (h : tS K W (sSetF ca n ma mo) D σ H) : sFld K (tE K W mo) (tE K W ma) (atN n) D σ H := by
  obtain ⟨B, io, R, s, rep, rs, p⟩ := h
  refine ⟨B, io, R, s, [], rep, rs, .nil, (PstS.bind (rel := RD K) p rs ⟨R, rep⟩).imp fun v H1 ⟨io1, R1, d, st1, rep1, rd, p1⟩ => ?_⟩
  have rs1 := rs.car (st1.car rep)
  refine ⟨B, io1, R1, s, [], rep1, rs1, .nil, (PstS.bind (rel := RD K) p1 rs1 ⟨R1, rep1⟩).imp fun u H2 ⟨io2, R2, x, st2, rep2, rx, p2⟩ => ?_⟩
  have rs2 := rs1.car (st2.car rep1)
  have rd2 := rd.car (st2.car rep1)
  cases e : setF ca n x d R2 with
  | none => rw [e] at p2; exact p2.elim
  | some R3 =>
    rw [e] at p2
    obtain ⟨q, c, dx, fvs, rfl, hq, k, hl, st3, rep3⟩ := setF_ok hca rep2 rx rd2 e
    exact ⟨q, _, dx, fvs, rfl, hq, k.cls, k.no, hl, p2 io2 _ σ st3 rep3 (rs2.car (st3.car rep2))⟩
theorem ss_setF (hca : ∀ c n, okAt ca c n = true → CaOk X.K c n) (hf : atN n = f) (ho : PE X o (tE X.K W mo)) (hv : PE X e (tE X.K W ma)) (hs : swapsWith e (some (.Attribute o f pos')) pos.line X.env = pure false) : PS X (.Assign [.Attribute o f pos'] e pos) (tS X.K W (sSetF ca n ma mo)) := by
  subst hf
  exact (ps_fld ho hv hs).imp fun D σ H h => setF_core hca h
end
/-! ### methods -/
/-- what is known of a def: n its parameters -/
structure DfOk (P : Program) (w : World) (K : PySem.W.Frag) (mg : Str → Option Value) (base : Heap) (F : SF) (n : Nat) (dfl : List D) (k : Nat) (f : Addr) : Prop where
  ex : ∃ fd ps, FnOk P w K mg base (CX P w) k f fd ps (spF K n F) ∧ ∀ m, m ≤ n → n ≤ m + dfl.length → ∃ dvs ds, (∀ bar io H, RDs K bar io H (dfl.drop (m + dfl.length - n)) dvs) ∧ Vals dvs ds ∧ Binds K fd ps ds
  len : ∀ ds R, ds.length ≠ n → F ds R = .err
def noFld (m : Str) (fs : List (Nat × D)) : Bool := fs.all fun p => !decide (atN p.1 = m)
def cMeth1 (c : Nat) (m : Str) (F : SF) (dfl : List D) (a : SE) (as : SA) : SE := fun s R => (a s R).bind fun x R1 => match insOf R1 x with
  | some (c', fs) => if c' = c ∧ noFld m fs = true then (as s R1).bind fun ds R2 => F (x :: (ds ++ dfl)) R2 else .err
  | none => .err
def tMethW (W : WX) (C : Addr) (m : Str) (sp : Sp) (dvs : List V) (ta : TE) (t : TA) : TE := fun σ H Q => ta σ H fun x H1 => ∃ a dx fs, x = .ref a ∧ H1 a = some (.ins C dx fs) ∧ fs.lookup m = none ∧
  t σ H1 fun vs H2 => sp (x :: (vs ++ dvs)) H2 Q fun cls d H' => W cls d σ H'
section
variable {X : Cx} {W : WX} {a b c e o : Expr} {es : List Expr} {ma mb mc mo : SE} {mas : SA} {pos apos p : Pos} {k n : Nat} {f C : Addr} {fd : FuncData} {ps : List Str} {sp : Sp} {dvs : List V} {ds : List Value} {m x : Str} {F : SF} {dfl : List D} {ta : TE} {t : TA}
theorem mcall_eq {env : Env} {args : List Expr} (hb : attributeBase o m env (eval o env) = eval o env) (hf : methodCallForm (args.length + ([] : List Keyword).length) (backTo pos (starEach args env)) (backToKw pos (keywordEach [] env)) = true) (hl : (apos.endLine == pos.line) = true) :
    eval (.Call (.Attribute o m apos) args [] pos) env = (do
      let ov ← eval o env
      standAt apos.atName
      let (f, first) ← holding [ov] (getMethod ov m (do return (← importBound o env).getD true))
      callWith pos f first (backTo pos (starEach args env)) (backToKw pos (keywordEach [] env))) := by
  refine mcall_of hb fun ov => ?_
  unfold methodCall calleeOf methodCallPos
  rw [hf]
  simp only [hl, if_true, Bool.not_true, Bool.or_true, pure_bind]
theorem pe_methW (he : PE X o ta) (c : Cls X.K C) (hm : Meth X.K C m f) (F : FnOk X.prog X.w X.K X.mg X.base (CX X.prog X.w) k f fd ps sp) (hr : Room k X.A) (hb : Binds X.K fd ps ds) (hd : Vals dvs ds) (tk : Takes X W) (ha : PA X (e :: es) t)
    (hbase : attributeBase o m X.env (eval o X.env) = eval o X.env) (hf : methodCallForm ((e :: es).length + ([] : List Keyword).length) (backTo pos (starEach (e :: es) X.env)) (backToKw pos (keywordEach [] X.env)) = true) (hl : (apos.endLine == pos.line) = true)
    (hst : starEach (e :: es) X.env = (false, eval e X.env) :: starEach es X.env) (hpl : (backTo pos (starEach es X.env)).any (·.1) = false) :
    PE X (.Call (.Attribute o m apos) (e :: es) [] pos) (tMethW W C m sp dvs ta t) := by
  refine ⟨fun pins s σ H Q I h => ?_⟩
  refine PySem.W.methodCall_KW (pl := do return (← importBound o X.env).getD true) (thn (he.run pins s σ H _ I h) fun u s1 ⟨x, H1, I1, rx, a, dx, fs, ex, ea, l, q⟩ => ?_) (mcall_eq hbase hf hl)
  subst ex
  obtain rfl : u = Value.ref a := rx
  refine getmeth_ok I1 ea c hm l ?_
  refine PySem.W.callWith_K (first := [.ref a]) (h₀ := X.base) I.ok.mod.kin hm.kp (thn (ha.run pos pins s1 σ H1 _ I1 q) fun us s2 ⟨vs, H2, I2, r, q2⟩ => ⟨I2.kIn, ?_⟩) hst hpl
  exact run_fnW (us := .ref a :: us) (vs := .ref a :: vs) F hr hb hd tk I2 (.cons rfl r) q2
theorem pe_methW0 (he : PE X o ta) (c : Cls X.K C) (hm : Meth X.K C m f) (F : FnOk X.prog X.w X.K X.mg X.base (CX X.prog X.w) k f fd ps sp) (hr : Room k X.A) (hb : Binds X.K fd ps ds) (hd : Vals dvs ds) (tk : Takes X W)
    (hbase : attributeBase o m X.env (eval o X.env) = eval o X.env) (hl : (apos.endLine == pos.line) = true) :
    PE X (.Call (.Attribute o m apos) [] [] pos) (tMethW W C m sp dvs ta tNil) := by
  refine ⟨fun pins s σ H Q I h => ?_⟩
  refine PySem.W.methodCall_KW (pl := do return (← importBound o X.env).getD true) (thn (he.run pins s σ H _ I h) fun u s1 ⟨x, H1, I1, rx, a, dx, fs, ex, ea, l, q⟩ => ?_) (mcall_eq hbase rfl hl)
  subst ex
  obtain rfl : u = Value.ref a := rx
  refine getmeth_ok I1 ea c hm l ?_
  exact PySem.W.callWith_K0 (first := [.ref a]) I1.kIn hm.kp (run_fnW (us := [.ref a]) (vs := [.ref a]) F hr hb hd tk I1 (.cons rfl .nil) q)
theorem noFld_ok {K : PySem.W.Frag} {bar : Addr → Prop} {io : Io} {H : Hp} : ∀ {fs : List (Nat × D)} {fvs : List (Str × V)}, RFs K bar io H fs fvs → noFld m fs = true → fvs.lookup m = none
  | _, _, .nil, _ => rfl
  | (q, d) :: fs, (_, v) :: fvs, .cons hq r t, h => by
    have h' : (!decide (atN q = m)) = true ∧ noFld m fs = true := by simpa [noFld] using h
    have ne : (m == atN q) = false := beq_eq_false_iff_ne.mpr fun z => by
      have := h'.1
      simp [z] at this
    simp only [List.lookup_cons, ne]
    exact noFld_ok t h'.2
theorem meth_own {K : PySem.W.Frag} {cN : Nat} {σ : S} {H : Hp} {Q : VK} (hn : ∀ ds R, ds.length ≠ n → F ds R = .err) (hdv : ∀ bar io H, RDs K bar io H dfl dvs) (h : tE K W (cMeth1 cN m F dfl ma mas) σ H Q) :
    tMethW W (He.ga K (clN cN)) m (spF K n F) dvs (tE K W ma) (tA K W mas) σ H Q := by
  have h0 := Told.eval (vs := []) (m := ma) (F := fun ds s R => match ds with
    | [x] => (match insOf R x with
      | some (c', fs) => if c' = cN ∧ noFld m fs = true then (mas s R).bind fun ds R2 => F (x :: (ds ++ dfl)) R2 else .err
      | none => .err)
    | _ => .err) (rel := RD K) (Q := Q) (Told.conv h fun _ _ => rfl)
  refine h0.imp fun v H1 ⟨B, io, R, s, ds, rep, rs, rd, t⟩ => ?_
  obtain ⟨d, ds, rfl, r, rd⟩ := RDs.cons_inv rd
  cases rd.nil_inv
  have t : Pst K B io H1 W σ (RD K) (match insOf R d with
      | some (c', fs) => if c' = cN ∧ noFld m fs = true then (mas s R).bind fun ds R2 => F (d :: (ds ++ dfl)) R2 else .err
      | none => .err) Q := t
  cases ei : insOf R d with
  | none => rw [ei] at t; exact t.elim
  | some z =>
    obtain ⟨c', fs⟩ := z
    rw [ei] at t
    have t2 : Pst K B io H1 W σ (RD K) (if c' = cN ∧ noFld m fs = true then (mas s R).bind fun ds R2 => F (d :: (ds ++ dfl)) R2 else .err) Q := t
    clear t
    by_cases hk : c' = cN ∧ noFld m fs = true
    · rw [if_pos hk] at t2
      obtain ⟨hc, hf⟩ := hk
      subst hc
      obtain ⟨p, dx, fvs, rfl, hp, rf⟩ := RD.inst rep r ei
      refine ⟨p, dx, fvs, rfl, hp, noFld_ok rf hf, ?_⟩
      have h1 := Told.evalA (K := K) (W := W) (σ := σ) (H := H1) (vs := [.ref p]) (m := mas) (F := fun ds _ R => match ds with
        | x :: ds => F (x :: (ds ++ dfl)) R
        | [] => .err) (rel := RD K) (Q := Q) ⟨B, io, R, s, [d], rep, rs, .cons r .nil, t2⟩
      refine h1.imp fun us H2 ⟨B, io, R, s, ds, rep, rs, rd, t⟩ => ?_
      obtain ⟨d2, ds, rfl, r2, rd⟩ := RDs.cons_inv rd
      have t : Pst K B io H2 W σ (RD K) (F (d2 :: (ds ++ dfl)) R) Q := t
      refine ⟨B, io, R, d2 :: (ds ++ dfl), rep, .cons r2 (RDs.append rd (hdv _ _ _)), ?_, ?_⟩
      · exact Classical.byContradiction fun z => by
          rw [hn _ R z] at t
          exact t
      · unfold PstF
        revert t
        cases F (d2 :: (ds ++ dfl)) R with
        | ok d R' => exact fun t => t
        | exc c x R' => exact fun t => t
        | err => exact fun t => t
    · rw [if_neg hk] at t2
      exact t2.elim
end
/-! ### new instances -/
def nonOr (v : D) (r : Res D) : Res D := match v with
  | .non => r
  | _ => .err
def cMake (c : Nat) (F : SF) (dfl : List D) (as : SA) : SE := fun s R => (as s R).bind fun ds R1 => (F (.ref R1.length :: (ds ++ dfl)) (R1 ++ [.ins c []])).bind fun v R2 => nonOr v (.ok (.ref R1.length) R2)
def tMakeW (W : WX) (C : Addr) (sp : Sp) (dvs : List V) (t : TA) : TE := fun σ H Q => t σ H fun vs H1 => ∀ x dx, H1 x = none → H1 dx = none → dx ≠ x →
  sp (.ref x :: (vs ++ dvs)) (upd (upd H1 dx (.own x)) x (.ins C dx [])) (fun v H2 => v = .non ∧ Q (.ref x) H2) fun cls d H' => W cls d σ H'
section
variable {X : Cx} {W : WX} {a b c e o : Expr} {es : List Expr} {ma mb mc mo : SE} {mas : SA} {pos apos p : Pos} {k n : Nat} {f C : Addr} {fd : FuncData} {ps : List Str} {sp : Sp} {dvs : List V} {ds : List Value} {m x : Str} {F : SF} {dfl : List D} {ta : TE} {t : TA}
theorem run_makeW {pins : List (Addr × Obj)} {σ : S} {H : Hp} {s : Shared} {Q : VK} {us : List Value} {vs : List V} (M : Mk X.K C f) (F : FnOk X.prog X.w X.K X.mg X.base (CX X.prog X.w) k f fd ps sp) (hr : Room (k + 1) X.A) (hb : Binds X.K fd ps ds) (hd : Vals dvs ds)
    (tk : Takes X W) (I : Inv X pins σ H s) (r : Vals vs us)
    (h : ∀ x dx, H x = none → H dx = none → dx ≠ x → sp (.ref x :: (vs ++ dvs)) (upd (upd H dx (.own x)) x (.ins C dx [])) (fun v H2 => v = .non ∧ Q (.ref x) H2) fun cls d H' => W cls d σ H') :
    wpAny (model X.prog X.w) X.A (call (.ref C) us) (EP X pins σ Q) X.xe s := by
  have hq := h (s.heap.objs.size + 1) s.heap.objs.size (I.hok.fresh (Nat.le_succ _)) (I.hok.fresh (Nat.le_refl _)) (Nat.ne_of_lt (Nat.lt_succ_self _))
  have I2 := Inv.made (C := C) I
  have r2 : Vals (V.ref (s.heap.objs.size + 1) :: (vs ++ dvs)) (Value.ref (s.heap.objs.size + 1) :: (us ++ ds)) := .cons rfl (r.append hd)
  have hl : (Value.ref (s.heap.objs.size + 1) :: us ++ ds).length = ps.length := by
    have e := r2.length
    rw [F.len _ _ _ _ hq] at e
    exact e.symm
  refine wpAny_call (make_map (f := f) I.kIn M.makes M.init (beq_iff_eq.mp M.fn) (codeAny_mono (F.run _ X.stack _ _ ⟨Value.ref (s.heap.objs.size + 1) :: us, []⟩ (Value.ref (s.heap.objs.size + 1) :: (us ++ ds)) _ _ _ (hr.make C us [])
    (I2.env0.make C us []) (hb _ (Value.ref (s.heap.objs.size + 1) :: us) I2.kIn hl) r2 hq) fun r s' hq' => ?_))
  cases r with
  | error e => exact tk e s' (XE.of_call (W := W) I2 (fun cls d H' h => h) hq')
  | ok fl =>
    cases fl with
    | ret u =>
      obtain ⟨v, H', I3, rv, ev, q3⟩ := I2.after hq'
      subst ev
      exact ⟨rv, ⟨V.ref (s.heap.objs.size + 1), H', I3, rfl, q3⟩⟩
    | next => exact False.elim hq'
    | brk => exact False.elim hq'
    | cont => exact False.elim hq'
theorem pe_makeW (M : Mk X.K C f) (F : FnOk X.prog X.w X.K X.mg X.base (CX X.prog X.w) k f fd ps sp) (hr : Room (k + 1) X.A) (hg : Gl X x) (hm : X.mg x = some (.ref C)) (hb : Binds X.K fd ps ds) (hd : Vals dvs ds) (tk : Takes X W)
    (ha : PA X (e :: es) t) (hdb : (x == ("__debug__" : Str)) = false) (he : starEach (e :: es) X.env = (false, eval e X.env) :: starEach es X.env) (hpl : (backTo pos (starEach es X.env)).any (·.1) = false) :
    PE X (.Call (.Name x p) (e :: es) [] pos) (tMakeW W C sp dvs t) := by
  refine ⟨fun pins s σ H Q I h => ?_⟩
  refine wpAny_Call_Name_kw (ld_glob I hg hm ?_ hdb)
  refine PySem.W.callWith_K (h₀ := X.base) I.ok.mod.kin M.kp (thn (ha.run pos pins s σ H _ I h) fun us s1 ⟨vs, H1, I1, r, q⟩ => ⟨I1.kIn, ?_⟩) he hpl
  exact run_makeW M F hr hb hd tk I1 r q
theorem pe_makeW0 (M : Mk X.K C f) (F : FnOk X.prog X.w X.K X.mg X.base (CX X.prog X.w) k f fd ps sp) (hr : Room (k + 1) X.A) (hg : Gl X x) (hm : X.mg x = some (.ref C)) (hb : Binds X.K fd ps ds) (hd : Vals dvs ds) (tk : Takes X W)
    (hdb : (x == ("__debug__" : Str)) = false) : PE X (.Call (.Name x p) [] [] pos) (tMakeW W C sp dvs tNil) := by
  refine ⟨fun pins s σ H Q I h => ?_⟩
  refine wpAny_Call_Name_kw (ld_glob I hg hm ?_ hdb)
  exact PySem.W.callWith_K0 I.kIn M.kp (run_makeW (us := []) M F hr hb hd tk I .nil h)
theorem make_core {K : PySem.W.Frag} {cN : Nat} {σ : S} {H : Hp} {Q : VK} (hn : ∀ ds R, ds.length ≠ n → F ds R = .err) (hdv : ∀ bar io H, RDs K bar io H dfl dvs) (h : tE K W (cMake cN F dfl mas) σ H Q) :
    tMakeW W (He.ga K (clN cN)) (spF K n F) dvs (tA K W mas) σ H Q := by
  have h0 := Told.evalA (vs := []) (m := mas) (F := fun ds _ R => (F (.ref R.length :: (ds ++ dfl)) (R ++ [.ins cN []])).bind fun v R2 => nonOr v (.ok (.ref R.length) R2)) (rel := RD K) (Told.conv h fun _ _ => rfl)
  refine h0.imp fun us H1 ⟨B, io, R, s, ds, rep, rs, rd, t⟩ x dx hx hdx hne => ?_
  have rd : RDs K (bars B io) io H1 ds us := rd
  have t : Pst K B io H1 W σ (RD K) ((F (.ref R.length :: (ds ++ dfl)) (R ++ [.ins cN []])).bind fun v R2 => nonOr v (.ok (.ref R.length) R2)) Q := t
  have st1 : Step io H1 io (upd H1 dx (.own x)) := Step.add hdx
  have rep1 : Rep K B io R (upd H1 dx (.own x)) := rep.add hdx
  have hx1 : upd H1 dx (.own x) x = none := by rw [upd_ne (fun z => hne z.symm)]; exact hx
  have st2 : Step io (upd H1 dx (.own x)) (io ++ [some x]) (upd (upd H1 dx (.own x)) x (.ins (He.ga K (clN cN)) dx [])) := Step.push rep1 hx1
  have at_ : (io ++ [some x])[io.length]? = some (some x) := by simp
  have rep2 : Rep K B (io ++ [some x]) (R ++ [.ins cN []]) (upd (upd H1 dx (.own x)) x (.ins (He.ga K (clN cN)) dx [])) := rep1.push hx1 ⟨x, dx, [], at_, upd_same, .nil⟩
  have st := st1.trans st2
  have hl := rep.len
  have rr : RD K (bars B (io ++ [some x])) (io ++ [some x]) (upd (upd H1 dx (.own x)) x (.ins (He.ga K (clN cN)) dx [])) (.ref R.length) (.ref x) := .ref (by rw [← hl]; simp) fun q hq => by
    rw [← hl, at_] at hq
    cases hq
    rfl
  refine ⟨B, io ++ [some x], R ++ [.ins cN []], .ref R.length :: (ds ++ dfl), rep2, .cons rr (RDs.append (rd.car (st.car rep)) (hdv _ _ _)), ?_, ?_⟩
  · exact Classical.byContradiction fun z => by
      rw [hn _ _ z] at t
      exact t
  · unfold PstF
    revert t
    cases F (.ref R.length :: (ds ++ dfl)) (R ++ [.ins cN []]) with
    | ok d R' =>
      intro t io' H' v st' rep' rd'
      have t : Pst K B io H1 W σ (RD K) (nonOr d (.ok (.ref R.length) R')) Q := t
      cases rd' with
      | non =>
        refine ⟨rfl, t io' H' (.ref x) (st.trans st') rep' (.ref ?_ fun q hq => ?_)⟩
        · have := st'.le
          rw [List.length_append] at this
          simp at this
          omega
        · rcases st'.ix R.length (by rw [List.length_append, hl]; simp) with z | z
          · rw [← hl, at_] at z
            rw [← hl, z] at hq
            cases hq
            rfl
          · rw [z] at hq
            cases hq
      | _ => exact t.elim
    | exc c y R' => exact fun t io' H' cls d st' rep' q => t io' H' cls d (st.trans st') rep' q
    | err => exact fun t => t
end
end Om
/-! Om, part Rn: != of instances with an own ==. -/
namespace Om
open PySem PySem.Spec PyProof.Rows L2 RZ PySem.W
theorem ne_slot : Slot "object" "__ne__" "object.__ne__" := Slot.of (T := "object") (name := "__ne__") (owner := "object") (n := "__ne__") (by rw [typeLookup_type, builtinLookup_eq_fast]; kernel_rfl) (by decide +kernel) (by decide +kernel) (by decide +kernel)
    (.inl (by decide +kernel)) (by rw [isSubtype_type]; kernel_rfl)
section
variable {K : Frag} {prog : Program} {w : World} {A : Around} {E : Value → Shared → Prop} {s : Shared} {x C : Addr} {ox : Obj} {od : Option Obj} {name : Str} {id : String} {f : Addr} {b tb : Value} {h₀ : Heap} {L : Addr} {m : Str → Option Value}
theorem ifBoundB {M : Model} {args : List Value} {Q : Option Value → Shared → Prop} (X : K.In s.heap) (I : PySem.W.InstAt s.heap x ox C od) (hs : findIn K (.ref C) name = some (some (.builtin id))) (hb : bindSpecial (.builtin id) (.ref x) = pure (.builtin id, [.ref x]))
    (h : wpAny M A (call (.builtin id) (.ref x :: args)) (fun v => Q (some v)) E s) : wpAny M A (callSpecialIfBound? (.ref x) name args) Q E s := by
  simp only [callSpecialIfBound?, bindSpecialIfBound?]
  refine wpAny_holding (wpAny_bind (wpAny_bind (wpAny_bind (I.type.here ((looks_findIn X hs).here ?_)))))
  refine wpAny_bind (wpAny_askSetting (wpAny_ite ?_))
  have fin : wpAny M A (call (.builtin id) ([.ref x] ++ args) >>= fun v => pure (some v)) Q E s := wpAny_bind (wpAny_mono h (fun v s' h' => wpAny_pure h') fun _ _ h' => h')
  rw [hb]
  split
  · exact wpAny_bind (wpAny_pure (wpAny_pure (by exact fin)))
  · exact wpAny_tryCatch (wpAny_bind (wpAny_pure (wpAny_pure (by exact fin))))
theorem ne_entry {Q : Fin → Shared → Prop} (X : K.In s.heap) (I : PySem.W.InstAt s.heap x ox C od) (hs : findIn K (.ref C) "__eq__" = some (some (.ref f))) (hf : isFn K (.ref f) = true) (hu : A.units < cLine)
    (hcall : wpAny (model prog w) A (call (.ref f) [.ref x, b]) (fun v s' => ∃ k, v = .bool k ∧ Q (.done (.ret (.bool (!k)))) s') E s) :
    wpAny (model prog w) A (Builtin.«object.__ne__» ⟨[.ref x, b], []⟩) Q E s := by
  unfold Builtin.«object.__ne__»
  repeat (first
    | with_reducible refine wpAny_cRoomFor hu ?_
    | (refine wpAny_bind (m := callSpecialIfBound? (.ref x) (Str.ofString "__eq__") [b])
        (ifBound_K X I hs hf (wpAny_mono hcall (fun v s' hr => by
          obtain ⟨b, rfl, hq⟩ := hr
          repeat (first | exact hq | exact wpAny_pure hq | exact wpAny_truthy_bool hq | (refine wpAny_bind (m := truthy (.bool _)) (wpAny_truthy_bool ?_)) | wp_step)) fun _ _ e => e)))
    | wp_step)
theorem ne_K {Q : Value → Shared → Prop} (hu : A.units + 1 < cLine) (F : Fr h₀ L s.heap m) (X₀ : K.In h₀) (I : PySem.W.InstAt s.heap x ox C od) (hb : Looks (model prog w) s.heap (typeOf b) tb) (hn : notFirst K C tb = true)
    (hs1 : findIn K (.ref C) "__ne__" = some (some (.builtin "object.__ne__"))) (hob : subIn K (.ref C) (.type "object") = some true) (hs : findIn K (.ref C) "__eq__" = some (some (.ref f))) (hf : isFn K (.ref f) = true)
    (h : wpAny (model prog w) A.in1 (call (.ref f) [.ref x, b]) (fun v s' => ∃ k, v = .bool k ∧ Q (.bool (!k)) s') E s) : wpAny (model prog w) A (richCompare .NotEq (.ref x) b) Q E s := by
  have X := X₀.keeps F.keep
  have one : wpAny (model prog w) A (tryCompare (.ref x) "__ne__" b) (fun r s' => ∃ v, r = some v ∧ Q v s') E s := by
    unfold tryCompare
    refine wpAny_bind (ifBoundB X I hs1 (ne_slot.bind _) (wpAny_call (codeAny_call_builtin ne_slot.plain PySem.F.cmpEntry_ne (PySem.W.check_slot PySem.F.cmpKind_ne PySem.F.cmpSplit_ne ?_ (PySem.F.cmpArgs_ne _ _) (ne_entry (A := A.in1) X I hs hf hu (wpAny_mono h (fun v s' hv => ?_) fun _ _ e => e))))))
    · exact I.type.andThen (looks_subIn X hob)
    · obtain ⟨k, rfl, hq⟩ := hv
      exact ⟨k, rfl, wpAny_pure ⟨_, rfl, hq⟩⟩
  unfold richCompare
  simp only [oneThing_ref]
  refine wpAny_holding (wpAny_bind (wpAny_cRoomFor (Nat.lt_of_succ_lt hu) ?_))
  refine wpAny_bind (I.type.here (wpAny_bind (hb.here ?_)))
  split
  · rename_i q
    have e : subIn K tb (.ref C) = some false := by
      rcases Bool.or_eq_true_iff.mp hn with e | e
      · rw [beq_iff_eq.mp e] at q; simp at q
      · exact beq_iff_eq.mp e
    refine wpAny_bind ((looks_subIn X e).here ?_)
    simp only [Bool.false_eq_true, if_false]
    refine wpAny_bind (wpAny_mono one (fun r s' z => ?_) fun _ _ e => e)
    obtain ⟨v, rfl, hq⟩ := z
    exact wpAny_pure hq
  · refine wpAny_bind (wpAny_pure ?_)
    simp only [Bool.false_eq_true, if_false]
    refine wpAny_bind (wpAny_mono one (fun r s' z => ?_) fun _ _ e => e)
    obtain ⟨v, rfl, hq⟩ := z
    exact wpAny_pure hq
end
end Om
/-! Om, part Re: == and != by an own __eq__. -/
namespace Om
open PySem PySem.Spec PyProof.Rows L2 RZ
theorem cx_false {P : Program} {w : World} {st : List Env} {H : Hp} {s s' : Shared} {e : Value} (h : CX P w st H s (fun _ _ _ => False) e s') : False := by
  obtain ⟨_, _, _, _, _, _, _, _, _, _, _, _, z⟩ := h
  exact z
/-- instances of C, C' may be asked for == by the def at f -/
structure EqCls (K : PySem.W.Frag) (C C' f : Addr) : Prop where
  eq : PySem.W.findIn K (.ref C) "__eq__" = some (some (.ref f))
  fn : PySem.W.isFn K (.ref f) = true
  nf : PySem.W.notFirst K C (.ref C') = true
  ne : PySem.W.findIn K (.ref C) "__ne__" = some (some (.builtin "object.__ne__"))
  ob : PySem.W.subIn K (.ref C) (.type "object") = some true
def rOwn (K : PySem.W.Frag) (C C' : Addr) (sp : Sp) (neg : Bool) : R2 := fun x y H Q => ∃ a b dx dy fs gs, x = .ref a ∧ y = .ref b ∧ H a = some (.ins C dx fs) ∧ H b = some (.ins C' dy gs) ∧
  sp [.ref a, .ref b] H (fun v H' => ∃ k, v = .bl k ∧ Q (.bl (k != neg)) H') fun _ _ _ => False
section
variable {X : Cx} {n : Nat} {f C C' : Addr} {fd : FuncData} {ps : List Str} {sp : Sp}
theorem op_own (neg : Bool) (F : FnOk X.prog X.w X.K X.mg X.base (CX X.prog X.w) n f fd ps sp) (q : EqCls X.K C C' f) (hb : Binds X.K fd ps []) (hr : Room (n + 1) X.A) (hu : X.A.units + 1 < cLine) :
    OpR X (compareOp (if neg = true then .NotEq else .Eq)) (rOwn X.K C C' sp neg) := by
  intro pins s σ H x y u v Q I rx ry h
  obtain ⟨a, b, dx, dy, fs, gs, rfl, rfl, ha, hb', hsp⟩ := h
  cases rx
  cases ry
  obtain ⟨mA, J, _⟩ := ins_get I.hok ha
  obtain ⟨mB, J', _⟩ := ins_get I.hok hb'
  obtain ⟨od, J, _⟩ := J.look
  obtain ⟨od', J', _⟩ := J'.look
  obtain ⟨m, hF⟩ := I.fr
  have hl := F.len _ _ _ _ hsp
  have r2 : Vals [V.ref a, V.ref b] [Value.ref a, Value.ref b] := .cons rfl (.cons rfl .nil)
  have run : ∀ (A : Around), Room n A → A.frames = X.A.frames → wpAny (model X.prog X.w) A (call (.ref f) [.ref a, .ref b]) (fun v s' => ∃ k, v = .bool k ∧ EP X pins σ Q (.bool (k != neg)) s') X.xe s := by
    intro A hrA fr
    have e0 : Env0 X.prog X.w X.K X.mg X.base A X.stack s H := by
      have e := I.env0
      exact ⟨by rw [fr]; exact e.frames, e.mod, e.bs, e.bsz, e.funs, e.frf, e.hok, e.bare⟩
    refine wpAny_call (codeAny_mono (F.run A X.stack s H ⟨[.ref a, .ref b], []⟩ [.ref a, .ref b] [.ref a, .ref b] _ _ hrA e0 (by
      have := hb s [.ref a, .ref b] I.kIn (by simpa using hl)
      simpa using this) r2 hsp) fun r s' hq => ?_)
    cases r with
    | error e => exact (cx_false hq).elim
    | ok fl =>
      cases fl with
      | ret w =>
        obtain ⟨z, H', I', rz, k, ez, ex⟩ := I.after hq
        subst ez
        cases rz
        exact ⟨k, rfl, .bl (k != neg), H', I', rfl, ex⟩
      | next => exact False.elim hq
      | brk => exact False.elim hq
      | cont => exact False.elim hq
  cases neg with
  | false =>
    show wpAny (model X.prog X.w) X.A (richCompare .Eq (.ref a) (.ref b)) (EP X pins σ Q) X.xe s
    refine PySem.W.cmp_K (op := .Eq) (tb := .ref C') (Nat.lt_of_succ_lt hu) hF I.ok.mod.kin J J'.type q.nf q.eq q.fn (wpAny_mono (run X.A (hr.mono (Nat.le_succ n)) rfl) (fun v s' hv => ?_) fun _ _ e => e)
    obtain ⟨k, rfl, h⟩ := hv
    rw [show (k != false) = k from by cases k <;> rfl] at h
    exact h
  | true =>
    show wpAny (model X.prog X.w) X.A (richCompare .NotEq (.ref a) (.ref b)) (EP X pins σ Q) X.xe s
    refine ne_K (tb := .ref C') hu hF I.ok.mod.kin J J'.type q.nf q.ne q.ob q.eq q.fn (wpAny_mono (run X.A.in1 hr.in1 rfl) (fun v s' hv => ?_) fun _ _ e => e)
    obtain ⟨k, rfl, h⟩ := hv
    rw [show (k != true) = !k from by cases k <;> rfl] at h
    exact ⟨k, rfl, h⟩
/-! ### by what they compute -/
/-- x == y, x != y: eqs tells which classes' instances are compared by which def -/
abbrev EqT := Nat → Nat → Option SF
def eqX (neg : Bool) (eqs : EqT) : P2 := fun x y R => match insOf R x, insOf R y with
  | some (c, _), some (c', _) => (match eqs c c' with
    | some F => (match F [x, y] R with
      | .ok (.bl k) R3 => some (.bl (k != neg), R3)
      | _ => none)
    | none => none)
  | none, none => eqD' neg x y R
  | _, _ => none
structure EqOk (X : Cx) (eqs : EqT) : Prop where
  ok : ∀ c c' F, eqs c c' = some F → ∃ n f fd ps, FnOk X.prog X.w X.K X.mg X.base (CX X.prog X.w) n f fd ps (spF X.K 2 F) ∧ EqCls X.K (He.ga X.K (clN c)) (He.ga X.K (clN c')) f ∧ Binds X.K fd ps [] ∧ Room (n + 1) X.A
theorem ok_eqX (hu : X.A.units + 64 < cLine) {eqs : EqT} (he : EqOk X eqs) (neg : Bool) : OpR X (compareOp (if neg = true then .NotEq else .Eq)) (fun x y H Q => rN X.K (pn2 (eqX neg eqs)) [x, y] H Q) := by
  intro pins s σ H x y u v Q I rx ry h
  obtain ⟨B, io, R, dx, dy, d, R', rep, r1, r2, e, q⟩ := rN2 h
  unfold eqX at e
  cases e1 : insOf R dx with
  | none =>
    cases e2 : insOf R dy with
    | none =>
      rw [e1, e2] at e
      have e : eqD' neg dx dy R = some (d, R') := e
      refine ok_eq hu neg pins s σ H x y u v Q I rx ry ⟨B, io, R, [dx, dy], rep, .cons r1 (.cons r2 .nil), ?_⟩
      show match eqD' neg dx dy R with
        | some (d, R') => ∀ io' H' v, Step io H io' H' → Rep X.K B io' R' H' → RD X.K (bars B io') io' H' d v → Q v H'
        | none => False
      rw [e]
      exact q
    | some z => rw [e1, e2] at e; cases e
  | some z =>
    obtain ⟨c, fs⟩ := z
    cases e2 : insOf R dy with
    | none => rw [e1, e2] at e; cases e
    | some z =>
      obtain ⟨c', gs⟩ := z
      rw [e1, e2] at e
      have e : (match eqs c c' with
        | some F => (match F [dx, dy] R with
          | .ok (.bl k) R3 => some (D.bl (k != neg), R3)
          | _ => none)
        | none => none) = some (d, R') := e
      cases e3 : eqs c c' with
      | none => rw [e3] at e; cases e
      | some F =>
        rw [e3] at e
        have e : (match F [dx, dy] R with
          | .ok (.bl k) R3 => some (D.bl (k != neg), R3)
          | _ => none) = some (d, R') := e
        obtain ⟨n, f, fd, ps, hF, qc, hb, hr⟩ := he.ok c c' F e3
        obtain ⟨a, dx', fvs, rfl, ha, _⟩ := RD.inst rep r1 e1
        obtain ⟨b, dy', gvs, rfl, hb', _⟩ := RD.inst rep r2 e2
        refine op_own neg hF qc hb hr (by omega) pins s σ H _ _ u v Q I rx ry ⟨a, b, dx', dy', fvs, gvs, rfl, rfl, ha, hb', B, io, R, [dx, dy], rep, .cons r1 (.cons r2 .nil), rfl, ?_⟩
        unfold PstF
        revert e
        cases F [dx, dy] R with
        | ok z R3 =>
          intro e io' H' w st rep' rz
          cases z with
          | bl k =>
            cases e
            cases rz
            exact ⟨k, rfl, q io' H' _ st rep' (.bl _)⟩
          | _ => cases e
        | exc _ _ _ => exact fun e => by cases e
        | err => exact fun e => by cases e
end
end Om
/-! Om, part Rf: what the head tells of classes. -/
namespace Om
open PySem PySem.Spec PyProof.Rows L2 RZ
section
variable {X : Cx} {W : WX} {a b c e : Expr} {pos : Pos} {ma mb : SE}
theorem se_cmpO {op : CmpOp} {p : P2} (ho : OpR X (compareOp op) (fun x y H Q => rN X.K (pn2 p) [x, y] H Q)) (h1 : PE X a (tE X.K W ma)) (h2 : PE X b (tE X.K W mb)) (hm : behindInMarks op b = false) : PE X (.Compare a [op] [b] pos) (tE X.K W (cOp2 p ma mb)) :=
  se_op2 (fun _ _ _ x y z => pe_cmpR z x y hm) ho h1 h2
theorem sb_cmpO {op : CmpOp} {p : P2} (ho : OpR X (compareOp op) (fun x y H Q => rN X.K (pn2 p) [x, y] H Q)) (h1 : PE X a (tE X.K W ma)) (h2 : PE X b (tE X.K W mb)) (hm : behindInMarks op b = false) : PT X (.Compare a [op] [b] pos) (tB X.K W (bOf (cOp2 p ma mb))) := by
  refine (pt_cmpR ho h1 h2 hm).imp fun σ H Q h => ?_
  have h1 := tst_of h
  have z := Told.eval (K := X.K) (W := W) (σ := σ) (H := H) (rel := RD X.K) (vs := []) (m := ma) (F := fun ds s R => (mb s R).bind fun y R2 => lift (pn2 p (ds ++ [y]) R2)) (Told.conv h1 fun _ _ => rfl)
  exact z.imp fun v H1 t => (Told.eval (vs := [v]) (m := mb) (F := fun ds s R => lift (pn2 p ds R)) t).imp fun w H2 t => Told.op t
end
/-! ### rows of facts -/
structure CRow where
  c : Nat
  ats : List Nat
  ms : List Str
  /-- made by an own __init__ -/
  ini : Bool
  /-- compared by an own __eq__ -/
  eq : Bool
def dB (p : Prop) [Decidable p] : Bool := decide p
def cA (K : PySem.W.Frag) (c : Nat) : Addr := He.ga K (clN c)
def mA (K : PySem.W.Frag) (c : Nat) (m : Str) : Addr := He.ma K (cA K c) m
structure ClsX (K : PySem.W.Frag) (C : Addr) : Prop where
  cls : Cls K C
  ha : PySem.W.findIn K (.ref C) "__class__" = some (some (.builtin "object.__class__"))
  hn : PySem.W.specialIn K (.builtin "object.__class__") "__get__" = some (some (.builtin "getset_descriptor.__get__"))
  ht : PySem.W.takesIn K (.builtin "object.__class__") = some true
  hm : PySem.W.mroIn K C (.type "object") = some true
def clsXB (K : PySem.W.Frag) (C : Addr) : Bool := PySem.W.plainGet K C Str.empty && (PySem.W.hasDictIn K C && (PySem.W.plainOver K C && (decide (PySem.W.findIn K (.ref C) "__setattr__" = some (some (.builtin "object.__setattr__"))) &&
  (decide (PySem.W.findIn K (.ref C) "__class__" = some (some (.builtin "object.__class__"))) && (decide (PySem.W.specialIn K (.builtin "object.__class__") "__get__" = some (some (.builtin "getset_descriptor.__get__"))) &&
  (decide (PySem.W.takesIn K (.builtin "object.__class__") = some true) && decide (PySem.W.mroIn K C (.type "object") = some true)))))))
theorem clsXB_ok {K : PySem.W.Frag} {C : Addr} (h : clsXB K C = true) : ClsX K C := by
  unfold clsXB at h
  obtain ⟨h1, h⟩ := He.ba h
  obtain ⟨h2, h⟩ := He.ba h
  obtain ⟨h3, h⟩ := He.ba h
  obtain ⟨h4, h⟩ := He.ba h
  obtain ⟨h5, h⟩ := He.ba h
  obtain ⟨h6, h⟩ := He.ba h
  obtain ⟨h7, h8⟩ := He.ba h
  exact ⟨⟨h1, h2, h3, of_decide_eq_true h4⟩, of_decide_eq_true h5, of_decide_eq_true h6, of_decide_eq_true h7, of_decide_eq_true h8⟩
def methB (K : PySem.W.Frag) (C : Addr) (m : Str) : Bool := decide (PySem.W.findIn K (.ref C) m = some (some (.ref (He.ma K C m)))) && (PySem.W.isFn K (.ref (He.ma K C m)) && PySem.W.keepIn K (.ref (He.ma K C m)))
theorem methB_ok {K : PySem.W.Frag} {C : Addr} {m : Str} (h : methB K C m = true) : Meth K C m (He.ma K C m) := by
  obtain ⟨h1, h⟩ := He.ba h
  obtain ⟨h2, h3⟩ := He.ba h
  exact ⟨of_decide_eq_true h1, h2, h3⟩
def mkB (K : PySem.W.Frag) (C : Addr) : Bool := PySem.W.makesIn K C && (decide (PySem.W.findIn K (.ref C) "__init__" = some (some (.ref (He.ma K C "__init__")))) && (PySem.W.isFn K (.ref (He.ma K C "__init__")) && PySem.W.keepIn K (.ref C)))
theorem mkB_ok {K : PySem.W.Frag} {C : Addr} (h : mkB K C = true) : Mk K C (He.ma K C "__init__") := by
  obtain ⟨h1, h⟩ := He.ba h
  obtain ⟨h2, h⟩ := He.ba h
  obtain ⟨h3, h4⟩ := He.ba h
  exact ⟨h1, of_decide_eq_true h2, h3, h4⟩
def eqB (K : PySem.W.Frag) (C C' : Addr) : Bool := decide (PySem.W.findIn K (.ref C) "__eq__" = some (some (.ref (He.ma K C "__eq__")))) && (PySem.W.isFn K (.ref (He.ma K C "__eq__")) && (PySem.W.notFirst K C (.ref C') &&
  (decide (PySem.W.findIn K (.ref C) "__ne__" = some (some (.builtin "object.__ne__"))) && decide (PySem.W.subIn K (.ref C) (.type "object") = some true))))
theorem eqB_ok {K : PySem.W.Frag} {C C' : Addr} (h : eqB K C C' = true) : EqCls K C C' (He.ma K C "__eq__") := by
  obtain ⟨h1, h⟩ := He.ba h
  obtain ⟨h2, h⟩ := He.ba h
  obtain ⟨h3, h⟩ := He.ba h
  obtain ⟨h4, h5⟩ := He.ba h
  exact ⟨of_decide_eq_true h1, h2, h3, of_decide_eq_true h4, of_decide_eq_true h5⟩
/-- which answers isinstance gives: own classes' instances, built-in classes' values, against own classes -/
structure Kit where
  own : List (Nat × Nat × Bool)
  blt : List (String × Nat × Bool)
def CRow.ok (K : PySem.W.Frag) (r : CRow) : Bool := clsXB K (cA K r.c) && ((r.ats.all fun n => decide (PySem.W.findIn K (.ref (cA K r.c)) (atN n) = some none) && decide (n < atTab.length)) && ((r.ms.all fun m => methB K (cA K r.c) m) && (!r.ini || mkB K (cA K r.c))))
def factsB (K : PySem.W.Frag) (cr : List CRow) (eqs : List (Nat × Nat)) (kit : Kit) : Bool :=
  (cr.all fun r => r.ok K) && ((eqs.all fun p => eqB K (cA K p.1) (cA K p.2)) && ((kit.own.all fun p => decide (PySem.W.kitOne K (.ref (cA K p.1)) (.ref (cA K p.2.1)) = some p.2.2)) && (kit.blt.all fun p => decide (PySem.W.kitOne K (.type p.1) (.ref (cA K p.2.1)) = some p.2.2))))
section
variable {K : PySem.W.Frag} {cr : List CRow} {eqs : List (Nat × Nat)} {kit : Kit}
structure Facts (K : PySem.W.Frag) (cr : List CRow) (eqs : List (Nat × Nat)) (kit : Kit) : Prop where
  cls : ∀ r, r ∈ cr → ClsX K (cA K r.c)
  at_ : ∀ r, r ∈ cr → ∀ n, n ∈ r.ats → CaOk K r.c n
  me : ∀ r, r ∈ cr → ∀ m, m ∈ r.ms → Meth K (cA K r.c) m (mA K r.c m)
  make : ∀ r, r ∈ cr → r.ini = true → Mk K (cA K r.c) (mA K r.c "__init__")
  eq : ∀ p, p ∈ eqs → EqCls K (cA K p.1) (cA K p.2) (mA K p.1 "__eq__")
  ko : ∀ p, p ∈ kit.own → PySem.W.kitOne K (.ref (cA K p.1)) (.ref (cA K p.2.1)) = some p.2.2
  kb : ∀ p, p ∈ kit.blt → PySem.W.kitOne K (.type p.1) (.ref (cA K p.2.1)) = some p.2.2
theorem facts_ok (h : factsB K cr eqs kit = true) : Facts K cr eqs kit := by
  obtain ⟨h1, h⟩ := He.ba h
  obtain ⟨h2, h⟩ := He.ba h
  obtain ⟨h3, h4⟩ := He.ba h
  have row : ∀ r, r ∈ cr → r.ok K = true := fun r hr => List.all_eq_true.mp h1 r hr
  refine ⟨fun r hr => ?_, fun r hr n hn => ?_, fun r hr m hm => ?_, fun r hr hk => ?_, fun p hp => ?_, fun p hp => ?_, fun p hp => ?_⟩
  · exact clsXB_ok (He.ba (row r hr)).1
  · obtain ⟨k1, k⟩ := He.ba (row r hr)
    obtain ⟨k2, k⟩ := He.ba k
    obtain ⟨k3, k4⟩ := He.ba (List.all_eq_true.mp k2 n hn)
    have k5 : PySem.W.findIn K (.ref (cA K r.c)) (atN n) = some none := of_decide_eq_true k3
    exact ⟨(clsXB_ok k1).cls, k5, of_decide_eq_true k4⟩
  · obtain ⟨k1, k⟩ := He.ba (row r hr)
    obtain ⟨k2, k⟩ := He.ba k
    obtain ⟨k3, k4⟩ := He.ba k
    exact methB_ok (List.all_eq_true.mp k3 m hm)
  · obtain ⟨k1, k⟩ := He.ba (row r hr)
    obtain ⟨k2, k⟩ := He.ba k
    obtain ⟨k3, k4⟩ := He.ba k
    rw [hk] at k4
    exact mkB_ok k4
  · exact eqB_ok (List.all_eq_true.mp h2 p hp)
  · exact of_decide_eq_true (List.all_eq_true.mp h3 p hp)
  · exact of_decide_eq_true (List.all_eq_true.mp h4 p hp)
end
/-! ### isinstance against own classes -/
def clCps (j : Nat) : List Nat := (clN j).cps.toList
def clsIx (g : List Nat) : Option Nat := (List.range clTab.length).find? fun j => decide (clCps j = g)
theorem clsIx_ok {g : List Nat} {j : Nat} (h : clsIx g = some j) : strOf g = clN j := by
  have := List.find?_some h
  have e : clCps j = g := of_decide_eq_true this
  subst e
  unfold strOf clCps
  rw [Array.toArray_toList]
def kitO (kit : Kit) (c j : Nat) : Option Bool := (kit.own.find? fun p => decide (p.1 = c ∧ p.2.1 = j)).map fun p => p.2.2
def kitT (kit : Kit) (t : String) (j : Nat) : Option Bool := (kit.blt.find? fun p => decide (p.1 = t ∧ p.2.1 = j)).map fun p => p.2.2
def isiX (cls : List Nat) (kit : Kit) : PN := pn2 fun x y R => match y with
  | .glo g => (match clsIx g with
    | some j => (match insOf R x with
      | some (c, _) => if c ∈ cls then (kitO kit c j).map fun k => (D.bl k, R) else none
      | none => (match tyD R x with
        | some t => (kitT kit t j).map fun k => (D.bl k, R)
        | none => none))
    | none => none)
  | y => isiD [x, y] R
theorem ok_isiX {X : Cx} {cr : List CRow} {eqs : List (Nat × Nat)} {kit : Kit} (F : Facts X.K cr eqs kit) : CallR X (.builtin "isinstance") (rN X.K (isiX (cr.map (·.c)) kit)) := by
  intro pins s σ H xs us Q I r h
  obtain ⟨x, y, rfl⟩ := rN_2 h
  obtain ⟨B, io, R, dx, dy, d, R', rep, rx, ry, e, q⟩ := rN2 h
  split at e
  · rename_i g
    cases ej : clsIx g with
    | none => rw [ej] at e; cases e
    | some j =>
      rw [ej] at e
      have e : (match insOf R dx with
        | some (c, _) => if c ∈ cr.map (·.c) then (kitO kit c j).map fun k => (D.bl k, R) else none
        | none => (match tyD R dx with
          | some t => (kitT kit t j).map fun k => (D.bl k, R)
          | none => none)) = some (d, R') := e
      cases ry
      rw [clsIx_ok ej] at r
      cases ei : insOf R dx with
      | some z =>
        obtain ⟨c, fs⟩ := z
        rw [ei] at e
        have e : (if c ∈ cr.map (·.c) then (kitO kit c j).map fun k => (D.bl k, R) else none) = some (d, R') := e
        split at e
        · rename_i hc
          obtain ⟨k, ek, e2⟩ := Option.map_eq_some_iff.mp e
          cases e2
          obtain ⟨row, hr, hrc⟩ := List.mem_map.mp hc
          subst hrc
          obtain ⟨p, ep, e3⟩ := Option.map_eq_some_iff.mp ek
          have hp0 := List.find?_some ep
          have hp : p.1 = row.c ∧ p.2.1 = j := by simpa using hp0
          have hk := F.ko p (List.mem_of_find?_eq_some ep)
          rw [hp.1, hp.2, e3] at hk
          obtain ⟨a, dx', fvs, rfl, ha, _⟩ := RD.inst rep rx ei
          have cx := F.cls row hr
          exact call_isi pins s σ H _ us Q I r ⟨.ref a, _, _, _, k, rfl, .own _, .base (.ins ha cx.cls cx.ha cx.hn cx.ht cx.hm), hk, q io H _ (Step.refl _ _) rep (.bl _)⟩
        · cases e
      | none =>
        rw [ei] at e
        have e : (match tyD R dx with
          | some t => (kitT kit t j).map fun k => (D.bl k, R)
          | none => none) = some (d, R') := e
        cases et : tyD R dx with
        | none => rw [et] at e; cases e
        | some t =>
          rw [et] at e
          obtain ⟨k, ek, e2⟩ := Option.map_eq_some_iff.mp e
          cases e2
          obtain ⟨p, ep, e3⟩ := Option.map_eq_some_iff.mp ek
          have hp0 := List.find?_some ep
          have hp : p.1 = t ∧ p.2.1 = j := by simpa using hp0
          have hk := F.kb p (List.mem_of_find?_eq_some ep)
          rw [hp.1, hp.2, e3] at hk
          exact call_isi pins s σ H _ us Q I r ⟨x, _, _, _, k, rfl, .own _, tyD_ty I rep rx et, hk, q io H _ (Step.refl _ _) rep (.bl _)⟩
  · refine ok_isi pins s σ H _ us Q I r ⟨B, io, R, [dx, dy], rep, .cons rx (.cons ry .nil), ?_⟩
    rw [e]
    exact q
/-! ### the Hook -/
def obsO (φ : PySem.W.Frag → Bool) (fa : List He.Fa) (fn : List He.DefD) (K : PySem.W.Frag) : He.AlD := (φ K && (He.obsD fa fn K).1, (He.obsD fa fn K).2)
def SaysO (φ : PySem.W.Frag → Bool) (fa : List He.Fa) (fn : List He.DefD) (K : PySem.W.Frag) : Prop := obsO φ fa fn K = He.valD fn
def obsOG (n : Nat) (φ : PySem.W.Frag → Bool) (fa : List He.Fa) (fn : List He.DefD) (g : Addr → Option Obj) : He.AlD := obsO φ fa fn (He.frG g (He.asD g n))
def hookO (n : Nat) (φ : PySem.W.Frag → Bool) (fa : List He.Fa) (fn : List He.DefD) : PySem.W.Hook where
  α := He.AlD
  obs := fun s => obsOG n φ fa fn s.heap.get?
  val := fun _ => He.valD fn
  says := fun _ h => ∃ K : PySem.W.Frag, K.In h ∧ SaysO φ fa fn K
  of := fun _ _ e => ⟨_, He.frG_in, e⟩
  keeps := fun _ _ _ ⟨K, hK, c⟩ k => ⟨K, PySem.W.Frag.In.keeps hK k, c⟩
theorem obsOG_eq {n : Nat} {φ : PySem.W.Frag → Bool} {fa : List He.Fa} {fn : List He.DefD} {g : Addr → Option Obj} {s : Shared} (h : ∀ a, g a = s.heap.get? a) : obsOG n φ fa fn g = (hookO n φ fa fn).obs s := by
  have e : g = s.heap.get? := funext h
  rw [e] <;> rfl
theorem SaysO.says {φ : PySem.W.Frag → Bool} {fa : List He.Fa} {fn : List He.DefD} {K : PySem.W.Frag} (c : SaysO φ fa fn K) : φ K = true ∧ He.SaysD fa fn K := by
  have c' : obsO φ fa fn K = He.valD fn := c
  have h1 : (φ K && (He.obsD fa fn K).1) = true := congrArg (fun z : He.AlD => z.1) c'
  have h2 : (obsO φ fa fn K).2 = (He.valD fn).2 := by rw [c']
  obtain ⟨k1, k2⟩ := He.ba h1
  exact ⟨k1, Prod.ext k2 h2⟩
end Om
/-! Om, part Rg: o.f op= e. -/
namespace Om
open PySem PySem.Spec PyProof.Rows L2 RZ
def sFAug (ca : CaT) (n : Nat) (p : P2) (o b : SE) : SS := fun s R => sBind (o s R) s fun x R1 => match fldD ca n x R1 with
  | some (y, _) => sBind (b s R1) s fun z R2 => (match p y z R2 with
    | some (w, R3) => if (insOf R1 x).map (fun q => q.1) = (insOf R3 x).map (fun q => q.1) then (match setF ca n x w R3 with
      | some R4 => .nx s R4
      | none => .err) else .err
    | none => .err)
  | none => .err
section
variable {X : Cx} {W : WX} {b o : Expr} {ma mo : SE} {pos pos' : Pos} {ca : CaT} {n : Nat} {f : Str} {op : Operator} {p : P2}
theorem fld_ok {K : PySem.W.Frag} {B : Addr → Prop} {io : Io} {R R' : Rg} {H : Hp} {x d : D} {v : V} (hca : ∀ c n, okAt ca c n = true → CaOk K c n) (rep : Rep K B io R H) (r : RD K (bars B io) io H x v) (e : fldD ca n x R = some (d, R')) :
    ∃ p c dx fvs w, (insOf R x).map (fun q => q.1) = some c ∧ v = .ref p ∧ H p = some (.ins (He.ga K (clN c)) dx fvs) ∧ CaOk K c n ∧ fvs.lookup (atN n) = some w ∧ RD K (bars B io) io H d w := by
  unfold fldD at e
  cases ei : insOf R x with
  | none => rw [ei] at e; cases e
  | some z =>
    obtain ⟨c, fs⟩ := z
    rw [ei] at e
    have e : (if okAt ca c n = true then (lookF fs n).map fun d => (d, R) else none) = some (d, R') := e
    split at e
    · rename_i hk
      have k := hca c n hk
      obtain ⟨q, dx, fvs, rfl, hp, rf⟩ := RD.inst rep r ei
      have z := lookF_rd k.lt rf
      cases el : lookF fs n with
      | none => rw [el] at e; cases e
      | some y =>
        rw [el] at e z
        cases e
        obtain ⟨w, h1, h2⟩ := z
        exact ⟨q, c, dx, fvs, w, rfl, rfl, hp, k, h1, h2⟩
    · cases e
theorem ss_faug (hca : ∀ c n, okAt ca c n = true → CaOk X.K c n) (hf : atN n = f) (ho : PE X o (tE X.K W mo)) (hv : PE X b (tE X.K W ma)) (hop : PIp X op (fun x y H Q => rN X.K (pn2 p) [x, y] H Q)) :
    PS X (.AugAssign (.Attribute o f pos') op b pos) (tS X.K W (sFAug ca n p mo ma)) := by
  subst hf
  refine (ps_fldaug ho hv (rd := fun x y H Q => rN X.K (pn2 p) [x, y] H Q) hop).imp fun D σ H ⟨B, io, R, s, rep, rs, q⟩ => ?_
  refine ⟨B, io, R, s, [], rep, rs, .nil, (PstS.bind (rel := RD X.K) q rs ⟨R, rep⟩).imp fun v H1 ⟨io1, R1, x, st1, rep1, rx, p1⟩ => ?_⟩
  have rs1 := rs.car (st1.car rep)
  cases e1 : fldD ca n x R1 with
  | none => rw [e1] at p1; exact p1.elim
  | some z =>
    obtain ⟨y, R1'⟩ := z
    rw [e1] at p1
    obtain ⟨a, c, dx, fvs, w, hcl, rfl, ha, k, hl, ry⟩ := fld_ok hca rep1 rx e1
    refine ⟨a, _, dx, fvs, w, rfl, ha, k.cls, k.no, hl, ?_⟩
    refine ⟨B, io1, R1, s, [], rep1, rs1, .nil, (PstS.bind (rel := RD X.K) p1 rs1 ⟨R1, rep1⟩).imp fun u H2 ⟨io2, R2, z, st2, rep2, rz, p2⟩ => ?_⟩
    have rs2 := rs1.car (st2.car rep1)
    have rx2 := rx.car (st2.car rep1)
    have ry2 := ry.car (st2.car rep1)
    refine ⟨B, io2, R2, [y, z], rep2, .cons ry2 (.cons rz .nil), ?_⟩
    show match p y z R2 with
      | some (d, R') => _
      | none => False
    cases e2 : p y z R2 with
    | none => rw [e2] at p2; exact p2.elim
    | some zz =>
      obtain ⟨w', R3⟩ := zz
      rw [e2] at p2
      intro io3 H3 v3 st3 rep3 r3
      have rx3 := rx2.car (st3.car rep2)
      have rs3 := rs2.car (st3.car rep2)
      have p2 : PstS X.K B io2 H2 W (if (insOf R1 x).map (fun q => q.1) = (insOf R3 x).map (fun q => q.1) then (match setF ca n x w' R3 with
        | some R4 => .nx s R4
        | none => .err) else .err) D := p2
      by_cases heq : (insOf R1 x).map (fun q => q.1) = (insOf R3 x).map (fun q => q.1)
      · rw [if_pos heq] at p2
        rw [hcl] at heq
        cases e3 : setF ca n x w' R3 with
        | none => rw [e3] at p2; exact p2.elim
        | some R4 =>
          rw [e3] at p2
          obtain ⟨a', c', dx', fvs', ea, ha', k', hl', st4, rep4⟩ := setF_ok hca rep3 rx3 r3 e3
          have ea : a = a' := by cases ea; rfl
          subst ea
          have hcc : He.ga X.K (clN c') = He.ga X.K (clN c) := by
            obtain ⟨⟨c2, fs2⟩, ei, e5⟩ := Option.map_eq_some_iff.mp heq.symm
            have e5 : c2 = c := e5
            subst e5
            obtain ⟨q, dx2, fv2, e6, hp2, _⟩ := RD.inst rep3 rx3 ei
            cases e6
            rw [ha'] at hp2
            exact (HO.ins.inj (Option.some.inj hp2)).1
          rw [hcc] at ha' st4 rep4
          exact ⟨dx', fvs', ha', hl', p2 io3 _ σ (st3.trans st4) rep4 (rs3.car (st4.car rep3))⟩
      · rw [if_neg heq] at p2
        exact p2.elim
end
end Om
/-! Om, part T: exceptions. -/
namespace Om
open PySem PySem.Spec PyProof.Rows L2 RZ
/-! ### own exception classes with an __init__ that calls its base's -/
structure ExB (K : PySem.W.Frag) (L : Addr) : Prop where
  ga : PySem.W.specialIn K (.ref L) "__getattribute__" = some (some (.builtin "type.__getattribute__"))
  rd : PySem.W.readsIn K L (.type "type") = true
  v : PySem.W.findCls K (.ref L) (.type "type") "__init__" = some (.val (.builtin "ValueError.__init__"))
section
variable {X : Cx} {o e : Expr} {es : List Expr} {to te : TE} {ta : TA} {f x : Str} {p p' p1 p2 pos : Pos} {L : Addr}
theorem pe_oinitB {pl : Sem Bool} (T : ExB X.K L) (hg : Gl X x) (hm : X.mg x = some (.ref L)) (hdb : (x == ("__debug__" : Str)) = false) (ha : PA X (e :: es) ta)
    (hc : eval (.Call (.Attribute (.Name x p1) "__init__" p2) (e :: es) [] pos) X.env = (do
      let ov ← eval (.Name x p1) X.env
      standAt p2.atName
      let (f, first) ← holding [ov] (getMethod ov "__init__" pl)
      callWith pos f first (backTo pos (starEach (e :: es) X.env)) (backToKw pos (keywordEach [] X.env))))
    (he : starEach (e :: es) X.env = (false, eval e X.env) :: starEach es X.env) (hpl : (backTo pos (starEach es X.env)).any (·.1) = false) :
    PE X (.Call (.Attribute (.Name x p1) "__init__" p2) (e :: es) [] pos) (tVeI X.K ta) := by
  refine ⟨fun pins s σ H Q I h => ?_⟩
  refine PySem.W.methodCall_KW (ld_glob I hg hm ?_ hdb) hc
  refine PySem.W.method_cls I.kIn T.ga (PySem.W.cls_value I.kIn T.rd T.v (by decide +kernel) ?_)
  show wpAny _ _ (callWith pos (Value.builtin "ValueError.__init__") [] (backTo pos (starEach (e :: es) X.env)) []) _ _ _
  refine PyProof.Rows.callWith_method1 (thn (ha.run pos pins _ σ H _ (I.tok _) h) fun us s1 ⟨vs, H1, I1, r1, a, C, ws, ev, hl, T, ea, q⟩ => ?_) he hpl
  subst ev
  cases r1 with
  | @cons _ u0 _ ur ra rw' =>
    obtain rfl : u0 = Value.ref a := ra
    have hlen : ur.length ≤ sizeLine := by
      rw [← Paired.length rw', sizeLine_eq]
      omega
    exact oinit_ok T I1 ea hlen fun s' J => ⟨.non, H1, J, rfl, q⟩
end
/-- what C(y) of such a class does to self and its dict -/
def spX (C : Addr) (fld : Str) : Sp := fun vs H Q _ => ∃ a y, vs = [.ref a, y] ∧ H a = some (exo a C none) ∧ ∀ dx, H dx = none → dx ≠ a → Q .non (upd (upd H dx (exd dx [(fld, y)])) a (exo a C (some dx)))
/-- the body of such an __init__ -/
def xBody (L : Str) (self par msg fld : Str) (j : Nat) (p1 p2 p3 p4 p5 p6 p7 p8 p9 p10 : Pos) : List Stmt :=
  [.Expr (.Call (.Attribute (.Name L p1) "__init__" p2) [.Name self p3, .Constant (.str msg) j p4] [] p5) p6, .Assign [.Attribute (.Name self p7) fld p8] (.Name par p9) p10]
section
variable {P : Program} {w : World} {K : PySem.W.Frag} {mg : Str → Option Value} {base : Heap}
theorem xinit_ok {C L : Addr} {Ln fld msg self par qual x : Str} {j : Nat} {p1 p2 p3 p4 p5 p6 p7 p8 p9 p10 : Pos} {params : Arguments} {scope : Scope} {dvs : List V} {kws : List (Str × V)} {f : Addr} {fd : FuncData} (F : FunD K x qual params (xBody Ln self par msg fld j p1 p2 p3 p4 p5 p6 p7 p8 p9 p10) scope dvs kws f fd)
    (S : FnScope [self, par] [self, par] scope) (hs : scope.names.lookup self = some .local) (hp : scope.names.lookup par = some .local) (hL : scope.names.lookup Ln = some .globalImplicit) (d1 : (Ln == ("__debug__" : Str)) = false)
    (s1 : (self == ("__debug__" : Str)) = false ∧ (self == ("__classdict__" : Str)) = false) (s2 : (par == ("__debug__" : Str)) = false ∧ (par == ("__classdict__" : Str)) = false)
    (hc : ∀ env : Env, ∃ pl : Sem Bool, eval (.Call (.Attribute (.Name Ln p1) "__init__" p2) [.Name self p3, .Constant (.str msg) j p4] [] p5) env = (do
      let ov ← eval (.Name Ln p1) env
      standAt p2.atName
      let (f, first) ← holding [ov] (getMethod ov "__init__" pl)
      callWith p5 f first (backTo p5 (starEach [.Name self p3, .Constant (.str msg) j p4] env)) (backToKw p5 (keywordEach [] env))))
    (T : ExB K L) (hm : mg Ln = some (.ref L)) (O : OexC K C) (hno : PySem.W.findIn K (.ref C) fld = some none) (k : Nat) : FnOk P w K mg base (CX P w) (k + 1) f fd [self, par] (spX C fld) := by
  refine F.ok S (fun vs H Q E h => by obtain ⟨a, y, rfl, _⟩ := h; rfl) fun cdv A outer s H vs Q E hr hsp => ?_
  have pv : PE (cxOf (CX P w) P w K mg base [self, par] qual scope f cdv A outer s H E) (.Name self p3) (tVar 0) := pe_var rfl (.inl hs) s1.1 s1.2
  have pv7 : PE (cxOf (CX P w) P w K mg base [self, par] qual scope f cdv A outer s H E) (.Name self p7) (tVar 0) := pe_var rfl (.inl hs) s1.1 s1.2
  have pv9 : PE (cxOf (CX P w) P w K mg base [self, par] qual scope f cdv A outer s H E) (.Name par p9) (tVar 1) := pe_var rfl (.inl hp) s2.1 s2.2
  obtain ⟨pl, hc⟩ := hc (cxOf (CX P w) P w K mg base [self, par] qual scope f cdv A outer s H E).env
  have c1 := pe_oinitB (X := cxOf (CX P w) P w K mg base [self, par] qual scope f cdv A outer s H E) (p1 := p1) (p2 := p2) (pos := p5) T (show Gl _ Ln from hL) hm d1 (pa_cons pv (pa_cons (pe_str (x := msg) (j := j) (pos := p4)) pa_nil)) hc (by rfl) (by rfl)
  refine ⟨_, pss_cons (ps_expr c1 (by rfl)) (pss_cons (ps_ost pv7 pv9 (by rfl)) pss_nil), ?_⟩
  obtain ⟨a, y, rfl, ea, q⟩ := hsp
  exact ⟨.ref a, rfl, a, C, [.str msg], rfl, by simp, O, ea, y, rfl, .ref a, rfl, a, C, rfl, O, hno, .inl ⟨ea, fun dx n ne => q dx n ne⟩⟩
end
/-! ### raise -/
/-- raise C('m') -/
def sRaise0 (c : Nat) : SS := fun s R => .exc c .undef s R
/-- raise C(e), C with an own __init__ -/
def sRaise1 (c : Nat) (a : SE) : SS := fun s R => sBind (a s R) s fun d R1 => .exc c d s R1
abbrev xA (K : PySem.W.Frag) (c : Nat) : Addr := He.ga K (exN c)
section
variable {X : Cx} {W : WX} {e : Expr} {ma : SE} {c : Nat} {x m : Str} {j : Nat} {p p2 pos pos' : Pos} {bmB : List Value} {B newId initId : String}
theorem ss_raise0 (hc : X.calm = true) (tk : Takes X W) (F : ExcBaseFacts B newId initId bmB) (q : PySem.W.excIn X.K (xA X.K c) bmB newId = true) (gC : X.mg x = some (.ref (xA X.K c))) (kC : PySem.W.keepIn X.K (.ref (xA X.K c)) = true) (r : Raises X (.ref (xA X.K c))) (hg : Gl X x)
    (hdb : (x == ("__debug__" : Str)) = false) : PS X (.Raise (some (.Call (.Name x p) [.Constant (.str m) j p2] [] pos)) none pos') (tS X.K W (sRaise0 c)) :=
  (ps_raise hc tk (pmk_own F q gC kC r hg hdb)).imp fun D σ H ⟨B, io, R, s, rep, rs, q⟩ => q io H σ (.ref (xA X.K c)) none (Step.refl _ _) rep rs ⟨rfl, .inl ⟨rfl, rfl⟩⟩
theorem ss_raise1 {fI : Addr} {k : Nat} {fd : FuncData} {ps : List Str} (hc : X.calm = true) (tk : Takes X W) (T : OexC X.K (xA X.K c)) (iC : PySem.W.findIn X.K (.ref (xA X.K c)) "__init__" = some (some (.ref fI))) (tI : PySem.W.typeIn X.K (.ref fI) = some (.type "function"))
    (F1 : FnOk X.prog X.w X.K X.mg X.base (CX X.prog X.w) k fI fd ps (spX (xA X.K c) (exFld c))) (hr : Room (k + 1) X.A) (hb : Binds X.K fd ps []) (hx : Passes (CX X.prog X.w) X (fun _ _ _ => False)) (hg : Gl X x) (hm : X.mg x = some (.ref (xA X.K c)))
    (hdb : (x == ("__debug__" : Str)) = false) (he : PE X e (tE X.K W ma)) (hst : starEach [e] X.env = (false, eval e X.env) :: starEach [] X.env) : PS X (.Raise (some (.Call (.Name x p) [e] [] pos)) none pos') (tS X.K W (sRaise1 c ma)) :=
  (ps_raise hc tk (pmk_oex T iC tI F1 hr hb .nil hx hg hm (pa_cons he pa_nil hst) hdb hst (by rfl))).imp fun D σ H ⟨B, io, R, s, rep, rs, q⟩ => by
    show tE X.K W ma σ H fun v H1 => [v].length ≤ 1000 ∧ ∀ a, H1 a = none → spX (xA X.K c) (exFld c) (.ref a :: ([v] ++ [])) (upd H1 a (exo a (xA X.K c) none)) _ _
    refine ⟨B, io, R, s, [], rep, rs, .nil, (PstS.bind (rel := RD X.K) q rs ⟨R, rep⟩).imp fun y H1 ⟨io1, R1, dy, st1, rep1, ry, q1⟩ => ⟨by simp, fun a ha => ⟨a, y, rfl, upd_same, fun dx hdx hne => ⟨rfl, dx, [(exFld c, y)], upd_same, ?_, ?_, ?_⟩⟩⟩⟩
    · rw [upd_ne hne, upd_same]
    · rw [upd_ne hne] at hdx
      exact hdx
    · have hd1 : H1 dx = none := by rw [upd_ne hne] at hdx; exact hdx
      have c1 := st1.car rep
      have hH : upd (del (upd (upd (upd H1 a (exo a (xA X.K c) none)) dx (exd dx [(exFld c, y)])) a (exo a (xA X.K c) (some dx))) a) dx (.xd [(exFld c, y)]) = upd H1 dx (.xd [(exFld c, y)]) := by
        funext b
        by_cases h1 : b = dx
        · subst h1
          rw [upd_same, upd_same]
        · rw [upd_ne h1, upd_ne h1]
          by_cases h2 : b = a
          · subst h2
            rw [del_same, ha]
          · rw [del_ne h2, upd_ne h2, upd_ne h1, upd_ne h2]
      rw [hH]
      have st2 := Step.add (io := io1) (o := .xd [(exFld c, y)]) hd1
      have c2 := st2.car rep1
      exact q1 io1 _ σ _ (some dx) st2 (rep1.add hd1) ((rs.car c1).car c2) ⟨rfl, .inr ⟨dx, y, rfl, upd_same, ry.car c2⟩⟩
end
/-! ### try -/
def noExc (o : Out) : Out := match o with
  | .exc _ _ _ _ => .err
  | o => o
def unbind (i : Nat) (o : Out) : Out := match o with
  | .nx s R => .nx (s.set i .undef) R
  | .bk s R => .bk (s.set i .undef) R
  | .ct s R => .ct (s.set i .undef) R
  | o => o
/-- try: body / except C: suite -/
def sTryO (body : SS) (hit : Nat → Option Bool) (suite : Nat → D → SS) : SS := fun s R => match body s R with
  | .exc c f s1 R1 => (match hit c with
    | some true => noExc (suite c f s1 R1)
    | some false => .exc c f s1 R1
    | none => .err)
  | o => o
/-- try: body / except C as n: suite -/
def sTryA (body : SS) (hit : Nat → Option Bool) (i : Nat) (suite : Nat → D → SS) : SS := fun s R => match body s R with
  | .exc c f s1 R1 => (match hit c with
    | some true => if i < s1.length then unbind i (noExc (suite c f (s1.set i .undef) R1)) else .err
    | some false => .exc c f s1 R1
    | none => .err)
  | o => o
/-- within an except suite: c's exception stands at a, its dict at d -/
def tX (K : PySem.W.Frag) (i : Option Nat) (a : Addr) (cls : Value) (d : Option Addr) (c : Nat) (f : D) (m : SS) : TS := fun D σ H => ∃ B io R s, Rep K B io R H ∧ RS K (bars B io) io H s σ ∧ RX K (bars B io) io H c f cls d ∧ (∀ j, i = some j → σ[j]? = some (some (.ref a))) ∧ PstS K B io H noX (noExc (m s R)) D
theorem _root_.L2.PSs.anyX {X : Cx} {sts : List Stmt} {ι : Type} {t : ι → TS} (h : ∀ i, PSs X sts (t i)) : PSs X sts (fun D σ H => ∃ i, t i D σ H) := ⟨fun pins s σ H D I ⟨i, q⟩ => (h i).run pins s σ H D I q⟩
theorem rs_undef {K : PySem.W.Frag} {bar : Addr → Prop} {io : Io} {H : Hp} {s : List D} {σ : S} {i : Nat} {o : Option V} (rs : RS K bar io H s σ) : RS K bar io H (s.set i .undef) (σ.set i o) := by
  refine ⟨by rw [List.length_set, List.length_set]; exact rs.1, fun j d e => ?_⟩
  by_cases hj : i = j
  · subst hj
    have hl := (List.getElem?_eq_some_iff.mp e).1
    rw [List.length_set] at hl
    rw [List.getElem?_set_self hl] at e
    cases e
    exact ⟨o, List.getElem?_set_self (by rw [← rs.1]; exact hl), .inl rfl⟩
  · rw [List.getElem?_set_ne hj] at e ⊢
    exact rs.2 j d e
section
variable {X : Cx} {W : WX} {x n : Str} {clause : Value} {body suite : List Stmt} {b₀ : Stmt} {np pos pos' : Pos} {mb : SS} {ms : Nat → D → SS} {hit : Nat → Option Bool} {i : Nat}
theorem ss_try_only (hs : X.stack = X.env :: X.outer) (hf : X.env.frame = some X.env.locals) (hc : Names X x clause) (tk : Takes X W)
    (hh : ∀ c b, hit c = some b → PySem.W.exmOne X.K (.ref (xA X.K c)) clause = some b)
    (hb : ∀ (W : WX) (pn : List (Addr × Obj)) (xe : Value → Shared → Prop), Takes (X.tr pn xe) W → PassesOwn (model X.prog X.w) X.A X.env xe → PSs (X.tr pn xe) body (tS X.K W mb))
    (hsu : ∀ (a : Addr) (oe : Obj) (cls : Value) (d : Option Addr) (pn : List (Addr × Obj)) (c : Nat) (f : D), Zc cls d oe → (∃ vs, oe.data = .fields vs) → PSs (X.suite a ((a, oe) :: pn)) (b₀ :: suite) (tX X.K none a cls d c f (ms c f))) :
    PS X (.Try body [.ExceptHandler (some (.Name x np)) none (b₀ :: suite) pos'] [] [] pos) (tS X.K W (sTryO mb hit ms)) :=
  (ps_try_only (ts := fun a cls d Dn σ H => ∃ z : Nat × D, tX X.K none a cls d z.1 z.2 (ms z.1 z.2) Dn σ H) hs hf hc tk hb fun a oe cls d pn hz hd => PSs.anyX fun z => hsu a oe cls d pn z.1 z.2 hz hd).imp fun D σ H ⟨B, io, R, s, rep, rs, q⟩ => by
    refine ⟨B, io, R, s, rep, rs, ?_⟩
    unfold sTryO at q
    cases e : mb s R with
    | exc c f s1 R1 =>
      rw [e] at q
      have q : PstS X.K B io H W (match hit c with
        | some true => noExc (ms c f s1 R1)
        | some false => .exc c f s1 R1
        | none => .err) D := q
      intro io' H' σ' cls d st rep' rs' rx
      obtain rfl := rx.1
      cases eh : hit c with
      | none => rw [eh] at q; exact q.elim
      | some b =>
        rw [eh] at q
        refine ⟨b, hh c b eh, fun hb a ha => ?_, fun hb => ?_⟩
        · subst hb
          have q : PstS X.K B io H W (noExc (ms c f s1 R1)) D := q
          refine ⟨(c, f), B, io', R1, s1, rep', rs', rx, fun j h => (by cases h), ?_⟩
          have q2 := PstS.shift st q
          show PstS X.K B io' H' noX (noExc (ms c f s1 R1)) D
          cases em : ms c f s1 R1 with
          | exc _ _ _ _ => rw [em] at q2; exact q2.elim
          | nx s R => rw [em] at q2; exact q2
          | rt d R => rw [em] at q2; exact q2
          | bk s R => rw [em] at q2; exact q2
          | ct s R => rw [em] at q2; exact q2
          | err => rw [em] at q2; exact q2
        · subst hb
          exact q io' H' σ' _ d st rep' rs' rx
    | nx s R => rw [e] at q; exact q
    | rt d R => rw [e] at q; exact q
    | bk s R => rw [e] at q; exact q
    | ct s R => rw [e] at q; exact q
    | err => rw [e] at q; exact q
theorem ss_try_as (hs : X.stack = X.env :: X.outer) (hf : X.env.frame = some X.env.locals) (hN : X.N.Nodup) (hi : X.N[i]? = some n) (hln : X.env.kindOf n = some .local) (hc : Names X x clause) (tk : Takes X W)
    (hh : ∀ c b, hit c = some b → PySem.W.exmOne X.K (.ref (xA X.K c)) clause = some b)
    (hb : ∀ (W : WX) (pn : List (Addr × Obj)) (xe : Value → Shared → Prop), Takes (X.tr pn xe) W → PassesOwn (model X.prog X.w) X.A X.env xe → PSs (X.tr pn xe) body (tS X.K W mb))
    (hsu : ∀ (a : Addr) (oe : Obj) (cls : Value) (d : Option Addr) (pn : List (Addr × Obj)) (c : Nat) (f : D), Zc cls d oe → (∃ vs, oe.data = .fields vs) → PSs (X.suite a ((a, oe) :: pn)) (b₀ :: suite) (tX X.K (some i) a cls d c f (ms c f))) :
    PS X (.Try body [.ExceptHandler (some (.Name x np)) (some n) (b₀ :: suite) pos'] [] [] pos) (tS X.K W (sTryA mb hit i ms)) :=
  (ps_try_as (ts := fun a cls d Dn σ H => ∃ z : Nat × D, tX X.K (some i) a cls d z.1 z.2 (ms z.1 z.2) Dn σ H) hs hf hN hi hln hc tk hb fun a oe cls d pn hz hd => PSs.anyX fun z => hsu a oe cls d pn z.1 z.2 hz hd).imp fun D σ H ⟨B, io, R, s, rep, rs, q⟩ => by
    refine ⟨B, io, R, s, rep, rs, ?_⟩
    unfold sTryA at q
    cases e : mb s R with
    | exc c f s1 R1 =>
      rw [e] at q
      have q : PstS X.K B io H W (match hit c with
        | some true => if i < s1.length then unbind i (noExc (ms c f (s1.set i .undef) R1)) else .err
        | some false => .exc c f s1 R1
        | none => .err) D := q
      intro io' H' σ' cls d st rep' rs' rx
      obtain rfl := rx.1
      cases eh : hit c with
      | none => rw [eh] at q; exact q.elim
      | some b =>
        rw [eh] at q
        refine ⟨b, hh c b eh, fun hb a ha => ?_, fun hb => ?_⟩
        · subst hb
          have q : PstS X.K B io H W (if i < s1.length then unbind i (noExc (ms c f (s1.set i .undef) R1)) else .err) D := q
          by_cases hil : i < s1.length
          case neg => rw [if_neg hil] at q; exact q.elim
          rw [if_pos hil] at q
          refine ⟨(c, f), B, io', R1, s1.set i .undef, rep', rs_undef rs', rx, fun j h => (by cases h; exact List.getElem?_set_self (by rw [← rs'.1]; exact hil)), ?_⟩
          have q2 := PstS.shift st q
          show PstS X.K B io' H' noX (noExc (ms c f (s1.set i .undef) R1)) _
          cases em : ms c f (s1.set i .undef) R1 with
          | exc _ _ _ _ => rw [em] at q2; exact q2.elim
          | nx s R => rw [em] at q2; exact fun io2 H2 σ2 st2 rep2 rs2 => q2 io2 H2 _ st2 rep2 (rs_undef rs2)
          | rt d R => rw [em] at q2; exact q2
          | bk s R => rw [em] at q2; exact fun io2 H2 σ2 st2 rep2 rs2 => q2 io2 H2 _ st2 rep2 (rs_undef rs2)
          | ct s R => rw [em] at q2; exact fun io2 H2 σ2 st2 rep2 rs2 => q2 io2 H2 _ st2 rep2 (rs_undef rs2)
          | err => rw [em] at q2; exact q2
        · subst hb
          exact q io' H' σ' _ d st rep' rs' rx
    | nx s R => rw [e] at q; exact q
    | rt d R => rw [e] at q; exact q
    | bk s R => rw [e] at q; exact q
    | ct s R => rw [e] at q; exact q
    | err => rw [e] at q; exact q
end
/-! ### within an except suite -/
def tXE (K : PySem.W.Frag) (i : Option Nat) (a : Addr) (cls : Value) (d : Option Addr) (c : Nat) (f : D) (m : SE) : TE := fun σ H Q => ∃ B io R s, Rep K B io R H ∧ RS K (bars B io) io H s σ ∧ RX K (bars B io) io H c f cls d ∧ (∀ j, i = some j → σ[j]? = some (some (.ref a))) ∧ Pst K B io H noX σ (RD K) (m s R) Q
section
variable {X : Cx} {i : Option Nat} {a : Addr} {cls : Value} {d : Option Addr} {c : Nat} {f : D} {m n : SE} {e e1 e2 : Expr} {pos : Pos} {ms : SS} {sts : List Stmt}
theorem sx_plain (h : PSs X sts (tS X.K noX ms)) : PSs X sts (tX X.K i a cls d c f ms) := ⟨fun pins s σ H D I ⟨B, io, R, sd, rep, rs, _, _, q⟩ => h.run pins s σ H D I ⟨B, io, R, sd, rep, rs, by
  cases e : ms sd R with
  | exc _ _ _ _ => rw [e] at q; exact q.elim
  | nx s R => rw [e] at q; exact q
  | rt d R => rw [e] at q; exact q
  | bk s R => rw [e] at q; exact q
  | ct s R => rw [e] at q; exact q
  | err => rw [e] at q; exact q⟩⟩
theorem xe_plain (h : PE X e (tE X.K noX m)) : PE X e (tXE X.K i a cls d c f m) := h.imp fun σ H Q ⟨B, io, R, s, rep, rs, _, _, q⟩ => ⟨B, io, R, s, [], rep, rs, .nil, q⟩
/-- error.f -/
theorem xe_fld {X0 : Cx} {oe : Obj} {pn : List (Addr × Obj)} {j : Nat} {n : Str} (T : XfC X0.K (xA X0.K c)) (hno : PySem.W.findIn X0.K (.ref (xA X0.K c)) (exFld c) = some none) (hn : exFld c = n) (hz : Zc cls d oe) (hf : ∃ vs, oe.data = .fields vs)
    (he : PE (X0.suite a ((a, oe) :: pn)) e (tVar j)) (hb : attributeBase e n (X0.suite a ((a, oe) :: pn)).env (eval e (X0.suite a ((a, oe) :: pn)).env) = eval e (X0.suite a ((a, oe) :: pn)).env) (hu : f ≠ .undef) :
    PE (X0.suite a ((a, oe) :: pn)) (.Attribute e n pos) (tXE X0.K (some j) a cls d c f (cCon f)) := by
  subst hn
  refine (pe_xf T hno hz hf he hb).imp fun σ H Q ⟨B, io, R, s, rep, rs, rx, hs, q⟩ => ?_
  rcases rx.2 with ⟨h1, _⟩ | ⟨dx, v, h1, h2, h3⟩
  · exact absurd h1 hu
  · exact ⟨.ref a, hs j rfl, rfl, rx.1, dx, [(exFld c, v)], v, h1, h2, by simp [List.lookup], q io H v (Step.refl _ _) rep h3⟩
theorem xTold {A Z : Type} {rel : Rel A Z} {σ : S} {H : Hp} {F : List D → List D → Rg → Res A} {Q : Z → Hp → Prop} {B : Addr → Prop} {io : Io} {R : Rg} {s : List D} (rep : Rep X.K B io R H) (rs : RS X.K (bars B io) io H s σ) (rx : RX X.K (bars B io) io H c f cls d)
    (hs : ∀ j, i = some j → σ[j]? = some (some (.ref a))) (p : Pst X.K B io H noX σ rel ((m s R).bind fun d R1 => F [d] s R1) Q) : tXE X.K i a cls d c f m σ H fun v H1 => Told X.K noX σ H1 rel [v] F Q :=
  ⟨B, io, R, s, rep, rs, rx, hs, (Pst.bind (rel' := RD X.K) p).imp fun v H1 ⟨io1, R1, d, st, rep1, q, p1⟩ => ⟨B, io1, R1, s, [d], rep1, rs.car (st.car rep), .cons q .nil, p1⟩⟩
theorem xe_cmp {op : CmpOp} {p : P2} (ho : OpR X (compareOp op) (fun x y H Q => rN X.K (pn2 p) [x, y] H Q)) (h1 : PE X e1 (tXE X.K i a cls d c f m)) (h2 : PE X e2 (tE X.K noX n)) (hm : behindInMarks op e2 = false) :
    PE X (.Compare e1 [op] [e2] pos) (tXE X.K i a cls d c f (cOp2 p m n)) := (pe_cmpR ho h1 h2 hm).imp fun σ H Q ⟨B, io, R, s, rep, rs, rx, hs, q⟩ => by
  have z := xTold (X := X) (m := m) (F := fun ds s R => (n s R).bind fun y R2 => lift (pn2 p (ds ++ [y]) R2)) rep rs rx hs q
  obtain ⟨B', io', R', s', rep', rs', rx', hs', q'⟩ := z
  exact ⟨B', io', R', s', rep', rs', rx', hs', q'.imp fun v H1 t => (Told.eval (vs := [v]) (m := n) (F := fun ds s R => lift (pn2 p ds R)) t).imp fun w H2 t => Told.op t⟩
/-- return e -/
theorem sx_ret (h : PE X e (tXE X.K i a cls d c f m)) : PSs X [.Return (some e) pos] (tX X.K i a cls d c f (sSeq (sRet m) sPass)) := (pss_cons (ps_ret h) pss_nil).imp fun D σ H ⟨B, io, R, s, rep, rs, rx, hs, q⟩ => by
  refine ⟨B, io, R, s, rep, rs, rx, hs, ?_⟩
  have q : PstS X.K B io H noX (noExc (sSeq (sRet m) sPass s R)) D := q
  unfold sSeq sRet at q
  cases e : m s R with
  | ok x R1 =>
    rw [e] at q
    intro io' H' v st rep' rv
    exact q io' H' v st rep' rv
  | exc c' f' R1 => rw [e] at q; exact q.elim
  | err => rw [e] at q; exact q.elim
theorem sx_if {op : CmpOp} {p : P2} {body : List Stmt} {mb : SS} {pos' : Pos} (ho : OpR X (compareOp op) (fun x y H Q => rN X.K (pn2 p) [x, y] H Q)) (h1 : PE X e1 (tXE X.K i a cls d c f m)) (h2 : PE X e2 (tE X.K noX n)) (hm : behindInMarks op e2 = false) (hb : PSs X body (tS X.K noX mb)) :
    PSs X [.If (.Compare e1 [op] [e2] pos) body [] pos'] (tX X.K i a cls d c f (sSeq (sIf (bOf (cOp2 p m n)) mb sPass) sPass)) := (pss_cons (ps_if (pt_cmpR ho h1 h2 hm) hb pss_nil) pss_nil).imp fun D σ H ⟨B, io, R, s, rep, rs, rx, hs, q⟩ => by
  have q : PstS X.K B io H noX (noExc (sSeq (sIf (bOf (cOp2 p m n)) mb sPass) sPass s R)) D := q
  have key : Pst X.K B io H noX σ (RD X.K) ((m s R).bind fun x R1 => (n s R1).bind fun y R2 => lift (p x y R2)) (fun v H1 => ∃ k, v = .bl k ∧ (if k = true then tS X.K noX mb D σ H1 else D.nx σ H1)) := by
    have e0 : cOp2 p m n s R = (m s R).bind fun x R1 => (n s R1).bind fun y R2 => lift (p x y R2) := rfl
    rw [← e0]
    cases e : cOp2 p m n s R with
    | exc c' f' R1 =>
      have : sIf (bOf (cOp2 p m n)) mb sPass s R = .exc c' f' s R1 := by unfold sIf bOf; rw [e]; rfl
      unfold sSeq at q
      rw [this] at q
      exact q.elim
    | err =>
      have : sIf (bOf (cOp2 p m n)) mb sPass s R = .err := by unfold sIf bOf; rw [e]; rfl
      unfold sSeq at q
      rw [this] at q
      exact q.elim
    | ok x R1 =>
      intro io' H' v st rep' rv
      cases rv with
      | bl k =>
        have hI : sIf (bOf (cOp2 p m n)) mb sPass s R = if k = true then mb s R1 else .nx s R1 := by unfold sIf bOf; rw [e]; cases k <;> rfl
        refine ⟨k, rfl, ?_⟩
        unfold sSeq at q
        rw [hI] at q
        cases k with
        | false => exact q io' H' σ st rep' (rs.car (st.car rep))
        | true =>
          refine ⟨B, io', R1, s, rep', rs.car (st.car rep), ?_⟩
          have q : PstS X.K B io H noX (noExc (match mb s R1 with
            | .nx s1 R2 => sPass s1 R2
            | o => o)) D := q
          cases em : mb s R1 with
          | nx s1 R2 => rw [em] at q; exact fun io2 H2 σ2 st2 rep2 rs2 => q io2 H2 σ2 (st.trans st2) rep2 rs2
          | rt x R2 => rw [em] at q; exact fun io2 H2 v st2 rep2 rv => q io2 H2 v (st.trans st2) rep2 rv
          | bk s1 R2 => rw [em] at q; exact fun io2 H2 σ2 st2 rep2 rs2 => q io2 H2 σ2 (st.trans st2) rep2 rs2
          | ct s1 R2 => rw [em] at q; exact fun io2 H2 σ2 st2 rep2 rs2 => q io2 H2 σ2 (st.trans st2) rep2 rs2
          | exc c' f' s1 R2 => rw [em] at q; exact q.elim
          | err => rw [em] at q; exact q.elim
      | _ =>
        have hI : sIf (bOf (cOp2 p m n)) mb sPass s R = .err := by unfold sIf bOf; rw [e]; rfl
        unfold sSeq at q
        rw [hI] at q
        exact q.elim
  have z := xTold (X := X) (m := m) (F := fun ds s R => (n s R).bind fun y R2 => lift (pn2 p (ds ++ [y]) R2)) rep rs rx hs key
  obtain ⟨B', io', R', s', rep', rs', rx', hs', q'⟩ := z
  exact ⟨B', io', R', s', rep', rs', rx', hs', q'.imp fun v H1 t => (Told.eval (vs := [v]) (m := n) (F := fun ds s R => lift (pn2 p ds R)) t).imp fun w H2 t => Told.op t⟩
end
end Om
/-! Om, part U: facts of exception classes. -/
namespace Om
open PySem PySem.Spec PyProof.Rows L2 RZ
def oexB (K : PySem.W.Frag) (C : Addr) : Bool := (match K.lookup C with
  | some ⟨.type "type", _, .cls cd, sl⟩ => (match cd.mro, sl.toList with
    | .ref C' :: bm, [_, _, _, _, some (.builtin n), _] => C' == C && (n == "ValueError.__new__" && (!cd.hasDel && (cd.hasDict && PySem.HandSPX.refsVE bm)))
    | _, _ => false)
  | _ => false) && (decide (PySem.W.findIn K (.ref C) "__setattr__" = some (some (.builtin "object.__setattr__"))) && (decide (PySem.W.subIn K (.ref C) (.type "BaseException") = some true) && (decide (PySem.W.typeIn K (.ref C) = some (.type "type")) && PySem.W.keepIn K (.ref C))))
theorem oexB_ok {K : PySem.W.Frag} {C : Addr} (h : oexB K C = true) : OexC K C := by
  obtain ⟨h1, h⟩ := He.ba h
  obtain ⟨h2, h⟩ := He.ba h
  obtain ⟨h3, h⟩ := He.ba h
  obtain ⟨h4, h5⟩ := He.ba h
  refine ⟨?_, of_decide_eq_true h2, of_decide_eq_true h3, of_decide_eq_true h4, h5⟩
  split at h1
  · rename_i dd cd sl ho
    split at h1
    · rename_i C' bm k0 k1 k2 k3 n k5 hm hs
      obtain ⟨e1, q⟩ := He.ba h1
      obtain ⟨e2, q⟩ := He.ba q
      obtain ⟨e3, q⟩ := He.ba q
      obtain ⟨e4, e5⟩ := He.ba q
      have e1 : C' = C := eq_of_beq e1
      have e2 : n = "ValueError.__new__" := eq_of_beq e2
      subst e1 e2
      obtain ⟨nm, bs, mro, ns, qn, hd, sn, sub, ab, col, del⟩ := cd
      dsimp only at hm e3 e4
      subst hm e4
      have e3 : del = false := by simpa using e3
      subst e3
      have hsl : sl = #[k0, k1, k2, k3, some (.builtin "ValueError.__new__"), k5] := by
        obtain ⟨l⟩ := sl
        simp only at hs
        rw [hs]
      subst hsl
      exact ⟨nm, qn, ns, bs, bm, sn, sub, ab, col, dd, k0, k1, k2, k3, k5, ho, e5⟩
    · cases h1
  · cases h1
/-- raised with a message alone -/
structure XMsg (K : PySem.W.Frag) (C : Addr) : Prop where
  ex : PySem.W.excIn K C He.veBase "ValueError.__new__" = true
  kC : PySem.W.keepIn K (.ref C) = true
  su : PySem.W.subIn K (.ref C) (.type "BaseException") = some true
  ty : PySem.W.typeIn K (.ref C) = some (.type "type")
/-- with an own __init__ -/
structure XOwn (K : PySem.W.Frag) (C : Addr) (f : Str) : Prop where
  oe : OexC K C
  iC : PySem.W.findIn K (.ref C) "__init__" = some (some (.ref (He.ma K C "__init__")))
  tI : PySem.W.typeIn K (.ref (He.ma K C "__init__")) = some (.type "function")
  xf : XfC K C
  no : PySem.W.findIn K (.ref C) f = some none
structure XRow where
  c : Nat
  own : Bool
def xmsgB (K : PySem.W.Frag) (C : Addr) : Bool := PySem.W.excIn K C He.veBase "ValueError.__new__" && (PySem.W.keepIn K (.ref C) && (decide (PySem.W.subIn K (.ref C) (.type "BaseException") = some true) && decide (PySem.W.typeIn K (.ref C) = some (.type "type"))))
theorem xmsgB_ok {K : PySem.W.Frag} {C : Addr} (h : xmsgB K C = true) : XMsg K C := by
  obtain ⟨h1, h⟩ := He.ba h
  obtain ⟨h2, h⟩ := He.ba h
  obtain ⟨h3, h4⟩ := He.ba h
  exact ⟨h1, h2, of_decide_eq_true h3, of_decide_eq_true h4⟩
def xownB (K : PySem.W.Frag) (C : Addr) (f : Str) : Bool := oexB K C && (decide (PySem.W.findIn K (.ref C) "__init__" = some (some (.ref (He.ma K C "__init__")))) && (decide (PySem.W.typeIn K (.ref (He.ma K C "__init__")) = some (.type "function")) && (xfB K C && decide (PySem.W.findIn K (.ref C) f = some none))))
theorem xownB_ok {K : PySem.W.Frag} {C : Addr} {f : Str} (h : xownB K C f = true) : XOwn K C f := by
  obtain ⟨h1, h⟩ := He.ba h
  obtain ⟨h2, h⟩ := He.ba h
  obtain ⟨h3, h⟩ := He.ba h
  obtain ⟨h4, h5⟩ := He.ba h
  exact ⟨oexB_ok h1, of_decide_eq_true h2, of_decide_eq_true h3, xfB_ok h4, of_decide_eq_true h5⟩
def exbB (K : PySem.W.Frag) (L : Addr) : Bool := decide (PySem.W.specialIn K (.ref L) "__getattribute__" = some (some (.builtin "type.__getattribute__"))) && (PySem.W.readsIn K L (.type "type") && (match PySem.W.findCls K (.ref L) (.type "type") "__init__" with
  | some (.val (.builtin b)) => b == "ValueError.__init__"
  | _ => false))
theorem exbB_ok {K : PySem.W.Frag} {L : Addr} (h : exbB K L = true) : ExB K L := by
  obtain ⟨h1, h⟩ := He.ba h
  obtain ⟨h2, h3⟩ := He.ba h
  refine ⟨of_decide_eq_true h1, h2, ?_⟩
  split at h3
  · rename_i b e
    rw [e, eq_of_beq h3]
  · cases h3
/-- what the head asks: the classes that are raised, and which clause takes which; base: the class whose __init__ is called -/
structure XKit where
  rows : List XRow
  hits : List (Nat × Nat × Bool)
def XRow.okB (K : PySem.W.Frag) (r : XRow) : Bool := if r.own = true then xownB K (xA K r.c) (exFld r.c) else xmsgB K (xA K r.c)
def xfactsB (K : PySem.W.Frag) (xk : XKit) : Bool := (xk.rows.all fun r => r.okB K) && ((xk.hits.all fun p => decide (PySem.W.exmOne K (.ref (xA K p.1)) (.ref (xA K p.2.1)) = some p.2.2)) && (xk.rows.all fun r => !r.own || exbB K (xA K 0)))
structure XFacts (K : PySem.W.Frag) (xk : XKit) : Prop where
  msg : ∀ r, r ∈ xk.rows → r.own = false → XMsg K (xA K r.c)
  own : ∀ r, r ∈ xk.rows → r.own = true → XOwn K (xA K r.c) (exFld r.c) ∧ ExB K (xA K 0)
  hit : ∀ p, p ∈ xk.hits → PySem.W.exmOne K (.ref (xA K p.1)) (.ref (xA K p.2.1)) = some p.2.2
theorem xfacts_ok {K : PySem.W.Frag} {xk : XKit} (h : xfactsB K xk = true) : XFacts K xk := by
  obtain ⟨h1, h⟩ := He.ba h
  obtain ⟨h2, h3⟩ := He.ba h
  refine ⟨fun r hr e => ?_, fun r hr e => ⟨?_, ?_⟩, fun p hp => of_decide_eq_true (List.all_eq_true.mp h2 p hp)⟩
  · have q := List.all_eq_true.mp h1 r hr
    unfold XRow.okB at q
    rw [e] at q
    exact xmsgB_ok q
  · have q := List.all_eq_true.mp h1 r hr
    unfold XRow.okB at q
    rw [e] at q
    exact xownB_ok q
  · have q := List.all_eq_true.mp h3 r hr
    rw [e] at q
    exact exbB_ok q
end Om
/-! Om, part N: the evaluator. -/
namespace Om
open PySem PySem.Spec PyProof.Rows L2 RZ
/-! ### by truth -/
def cAndT (a b : SE) : SE := fun s R => (a s R).bind fun x R1 => match truD R1 x with
  | some true => b s R1
  | some false => .ok x R1
  | none => .err
def cOrT (a b : SE) : SE := fun s R => (a s R).bind fun x R1 => match truD R1 x with
  | some true => .ok x R1
  | some false => b s R1
  | none => .err
def cNotT (a : SE) : SE := fun s R => (a s R).bind fun x R1 => match truD R1 x with
  | some k => .ok (.bl (!k)) R1
  | none => .err
def cDNew (m : Bool) : SE := fun _ R => lift (mkK m [] R)
section
variable {X : Cx} {W : WX} {a b c e : Expr} {es : List Expr} {ma mb mc : SE} {mas : SA} {pos : Pos}
theorem tru_core {K : PySem.W.Frag} {σ : S} {H : Hp} {f : D → Bool → SE} {Q : VK} (h : tE K W (fun s R => (ma s R).bind fun x R1 => match truD R1 x with
    | some k => f x k s R1
    | none => .err) σ H Q) : tE K W ma σ H fun v H1 => ∃ k, TruV K v H1 k ∧ ∃ B io R s d, Rep K B io R H1 ∧ RS K (bars B io) io H1 s σ ∧ RD K (bars B io) io H1 d v ∧ Pst K B io H1 W σ (RD K) (f d k s R) Q := by
  have h0 := Told.eval (vs := []) (m := ma) (F := fun ds s R => match ds with
    | [x] => (match truD R x with
      | some k => f x k s R
      | none => .err)
    | _ => .err) (rel := RD K) (Q := Q) (Told.conv h fun _ _ => rfl)
  refine h0.imp fun v H1 ⟨B, io, R, s, ds, rep, rs, rd, t⟩ => ?_
  obtain ⟨d, ds, rfl, r, rd⟩ := RDs.cons_inv rd
  cases rd.nil_inv
  have t : Pst K B io H1 W σ (RD K) (match truD R d with
      | some k => f d k s R
      | none => .err) Q := t
  cases e : truD R d with
  | none => rw [e] at t; exact t.elim
  | some k =>
    rw [e] at t
    exact ⟨k, tru_rd rep r e, B, io, R, s, d, rep, rs, r, t⟩
theorem se_andT {r : List Expr} (h1 : PE X a (tE X.K W ma)) (h2 : PE X (.BoolOp .And (b :: r) pos) (tE X.K W mb)) : PE X (.BoolOp .And (a :: b :: r) pos) (tE X.K W (cAndT ma mb)) := (pe_andT h1 h2).imp fun σ H Q h => by
  refine (tru_core (ma := ma) (f := fun x k s R => if k = true then mb s R else .ok x R) (Told.conv h fun s R => ?_)).imp fun v H1 ⟨k, tv, B, io, R, s, d, rep, rs, r, t⟩ => ⟨k, tv, ?_⟩
  · show (ma s R).bind _ = (ma s R).bind _
    congr 1
    funext d R1
    cases truD R1 d with
    | none => rfl
    | some k => cases k <;> rfl
  · cases k with
    | true =>
      rw [if_pos rfl] at t ⊢
      exact ⟨B, io, R, s, [], rep, rs, .nil, t⟩
    | false =>
      rw [if_neg (by decide)] at t ⊢
      exact t io H1 v (Step.refl _ _) rep r
theorem se_orT {r : List Expr} (h1 : PE X a (tE X.K W ma)) (h2 : PE X (.BoolOp .Or (b :: r) pos) (tE X.K W mb)) : PE X (.BoolOp .Or (a :: b :: r) pos) (tE X.K W (cOrT ma mb)) := (pe_orT h1 h2).imp fun σ H Q h => by
  refine (tru_core (ma := ma) (f := fun x k s R => if k = true then .ok x R else mb s R) (Told.conv h fun s R => ?_)).imp fun v H1 ⟨k, tv, B, io, R, s, d, rep, rs, r, t⟩ => ⟨k, tv, ?_⟩
  · show (ma s R).bind _ = (ma s R).bind _
    congr 1
    funext d R1
    cases truD R1 d with
    | none => rfl
    | some k => cases k <;> rfl
  · cases k with
    | true =>
      rw [if_pos rfl] at t ⊢
      exact t io H1 v (Step.refl _ _) rep r
    | false =>
      rw [if_neg (by decide)] at t ⊢
      exact ⟨B, io, R, s, [], rep, rs, .nil, t⟩
theorem se_notT (h1 : PE X a (tE X.K W ma)) : PE X (.UnaryOp .Not a pos) (tE X.K W (cNotT ma)) := (pe_notT h1).imp fun σ H Q h => by
  refine (tru_core (ma := ma) (f := fun x k s R => .ok (.bl (!k)) R) (Told.conv h fun s R => rfl)).imp fun v H1 ⟨k, tv, B, io, R, s, d, rep, rs, r, t⟩ => ⟨k, tv, ?_⟩
  exact t io H1 _ (Step.refl _ _) rep (.bl _)
theorem se_one {op : BoolOp} {t : TE} (h : PE X a t) : PE X (.BoolOp op [a] pos) t := ⟨fun pins s σ H Q I q => h.run pins s σ H Q I q⟩
theorem se_dnew {m : Bool} : PE X (.Dict [] [] pos) (tE X.K W (cDNew m)) := pe_dnewK.imp fun σ H Q ⟨B, io, R, s, ds, rep, rs, rd, t⟩ p hp => by
  have t : Pst X.K B io H W σ (RD X.K) (lift (mkK m [] R)) Q := t
  cases e : mkK m [] R with
  | none => rw [e] at t; exact t.elim
  | some z =>
    obtain ⟨d, R'⟩ := z
    rw [e] at t
    obtain ⟨io', st, rep', r'⟩ := mkK_ok rep hp .nil e
    exact t io' _ _ st rep' r'
end
/-! ### the static context -/
inductive Gi where
  | con (d : D) | fn (n : Nat) (dfl : List D) | blt
  /-- a dict of the module: texts to numbers -/
  | kd (tb : Tb)
  /-- a tuple of the module: texts -/
  | kt (ts : List (List Nat))
  /-- an own class: n its __init__'s parameters but the first -/
  | cls (c n : Nat) (dfl : List D)
/-- the classes of a text -/
structure Sc where
  cr : List CRow
  eqs : List (Nat × Nat)
  kit : Kit
  /-- methods: name, class, parameters, defaults -/
  ms : List (Str × Nat × Nat × List D)
  /-- exceptions -/
  xk : XKit
def Sc.none : Sc := ⟨[], [], ⟨[], []⟩, [], ⟨[], []⟩⟩
def Sc.ca (z : Sc) : CaT := z.cr.map fun r => (r.c, r.ats)
def Sc.cls (z : Sc) : List Nat := z.cr.map (·.c)
def mkey (c : Nat) (m : Str) : Str := clN c ++ ("." : Str) ++ m
def eqF (call : Str → SF) (l : List (Nat × Nat)) : EqT := fun c c' => if (c, c') ∈ l then some (call (mkey c "__eq__")) else none
structure Cn where
  N : List Str
  sc : Scope
  glob : List (Str × Gi)
  st : Sc
  call : Str → SF
  mu : Pos → Bool
  /-- a def's own block -/
  top : Bool
  /-- within an except suite -/
  hot : Bool := false
  /-- a walk over a dict -/
  lk : Pos → Bool := fun _ => false
def idxN : List Str → Str → Option Nat
  | [], _ => none
  | y :: r, x => if y = x then some 0 else (idxN r x).map (· + 1)
theorem idxN_ok : ∀ {N : List Str} {x : Str} {i : Nat}, idxN N x = some i → N[i]? = some x
  | [], _, _, h => by cases h
  | y :: r, x, i, h => by
    unfold idxN at h
    split at h
    · rename_i e
      cases h
      rw [e]
      rfl
    · obtain ⟨j, e1, e2⟩ := Option.map_eq_some_iff.mp h
      subst e2
      exact idxN_ok (N := r) e1
def Cn.kind (C : Cn) (x : Str) : Option NameKind := C.sc.names.lookup x
def okName (x : Str) : Bool := !(x == ("__debug__" : Str)) && !(x == ("__classdict__" : Str))
def Cn.var (C : Cn) (x : Str) : Option Nat := match C.kind x with
  | some .local => if okName x = true then idxN C.N x else none
  | some .cell => if okName x = true then idxN C.N x else none
  | some .free => if okName x = true then idxN C.N x else none
  | _ => none
def Cn.own (C : Cn) (x : Str) : Option Nat := match C.kind x with
  | some .local => idxN C.N x
  | some .cell => idxN C.N x
  | _ => none
def Cn.loc (C : Cn) (x : Str) : Option Nat := match C.kind x with
  | some .local => idxN C.N x
  | _ => none
def Cn.gl (C : Cn) (x : Str) : Option Gi := match C.kind x with
  | some .globalImplicit => C.glob.lookup x
  | _ => none
def GOk (X : Cx) (C : Cn) (x : Str) (g : Gi) : Prop := match g with
  | .con d => (x == ("__debug__" : Str)) = false ∧ ∃ u v, X.mg x = some u ∧ RelV v u ∧ ∀ bar io H, RD X.K bar io H d v
  | .blt => X.mg x = none
  | .kd tb => (x == ("__debug__" : Str)) = false ∧ X.mg x = some (.ref (He.ga X.K x)) ∧ KT X.K X.w (He.ga X.K x) tb
  | .kt ts => (x == ("__debug__" : Str)) = false ∧ X.mg x = some (.ref (He.ga X.K x)) ∧ KTup X.K (He.ga X.K x) ts
  | .cls c n dfl => (x == ("__debug__" : Str)) = false ∧ X.mg x = some (.ref (cA X.K c)) ∧ Mk X.K (cA X.K c) (mA X.K c "__init__") ∧ ∃ k, DfOk X.prog X.w X.K X.mg X.base (C.call (mkey c "__init__")) (n + 1) dfl k (mA X.K c "__init__") ∧ Room (k + 1) X.A
  | .fn n dfl => (x == ("__debug__" : Str)) = false ∧ ∃ k f fd ps, X.mg x = some (.ref f) ∧ PySem.W.keepIn X.K (.ref f) = true ∧ FnOk X.prog X.w X.K X.mg X.base (CX X.prog X.w) k f fd ps (spF X.K n (C.call x)) ∧ Room k X.A ∧
    (∀ ds R, ds.length ≠ n → C.call x ds R = .err) ∧ ∀ m, m ≤ n → n ≤ m + dfl.length → ∃ dvs ds, (∀ bar io H, RDs X.K bar io H (dfl.drop (m + dfl.length - n)) dvs) ∧ Vals dvs ds ∧ Binds X.K fd ps ds
def MsOk (X : Cx) (C : Cn) (m : Str) (c n : Nat) (dfl : List D) : Prop := Meth X.K (cA X.K c) m (mA X.K c m) ∧ Cls X.K (cA X.K c) ∧ ∃ k, DfOk X.prog X.w X.K X.mg X.base (C.call (mkey c m)) n dfl k (mA X.K c m) ∧ Room k X.A
def XcOk (X : Cx) (r : XRow) : Prop := X.mg (exN r.c) = some (.ref (xA X.K r.c)) ∧ (exN r.c == ("__debug__" : Str)) = false ∧ match r.own with
  | false => XMsg X.K (xA X.K r.c)
  | true => XOwn X.K (xA X.K r.c) (exFld r.c) ∧ ∃ k fd ps, FnOk X.prog X.w X.K X.mg X.base (CX X.prog X.w) k (He.ma X.K (xA X.K r.c) "__init__") fd ps (spX (xA X.K r.c) (exFld r.c)) ∧ Room (k + 1) X.A ∧ Binds X.K fd ps []
structure XOk (C : Cn) (X : Cx) (W : WX) : Prop where
  N : X.N = C.N
  nd : C.N.Nodup
  kf : X.env.scope.kind = .function
  lo : ∀ x, C.kind x = some .local → X.env.scope.names.lookup x = some .local
  ce : ∀ x, C.kind x = some .cell → X.env.scope.names.lookup x = some .cell ∧ X.fn x = true
  fr : ∀ x, C.kind x = some .free → X.env.scope.names.lookup x = some .cell ∨ X.env.scope.names.lookup x = some .free
  gi : ∀ x, C.kind x = some .globalImplicit → X.env.scope.names.lookup x = some .globalImplicit
  top : C.top = true → ∀ x, X.env.kindOf x = C.kind x
  calm : C.hot = false → X.calm = true
  hu : X.A.units + 65 < cLine
  tk : Takes X W
  po : PassesOwn (model X.prog X.w) X.A X.env X.xe
  gl : ∀ x g, C.glob.lookup x = some g → GOk X C x g
  fa : Facts X.K C.st.cr C.st.eqs C.st.kit
  ms : ∀ m c n dfl, (m, c, n, dfl) ∈ C.st.ms → MsOk X C m c n dfl
  eq : EqOk X (eqF C.call C.st.eqs)
  xr : ∀ r, r ∈ C.st.xk.rows → XcOk X r
  xh : ∀ p, p ∈ C.st.xk.hits → PySem.W.exmOne X.K (.ref (xA X.K p.1)) (.ref (xA X.K p.2.1)) = some p.2.2 ∧ X.mg (exN p.2.1) = some (.ref (xA X.K p.2.1)) ∧ (exN p.2.1 == ("__debug__" : Str)) = false
  stk : C.top = true → X.stack = X.env :: X.outer ∧ X.env.frame = some X.env.locals
theorem takes_no {X : Cx} : Takes X noX := fun _ _ ⟨_, _, _, _, _, _, _, _, _, _, _, _, _, _, _, _, w⟩ => w.elim
theorem XOk.no {C : Cn} {X : Cx} {W : WX} (h : XOk C X W) : XOk C X noX := ⟨h.N, h.nd, h.kf, h.lo, h.ce, h.fr, h.gi, h.top, h.calm, h.hu, takes_no, h.po, h.gl, h.fa, h.ms, ⟨h.eq.ok⟩, h.xr, h.xh, h.stk⟩
theorem XOk.nox {C : Cn} {X : Cx} {W : WX} (h : XOk C X W) : XOk C X.nox noX := ⟨h.N, h.nd, h.kf, h.lo, h.ce, h.fr, h.gi, h.top, h.calm, h.hu, takes_no, PassesOwn.never, h.gl, h.fa, h.ms, ⟨h.eq.ok⟩, h.xr, h.xh, h.stk⟩
theorem XOk.blk {C : Cn} {X : Cx} {W : WX} (h : XOk C X W) {scope : Scope} (hk : scope.kind = .function) (hfr : ∀ x, scope.names.lookup x = some .free → X.env.scope.names.lookup x = some .cell ∨ X.env.scope.names.lookup x = some .free) (s : Shared) (H : Hp) (a : Addr) (cl : List (Str × Addr)) (fp : List Addr) :
    XOk { C with sc := scope, top := false } (X.blk s H scope (compEnvC scope cl a X.env) fp) noX where
  N := h.N
  nd := h.nd
  kf := hk
  lo := fun x e => lookup_relS_keep (sc := X.env.scope) (by decide) e
  ce := fun x e => ⟨lookup_relS_keep (sc := X.env.scope) (by decide) e, by
    have e : scope.names.lookup x = some .cell := e
    show (scope.names.lookup x == some .cell) = true
    rw [e]
    rfl⟩
  fr := fun x e => by
    have go : ∀ names : List (Str × NameKind), names.lookup x = some .free → (names.map fun (n, k) => if (k == NameKind.free && X.env.scope.kind == .function && X.env.scope.names.lookup n == some .cell) then (n, NameKind.cell) else (n, k)).lookup x = some .cell ∨
        (names.map fun (n, k) => if (k == NameKind.free && X.env.scope.kind == .function && X.env.scope.names.lookup n == some .cell) then (n, NameKind.cell) else (n, k)).lookup x = some .free := by
      intro names
      induction names with
      | nil => intro h; cases h
      | cons p r ih =>
        obtain ⟨n, k⟩ := p
        intro e
        show List.lookup x ((if (k == NameKind.free && X.env.scope.kind == .function && X.env.scope.names.lookup n == some .cell) = true then (n, NameKind.cell) else (n, k)) :: (r.map _)) = _ ∨ List.lookup x ((if (k == NameKind.free && X.env.scope.kind == .function && X.env.scope.names.lookup n == some .cell) = true then (n, NameKind.cell) else (n, k)) :: (r.map _)) = _
        cases hx : x == n with
        | true =>
          simp only [List.lookup_cons, hx] at e
          cases e
          by_cases hc : (NameKind.free == NameKind.free && X.env.scope.kind == .function && X.env.scope.names.lookup n == some .cell) = true
          · rw [if_pos hc]
            exact .inl (by simp only [List.lookup_cons, hx])
          · rw [if_neg hc]
            exact .inr (by simp only [List.lookup_cons, hx])
        | false =>
          simp only [List.lookup_cons, hx] at e
          by_cases hc : (k == NameKind.free && X.env.scope.kind == .function && X.env.scope.names.lookup n == some .cell) = true
          · rw [if_pos hc]
            simp only [List.lookup_cons, hx]
            exact ih e
          · rw [if_neg hc]
            simp only [List.lookup_cons, hx]
            exact ih e
    exact go scope.names e
  gi := fun x e => lookup_relS_keep (sc := X.env.scope) (by decide) e
  top := fun z => nomatch z
  calm := h.calm
  hu := h.hu
  tk := takes_no
  po := PassesOwn.never
  gl := h.gl
  fa := h.fa
  ms := h.ms
  eq := ⟨h.eq.ok⟩
  xr := h.xr
  xh := h.xh
  stk := fun z => nomatch z
/-! ### the evaluators -/
structure Ev where
  E : Cn → Expr → SE
  B : Cn → Expr → SB
  G : Cn → List Nat → Expr → SG
  I : Cn → Expr → Expr → SI
  S : Cn → Stmt → SS
structure Sound (v : Ev) : Prop where
  E : ∀ {C : Cn} {X : Cx} {W : WX}, XOk C X W → ∀ e, PE X e (tE X.K W (v.E C e))
  B : ∀ {C : Cn} {X : Cx} {W : WX}, XOk C X W → ∀ e, PT X e (tB X.K W (v.B C e))
  G : ∀ {C : Cn} {X : Cx} {W : WX}, XOk C X W → ∀ ws e, PG X e (tG X.K ws (v.G C ws e))
  I : ∀ {C : Cn} {X : Cx} {W : WX}, XOk C X W → ∀ tg e, PI X tg e (tI X.K W (v.I C tg e))
  S : ∀ {C : Cn} {X : Cx} {W : WX}, XOk C X W → ∀ st, PS X st (tS X.K W (v.S C st))
def isStar : Expr → Bool
  | .Starred _ _ => true
  | _ => false
def isSlice : Expr → Bool
  | .Slice _ _ _ _ => true
  | _ => false
def isComp : Expr → Bool
  | .ListComp _ _ _ _ => true
  | .SetComp _ _ _ _ => true
  | .DictComp _ _ _ _ _ => true
  | _ => false
def isSet : Expr → Bool
  | .Set _ _ _ => true
  | _ => false
def isSup : Expr → Bool
  | .Call (.Name _ _) [] [] _ => true
  | _ => false
def noStar : List Expr → Bool
  | [] => true
  | e :: es => !isStar e && noStar es
section
variable {env : Env}
theorem star1 {e : Expr} {es : List Expr} (h : isStar e = false) : starEach (e :: es) env = (false, eval e env) :: starEach es env := by
  cases e <;> first | rfl | cases h
theorem star_any {pos : Pos} : ∀ {es : List Expr}, noStar es = true → (backTo pos (starEach es env)).any (·.1) = false
  | [], _ => rfl
  | e :: es, h => by
    have h' : isStar e = false ∧ noStar es = true := by simpa [noStar] using h
    rw [star1 h'.1]
    show (false || (backTo pos (starEach es env)).any (·.1)) = false
    rw [star_any h'.2]
    rfl
theorem star_all {pos : Pos} : ∀ {es : List Expr}, noStar es = true → (backTo pos (starEach es env)).all (fun x => !x.1) = true
  | [], _ => rfl
  | e :: es, h => by
    have h' : isStar e = false ∧ noStar es = true := by simpa [noStar] using h
    rw [star1 h'.1]
    show (true && (backTo pos (starEach es env)).all (fun x => !x.1)) = true
    rw [star_all h'.2]
    rfl
theorem fold_id {e : Expr} (h : isSet e = false) (x : Value) : foldedSetIterable e env x = pure x := by
  cases e <;> first | rfl | cases h
theorem plain_ix {b : Expr} (h : isSlice b = false) : PlainIx b := fun o i => by
  cases b <;> first | rfl | cases h
theorem marks_no {op : CmpOp} {b : Expr} (h : isSet b = false) : behindInMarks op b = false := by
  cases b <;> first | rfl | cases h
theorem asg_ix {a b : Expr} {pos : Pos} (h : isSlice b = false) (v : Value) : assign (.Subscript a b pos) env v = (do
      let ov ← holding [v] (eval a env)
      let iv ← holding [v, ov] (eval b env)
      standAt pos
      holding [v, ov, iv] (setItem ov iv v)
      release [v, ov, iv] []) := by
  cases b <;> first | rfl | cases h
theorem swaps_no {e : Expr} {t : Option Expr} {l : Nat} (h : isComp e = false) : swapsWith e t l env = pure false := by
  cases e <;> first | rfl | cases h
theorem base_id {o : Expr} {m : Str} (h : isSup o = false) : attributeBase o m env (eval o env) = eval o env := by
  cases o with
  | Call f args kws pos =>
    cases f with
    | Name x p => cases args with
      | nil => cases kws with
        | nil => cases h
        | cons _ _ => rfl
      | cons _ _ => rfl
    | _ => rfl
  | _ => rfl
theorem asg1 {t : Expr} (h : isStar t = false) : (assignEach [t] env).map (·.2) = [assign t env] := by
  cases t <;> first | rfl | cases h
theorem asgs {t : Expr} {ts : List Expr} (h : isStar t = false) : assignEach (t :: ts) env = (false, assign t env) :: assignEach ts env := by
  cases t <;> first | rfl | cases h
end
end Om
/-! Om, part O: one step of the evaluator, and that it is sound. -/
namespace Om
open PySem PySem.Spec PyProof.Rows L2 RZ
/-! ### expressions -/
def eConst (c : Const) : SE := match c with
  | .int i => cCon (.int i)
  | .bool b => cCon (.bl b)
  | .none => cCon .non
  | .str x => cCon (.str x.cps.toList)
  | .bytes b => cCon (.byt b)
  | _ => cErr
def eName (C : Cn) (x : Str) : SE := match C.var x with
  | some i => cVar i
  | none => match C.gl x with
    | some (.con d) => cCon d
    | some .blt => (match tyB x with
      | some T => cCon (.ty T)
      | none => cErr)
    | some (.cls c _ _) => cCon (.glo (clCps c))
    | some (.kt ts) => cCon (.tup (ts.map .str))
    | _ => cErr
def eUn (v : Ev) (C : Cn) (op : UnaryOp) (a : Expr) : SE := match op with
  | .USub => cOp1 negD (v.E C a)
  | .Not => cNotT (v.E C a)
  | _ => cErr
def binX (m : Bool) : Operator → Option P2
  | .Mult => some (mulX m)
  | op => binP m op
def eBin (v : Ev) (C : Cn) (a : Expr) (op : Operator) (b : Expr) (pos : Pos) : SE := match binX (C.mu pos) op with
  | some p => cOp2 p (v.E C a) (v.E C b)
  | none => cErr
def eAnd (f : Expr → SE) : List Expr → SE
  | [] => cErr
  | [a] => f a
  | a :: b :: r => cAndT (f a) (eAnd f (b :: r))
def eOr (f : Expr → SE) : List Expr → SE
  | [] => cErr
  | [a] => f a
  | a :: b :: r => cOrT (f a) (eOr f (b :: r))
def eBool (v : Ev) (C : Cn) (op : BoolOp) (es : List Expr) : SE := match op with
  | .And => eAnd (v.E C) es
  | .Or => eOr (v.E C) es
def cmpO (C : Cn) : CmpOp → Option P2
  | .Eq => some (eqX false (eqF C.call C.st.eqs))
  | .NotEq => some (eqX true (eqF C.call C.st.eqs))
  | .In => some (inX false)
  | .NotIn => some (inX true)
  | op => cmpP op
/-- a dict of the module -/
def Cn.tab (C : Cn) (e : Expr) : Option Tb := match e with
  | .Name x _ => (match C.gl x with
    | some (.kd tb) => some tb
    | _ => none)
  | _ => none
/-- a tuple of the module -/
def Cn.tup (C : Cn) (e : Expr) : Option (List (List Nat)) := match e with
  | .Name x _ => (match C.gl x with
    | some (.kt ts) => some ts
    | _ => none)
  | _ => none
/-- e in T -/
def cmpT (v : Ev) (C : Cn) (a : Expr) (op : CmpOp) (b : Expr) : Option SE := match op, C.tab b with
  | .In, some tb => some (cOp1 (inT tb false) (v.E C a))
  | .NotIn, some tb => some (cOp1 (inT tb true) (v.E C a))
  | _, _ => none
def eCmp (v : Ev) (C : Cn) (a : Expr) (ops : List CmpOp) (cs : List Expr) : SE := match ops, cs with
  | [op], [b] => (match cmpT v C a op b with
    | some m => m
    | none => if isSet b = true then cErr else (match cmpO C op with
      | some p => cOp2 p (v.E C a) (v.E C b)
      | none => cErr))
  | [op, op'], [b, c] => if isSet c = true then cErr else (match cmpP op, cmpP op' with
    | some p, some q => cCh p q (v.E C a) (v.E C b) (v.E C c)
    | _, _ => cErr)
  | _, _ => cErr
def eArgs (v : Ev) (C : Cn) : List Expr → SA
  | [] => cNil
  | e :: es => cCons (if isStar e = true then cErr else v.E C e) (eArgs v C es)
def eOpt (v : Ev) (C : Cn) : Option Expr → Option SE
  | none => none
  | some e => some (v.E C e)
def eSub (v : Ev) (C : Cn) (a b : Expr) (pos : Pos) : SE := match b with
  | .Slice lo hi none _ => cSl (C.mu pos) (v.E C a) (eOpt v C lo) (eOpt v C hi)
  | .Slice none none (some (.UnaryOp .USub (.Constant (.int 1) _ _) _)) _ => cOp1 (revD (C.mu pos)) (v.E C a)
  | b => if isSlice b = true then cErr else (match C.tab a with
    | some tb => cOp1 (ixT tb) (v.E C b)
    | none => cOp2 ixD (v.E C a) (v.E C b))
def ownOf (C : Cn) (scope : Scope) : List (Str × Nat) := scope.names.filterMap fun y => match y.2 with
  | .local => (idxN C.N y.1).map fun i => (y.1, i)
  | .cell => (idxN C.N y.1).map fun i => (y.1, i)
  | _ => none
/-- the block may be entered -/
def blkB (C : Cn) (scope : Scope) : Bool := !C.hot && blkC C.N C.sc scope (ownOf C scope)
def eIfs (v : Ev) (C : Cn) : List Expr → SB
  | [] => fun _ R => .ok true R
  | [c] => v.B C c
  | _ => fun _ _ => .err
/-- what may be a dict that is walked -/
def lkOf (v : Ev) (C : Cn) (e : Expr) : SE := match e with
  | .Call (.Attribute o _ _) [] [] _ => v.E C o
  | e => v.E C e
def lkGs (v : Ev) (C : Cn) : List Comprehension → SE
  | ⟨_, iter, _, _⟩ :: _ => lkOf v C iter
  | [] => cErr
def eComp0 (v : Ev) (C : Cn) (elt : Expr) (gs : List Comprehension) (scope : Scope) (pos : Pos) : SE := match gs with
  | [⟨tg, iter, ifs, 0⟩] => if blkB C scope = true ∧ isSet iter = false then
      cComp (v.I C tg iter) (v.G { C with sc := scope, top := false } ((ownOf C scope).map (·.2)) tg) (eIfs v { C with sc := scope, top := false } ifs) (v.E { C with sc := scope, top := false } elt) ((ownOf C scope).map (·.2)) (C.mu pos)
    else cErr
  | _ => cErr
def eComp (v : Ev) (C : Cn) (elt : Expr) (gs : List Comprehension) (scope : Scope) (pos : Pos) : SE := if C.lk pos = true then cLock (lkGs v C gs) (eComp0 v C elt gs scope pos) else eComp0 v C elt gs scope pos
def eDComp0 (v : Ev) (C : Cn) (kx vx : Expr) (gs : List Comprehension) (scope : Scope) (pos : Pos) : SE := match gs with
  | [⟨tg, iter, ifs, 0⟩] => if blkB C scope = true ∧ isSet iter = false then
      cDComp (v.I C tg iter) (v.G { C with sc := scope, top := false } ((ownOf C scope).map (·.2)) tg) (eIfs v { C with sc := scope, top := false } ifs) (v.E { C with sc := scope, top := false } kx) (v.E { C with sc := scope, top := false } vx) ((ownOf C scope).map (·.2)) (C.mu pos)
    else cErr
  | _ => cErr
def eDComp (v : Ev) (C : Cn) (kx vx : Expr) (gs : List Comprehension) (scope : Scope) (pos : Pos) : SE := if C.lk pos = true then cLock (lkGs v C gs) (eDComp0 v C kx vx gs scope pos) else eDComp0 v C kx vx gs scope pos
def eCallN (v : Ev) (C : Cn) (x : Str) (args : List Expr) (pos : Pos) : SE := match C.gl x with
  | some (.fn n dfl) => if noStar args = true ∧ args.length ≤ n ∧ n ≤ args.length + dfl.length then cCall (C.call x) (dfl.drop (args.length + dfl.length - n)) (eArgs v C args) else cErr
  | some .blt => (match args with
    | [] => cErr
    | a :: r => if noStar (a :: r) = true then (if x = "isinstance" then cOpN (isiX C.st.cls C.st.kit) (eArgs v C (a :: r)) else (match (if C.hot = true then none else bltP (C.mu pos) x) with
      | some p => cOpN p (eArgs v C (a :: r))
      | none => cErr)) else cErr)
  | some (.cls c n dfl) => if noStar args = true ∧ args.length ≤ n ∧ n ≤ args.length + dfl.length then cMake c (C.call (mkey c "__init__")) (dfl.drop (args.length + dfl.length - n)) (eArgs v C args) else cErr
  | _ => cErr
/-- the first kind of receiver that fits -/
def eMetL (ps : List (Nat × PM)) (a : SE) (as : SA) : SE := fun s R => (a s R).bind fun x R1 => match ps.find? fun p => isT p.1 x R1 with
  | some p => (as s R1).bind fun ds R2 => lift (p.2 x ds R2)
  | none => .err
/-- the own method of the receiver's class -/
def eMetO (l : List (Nat × SF × List D)) (m : Str) (a : SE) (as : SA) : SE := fun s R => (a s R).bind fun x R1 => match insOf R1 x with
  | some (c, fs) => (match l.find? fun p => decide (p.1 = c) with
    | some p => if noFld m fs = true then (as s R1).bind fun ds R2 => p.2.1 (x :: (ds ++ p.2.2)) R2 else .err
    | none => .err)
  | none => .err
def msOf (C : Cn) (m : Str) (k : Nat) : List (Nat × SF × List D) := C.st.ms.filterMap fun p => if p.1 = m ∧ 1 + k ≤ p.2.2.1 ∧ p.2.2.1 ≤ 1 + k + p.2.2.2.length then some (p.2.1, C.call (mkey p.2.1 m), p.2.2.2.drop (1 + k + p.2.2.2.length - p.2.2.1)) else none
def eMetOwn (v : Ev) (C : Cn) (o : Expr) (m : Str) (apos : Pos) (args : List Expr) (cpos : Pos) : SE :=
  if isSup o = false ∧ noStar args = true ∧ args.length < 30 ∧ (apos.endLine == cpos.line) = true ∧ msOf C m args.length ≠ [] then eMetO (msOf C m args.length) m (v.E C o) (eArgs v C args) else cErr
def eMet (v : Ev) (C : Cn) (o : Expr) (m : Str) (apos : Pos) (args : List Expr) (cpos : Pos) : SE :=
  if isSup o = false ∧ noStar args = true ∧ args.length < 30 ∧ (apos.endLine == cpos.line) = true ∧ metP (C.mu cpos) m ≠ [] then eMetL (metP (C.mu cpos) m) (v.E C o) (eArgs v C args) else cErr
def eKGet (v : Ev) (C : Cn) (tb : Tb) (m : Str) (apos : Pos) (args : List Expr) (cpos : Pos) : SE := match args with
  | [] => cErr
  | a :: r => if m = "get" ∧ noStar (a :: r) = true ∧ (a :: r).length < 30 ∧ (apos.endLine == cpos.line) = true then cOpN (getT tb) (eArgs v C (a :: r)) else cErr
def eKIdx (v : Ev) (C : Cn) (ts : List (List Nat)) (m : Str) (apos : Pos) (args : List Expr) (cpos : Pos) : SE := match args with
  | [] => cErr
  | a :: r => if m = "index" ∧ noStar (a :: r) = true ∧ (a :: r).length < 30 ∧ (apos.endLine == cpos.line) = true then cOpN (idxK ts) (eArgs v C (a :: r)) else cErr
/-- bytes.fromhex(e) -/
def eFhC (v : Ev) (C : Cn) (o : Expr) (apos : Pos) (args : List Expr) (cpos : Pos) : SE := match args with
  | [] => cErr
  | a :: r => if isSup o = false ∧ noStar (a :: r) = true ∧ (a :: r).length < 30 ∧ (apos.endLine == cpos.line) = true then eFh (v.E C o) (eArgs v C (a :: r)) else cErr
def eCall (v : Ev) (C : Cn) (f : Expr) (args : List Expr) (kws : List Keyword) (pos : Pos) : SE := match f, kws with
  | .Name x _, [] => eCallN v C x args pos
  | .Attribute o m apos, [] => (match C.tab o with
    | some tb => eKGet v C tb m apos args pos
    | none => match C.tup o with
      | some ts => eKIdx v C ts m apos args pos
      | none => if m = "fromhex" then eFhC v C o apos args pos else if metP (C.mu pos) m = [] then eMetOwn v C o m apos args pos else eMet v C o m apos args pos)
  | _, _ => cErr
def ePairs (v : Ev) (C : Cn) : List (Option Expr) → List Expr → List (SE × SE)
  | some k :: ks, x :: xs => (v.E C k, v.E C x) :: ePairs v C ks xs
  | _, _ => []
def eDict (v : Ev) (C : Cn) (ks : List (Option Expr)) (vs : List Expr) (pos : Pos) : SE := match ks, vs with
  | [], [] => cDNew (C.mu pos)
  | k :: ks, vs => if (k :: ks).all (·.isSome) = true ∧ (k :: ks).length = vs.length ∧ (k :: ks).length ≤ 15 then cDisp (C.mu pos) (ePairs v C (k :: ks) vs) else cErr
  | _, _ => cErr
def atIx (f : Str) : Option Nat := idxN atTab f
def eAttr (v : Ev) (C : Cn) (o : Expr) (f : Str) : SE := match atIx f with
  | some n => if isSup o = true then cErr else cOp1 (fldD C.st.ca n) (v.E C o)
  | none => cErr
def stepE (v : Ev) (C : Cn) (e : Expr) : SE := match e with
  | .Constant c _ _ => eConst c
  | .Name x _ => eName C x
  | .UnaryOp op a _ => eUn v C op a
  | .BinOp a op b pos => eBin v C a op b pos
  | .BoolOp op es _ => eBool v C op es
  | .Compare a ops cs _ => eCmp v C a ops cs
  | .IfExp c a b _ => cIf (v.B C c) (v.E C a) (v.E C b)
  | .Tuple es _ _ => if noStar es = true then cTup (eArgs v C es) else cErr
  | .List es pos => if noStar es = true then cLst (C.mu pos) (eArgs v C es) else cErr
  | .Dict ks vs pos => eDict v C ks vs pos
  | .Subscript a b pos => eSub v C a b pos
  | .ListComp elt gs scope pos => eComp v C elt gs scope pos
  | .DictComp kx vx gs scope pos => eDComp v C kx vx gs scope pos
  | .Call f args kws pos => eCall v C f args kws pos
  | .Attribute o f _ => eAttr v C o f
  | _ => cErr
section
variable {v : Ev} {C : Cn} {X : Cx} {W : WX}
theorem XOk.vis (h : XOk C X W) {x : Str} {i : Nat} (e : C.var x = some i) : X.N[i]? = some x ∧ Vis X.env.scope x ∧ (x == ("__debug__" : Str)) = false ∧ (x == ("__classdict__" : Str)) = false := by
  unfold Cn.var at e
  have two : okName x = true → (x == ("__debug__" : Str)) = false ∧ (x == ("__classdict__" : Str)) = false := fun h => by
    unfold okName at h
    rw [Bool.and_eq_true] at h
    exact ⟨by simpa using h.1, by simpa using h.2⟩
  have go : (if okName x = true then idxN C.N x else none) = some i → X.N[i]? = some x ∧ (x == ("__debug__" : Str)) = false ∧ (x == ("__classdict__" : Str)) = false := fun e => by
    split at e
    · rename_i hk
      exact ⟨by rw [h.N]; exact idxN_ok e, two hk⟩
    · cases e
  split at e
  · rename_i k
    exact ⟨(go e).1, .inl (h.lo x k), (go e).2⟩
  · rename_i k
    exact ⟨(go e).1, .inr (.inl (h.ce x k).1), (go e).2⟩
  · rename_i k
    exact ⟨(go e).1, .inr (h.fr x k), (go e).2⟩
  · cases e
theorem XOk.glo (h : XOk C X W) {x : Str} {g : Gi} (e : C.gl x = some g) : Gl X x ∧ GOk X C x g := by
  unfold Cn.gl at e
  split at e
  · rename_i k
    exact ⟨h.gi x k, h.gl x g e⟩
  · cases e
theorem str_rd {K : PySem.W.Frag} {bar : Addr → Prop} {io : Io} {H : Hp} (x : Str) : RD K bar io H (.str x.cps.toList) (.str x) := by
  have e : strOf x.cps.toList = x := by
    unfold strOf
    rw [Array.toArray_toList]
  have := RD.str (K := K) (bar := bar) (io := io) (H := H) x.cps.toList
  rw [e] at this
  exact this
theorem eConst_ok (c : Const) (k : Nat) (pos : Pos) : PE X (.Constant c k pos) (tE X.K W (eConst c)) := by
  cases c with
  | int i => exact se_con pe_int fun _ _ _ => .int i
  | bool b => exact se_con pe_bl fun _ _ _ => .bl b
  | none => exact se_con pe_non fun _ _ _ => .non
  | str x => exact se_con pe_str fun _ _ _ => str_rd x
  | bytes b => exact se_con pe_byt fun _ _ _ => .byt b
  | _ => exact se_err
theorem eName_ok (h : XOk C X W) (x : Str) (pos : Pos) : PE X (.Name x pos) (tE X.K W (eName C x)) := by
  unfold eName
  split
  · rename_i i e
    obtain ⟨h1, h2, h3, h4⟩ := h.vis e
    exact se_var (pe_var h1 h2 h3 h4)
  · split
    · rename_i d e
      obtain ⟨hg, h1, u, w, h2, h3, h4⟩ := h.glo e
      exact se_con (pe_glob hg h2 h3 h1) h4
    · rename_i e
      obtain ⟨hg, h1⟩ := h.glo e
      split
      · rename_i T et
        obtain ⟨k1, k2, k3⟩ := tyB_ok et
        exact se_con (v := .ty T) (pe_bltn hg h1 k3 rfl k1 k2) fun _ _ _ => .ty T
      · exact se_err
    · rename_i c n dfl e
      obtain ⟨hg, h1, h2, _⟩ := h.glo e
      refine se_con (v := .ref (cA X.K c)) (pe_glob hg h2 rfl h1) fun _ _ _ => ?_
      have e : strOf (clCps c) = clN c := by
        unfold strOf clCps
        rw [Array.toArray_toList]
      unfold cA
      rw [← e]
      exact .glo _
    · rename_i ts e
      obtain ⟨hg, h1, h2, h3⟩ := h.glo e
      exact se_con (v := .ref (He.ga X.K x)) (pe_glob hg h2 rfl h1) fun bar io H => h3.rd bar io H
    · exact se_err
theorem eUn_ok (hv : Sound v) (h : XOk C X W) (op : UnaryOp) (a : Expr) (pos : Pos) : PE X (.UnaryOp op a pos) (tE X.K W (eUn v C op a)) := by
  cases op with
  | USub => exact se_neg (hv.E h a)
  | Not => exact se_notT (hv.E h a)
  | _ => exact se_err
theorem eBin_ok (hv : Sound v) (h : XOk C X W) (a : Expr) (op : Operator) (b : Expr) (pos : Pos) : PE X (.BinOp a op b pos) (tE X.K W (eBin v C a op b pos)) := by
  unfold eBin
  split
  · rename_i p e
    cases op with
    | Mult =>
      cases e
      exact se_op2 (fun _ _ _ x y z => pe_op z x y) (ok_mulX _) (hv.E h a) (hv.E h b)
    | _ => exact se_bin (m := C.mu pos) e (hv.E h a) (hv.E h b)
  · exact se_err
theorem eAnd_ok {f : Expr → SE} (hf : ∀ e, PE X e (tE X.K W (f e))) (pos : Pos) : ∀ es, PE X (.BoolOp .And es pos) (tE X.K W (eAnd f es))
  | [] => se_err
  | [a] => se_one (hf a)
  | a :: b :: r => se_andT (hf a) (eAnd_ok hf pos (b :: r))
theorem eOr_ok {f : Expr → SE} (hf : ∀ e, PE X e (tE X.K W (f e))) (pos : Pos) : ∀ es, PE X (.BoolOp .Or es pos) (tE X.K W (eOr f es))
  | [] => se_err
  | [a] => se_one (hf a)
  | a :: b :: r => se_orT (hf a) (eOr_ok hf pos (b :: r))
theorem eBool_ok (hv : Sound v) (h : XOk C X W) (op : BoolOp) (es : List Expr) (pos : Pos) : PE X (.BoolOp op es pos) (tE X.K W (eBool v C op es)) := by
  cases op with
  | And => exact eAnd_ok (hv.E h) pos es
  | Or => exact eOr_ok (hv.E h) pos es
theorem cmpO_ok (h : XOk C X W) {op : CmpOp} {p : P2} (e : cmpO C op = some p) : OpR X (compareOp op) (fun x y H Q => rN X.K (pn2 p) [x, y] H Q) := by
  have hu := h.hu
  have q : ∀ neg, OpR X (compareOp (if neg = true then .NotEq else .Eq)) (fun x y H Q => rN X.K (pn2 (eqX neg (eqF C.call C.st.eqs))) [x, y] H Q) := fun neg => ok_eqX (by omega) h.eq neg
  cases op <;> first
    | (cases e; exact q false)
    | (cases e; exact q true)
    | (cases e; exact ok_inX hu false)
    | (cases e; exact ok_inX hu true)
    | exact ok_cmp hu e
theorem tab_ok (h : XOk C X W) {e : Expr} {tb : Tb} (ht : C.tab e = some tb) : ∃ x p, e = .Name x p ∧ KT X.K X.w (He.ga X.K x) tb ∧ PE X e (tC (.ref (He.ga X.K x))) := by
  unfold Cn.tab at ht
  split at ht
  · rename_i x p
    split at ht
    · rename_i tb' e
      cases ht
      obtain ⟨hg, h1, h2, h3⟩ := h.glo e
      exact ⟨x, p, rfl, h3, pe_glob hg h2 rfl h1⟩
    · cases ht
  · cases ht
theorem tup_okC (h : XOk C X W) {e : Expr} {ts : List (List Nat)} (ht : C.tup e = some ts) : ∃ x p, e = .Name x p ∧ KTup X.K (He.ga X.K x) ts ∧ PE X e (tC (.ref (He.ga X.K x))) := by
  unfold Cn.tup at ht
  split at ht
  · rename_i x p
    split at ht
    · rename_i tb' e
      cases ht
      obtain ⟨hg, h1, h2, h3⟩ := h.glo e
      exact ⟨x, p, rfl, h3, pe_glob hg h2 rfl h1⟩
    · cases ht
  · cases ht
theorem cmpT_ok (hv : Sound v) (h : XOk C X W) {a b : Expr} {op : CmpOp} {m : SE} {pos : Pos} (e : cmpT v C a op b = some m) : PE X (.Compare a [op] [b] pos) (tE X.K W m) ∧ PT X (.Compare a [op] [b] pos) (tB X.K W (bOf m)) := by
  unfold cmpT at e
  split at e
  · rename_i tb e1
    cases e
    obtain ⟨x, p, rfl, k1, k2⟩ := tab_ok h e1
    exact ⟨se_inT k1 false (hv.E h a) k2 (marks_no rfl), sb_inT k1 false (hv.E h a) k2 (marks_no rfl)⟩
  · rename_i tb e1
    cases e
    obtain ⟨x, p, rfl, k1, k2⟩ := tab_ok h e1
    exact ⟨se_inT k1 true (hv.E h a) k2 (marks_no rfl), sb_inT k1 true (hv.E h a) k2 (marks_no rfl)⟩
  · cases e
theorem eCmp_ok (hv : Sound v) (h : XOk C X W) (a : Expr) (ops : List CmpOp) (cs : List Expr) (pos : Pos) : PE X (.Compare a ops cs pos) (tE X.K W (eCmp v C a ops cs)) := by
  unfold eCmp
  split
  · split
    · rename_i m em
      exact (cmpT_ok hv h em).1
    · split
      · exact se_err
      · rename_i hs
        split
        · rename_i p e
          exact se_cmpO (cmpO_ok h e) (hv.E h _) (hv.E h _) (marks_no (by simpa using hs))
        · exact se_err
  · split
    · exact se_err
    · rename_i hs
      split
      · rename_i p q e1 e2
        exact se_ch h.hu e1 e2 (hv.E h _) (hv.E h _) (hv.E h _) (marks_no (by simpa using hs))
      · exact se_err
  · exact se_err
theorem eArgs_ok (hv : Sound v) (h : XOk C X W) : ∀ es : List Expr, noStar es = true → PA X es (tA X.K W (eArgs v C es))
  | [], _ => sa_nil
  | e :: es, hs => by
    have h' : isStar e = false ∧ noStar es = true := by simpa [noStar] using hs
    have e1 : (if isStar e = true then cErr else v.E C e) = v.E C e := if_neg (by rw [h'.1]; decide)
    show PA X (e :: es) (tA X.K W (cCons (if isStar e = true then cErr else v.E C e) (eArgs v C es)))
    rw [e1]
    exact sa_cons (hv.E h e) (eArgs_ok hv h es h'.2) (star1 h'.1)
theorem eOpt_ok (hv : Sound v) (h : XOk C X W) (o : Option Expr) : PO X o (tO X.K W (eOpt v C o)) := by
  cases o with
  | none => exact so_none
  | some e => exact so_some (hv.E h e)
theorem eSub_ok (hv : Sound v) (h : XOk C X W) (a b : Expr) (pos : Pos) : PE X (.Subscript a b pos) (tE X.K W (eSub v C a b pos)) := by
  unfold eSub
  split
  · exact se_slice (hv.E h a) (eOpt_ok hv h _) (eOpt_ok hv h _)
  · exact se_rev (hv.E h a)
  · split
    · exact se_err
    · rename_i hs
      have := h.hu
      split
      · rename_i tb et
        obtain ⟨x, p, rfl, k1, k2⟩ := tab_ok h et
        exact se_ixT k1 k2 (hv.E h _) (plain_ix (by simpa using hs))
      · exact se_ix (by omega) (hv.E h a) (hv.E h _) (plain_ix (by simpa using hs))
theorem blk_calm {C : Cn} {scope : Scope} (hb : blkB C scope = true) : C.hot = false := by
  unfold blkB at hb
  cases e : C.hot with
  | true => rw [e] at hb; cases hb
  | false => rfl
theorem blk_at {C : Cn} {scope : Scope} (hb : blkB C scope = true) : blkC C.N C.sc scope (ownOf C scope) = true := by
  unfold blkB at hb
  rw [blk_calm hb] at hb
  exact hb
theorem XOk.blkOk (h : XOk C X W) {scope : Scope} (hb : blkB C scope = true) : BlkOk X.N X.env.scope scope (ownOf C scope) ∧ scope.kind = .function ∧ ∀ x, scope.names.lookup x = some .free → X.env.scope.names.lookup x = some .cell ∨ X.env.scope.names.lookup x = some .free := by
  have b := blkOk_by (blk_at hb)
  have fr : ∀ y ∈ scope.names, y.2 = .free → X.env.scope.names.lookup y.1 = some .cell ∨ X.env.scope.names.lookup y.1 = some .free := fun y hy e => by
    rcases b.free y hy e with k | k
    · exact .inl (h.ce _ k).1
    · exact h.fr _ k
  refine ⟨⟨b.kind, b.uniq, ?_, fr, ?_⟩, b.kind, fun x e => fr (x, .free) (PySem.mem_of_lookup e) rfl⟩
  · rw [h.N]
    exact b.ix
  · rw [h.N]
    exact b.own
theorem eIfs_ok (hv : Sound v) (h : XOk C X W) (ifs : List Expr) : PTs X ifs (tB X.K W (eIfs v C ifs)) := by
  match ifs with
  | [] => exact ⟨fun pins s σ H Q I ⟨B, io, R, sd, ds, rep, rs, rd, p⟩ => pts_nil.run pins s σ H Q I (p io H true (Step.refl _ _) rep rfl)⟩
  | [c] => exact pts_one (hv.B h c)
  | _ :: _ :: _ => exact ⟨fun _ _ _ _ _ _ ⟨_, _, _, _, _, _, _, _, p⟩ => p.elim⟩
theorem eComp0_ok (hv : Sound v) (h : XOk C X W) (elt : Expr) (gs : List Comprehension) (scope : Scope) (pos : Pos) : PE X (.ListComp elt gs scope pos) (tE X.K W (eComp0 v C elt gs scope pos)) := by
  unfold eComp0
  split
  · split
    · rename_i hb
      obtain ⟨ok, hk, hfr⟩ := h.blkOk hb.1
      have hx := fun s H a cl fp => h.blk hk hfr s H a cl fp
      exact se_comp (h.calm (blk_calm hb.1)) (by rw [h.N]; exact h.nd) (hv.I h _ _) ok (fun s H a cl fp => hv.G (hx s H a cl fp) _ _) (fun s H a cl fp => eIfs_ok hv (hx s H a cl fp) _) (fun s H a cl fp => hv.E (hx s H a cl fp) _) (fold_id hb.2)
    · exact se_err
  · exact se_err
theorem eComp_ok (hv : Sound v) (h : XOk C X W) (elt : Expr) (gs : List Comprehension) (scope : Scope) (pos : Pos) : PE X (.ListComp elt gs scope pos) (tE X.K W (eComp v C elt gs scope pos)) := by
  unfold eComp
  split
  · exact se_lock (eComp0_ok hv h _ _ _ _)
  · exact eComp0_ok hv h _ _ _ _
theorem eDComp_ok (hv : Sound v) (h : XOk C X W) (kx vx : Expr) (gs : List Comprehension) (scope : Scope) (pos : Pos) : PE X (.DictComp kx vx gs scope pos) (tE X.K W (eDComp v C kx vx gs scope pos)) := by
  have z : PE X (.DictComp kx vx gs scope pos) (tE X.K W (eDComp0 v C kx vx gs scope pos)) := by
    unfold eDComp0
    split
    · split
      · rename_i hb
        obtain ⟨ok, hk, hfr⟩ := h.blkOk hb.1
        have hx := fun s H a cl fp => h.blk hk hfr s H a cl fp
        exact se_dcomp (h.calm (blk_calm hb.1)) (by rw [h.N]; exact h.nd) (hv.I h _ _) ok (fun s H a cl fp => hv.G (hx s H a cl fp) _ _) (fun s H a cl fp => eIfs_ok hv (hx s H a cl fp) _) (fun s H a cl fp => hv.E (hx s H a cl fp) _) (fun s H a cl fp => hv.E (hx s H a cl fp) _) (fold_id hb.2)
      · exact se_err
    · exact se_err
  unfold eDComp
  split
  · exact se_lock z
  · exact z
theorem tMake_nil {K : PySem.W.Frag} {C : Addr} {sp : Sp} {dvs : List V} {σ : S} {H : Hp} {Q : VK} (h : tMakeW W C sp dvs (tA K W cNil) σ H Q) : tMakeW W C sp dvs tNil σ H Q := tA_nil h
theorem eCallN_ok (hv : Sound v) (h : XOk C X W) (x : Str) (p : Pos) (args : List Expr) (pos : Pos) : PE X (.Call (.Name x p) args [] pos) (tE X.K W (eCallN v C x args pos)) := by
  unfold eCallN
  split
  · rename_i n dfl e
    obtain ⟨hg, hdb, k, f, fd, ps, h1, h2, h3, h4, h5, h6⟩ := h.glo e
    split
    · rename_i hs
      obtain ⟨dvs, ds, r1, r2, r3⟩ := h6 args.length hs.2.1 hs.2.2
      cases args with
      | nil => exact se_call0 h3 h4 hg h1 h2 r3 r2 h.tk h5 r1 hdb
      | cons a r =>
        have hs' : isStar a = false ∧ noStar r = true := by simpa [noStar] using hs.1
        exact se_call h3 h4 hg h1 h2 r3 r2 h.tk h5 r1 (eArgs_ok hv h _ hs.1) hdb (star1 hs'.1) (star_any hs'.2)
    · exact se_err
  · rename_i e
    obtain ⟨hg, h1⟩ := h.glo e
    split
    · exact se_err
    · rename_i a r
      split
      · rename_i hs
        have hs' : isStar a = false ∧ noStar r = true := by simpa [noStar] using hs
        split
        · rename_i ex
          subst ex
          exact (pe_callB (ok_isiX h.fa) hg h1 (by decide +kernel : bootBuiltins ("isinstance" : Str) = some (.builtin "isinstance")) (eArgs_ok hv h _ hs) (by decide +kernel) (by decide +kernel) (star1 hs'.1) (star_any hs'.2)).imp fun σ H Q h => cb_core h
        · split
          · rename_i q eq
            have nh : C.hot = false := by
              cases e : C.hot with
              | true => rw [e] at eq; cases eq
              | false => rfl
            rw [nh] at eq
            obtain ⟨⟨k1, k2⟩, k3⟩ := bltP_ok (h.calm nh) eq
            rcases k3 with ⟨id, k4, k5⟩ | ⟨T, k4, k5⟩
            · exact (pe_callB k5 hg h1 k4 (eArgs_ok hv h _ hs) k1 k2 (star1 hs'.1) (star_any hs'.2)).imp fun σ H Q h => cb_core h
            · exact (pe_callTy k5 hg h1 k4 (eArgs_ok hv h _ hs) k1 k2 (star1 hs'.1) (star_any hs'.2)).imp fun σ H Q h => cb_core h
          · exact se_err
      · exact se_err
  · rename_i c n dfl e
    obtain ⟨hg, hdb, hm, M, k, D, hr⟩ := h.glo e
    split
    · rename_i hs
      obtain ⟨fd, ps, F, hb⟩ := D.ex
      have h6 := hb (args.length + 1) (by omega) (by omega)
      have en : args.length + 1 + dfl.length - (n + 1) = args.length + dfl.length - n := by omega
      rw [en] at h6
      obtain ⟨dvs, ds, r1, r2, r3⟩ := h6
      cases args with
      | nil => exact (pe_makeW0 M F hr hg hm r3 r2 h.tk hdb).imp fun σ H Q h => tMake_nil (make_core D.len r1 h)
      | cons a r =>
        have hs' : isStar a = false ∧ noStar r = true := by simpa [noStar] using hs.1
        exact (pe_makeW M F hr hg hm r3 r2 h.tk (eArgs_ok hv h _ hs.1) hdb (star1 hs'.1) (star_any hs'.2)).imp fun σ H Q h => make_core D.len r1 h
    · exact se_err
  · exact se_err
theorem _root_.L2.PE.any {ι : Type} {e : Expr} {t : ι → TE} (h : ∀ i, PE X e (t i)) : PE X e (fun σ H Q => ∃ i, t i σ H Q) := ⟨fun pins s σ H Q I ⟨i, q⟩ => (h i).run pins s σ H Q I q⟩
theorem eMet_ok (hv : Sound v) (h : XOk C X W) (o : Expr) (m : Str) (apos : Pos) (args : List Expr) (cpos : Pos) : PE X (.Call (.Attribute o m apos) args [] cpos) (tE X.K W (eMet v C o m apos args cpos)) := by
  unfold eMet
  split
  · rename_i hs
    obtain ⟨h1, h2, h3, h4, h5⟩ := hs
    have each : ∀ z : { z : Nat × PM // z ∈ metP (C.mu cpos) m }, PE X (.Call (.Attribute o m apos) args [] cpos) (tE X.K W (cMeth z.1.1 z.1.2 (v.E C o) (eArgs v C args))) := fun ⟨⟨T, p⟩, hz⟩ => by
      obtain ⟨pa, id, sl, ty, mt⟩ := metP_ok (X := X) h.hu hz
      cases args with
      | nil => exact (pe_bmS0 pa sl ty mt (hv.E h o) (base_id h1) h4).imp fun σ H Q h => meth0_core h
      | cons a r =>
        have hs' : isStar a = false ∧ noStar r = true := by simpa [noStar] using h2
        refine (pe_bmS pa sl ty mt (hv.E h o) (eArgs_ok hv h _ h2) (base_id h1) ?_ h4 (star1 hs'.1) (star_any hs'.2)).imp fun σ H Q h => meth_core h
        rw [star_all h2]
        show (true && (([] : List (Option Str × Sem Value)).all (fun x => x.1.isSome)) && decide ((a :: r).length + 0 + 0 < 30)) = true
        simp only [List.all_nil, Bool.true_and, decide_eq_true_eq]
        exact h3
    refine (PE.any (X := X) (ι := Option { z : Nat × PM // z ∈ metP (C.mu cpos) m }) (t := fun i => match i with
      | some z => tE X.K W (cMeth z.1.1 z.1.2 (v.E C o) (eArgs v C args))
      | none => tE X.K W cErr) (fun i => by
        cases i with
        | none => exact se_err
        | some z => exact each z)).imp fun σ H Q ⟨B, io, R, s, ds, rep, rs, rd, p⟩ => ?_
    have p : Pst X.K B io H W σ (RD X.K) ((v.E C o s R).bind fun x R1 => match (metP (C.mu cpos) m).find? fun p => isT p.1 x R1 with
      | some p => (eArgs v C args s R1).bind fun ds R2 => lift (p.2 x ds R2)
      | none => .err) Q := p
    cases e : v.E C o s R with
    | err => rw [e] at p; exact p.elim
    | exc c f R1 =>
      obtain ⟨z, hz⟩ := List.exists_mem_of_ne_nil _ h5
      refine ⟨some ⟨z, hz⟩, B, io, R, s, ds, rep, rs, rd, ?_⟩
      show Pst X.K B io H W σ (RD X.K) ((v.E C o s R).bind _) Q
      rw [e] at p ⊢
      exact p
    | ok x R1 =>
      rw [e, Res.bind_ok] at p
      cases ef : (metP (C.mu cpos) m).find? fun p => isT p.1 x R1 with
      | none => simp only [ef] at p; exact p.elim
      | some z =>
        simp only [ef] at p
        refine ⟨some ⟨z, List.mem_of_find?_eq_some ef⟩, B, io, R, s, ds, rep, rs, rd, ?_⟩
        show Pst X.K B io H W σ (RD X.K) ((v.E C o s R).bind fun x R1 => if isT z.1 x R1 = true then (eArgs v C args s R1).bind fun ds R2 => lift (z.2 x ds R2) else .err) Q
        rw [e, Res.bind_ok, if_pos (List.find?_some ef)]
        exact p
  · exact se_err
theorem msOf_ok (h : XOk C X W) {m : Str} {k : Nat} {p : Nat × SF × List D} (hp : p ∈ msOf C m k) : ∃ n dfl, (m, p.1, n, dfl) ∈ C.st.ms ∧ 1 + k ≤ n ∧ n ≤ 1 + k + dfl.length ∧ p.2.1 = C.call (mkey p.1 m) ∧ p.2.2 = dfl.drop (1 + k + dfl.length - n) := by
  unfold msOf at hp
  obtain ⟨q, hq, e⟩ := List.mem_filterMap.mp hp
  split at e
  · rename_i hk
    cases e
    obtain ⟨m', c, n, dfl⟩ := q
    obtain ⟨rfl, h1, h2⟩ := hk
    exact ⟨n, dfl, hq, h1, h2, rfl, rfl⟩
  · cases e
theorem eMetOwn_ok (hv : Sound v) (h : XOk C X W) (o : Expr) (m : Str) (apos : Pos) (args : List Expr) (cpos : Pos) : PE X (.Call (.Attribute o m apos) args [] cpos) (tE X.K W (eMetOwn v C o m apos args cpos)) := by
  unfold eMetOwn
  split
  · rename_i hs
    obtain ⟨h1, h2, h3, h4, h5⟩ := hs
    generalize hl : msOf C m args.length = l at h5
    have each : ∀ z : { z : Nat × SF × List D // z ∈ l }, PE X (.Call (.Attribute o m apos) args [] cpos) (tE X.K W (cMeth1 z.1.1 m z.1.2.1 z.1.2.2 (v.E C o) (eArgs v C args))) := fun ⟨⟨c, F, dfl'⟩, hz⟩ => by
      rw [← hl] at hz
      obtain ⟨n, dfl, hm, hk1, hk2, e1, e2⟩ := msOf_ok h hz
      simp only at hm e1 e2
      subst e1 e2
      obtain ⟨M, cl, k, D, hr⟩ := h.ms _ _ _ _ hm
      obtain ⟨fd, ps, F, hb⟩ := D.ex
      obtain ⟨dvs, ds, r1, r2, r3⟩ := hb (1 + args.length) hk1 hk2
      cases args with
      | nil => exact (pe_methW0 (hv.E h o) cl M F hr r3 r2 h.tk (base_id h1) h4).imp fun σ H Q h => (meth_own D.len r1 h).imp fun x H1 ⟨a, dx, fs, e1, e2, e3, q⟩ => ⟨a, dx, fs, e1, e2, e3, tA_nil q⟩
      | cons a r =>
        have hs' : isStar a = false ∧ noStar r = true := by simpa [noStar] using h2
        refine (pe_methW (hv.E h o) cl M F hr r3 r2 h.tk (eArgs_ok hv h _ h2) (base_id h1) ?_ h4 (star1 hs'.1) (star_any hs'.2)).imp fun σ H Q h => meth_own D.len r1 h
        unfold methodCallForm
        rw [star_all h2]
        show (true && (([] : List (Option Str × Sem Value)).all (fun x => x.1.isSome)) && decide ((a :: r).length + 0 + 0 < 30)) = true
        simp only [List.all_nil, Bool.true_and, decide_eq_true_eq]
        exact h3
    refine (PE.any (X := X) (ι := Option { z : Nat × SF × List D // z ∈ l }) (t := fun i => match i with
      | some z => tE X.K W (cMeth1 z.1.1 m z.1.2.1 z.1.2.2 (v.E C o) (eArgs v C args))
      | none => tE X.K W cErr) (fun i => by
        cases i with
        | none => exact se_err
        | some z => exact each z)).imp fun σ H Q ⟨B, io, R, s, ds, rep, rs, rd, p⟩ => ?_
    have p : Pst X.K B io H W σ (RD X.K) ((v.E C o s R).bind fun x R1 => match insOf R1 x with
      | some (c, fs) => (match l.find? fun p => decide (p.1 = c) with
        | some p => if noFld m fs = true then (eArgs v C args s R1).bind fun ds R2 => p.2.1 (x :: (ds ++ p.2.2)) R2 else .err
        | none => .err)
      | none => .err) Q := p
    cases e : v.E C o s R with
    | err => rw [e] at p; exact p.elim
    | exc c f R1 =>
      obtain ⟨z, hz⟩ := List.exists_mem_of_ne_nil _ h5
      refine ⟨some ⟨z, hz⟩, B, io, R, s, ds, rep, rs, rd, ?_⟩
      show Pst X.K B io H W σ (RD X.K) ((v.E C o s R).bind _) Q
      rw [e] at p ⊢
      exact p
    | ok x R1 =>
      rw [e, Res.bind_ok] at p
      cases ei : insOf R1 x with
      | none => simp only [ei] at p; exact p.elim
      | some z =>
        obtain ⟨c, fs⟩ := z
        simp only [ei] at p
        cases ef : l.find? fun p => decide (p.1 = c) with
        | none => simp only [ef] at p; exact p.elim
        | some z =>
          simp only [ef] at p
          have hc : z.1 = c := by simpa using List.find?_some ef
          refine ⟨some ⟨z, List.mem_of_find?_eq_some ef⟩, B, io, R, s, ds, rep, rs, rd, ?_⟩
          show Pst X.K B io H W σ (RD X.K) ((v.E C o s R).bind fun x R1 => match insOf R1 x with
            | some (c', fs) => if c' = z.1 ∧ noFld m fs = true then (eArgs v C args s R1).bind fun ds R2 => z.2.1 (x :: (ds ++ z.2.2)) R2 else .err
            | none => .err) Q
          rw [e, Res.bind_ok]
          simp only [ei]
          by_cases hf : noFld m fs = true
          · rw [if_pos hf] at p
            rw [if_pos ⟨hc.symm, hf⟩]
            exact p
          · rw [if_neg hf] at p
            exact p.elim
  · exact se_err
theorem eAttr_ok (hv : Sound v) (h : XOk C X W) (o : Expr) (f : Str) (pos : Pos) : PE X (.Attribute o f pos) (tE X.K W (eAttr v C o f)) := by
  unfold eAttr
  split
  · rename_i n en
    split
    · exact se_err
    · rename_i hs
      refine se_fld (fun c n hk => ?_) ?_ (hv.E h o) (base_id (by simpa using hs))
      · obtain ⟨p, hp, hq⟩ := List.any_eq_true.mp hk
        obtain ⟨r, hr, rfl⟩ := List.mem_map.mp hp
        rw [Bool.and_eq_true] at hq
        have h1 : r.c = c := of_decide_eq_true hq.1
        have h2 : n ∈ r.ats := of_decide_eq_true hq.2
        rw [← h1]
        exact h.fa.at_ r hr n h2
      · have := idxN_ok en
        unfold atN
        rw [List.getD_eq_getElem?_getD, this]
        rfl
  · exact se_err
theorem eCall_ok (hv : Sound v) (h : XOk C X W) (f : Expr) (args : List Expr) (kws : List Keyword) (pos : Pos) : PE X (.Call f args kws pos) (tE X.K W (eCall v C f args kws pos)) := by
  unfold eCall
  split
  · exact eCallN_ok hv h _ _ _ _
  · split
    · rename_i tb et
      obtain ⟨x, p, rfl, k1, k2⟩ := tab_ok h et
      unfold eKGet
      split
      · exact se_err
      · rename_i a r
        split
        · rename_i hs
          obtain ⟨q1, q2, q3, q4⟩ := hs
          subst q1
          have hs' : isStar a = false ∧ noStar r = true := by simpa [noStar] using q2
          refine se_getT k1 k2 (eArgs_ok hv h _ q2) (base_id rfl) ?_ q4 (star1 hs'.1) (star_any hs'.2)
          rw [star_all q2]
          show (true && (([] : List (Option Str × Sem Value)).all (fun x => x.1.isSome)) && decide ((a :: r).length + 0 + 0 < 30)) = true
          simp only [List.all_nil, Bool.true_and, decide_eq_true_eq]
          exact q3
        · exact se_err
    · split
      · rename_i ts et
        obtain ⟨x, p, rfl, k1, k2⟩ := tup_okC h et
        unfold eKIdx
        split
        · exact se_err
        · rename_i a r
          split
          · rename_i hs
            obtain ⟨q1, q2, q3, q4⟩ := hs
            subst q1
            have hs' : isStar a = false ∧ noStar r = true := by simpa [noStar] using q2
            refine se_idxK k1 k2 (eArgs_ok hv h _ q2) (base_id rfl) ?_ q4 (star1 hs'.1) (star_any hs'.2)
            rw [star_all q2]
            show (true && (([] : List (Option Str × Sem Value)).all (fun x => x.1.isSome)) && decide ((a :: r).length + 0 + 0 < 30)) = true
            simp only [List.all_nil, Bool.true_and, decide_eq_true_eq]
            exact q3
          · exact se_err
      · split
        · rename_i em
          subst em
          unfold eFhC
          split
          · exact se_err
          · rename_i a r
            split
            · rename_i hs
              obtain ⟨q1, q2, q3, q4⟩ := hs
              have hs' : isStar a = false ∧ noStar r = true := by simpa [noStar] using q2
              refine (pe_fh (pl := do return (← importBound _ X.env).getD true) (hv.E h _) (eArgs_ok hv h _ q2) (star1 hs'.1) (star_any hs'.2) (mcall_eq (base_id q1) ?_ q4)).imp fun σ H Q h => fh_core h
              unfold methodCallForm
              rw [star_all q2]
              show (true && (([] : List (Option Str × Sem Value)).all (fun x => x.1.isSome)) && decide ((a :: r).length + 0 + 0 < 30)) = true
              simp only [List.all_nil, Bool.true_and, decide_eq_true_eq]
              exact q3
            · exact se_err
        · split
          · exact eMetOwn_ok hv h _ _ _ _ _
          · exact eMet_ok hv h _ _ _ _ _
  · exact se_err
theorem ePairs_ok (hv : Sound v) (h : XOk C X W) {pos : Pos} : ∀ (ks : List (Option Expr)) (vs : List Expr), ks.all (·.isSome) = true → ks.length = vs.length → PPs X pos ks vs ((ePairs v C ks vs).map fun p => (tE X.K W p.1, tE X.K W p.2))
  | [], [], _, _ => pps_nil
  | [], _ :: _, _, e => by cases e
  | _ :: _, [], _, e => by cases e
  | none :: ks, x :: vs, hs, _ => by cases hs
  | some k :: ks, x :: vs, hs, e => pps_cons (hv.E h k) (hv.E h x) (ePairs_ok hv h ks vs (by simpa using hs) (by simpa using e))
theorem eDict_ok (hv : Sound v) (h : XOk C X W) (ks : List (Option Expr)) (vs : List Expr) (pos : Pos) : PE X (.Dict ks vs pos) (tE X.K W (eDict v C ks vs pos)) := by
  unfold eDict
  split
  · exact se_dnew
  · split
    · rename_i hs
      exact se_disp (ePairs_ok hv h _ _ hs.1 hs.2.1) hs.1 hs.2.1 (by simp) hs.2.2
    · exact se_err
  · exact se_err
theorem stepE_ok (hv : Sound v) (h : XOk C X W) (e : Expr) : PE X e (tE X.K W (stepE v C e)) := by
  unfold stepE
  split
  · exact eConst_ok _ _ _
  · exact eName_ok h _ _
  · exact eUn_ok hv h _ _ _
  · exact eBin_ok hv h _ _ _ _
  · exact eBool_ok hv h _ _ _
  · exact eCmp_ok hv h _ _ _ _
  · exact se_if (hv.B h _) (hv.E h _) (hv.E h _)
  · split
    · rename_i hs
      exact se_tup (eArgs_ok hv h _ hs)
    · exact se_err
  · split
    · rename_i hs
      exact se_lst (eArgs_ok hv h _ hs)
    · exact se_err
  · exact eDict_ok hv h _ _ _
  · exact eSub_ok hv h _ _ _
  · exact eComp_ok hv h _ _ _ _
  · exact eDComp_ok hv h _ _ _ _ _
  · exact eCall_ok hv h _ _ _ _
  · exact eAttr_ok hv h _ _ _
  · exact se_err
end
end Om
/-! Om, part P: tests, targets, sources, statements; the evaluator, sound. -/
namespace Om
open PySem PySem.Spec PyProof.Rows L2 RZ
/-! ### tests -/
def bErr : SB := fun _ _ => .err
def bAndL (f : Expr → SB) : List Expr → SB
  | [] => bErr
  | [a] => f a
  | a :: b :: r => bAnd (f a) (bAndL f (b :: r))
def bOrL (f : Expr → SB) : List Expr → SB
  | [] => bErr
  | [a] => f a
  | a :: b :: r => bOr (f a) (bOrL f (b :: r))
def bCmp (v : Ev) (C : Cn) (a : Expr) (ops : List CmpOp) (cs : List Expr) : SB := match ops, cs with
  | [op], [b] => (match cmpT v C a op b with
    | some m => bOf m
    | none => if isSet b = true then bErr else (match cmpO C op with
      | some p => bOf (cOp2 p (v.E C a) (v.E C b))
      | none => bErr))
  | [op, op'], [b, c] => if isSet c = true then bErr else (match cmpP op, cmpP op' with
    | some p, some q => bOf (cCh p q (v.E C a) (v.E C b) (v.E C c))
    | _, _ => bErr)
  | _, _ => bErr
def stepB (v : Ev) (C : Cn) (e : Expr) : SB := match e with
  | .UnaryOp .Not a _ => bNot (v.B C a)
  | .BoolOp .And es _ => bAndL (v.B C) es
  | .BoolOp .Or es _ => bOrL (v.B C) es
  | .Compare a ops cs _ => bCmp v C a ops cs
  | .IfExp _ _ _ _ => bErr
  | e => bVal (v.E C e)
section
variable {v : Ev} {C : Cn} {X : Cx} {W : WX}
theorem sb_err {e : Expr} : PT X e (tB X.K W bErr) := ⟨fun _ _ _ _ _ _ ⟨_, _, _, _, _, _, _, _, p⟩ => p.elim⟩
theorem sw_err {e : Expr} : PW X e (tB X.K W bErr) := ⟨fun _ _ _ _ _ _ _ ⟨_, _, _, _, _, _, _, _, p⟩ => p.elim⟩
theorem bAndL_ok {f : Expr → SB} (hf : ∀ e, PT X e (tB X.K W (f e))) (pos : Pos) : ∀ es, PW X (.BoolOp .And es pos) (tB X.K W (bAndL f es))
  | [] => sw_err
  | [a] => pw_and1 (hf a)
  | a :: b :: r => sb_and (hf a) (bAndL_ok hf pos (b :: r))
theorem bOrL_ok {f : Expr → SB} (hf : ∀ e, PT X e (tB X.K W (f e))) (pos : Pos) : ∀ es, PW X (.BoolOp .Or es pos) (tB X.K W (bOrL f es))
  | [] => sw_err
  | [a] => pw_or1 (hf a)
  | a :: b :: r => sb_or (hf a) (bOrL_ok hf pos (b :: r))
theorem bCmp_ok (hv : Sound v) (h : XOk C X W) (a : Expr) (ops : List CmpOp) (cs : List Expr) (pos : Pos) : PT X (.Compare a ops cs pos) (tB X.K W (bCmp v C a ops cs)) := by
  unfold bCmp
  split
  · split
    · rename_i m em
      exact (cmpT_ok hv h em).2
    · split
      · exact sb_err
      · rename_i hs
        split
        · rename_i p e
          exact sb_cmpO (cmpO_ok h e) (hv.E h _) (hv.E h _) (marks_no (by simpa using hs))
        · exact sb_err
  · split
    · exact sb_err
    · rename_i hs
      split
      · rename_i p q e1 e2
        exact sb_ch h.hu e1 e2 (hv.E h _) (hv.E h _) (hv.E h _) (marks_no (by simpa using hs))
      · exact sb_err
  · exact sb_err
theorem stepB_ok (hv : Sound v) (h : XOk C X W) (e : Expr) : PT X e (tB X.K W (stepB v C e)) := by
  cases e with
  | UnaryOp op a pos =>
    cases op with
    | Not => exact sb_not (hv.B h a)
    | _ => exact sb_val (hv.E h _) fun _ => rfl
  | BoolOp op es pos =>
    cases op with
    | And => exact (bAndL_ok (hv.B h) pos es).pt
    | Or => exact (bOrL_ok (hv.B h) pos es).pt
  | Compare a ops cs pos => exact bCmp_ok hv h a ops cs pos
  | IfExp => exact sb_err
  | _ => exact sb_val (hv.E h _) fun _ => rfl
end
/-! ### targets -/
def gGs (v : Ev) (C : Cn) (ws : List Nat) : List Expr → SGs
  | [] => gN
  | e :: es => gC (v.G C ws e) (gGs v C ws es)
/-- the place of the star, the targets without it -/
def starIx : List Expr → Option Nat
  | [] => none
  | .Starred _ _ :: _ => some 0
  | _ :: es => (starIx es).map (· + 1)
def unStar : Expr → Expr
  | .Starred t _ => t
  | e => e
def oneStar (es : List Expr) : Bool := match starIx es with
  | some i => noStar (es.drop (i + 1)) && noStar (es.map unStar)
  | none => false
def stepG (v : Ev) (C : Cn) (ws : List Nat) (e : Expr) : SG := match e with
  | .Name x _ => (match C.own x with
    | some i => if i ∈ ws then gVar i else gErr
    | none => gErr)
  | .Tuple es _ pos => if noStar es = true ∧ C.hot = false then gT es.length (gGs v C ws es) else (match starIx es with
    | some i => if oneStar es = true ∧ C.hot = false then gStar es.length i (gGs v C ws (es.map unStar)) (C.mu pos) else gErr
    | none => gErr)
  | .Subscript a b _ => if isSlice b = true then gErr else gIx (v.E C a) (v.E C b)
  | _ => gErr
section
variable {v : Ev} {C : Cn} {X : Cx} {W : WX} {ws : List Nat}
theorem XOk.ownOk (h : XOk C X W) {x : Str} {i : Nat} (e : C.own x = some i) : X.N[i]? = some x ∧ Loc X.env.scope x ∧ (X.fn x = true ∨ X.env.scope.names.lookup x = some .local) := by
  unfold Cn.own at e
  split at e
  · rename_i k
    exact ⟨by rw [h.N]; exact idxN_ok e, .inl (h.lo x k), .inr (h.lo x k)⟩
  · rename_i k
    exact ⟨by rw [h.N]; exact idxN_ok e, .inr (h.ce x k).1, .inl (h.ce x k).2⟩
  · cases e
theorem asg_len {env : Env} : ∀ {es : List Expr}, noStar es = true → (assignEach es env).length = es.length ∧ (assignEach es env).findIdx? (·.1) = none
  | [], _ => ⟨rfl, rfl⟩
  | e :: es, h => by
    have h' : isStar e = false ∧ noStar es = true := by simpa [noStar] using h
    obtain ⟨h1, h2⟩ := asg_len (env := env) h'.2
    rw [asgs h'.1]
    refine ⟨congrArg (· + 1) h1, ?_⟩
    rw [List.findIdx?_cons]
    simp only [Bool.false_eq_true, if_false, h2, Option.map_none]
theorem gGs_ok (hv : Sound v) (h : XOk C X W) : ∀ es : List Expr, noStar es = true → PGs X es (tGs X.K ws (gGs v C ws es))
  | [], _ => sgs_nil
  | e :: es, hs => by
    have h' : isStar e = false ∧ noStar es = true := by simpa [noStar] using hs
    exact sgs_cons (hv.G h ws e) (gGs_ok hv h es h'.2) (by rw [asgs h'.1]; rfl)
theorem asg_star {env : Env} {t : Expr} {p : Pos} {es : List Expr} : assignEach (.Starred t p :: es) env = (true, assign t env) :: assignEach es env := rfl
theorem star_ix {env : Env} : ∀ {es : List Expr} {i : Nat}, starIx es = some i → (assignEach es env).length = es.length ∧ (assignEach es env).findIdx? (·.1) = some i
  | [], _, h => by cases h
  | e :: es, i, h => by
    cases hs : isStar e with
    | true =>
      cases e with
      | Starred t p =>
        cases h
        refine ⟨?_, rfl⟩
        rw [asg_star]
        exact congrArg (· + 1) (asg_len0 es)
      | _ => cases hs
    | false =>
      have h' : (starIx es).map (· + 1) = some i := by
        cases e <;> first | exact h | cases hs
      obtain ⟨j, e1, e2⟩ := Option.map_eq_some_iff.mp h'
      subst e2
      obtain ⟨q1, q2⟩ := star_ix (env := env) e1
      rw [asgs hs]
      refine ⟨congrArg (· + 1) q1, ?_⟩
      rw [List.findIdx?_cons]
      simp only [Bool.false_eq_true, if_false, q2, Option.map_some]
where
  asg_len0 : ∀ es : List Expr, (assignEach es env).length = es.length
    | [] => rfl
    | e :: es => by
      cases e <;> exact congrArg (· + 1) (asg_len0 es)
theorem gGsU_ok (hv : Sound v) (h : XOk C X W) : ∀ es : List Expr, noStar (es.map unStar) = true → PGs X es (tGs X.K ws (gGs v C ws (es.map unStar)))
  | [], _ => sgs_nil
  | e :: es, hs => by
    have h' : isStar (unStar e) = false ∧ noStar (es.map unStar) = true := by simpa [noStar] using hs
    have ih := gGsU_ok hv h es h'.2
    cases e with
    | Starred t p =>
      have h1 : isStar t = false := h'.1
      have e1 : (assignEach (.Starred t p :: es) X.env).map (·.2) = (assignEach (t :: es) X.env).map (·.2) := by
        rw [asg_star, asgs h1]
        rfl
      refine ⟨fun pins s σ H vs us Q I r q => ?_⟩
      rw [e1]
      exact (sgs_cons (hv.G h ws t) ih (by rw [asgs h1]; rfl)).run pins s σ H vs us Q I r q
    | _ => exact sgs_cons (hv.G h ws _) ih rfl
theorem stepG_ok (hv : Sound v) (h : XOk C X W) (e : Expr) : PG X e (tG X.K ws (stepG v C ws e)) := by
  unfold stepG
  split
  · split
    · rename_i i ei
      obtain ⟨h1, h2, h3⟩ := h.ownOk ei
      split
      · rename_i hi
        exact sg_var (pg_name (by rw [h.N]; exact h.nd) h1 h2 h3) hi
      · exact sg_err
    · exact sg_err
  · split
    · rename_i hs
      obtain ⟨h1, h2⟩ := asg_len (env := X.env) hs.1
      exact sg_tup (h.calm hs.2) (gGs_ok hv h _ hs.1) h1 h2
    · split
      · rename_i i ei
        split
        · rename_i hs
          obtain ⟨h1, h2⟩ := star_ix (env := X.env) ei
          refine sg_star (h.calm hs.2) (gGsU_ok hv h _ ?_) h1 h2
          have := hs.1
          unfold oneStar at this
          rw [ei, Bool.and_eq_true] at this
          exact this.2
        · exact sg_err
      · exact sg_err
  · split
    · exact sg_err
    · rename_i hs
      have := h.hu
      exact sg_ix (by omega) (hv.E h.no _) (hv.E h.no _) (asg_ix (by simpa using hs))
  · exact sg_err
end
/-! ### sources -/
def iErr : SI := fun _ _ => .err
def iBlt (v : Ev) (C : Cn) (tg : Expr) (x : Str) (args : List Expr) : Option SI :=
  if x = "range" then (match args with
    | [a] => if isStar a = false then some (iArgs rng1 (eArgs v C [a])) else none
    | [a, b] => if noStar [a, b] = true then some (iArgs rng2 (eArgs v C [a, b])) else none
    | _ => none)
  else if x = "enumerate" then (match tg, args with
    | .Tuple _ _ _, [a] => if isStar a = false then some (iArgs enum1 (eArgs v C [a])) else none
    | _, _ => none)
  else if x = "zip" then (match tg, args with
    | .Tuple _ _ _, [a, b] => if noStar [a, b] = true then some (iArgs zip2 (eArgs v C [a, b])) else none
    | _, _ => none)
  else none
def isTup : Expr → Bool
  | .Tuple _ _ _ => true
  | _ => false
def stepI (v : Ev) (C : Cn) (tg e : Expr) : SI := match e with
  | .Call (.Name x _) args [] _ => (match C.gl x, iBlt v C tg x args with
    | some .blt, some m => m
    | _, _ => iAny (v.E C e))
  | .Call (.Attribute o m apos) [] [] cpos => if m = "items" ∧ isTup tg = true ∧ isSup o = false ∧ (apos.endLine == cpos.line) = true then iItm (v.E C o) else iAny (v.E C e)
  | _ => iAny (v.E C e)
section
variable {v : Ev} {C : Cn} {X : Cx} {W : WX}
theorem iBlt_ok (hv : Sound v) (h : XOk C X W) {tg : Expr} {x : Str} {p : Pos} {args : List Expr} {pos : Pos} {m : SI} (hg : Gl X x) (hm : X.mg x = none) (e : iBlt v C tg x args = some m) : PI X tg (.Call (.Name x p) args [] pos) (tI X.K W m) := by
  unfold iBlt at e
  split at e
  · rename_i ex
    subst ex
    split at e
    · rename_i a
      split at e
      · rename_i hs
        cases e
        exact si_range1 hg hm (eArgs_ok hv h [a] (by simp [noStar, hs])) (star1 hs)
      · cases e
    · rename_i a b
      split at e
      · rename_i hs
        cases e
        have hs' : isStar a = false ∧ isStar b = false := by simpa [noStar] using hs
        exact si_range2 hg hm (eArgs_ok hv h [a, b] hs) (by rw [star1 hs'.1, star1 hs'.2]; rfl) (star1 hs'.2)
      · cases e
    · cases e
  · split at e
    · rename_i ex
      subst ex
      split at e
      · rename_i a
        split at e
        · rename_i hs
          cases e
          exact si_enum hg hm (eArgs_ok hv h [a] (by simp [noStar, hs])) (star1 hs)
        · cases e
      · cases e
    · split at e
      · rename_i ex
        subst ex
        split at e
        · rename_i a b
          split at e
          · rename_i hs
            cases e
            have hs' : isStar a = false ∧ isStar b = false := by simpa [noStar] using hs
            exact si_zip hg hm (eArgs_ok hv h [a, b] hs) (star1 hs'.1) (star_any (by simp [noStar, hs'.2]))
          · cases e
        · cases e
      · cases e
theorem stepI_ok (hv : Sound v) (h : XOk C X W) (tg e : Expr) : PI X tg e (tI X.K W (stepI v C tg e)) := by
  unfold stepI
  split
  · split
    · rename_i e1 e2
      obtain ⟨hg, hm⟩ := h.glo e1
      exact iBlt_ok hv h hg hm e2
    · exact si_any (hv.E h _)
  · split
    · rename_i hs
      obtain ⟨q1, q2, q3, q4⟩ := hs
      subst q1
      cases tg with
      | Tuple elts k p => exact si_itm (hv.E h _) (base_id q3) q4
      | _ => cases q2
    · exact si_any (hv.E h _)
  · exact si_any (hv.E h _)
end
/-! ### statements -/
def eSs (v : Ev) (C : Cn) : List Stmt → SS
  | [] => sPass
  | st :: sts => sSeq (v.S C st) (eSs v C sts)
/-- a, b = x, y: which names are stored from the right; none: nothing is known -/
def swapNames (C : Cn) (ts : List Expr) : List Str := ts.filterMap fun
  | .Name id pos => if (C.kind id == some .local && pos.line == (ts.head?.map (·.pos.line)).getD 0) = true then some id else none
  | _ => none
def swapN (C : Cn) (ts vs : List Expr) : Option (Option (List Str)) :=
  if (!(ts.length == 2 || ts.length == 3) || vs.length != ts.length) = true then some none
  else if ((swapNames C ts).length != ts.length || (swapNames C ts).eraseDups.length != (swapNames C ts).length) = true then some none
  else if vs.all (foldedForSure 8) = true then some none
  else if vs.all (constantsAlone 8) = true then none
  else some (some (swapNames C ts))
theorem no_star_any : ∀ {es : List Expr}, noStar es = true → (es.any fun | .Starred .. => true | _ => false) = false
  | [], _ => rfl
  | e :: es, h => by
    have h' : isStar e = false ∧ noStar es = true := by simpa [noStar] using h
    rw [List.any_cons, no_star_any h'.2]
    cases e <;> first | rfl | cases h'.1
theorem swapN_ok {C : Cn} {X : Cx} {W : WX} (h : XOk C X W) (ht : C.top = true) {ts vs : List Expr} {k k2 : Nat} {p p2 : Pos} {r : Option (List Str)} (hs : noStar vs = true) (e : swapN C ts vs = some r) : swappedStores [.Tuple ts k p] (.Tuple vs k2 p2) X.env = pure r := by
  have hb : X.env.blockKind = .function := by
    unfold Env.blockKind
    rw [h.kf]
    rfl
  have hn : (ts.filterMap fun
      | .Name id pos => if X.env.kindOf id == some .local && pos.line == (ts.head?.map (·.pos.line)).getD 0 then some id else none
      | _ => none) = swapNames C ts := by
    unfold swapNames
    congr 1
    funext e
    cases e <;> first
      | rfl
      | simp only [h.top ht]
  unfold swappedStores
  simp only [hb, no_star_any hs, hn]
  unfold swapN at e
  split at e
  · rename_i c
    cases e
    have c' : (!(ts.length == 2 || ts.length == 3) || vs.length != ts.length || ScopeKind.function != ScopeKind.function) = true := by rw [c]; rfl
    simp only [c', if_true]
  · rename_i c
    have c' : (!(ts.length == 2 || ts.length == 3) || vs.length != ts.length || ScopeKind.function != ScopeKind.function) = false := by
      rw [Bool.not_eq_true] at c
      rw [c]
      rfl
    simp only [c', Bool.false_eq_true, if_false]
    refine (if_neg (fun z => Bool.noConfusion ((no_star_any hs).symm.trans z))).trans ?_
    refine (congrArg (fun l : List Str => (if (l.length != ts.length || l.eraseDups.length != l.length) = true then pure none else if vs.all (foldedForSure 8) = true then pure none else if vs.all (constantsAlone 8) = true then (do
      unsupported "assign.tuple-of-constant-expressions:order-of-the-stores"
      pure (some l)) else pure (some l) : Sem (Option (List Str)))) hn).trans ?_
    show (if ((swapNames C ts).length != ts.length || (swapNames C ts).eraseDups.length != (swapNames C ts).length) = true then _ else _) = _
    split at e
    · rename_i c2
      cases e
      rw [if_pos c2]
    · rename_i c2
      rw [if_neg c2]
      split at e
      · rename_i c3
        cases e
        rw [if_pos c3]
      · rename_i c3
        rw [if_neg c3]
        split at e
        · cases e
        · rename_i c4
          cases e
          rw [if_neg c4]
def isNm : Expr → Bool
  | .Name _ _ => true
  | _ => false
theorem swaps_tg {e tg : Expr} {l : Nat} {env : Env} (h : isNm tg = false) : swapsWith e (some tg) l env = pure false := by
  cases tg <;> first | (cases h; done) | (cases e <;> rfl)
def isLst : Expr → Bool
  | .List _ _ => true
  | _ => false
def wsAll (C : Cn) : List Nat := List.range C.N.length
def sAsgN (v : Ev) (C : Cn) (tg e : Expr) (l : Nat) : SS := match tg, e with
  | .Tuple ts _ _, .Tuple vs _ _ => if noStar vs = true ∧ C.top = true ∧ C.hot = false then (match swapN C ts vs with
    | some none => sAsg (v.E C e) (v.G C (wsAll C) tg)
    | some (some ns) => (match ts, vs with
      | [.Name x _, .Name y _], [a, b] => (match C.loc x, C.loc y with
        | some i, some j => if i = j ∨ ns ≠ [x, y] then sErr else sPar2 i j (eArgs v C [a, b])
        | _, _ => sErr)
      | [.Name x _, .Name y _, .Name z _], [a, b, c] => (match C.loc x, C.loc y, C.loc z with
        | some i, some j, some k => if i = j ∨ i = k ∨ j = k ∨ ns ≠ [x, y, z] then sErr else sPar3 i j k (eArgs v C [a, b, c])
        | _, _, _ => sErr)
      | _, _ => sErr)
    | none => sErr) else sErr
  | .Name x px, .ListComp elt gs scope pos => (match C.kind x with
    | some .local => (match C.loc x with
      | some i => if (px.line == pos.line) = true then (if (scope.names.any fun (n, k) => n == x && (k == .local || k == .cell)) = false then (if C.lk pos = true then sLock (lkGs v C gs) (sAsg (eComp0 v C elt gs scope pos) (gVar i)) else sAsg (eComp0 v C elt gs scope pos) (gVar i)) else sErr) else sAsg (v.E C e) (v.G C (wsAll C) tg)
      | none => sErr)
    | some .cell => sAsg (v.E C e) (v.G C (wsAll C) tg)
    | _ => sErr)
  | tg, e => if isStar tg = true ∨ (isComp e = true ∧ isNm tg = true) ∨ isLst tg = true then sErr else sAsg (v.E C e) (v.G C (wsAll C) tg)
/-- x op= y of whole numbers -/
def addI : P2 := fun x y R => match x, y with
  | .int i, .int j => some (.int (i + j), R)
  | _, _ => none
def subI : P2 := fun x y R => match x, y with
  | .int i, .int j => some (.int (i - j), R)
  | _, _ => none
theorem ip_addI {X : Cx} : PIp X .Add (fun x y H Q => rN X.K (pn2 addI) [x, y] H Q) := fun pins s σ H x y v u Q I r1 r2 h => by
  obtain ⟨B, io, R, dx, dy, d, R', rep, rx, ry, e, q⟩ := rN2 h
  unfold addI at e
  split at e
  · cases e
    cases rx
    cases ry
    exact ip_add pins s σ H _ _ v u Q I r1 r2 ⟨_, _, rfl, rfl, q io H _ (Step.refl _ _) rep (.int _)⟩
  · cases e
theorem ip_subI {X : Cx} : PIp X .Sub (fun x y H Q => rN X.K (pn2 subI) [x, y] H Q) := fun pins s σ H x y v u Q I r1 r2 h => by
  obtain ⟨B, io, R, dx, dy, d, R', rep, rx, ry, e, q⟩ := rN2 h
  unfold subI at e
  split at e
  · cases e
    cases rx
    cases ry
    exact ip_sub pins s σ H _ _ v u Q I r1 r2 ⟨_, _, rfl, rfl, q io H _ (Step.refl _ _) rep (.int _)⟩
  · cases e
def augP : Operator → Option P2
  | .Add => some addI
  | .Sub => some subI
  | _ => none
theorem augP_ok {X : Cx} {op : Operator} {p : P2} (h : augP op = some p) : PIp X op (fun x y H Q => rN X.K (pn2 p) [x, y] H Q) := by
  cases op <;> cases h
  · exact ip_addI
  · exact ip_subI
def sAugN (v : Ev) (C : Cn) (tg : Expr) (op : Operator) (e : Expr) : SS := match tg with
  | .Name x _ => (match C.own x, augP op with
    | some i, some p => sAug i p (v.E C e)
    | _, _ => sErr)
  | .Attribute o f _ => (match atIx f, augP op with
    | some n, some p => sFAug C.st.ca n p (v.E C o) (v.E C e)
    | _, _ => sErr)
  | _ => sErr
def sAttrN (v : Ev) (C : Cn) (o : Expr) (f : Str) (e : Expr) : SS := match atIx f with
  | some n => sSetF C.st.ca n (v.E C e) (v.E C o)
  | none => sErr
/-- a try whose body raises nothing -/
def sTryN (m : SS) : SS := fun s R => match m s R with
  | .exc _ _ _ _ => .err
  | o => o
/-! ### exceptions -/
def xRow (C : Cn) (x : Str) : Option XRow := if C.kind x = some .globalImplicit ∧ C.hot = false then C.st.xk.rows.find? (fun r => decide (exN r.c = x)) else none
def sRaiseN (v : Ev) (C : Cn) (e : Expr) : SS := match e with
  | .Call (.Name x _) [a] [] _ => (match xRow C x with
    | some ⟨c, true⟩ => if isStar a = true then sErr else sRaise1 c (v.E C a)
    | some ⟨c, false⟩ => (match a with
      | .Constant (.str _) _ _ => sRaise0 c
      | _ => sErr)
    | none => sErr)
  | _ => sErr
/-- within an except suite -/
def hotC (C : Cn) : Cn := { C with glob := [], st := Sc.none, hot := true }
def xClause (C : Cn) (x : Str) : Option Nat := if C.kind x = some .globalImplicit ∧ C.hot = false ∧ C.top = true then (C.st.xk.hits.find? (fun p => decide (exN p.2.1 = x))).map (fun p => p.2.1) else none
/-- error.f in an except suite, where the caught class has the field -/
def sErrF (own : Nat → Bool) (ok : Bool) (fld : Str) (c : Nat) (f : D) (t e : SS) : SS := if exFld c = fld ∧ own c = true ∧ f ≠ .undef ∧ ok = true then t else e
def ownR (rows : List XRow) (c : Nat) : Bool := rows.any fun r => decide (r.c = c) && r.own
def hitR (hits : List (Nat × Nat × Bool)) (c' c : Nat) : Option Bool := (hits.find? (fun p => decide (p.1 = c ∧ p.2.1 = c'))).map fun p => p.2.2
/-- error.f op b -/
def eSu (v : Ev) (C : Cn) (n : Option Str) (c : Nat) (f : D) (sts : List Stmt) : SS := match n, sts with
  | some n, [.Return (some (.Compare (.Attribute (.Name x _) fld _) [op] [b] _)) _] => (match cmpO (hotC C) op with
      | some p => sErrF (ownR C.st.xk.rows) (decide (x = n) && (!isSet b && okName n)) fld c f (sSeq (sRet (cOp2 p (cCon f) (v.E (hotC C) b))) sPass) (eSs v (hotC C) sts)
      | none => sErr)
  | some n, [.If (.Compare (.Attribute (.Name x _) fld _) [op] [b] _) body [] _] => (match cmpO (hotC C) op with
      | some p => sErrF (ownR C.st.xk.rows) (decide (x = n) && (!isSet b && okName n)) fld c f (sSeq (sIf (bOf (cOp2 p (cCon f) (v.E (hotC C) b))) (eSs v (hotC C) body) sPass) sPass) (eSs v (hotC C) sts)
      | none => sErr)
  | _, sts => eSs v (hotC C) sts
def sTryM (v : Ev) (C : Cn) (body : List Stmt) (h : ExceptHandler) (hs : List ExceptHandler) : SS := match h, hs with
  | .ExceptHandler (some (.Name x _)) nm (b :: su) _, [] => (match xClause C x with
    | some c' => (match nm with
      | none => sTryO (eSs v C body) (hitR C.st.xk.hits c') fun c f => eSu v C none c f (b :: su)
      | some n => (match C.loc n with
        | some i => sTryA (eSs v C body) (hitR C.st.xk.hits c') i fun c f => eSu v C (some n) c f (b :: su)
        | none => sErr))
    | none => sTryN (eSs v C body))
  | _, _ => sTryN (eSs v C body)
def stepS (v : Ev) (C : Cn) (st : Stmt) : SS := match st with
  | .Return none _ => sRetN
  | .Return (some e) _ => sRet (v.E C e)
  | .Expr e _ => if isComp e = true then sErr else sExpr (v.E C e)
  | .Assign [.Attribute o f _] e _ => sAttrN v C o f e
  | .Assign [tg] e pos => sAsgN v C tg e pos.line
  | .AugAssign tg op e _ => sAugN v C tg op e
  | .If c p q _ => sIf (v.B C c) (eSs v C p) (eSs v C q)
  | .For tg it body [] pos => if isSet it = true ∨ C.hot = true then sErr else (if C.lk pos = true then sLock (lkOf v C it) (sFor (v.I C tg it) (v.G C (wsAll C) tg) (eSs v C body)) else sFor (v.I C tg it) (v.G C (wsAll C) tg) (eSs v C body))
  | .While c body [] _ => sWhile (v.B C c) (eSs v C body)
  | .Pass _ => sPass
  | .Break _ => sBrk
  | .Continue _ => sCont
  | .Raise (some e) none _ => sRaiseN v C e
  | .Try body (hd :: hs) [] [] _ => sTryM v C body hd hs
  | _ => sErr
section
variable {v : Ev} {C : Cn} {X : Cx} {W : WX}
theorem XOk.locOk (h : XOk C X W) {x : Str} {i : Nat} (e : C.loc x = some i) : X.N[i]? = some x ∧ X.env.scope.names.lookup x = some .local := by
  unfold Cn.loc at e
  split at e
  · rename_i k
    exact ⟨by rw [h.N]; exact idxN_ok e, h.lo x k⟩
  · cases e
theorem eSs_ok (hv : Sound v) (h : XOk C X W) : ∀ sts : List Stmt, PSs X sts (tS X.K W (eSs v C sts))
  | [] => ss_nil
  | st :: sts => ss_cons (hv.S h st) (eSs_ok hv h sts)
theorem asg_any (hv : Sound v) (h : XOk C X W) {tg e : Expr} {pos : Pos} (h1 : isStar tg = false) (hs : swapsWithSole [tg] e pos.line X.env = pure false) (hw : swappedStores [tg] e X.env = pure none) :
    PS X (.Assign [tg] e pos) (tS X.K W (sAsg (v.E C e) (v.G C (wsAll C) tg))) := ss_asg (hv.E h e) (hv.G h (wsAll C) tg) hs hw (asg1 h1)
theorem asg_comp (hv : Sound v) (h : XOk C X W) {i : Nat} {x : Str} {px pos p2 : Pos} {elt : Expr} {gs : List Comprehension} {scope : Scope} (h1 : X.N[i]? = some x) (h2 : X.env.scope.names.lookup x = some .local) (hl : (px.line == p2.line) = true)
    (hn : (scope.names.any fun (n, k) => n == x && (k == .local || k == .cell)) = false) : PS X (.Assign [.Name x px] (.ListComp elt gs scope p2) pos) (tS X.K W (sAsg (eComp0 v C elt gs scope p2) (gVar i))) := by
  have er : PS X (.Assign [.Name x px] (.ListComp elt gs scope p2) pos) (tS X.K W (sAsg cErr (gVar i))) := ⟨fun _ _ _ _ _ _ ⟨_, _, _, _, _, _, p⟩ => p.elim⟩
  unfold eComp0
  split
  · split
    · rename_i hb
      obtain ⟨ok, hk, hfr⟩ := h.blkOk hb.1
      have hx := fun s H a cl fp => h.blk hk hfr s H a cl fp
      exact ss_setComp (h.calm (blk_calm hb.1)) (by rw [h.N]; exact h.nd) h1 h2 (sw_true h.kf h2 hl hn) (hv.I h _ _) ok (fun s H a cl fp => hv.G (hx s H a cl fp) _ _) (fun s H a cl fp => eIfs_ok hv (hx s H a cl fp) _) (fun s H a cl fp => hv.E (hx s H a cl fp) _) (fold_id hb.2)
    · exact er
  · exact er
theorem sAsgN_ok (hv : Sound v) (h : XOk C X W) (tg e : Expr) (pos : Pos) : PS X (.Assign [tg] e pos) (tS X.K W (sAsgN v C tg e pos.line)) := by
  unfold sAsgN
  split
  · rename_i ts k p vs k2 p2
    split
    · rename_i hs
      split
      · rename_i e1
        exact asg_any hv h rfl rfl (swapN_ok h hs.2.1 hs.1 e1)
      · rename_i ns e1
        have hw := swapN_ok (k := k) (p := p) (k2 := k2) (p2 := p2) h hs.2.1 hs.1 e1
        split
        · rename_i x px y py a b
          split
          · rename_i i j ei ej
            split
            · exact ss_err
            · rename_i hij
              rw [not_or, Classical.not_not] at hij
              obtain ⟨h1, h2⟩ := h.locOk ei
              obtain ⟨h3, h4⟩ := h.locOk ej
              rw [hij.2] at hw
              exact (ps_par (h.calm hs.2.2) (by rw [h.N]; exact h.nd) h1 h3 hij.1 h2 h4 (eArgs_ok hv h _ hs.1) hw rfl).imp fun D σ H h => par2_core h
          · exact ss_err
        · rename_i x px y py z pz a b c
          split
          · rename_i i j l ei ej el
            split
            · exact ss_err
            · rename_i hij
              rw [not_or, not_or, not_or, Classical.not_not] at hij
              obtain ⟨h1, h2⟩ := h.locOk ei
              obtain ⟨h3, h4⟩ := h.locOk ej
              obtain ⟨h5, h6⟩ := h.locOk el
              rw [hij.2.2.2] at hw
              exact (ps_par3 (h.calm hs.2.2) (by rw [h.N]; exact h.nd) h1 h3 h5 hij.1 hij.2.1 hij.2.2.1 h2 h4 h6 (eArgs_ok hv h _ hs.1) hw rfl).imp fun D σ H h => par3_core h
          · exact ss_err
        · exact ss_err
      · exact ss_err
    · exact ss_err
  · rename_i x px elt gs scope p2
    have hb : X.env.blockKind = .function := by
      unfold Env.blockKind
      rw [h.kf]
      rfl
    have e0 : ∀ e l, swapsWithSole [.Name x px] e l X.env = swapsWith e (some (.Name x px)) l X.env := fun _ _ => by rw [swapsWithSole]
    split
    · split
      · rename_i i ei
        obtain ⟨h1, h2⟩ := h.locOk ei
        split
        · rename_i hl
          split
          · rename_i hn
            split
            · exact ss_lock (asg_comp hv h h1 h2 hl hn)
            · exact asg_comp hv h h1 h2 hl hn
          · exact ss_err
        · rename_i hl
          refine asg_any hv h rfl ?_ rfl
          rw [e0]
          unfold swapsWith
          have hl' : (px.line == p2.line) = false := by simpa using hl
          simp only [Expr.pos, hl', Bool.and_false, Bool.false_and]
      · exact ss_err
    · rename_i hk
      refine asg_any hv h rfl ?_ rfl
      rw [e0]
      unfold swapsWith
      have h2 : X.env.kindOf x = some .cell := (h.ce x hk).1
      have h3 : ((some NameKind.cell : Option NameKind) == some .local) = false := by decide
      simp only [h2, h3, Bool.and_false, Bool.false_and]
    · exact ss_err
  · split
    · exact ss_err
    · rename_i hs
      rw [not_or, not_or] at hs
      have h1 : isStar tg = false := by simpa using hs.1
      have h2 : isComp e = false ∨ isNm tg = false := by
        have := hs.2.1
        rw [Classical.not_and_iff_not_or_not] at this
        simpa using this
      have h3 : isLst tg = false := by simpa using hs.2.2
      rename_i hno1 hno2
      refine asg_any hv h h1 (by
        rw [swapsWithSole]
        rcases h2 with h2 | h2
        · exact swaps_no h2
        · exact swaps_tg h2) ?_
      unfold swappedStores
      cases tg <;> first
        | rfl
        | (cases e <;> first | rfl | exact (hno1 _ _ _ _ _ _ rfl rfl).elim | cases h3)
theorem try_core {K : PySem.W.Frag} {m : SS} {D : Ends} {σ : S} {H : Hp} (h : tS K W (sTryN m) D σ H) : tS K noX m D σ H := by
  obtain ⟨B, io, R, s, rep, rs, p⟩ := h
  refine ⟨B, io, R, s, rep, rs, ?_⟩
  unfold sTryN at p
  revert p
  cases m s R with
  | exc _ _ _ _ => exact fun p => p.elim
  | err => exact fun p => p
  | nx _ _ => exact fun p => p
  | rt _ _ => exact fun p => p
  | bk _ _ => exact fun p => p
  | ct _ _ => exact fun p => p
theorem ca_ok (h : XOk C X W) (c n : Nat) (hk : okAt C.st.ca c n = true) : CaOk X.K c n := by
  obtain ⟨p, hp, hq⟩ := List.any_eq_true.mp hk
  obtain ⟨r, hr, rfl⟩ := List.mem_map.mp hp
  rw [Bool.and_eq_true] at hq
  have h1 : r.c = c := of_decide_eq_true hq.1
  have h2 : n ∈ r.ats := of_decide_eq_true hq.2
  rw [← h1]
  exact h.fa.at_ r hr n h2
theorem atIx_ok {f : Str} {n : Nat} (en : atIx f = some n) : atN n = f := by
  have := idxN_ok en
  unfold atN
  rw [List.getD_eq_getElem?_getD, this]
  rfl
theorem sAugN_ok (hv : Sound v) (h : XOk C X W) (tg : Expr) (op : Operator) (e : Expr) (pos : Pos) : PS X (.AugAssign tg op e pos) (tS X.K W (sAugN v C tg op e)) := by
  unfold sAugN
  split
  · split
    · rename_i i p ei ep
      obtain ⟨h1, h2, h3⟩ := h.ownOk ei
      exact ss_aug (by rw [h.N]; exact h.nd) h1 h2 h3 (augP_ok ep) (hv.E h e)
    · exact ss_err
  · split
    · rename_i n p en ep
      exact ss_faug (ca_ok h) (atIx_ok en) (hv.E h _) (hv.E h e) (augP_ok ep)
    · exact ss_err
  · exact ss_err
theorem sAttrN_ok (hv : Sound v) (h : XOk C X W) (o : Expr) (f : Str) (p : Pos) (e : Expr) (pos : Pos) : PS X (.Assign [.Attribute o f p] e pos) (tS X.K W (sAttrN v C o f e)) := by
  unfold sAttrN
  split
  · rename_i n en
    refine ss_setF (fun c n hk => ?_) ?_ (hv.E h o) (hv.E h e) (swaps_tg rfl)
    · obtain ⟨p, hp, hq⟩ := List.any_eq_true.mp hk
      obtain ⟨r, hr, rfl⟩ := List.mem_map.mp hp
      rw [Bool.and_eq_true] at hq
      have h1 : r.c = c := of_decide_eq_true hq.1
      have h2 : n ∈ r.ats := of_decide_eq_true hq.2
      rw [← h1]
      exact h.fa.at_ r hr n h2
    · have := idxN_ok en
      unfold atN
      rw [List.getD_eq_getElem?_getD, this]
      rfl
  · exact ss_err
theorem XOk.glob (h : XOk C X W) {x : Str} (k : C.kind x = some .globalImplicit) : Gl X x := h.gi x k
theorem pass0 {P : Program} {w : World} {X : Cx} : Passes (CX P w) X (fun _ _ _ => False) := fun _ _ _ _ _ _ _ c => by
  obtain ⟨_, _, _, _, _, _, _, _, _, _, _, _, z⟩ := c
  exact z.elim
theorem sRaiseN_ok (hv : Sound v) (h : XOk C X W) (e : Expr) (pos : Pos) : PS X (.Raise (some e) none pos) (tS X.K W (sRaiseN v C e)) := by
  unfold sRaiseN
  split
  · rename_i x p a p2
    have go : ∀ r, xRow C x = some r → C.kind x = some .globalImplicit ∧ C.hot = false ∧ r ∈ C.st.xk.rows ∧ exN r.c = x := fun r e => by
      unfold xRow at e
      split at e
      · rename_i k
        have e2 := List.find?_some e
        exact ⟨k.1, k.2, List.mem_of_find?_eq_some e, of_decide_eq_true e2⟩
      · cases e
    split
    · rename_i c e
      obtain ⟨k1, k2, k3, k4⟩ := go _ e
      obtain ⟨h1, h2, h3, k, fd, ps, h4, h5, h6⟩ := h.xr _ k3
      have k4 : exN c = x := k4
      subst k4
      split
      · exact ss_err
      · rename_i hs
        exact ss_raise1 (h.calm k2) h.tk h3.oe h3.iC h3.tI h4 h5 h6 pass0 (h.glob k1) h1 h2 (hv.E h a) (star1 (by simpa using hs))
    · rename_i c e
      obtain ⟨k1, k2, k3, k4⟩ := go _ e
      obtain ⟨h1, h2, h3⟩ := h.xr _ k3
      have k4 : exN c = x := k4
      subst k4
      split
      · exact ss_raise0 (h.calm k2) h.tk PySem.F.excBase_ValueError h3.ex h1 h3.kC (raises_own h3.su h3.ty) (h.glob k1) h2
      · exact ss_err
    · exact ss_err
  · exact ss_err
theorem XOk.hot (h : XOk C X W) (a : Addr) (pn : List (Addr × Obj)) : XOk (hotC C) (X.suite a pn) noX where
  N := h.N
  nd := h.nd
  kf := h.kf
  lo := h.lo
  ce := h.ce
  fr := h.fr
  gi := h.gi
  top := h.top
  calm := fun z => nomatch z
  hu := h.hu
  tk := takes_no
  po := PassesOwn.never
  gl := fun _ _ e => nomatch e
  fa := facts_ok (by rfl)
  ms := fun _ _ _ _ z => nomatch z
  eq := ⟨fun c c' G hG => by
    unfold eqF at hG
    split at hG
    · rename_i hin; cases hin
    · cases hG⟩
  xr := fun _ z => nomatch z
  xh := fun _ z => nomatch z
  stk := h.stk
theorem XOk.tr (h : XOk C X W) {W' : WX} (pn : List (Addr × Obj)) (xe : Value → Shared → Prop) (tk : Takes (X.tr pn xe) W') (po : PassesOwn (model X.prog X.w) X.A X.env xe) : XOk C (X.tr pn xe) W' where
  N := h.N
  nd := h.nd
  kf := h.kf
  lo := h.lo
  ce := h.ce
  fr := h.fr
  gi := h.gi
  top := h.top
  calm := h.calm
  hu := h.hu
  tk := tk
  po := po
  gl := h.gl
  fa := h.fa
  ms := h.ms
  eq := ⟨h.eq.ok⟩
  xr := h.xr
  xh := h.xh
  stk := h.stk
theorem eSu_ok (hv : Sound v) (h : XOk C X W) (n : Option Str) (i : Option Nat) (hn : ∀ m, n = some m → ∃ j, i = some j ∧ C.loc m = some j) (sts : List Stmt) (a : Addr) (oe : Obj) (cls : Value) (d : Option Addr) (pn : List (Addr × Obj)) (c : Nat) (f : D) (hz : Zc cls d oe) (hf : ∃ vs, oe.data = .fields vs) :
    PSs (X.suite a ((a, oe) :: pn)) sts (tX X.K i a cls d c f (eSu v C n c f sts)) := by
  have hh := h.hot a ((a, oe) :: pn)
  unfold eSu
  split
  · rename_i n x px fld pa op b pc pr
    split
    · rename_i p ep
      unfold sErrF
      split
      · rename_i q
        obtain ⟨q2, q3, q4, q5⟩ := q
        rw [Bool.and_eq_true, Bool.and_eq_true] at q5
        obtain ⟨q1, q5, q6⟩ := q5
        have q1 : x = n := of_decide_eq_true q1
        have q5 : isSet b = false := by simpa using q5
        subst q1 q2
        obtain ⟨j, ej, el⟩ := hn _ rfl
        subst ej
        obtain ⟨r, hr, hb⟩ := List.any_eq_true.mp q3
        rw [Bool.and_eq_true] at hb
        have hc : r.c = c := of_decide_eq_true hb.1
        subst hc
        obtain ⟨_, _, h3⟩ := h.xr r hr
        rw [hb.2] at h3
        obtain ⟨h3, _⟩ := h3
        obtain ⟨l1, l2⟩ := h.locOk el
        have two : (x == ("__debug__" : Str)) = false ∧ (x == ("__classdict__" : Str)) = false := by
          unfold okName at q6
          rw [Bool.and_eq_true] at q6
          exact ⟨by simpa using q6.1, by simpa using q6.2⟩
        exact sx_ret (xe_cmp (cmpO_ok hh ep) (xe_fld h3.xf h3.no rfl hz hf (pe_var l1 (.inl l2) two.1 two.2) rfl q4) (hv.E hh b) (marks_no q5))
      · exact sx_plain (eSs_ok hv hh _)
    · exact ⟨fun _ _ _ _ _ _ ⟨_, _, _, _, _, _, _, _, p⟩ => p.elim⟩
  · rename_i n x px fld pa op b pc body pr
    split
    · rename_i p ep
      unfold sErrF
      split
      · rename_i q
        obtain ⟨q2, q3, q4, q5⟩ := q
        rw [Bool.and_eq_true, Bool.and_eq_true] at q5
        obtain ⟨q1, q5, q6⟩ := q5
        have q1 : x = n := of_decide_eq_true q1
        have q5 : isSet b = false := by simpa using q5
        subst q1 q2
        obtain ⟨j, ej, el⟩ := hn _ rfl
        subst ej
        obtain ⟨r, hr, hb⟩ := List.any_eq_true.mp q3
        rw [Bool.and_eq_true] at hb
        have hc : r.c = c := of_decide_eq_true hb.1
        subst hc
        obtain ⟨_, _, h3⟩ := h.xr r hr
        rw [hb.2] at h3
        obtain ⟨h3, _⟩ := h3
        obtain ⟨l1, l2⟩ := h.locOk el
        have two : (x == ("__debug__" : Str)) = false ∧ (x == ("__classdict__" : Str)) = false := by
          unfold okName at q6
          rw [Bool.and_eq_true] at q6
          exact ⟨by simpa using q6.1, by simpa using q6.2⟩
        exact sx_if (cmpO_ok hh ep) (xe_fld h3.xf h3.no rfl hz hf (pe_var l1 (.inl l2) two.1 two.2) rfl q4) (hv.E hh b) (marks_no q5) (eSs_ok hv hh body)
      · exact sx_plain (eSs_ok hv hh _)
    · exact ⟨fun _ _ _ _ _ _ ⟨_, _, _, _, _, _, _, _, p⟩ => p.elim⟩
  · exact sx_plain (eSs_ok hv hh _)
theorem sTryM_ok (hv : Sound v) (h : XOk C X W) (body : List Stmt) (hd : ExceptHandler) (hs : List ExceptHandler) (pos : Pos) : PS X (.Try body (hd :: hs) [] [] pos) (tS X.K W (sTryM v C body hd hs)) := by
  have thru : PS X (.Try body (hd :: hs) [] [] pos) (tS X.K W (sTryN (eSs v C body))) := (ps_try_thru0 (eSs_ok hv h.nox _)).imp fun D σ H h => try_core h
  unfold sTryM
  split
  · rename_i x px nm b su ph
    split
    · rename_i c' e
      unfold xClause at e
      split at e
      case isFalse => cases e
      rename_i k
      obtain ⟨k1, k2, k3⟩ := k
      obtain ⟨p, ep, e2⟩ := Option.map_eq_some_iff.mp e
      have e3' := List.find?_some ep
      have e3 : exN p.2.1 = x := of_decide_eq_true e3'
      obtain ⟨x1, x2, x3⟩ := h.xh p (List.mem_of_find?_eq_some ep)
      subst e2 e3
      obtain ⟨s1, s2⟩ := h.stk k3
      have hn : Names X (exN p.2.1) (.ref (xA X.K p.2.1)) := ⟨h.glob k1, x3, .inl x2⟩
      have hh : ∀ c b, hitR C.st.xk.hits p.2.1 c = some b → PySem.W.exmOne X.K (.ref (xA X.K c)) (.ref (xA X.K p.2.1)) = some b := fun c b eb => by
        unfold hitR at eb
        obtain ⟨p', ep', e2'⟩ := Option.map_eq_some_iff.mp eb
        have e4' := List.find?_some ep'
        have e4 : p'.1 = c ∧ p'.2.1 = p.2.1 := of_decide_eq_true e4'
        obtain ⟨y1, _⟩ := h.xh p' (List.mem_of_find?_eq_some ep')
        rw [e4.1, e4.2, e2'] at y1
        exact y1
      split
      · exact ss_try_only s1 s2 hn h.tk hh (fun W pn xe tk po => eSs_ok hv (h.tr pn xe tk po) _) fun a oe cls d pn c f hz hf => eSu_ok hv h none none (fun _ z => nomatch z) _ a oe cls d pn c f hz hf
      · rename_i n
        split
        · rename_i i el
          obtain ⟨l1, l2⟩ := h.locOk el
          refine ss_try_as s1 s2 (by rw [h.N]; exact h.nd) l1 ?_ hn h.tk hh (fun W pn xe tk po => eSs_ok hv (h.tr pn xe tk po) _) fun a oe cls d pn c f hz hf => eSu_ok hv h (some n) (some i) (fun m em => by cases em; exact ⟨i, rfl, el⟩) _ a oe cls d pn c f hz hf
          rw [h.top k3]
          unfold Cn.loc at el
          split at el
          · assumption
          · cases el
        · exact ss_err
    · exact thru
  · exact thru
theorem stepS_ok (hv : Sound v) (h : XOk C X W) (st : Stmt) : PS X st (tS X.K W (stepS v C st)) := by
  unfold stepS
  split
  · exact ss_retN
  · exact ss_ret (hv.E h _)
  · split
    · exact ss_err
    · rename_i hs
      exact ss_expr (hv.E h _) (swaps_no (by simpa using hs))
  · exact sAttrN_ok hv h _ _ _ _ _
  · exact sAsgN_ok hv h _ _ _
  · exact sAugN_ok hv h _ _ _ _
  · exact ss_if (hv.B h _) (eSs_ok hv h _) (eSs_ok hv h _)
  · split
    · exact ss_err
    · rename_i hs
      rw [not_or] at hs
      split
      · exact ss_lock (ss_for h.po (h.calm (by simpa using hs.2)) (hv.I h _ _) (hv.G h _ _) (eSs_ok hv h _) (fold_id (by simpa using hs.1)))
      · exact ss_for h.po (h.calm (by simpa using hs.2)) (hv.I h _ _) (hv.G h _ _) (eSs_ok hv h _) (fold_id (by simpa using hs.1))
  · exact ss_while h.po (hv.B h _) (eSs_ok hv h _)
  · exact ss_pass
  · exact ss_break
  · exact ss_continue
  · exact sRaiseN_ok hv h _ _
  · exact sTryM_ok hv h _ _ _ _
  · exact ss_err
end
def step (v : Ev) : Ev := ⟨stepE v, stepB v, stepG v, stepI v, stepS v⟩
def ev0 : Ev := ⟨fun _ _ => cErr, fun _ _ => bErr, fun _ _ _ => gErr, fun _ _ _ => iErr, fun _ _ => sErr⟩
def ev : Nat → Ev
  | 0 => ev0
  | n + 1 => step (ev n)
theorem ev_ok : ∀ n : Nat, Sound (ev n)
  | 0 => ⟨fun _ _ => se_err, fun _ _ => sb_err, fun _ _ _ => sg_err, fun _ _ _ => si_err, fun _ _ => ss_err⟩
  | n + 1 => ⟨fun h e => stepE_ok (ev_ok n) h e, fun h e => stepB_ok (ev_ok n) h e, fun h ws e => stepG_ok (ev_ok n) h e, fun h tg e => stepI_ok (ev_ok n) h tg e, fun h st => stepS_ok (ev_ok n) h st⟩
end Om
/-! Om, part Q: the defs of a text. -/
namespace Om
open PySem PySem.Spec PyProof.Rows L2 RZ
structure Fi where
  nm : Str
  qual : Str
  ps : List Str
  N : List Str
  dfl : List D
  live : Bool
  /-- all that it made stays as it is -/
  all : Bool
  /-- called one level below: __init__, __eq__ -/
  low : Bool
  body : List Stmt
  scope : Scope
  mu : Pos → Bool
  lk : Pos → Bool
def cnOf (glob : List (Str × Gi)) (st : Sc) (call : Str → SF) (fi : Fi) : Cn := ⟨fi.N, fi.scope, glob, st, call, fi.mu, true, false, fi.lk⟩
abbrev EVN : Nat := 60
/-- a def's body, by what its calls compute -/
def bodyF (glob : List (Str × Gi)) (st : Sc) (call : Str → SF) (fi : Fi) : SS := eSs (ev EVN) (cnOf glob st call fi) fi.body
/-- an end that keeps all that was made -/
def finA (o : Out) : Res D := match o with
  | .rt d R => .ok d R
  | .nx _ R => .ok .non R
  | .exc c f _ R => .exc c f R
  | _ => .err
def finM (all live : Bool) (R : Rg) (o : Out) : Res D := if all = true then finA o else fin live R o
theorem finM_ok {K : PySem.W.Frag} {B : Addr → Prop} {io0 : Io} {R0 : Rg} {H0 : Hp} {all live : Bool} {o : Out} {Q : VK} {E : XK} (rep0 : Rep K B io0 R0 H0) (p : PstF K B io0 H0 (finM all live R0 o) Q E) : PstS K B io0 H0 (fun cls d _ H => E cls d H) o { nx := fun _ H' => Q .non H', rt := Q } := by
  cases all with
  | false => exact fin_ok rep0 p
  | true =>
    have p : PstF K B io0 H0 (finA o) Q E := p
    cases o with
    | nx s R => exact fun io' H' σ st rep rs => p io' H' .non st rep .non
    | rt d R => exact fun io' H' v st rep rd => p io' H' v st rep rd
    | exc c f s R => exact fun io' H' σ cls d st rep rs rx => p io' H' cls d st rep rx
    | bk s R => exact p.elim
    | ct s R => exact p.elim
    | err => exact p.elim
def runF (glob : List (Str × Gi)) (st : Sc) (call : Str → SF) (fi : Fi) : SF := fun ds R =>
  if ds.length = fi.ps.length then finM fi.all fi.live R (bodyF glob st call fi (ds ++ List.replicate (fi.N.length - fi.ps.length) .undef) R) else .err
def findF : List Fi → Str → Option Fi
  | [], _ => none
  | fi :: r, x => if fi.nm = x then some fi else findF r x
theorem findF_nm : ∀ {T : List Fi} {x : Str} {fi : Fi}, findF T x = some fi → fi.nm = x
  | [], _, _, h => by cases h
  | g :: r, x, fi, h => by
    unfold findF at h
    split at h
    · rename_i e
      cases h
      exact e
    · exact findF_nm h
/-- which def a name calls, at which level -/
def lowF (T : List Fi) (x : Str) : Bool := match findF T x with
  | some fi => fi.low
  | none => false
def errF : Str → SF := fun _ _ _ => .err
def callQ (glob : List (Str × Gi)) (st : Sc) (T : List Fi) : Nat → (Str → SF) × (Str → SF)
  | 0 => (errF, errF)
  | k + 1 => (match k with
    | 0 => errF
    | 1 => errF
    | _ + 2 => fun x => match findF T x with
      | some fi => runF glob st (fun y => if lowF T y = true then (callQ glob st T k).2 y else (callQ glob st T k).1 y) fi
      | none => fun _ _ => .err, (callQ glob st T k).1)
def callF (glob : List (Str × Gi)) (st : Sc) (T : List Fi) (k : Nat) : Str → SF := (callQ glob st T k).1
/-- .. from within a body of the level k + 1 -/
def callW (glob : List (Str × Gi)) (st : Sc) (T : List Fi) (k : Nat) (y : Str) : SF := if lowF T y = true then (callQ glob st T k).2 y else (callQ glob st T k).1 y
theorem callF_run {glob : List (Str × Gi)} {st : Sc} {T : List Fi} {k : Nat} {x : Str} {fi : Fi} (e : findF T x = some fi) : callF glob st T (k + 3) x = runF glob st (callW glob st T (k + 2)) fi := by
  show (match findF T x with
    | some fi => runF glob st (callW glob st T (k + 2)) fi
    | none => fun _ _ => .err) = _
  rw [e]
theorem callW_std {glob : List (Str × Gi)} {st : Sc} {T : List Fi} {k : Nat} {y : Str} (h : lowF T y = false) : callW glob st T k y = callF glob st T k y := by
  unfold callW
  rw [h]
  rfl
theorem callW_low {glob : List (Str × Gi)} {st : Sc} {T : List Fi} {k : Nat} {y : Str} (h : lowF T y = true) : callW glob st T (k + 1) y = callF glob st T k y := by
  unfold callW
  rw [if_pos h]
  rfl
section
variable {P : Program} {w : World} {K : PySem.W.Frag} {mg : Str → Option Value} {base : Heap} {glob : List (Str × Gi)} {st : Sc} {T : List Fi}
/-- what the head tells of a def that stands at f -/
structure FiD (K : PySem.W.Frag) (fi : Fi) (f : Addr) : Prop where
  sc : FnScope fi.N fi.ps fi.scope
  ex : ∃ fd x params dvs kws, FunD K x fi.qual params fi.body fi.scope dvs kws f fd ∧
    ∀ m, m ≤ fi.ps.length → fi.ps.length ≤ m + fi.dfl.length → ∃ dvs' ds, (∀ bar io H, RDs K bar io H (fi.dfl.drop (m + fi.dfl.length - fi.ps.length)) dvs') ∧ Vals dvs' ds ∧ Binds K fd fi.ps ds
structure FiOk (K : PySem.W.Frag) (mg : Str → Option Value) (fi : Fi) : Prop where
  nd : (fi.nm == ("__debug__" : Str)) = false
  ex : ∃ f, FiD K fi f ∧ mg fi.nm = some (.ref f)
def GlOk (w : World) (K : PySem.W.Frag) (mg : Str → Option Value) (T : List Fi) (x : Str) (g : Gi) : Prop := match g with
  | .con d => (x == ("__debug__" : Str)) = false ∧ ∃ u v, mg x = some u ∧ RelV v u ∧ ∀ bar io H, RD K bar io H d v
  | .blt => mg x = none
  | .kd tb => (x == ("__debug__" : Str)) = false ∧ mg x = some (.ref (He.ga K x)) ∧ KT K w (He.ga K x) tb
  | .kt ts => (x == ("__debug__" : Str)) = false ∧ mg x = some (.ref (He.ga K x)) ∧ KTup K (He.ga K x) ts
  | .fn n dfl => ∃ fi, findF T x = some fi ∧ FiOk K mg fi ∧ fi.ps.length = n ∧ fi.dfl = dfl ∧ fi.low = false
  | .cls c n dfl => (x == ("__debug__" : Str)) = false ∧ mg x = some (.ref (cA K c)) ∧ Mk K (cA K c) (mA K c "__init__") ∧ ∃ fi, findF T (mkey c "__init__") = some fi ∧ FiD K fi (mA K c "__init__") ∧ fi.ps.length = n + 1 ∧ fi.dfl = dfl ∧ fi.low = true
/-- methods, own == -/
structure MsAll (K : PySem.W.Frag) (st : Sc) (T : List Fi) : Prop where
  fa : Facts K st.cr st.eqs st.kit
  ms : ∀ m c n dfl, (m, c, n, dfl) ∈ st.ms → Meth K (cA K c) m (mA K c m) ∧ Cls K (cA K c) ∧ ∃ fi, findF T (mkey c m) = some fi ∧ FiD K fi (mA K c m) ∧ fi.ps.length = n ∧ fi.dfl = dfl ∧ fi.low = false
  eq : ∀ p, p ∈ st.eqs → ∃ fi, findF T (mkey p.1 "__eq__") = some fi ∧ FiD K fi (mA K p.1 "__eq__") ∧ fi.ps.length = 2 ∧ fi.dfl = [] ∧ fi.low = true
/-- exceptions -/
structure XAll (P : Program) (w : World) (K : PySem.W.Frag) (mg : Str → Option Value) (base : Heap) (xk : XKit) : Prop where
  xr : ∀ r, r ∈ xk.rows → mg (exN r.c) = some (.ref (xA K r.c)) ∧ (exN r.c == ("__debug__" : Str)) = false ∧ match r.own with
    | false => XMsg K (xA K r.c)
    | true => XOwn K (xA K r.c) (exFld r.c) ∧ ∃ fd ps, (∀ k, FnOk P w K mg base (CX P w) (k + 1) (He.ma K (xA K r.c) "__init__") fd ps (spX (xA K r.c) (exFld r.c))) ∧ Binds K fd ps []
  xh : ∀ p, p ∈ xk.hits → PySem.W.exmOne K (.ref (xA K p.1)) (.ref (xA K p.2.1)) = some p.2.2 ∧ mg (exN p.2.1) = some (.ref (xA K p.2.1)) ∧ (exN p.2.1 == ("__debug__" : Str)) = false
theorem callF_len {k : Nat} {x : Str} {fi : Fi} (e : findF T x = some fi) (ds : List D) (R : Rg) (h : ds.length ≠ fi.ps.length) : callF glob st T k x ds R = .err := by
  match k with
  | 0 => rfl
  | 1 => rfl
  | 2 => rfl
  | k + 3 =>
    rw [callF_run e]
    exact if_neg h
theorem start_rs {bar : Addr → Prop} {io : Io} {H : Hp} {N : List Str} {n : Nat} : ∀ {ds : List D} {vs : List V}, RDs K bar io H ds vs → ds.length = n → n ≤ N.length → RS K bar io H (ds ++ List.replicate (N.length - n) .undef) (L2.start N vs) := by
  intro ds vs rd hn hN
  have hl := rd.len
  refine ⟨?_, fun i d e => ?_⟩
  · unfold L2.start
    simp only [List.length_append, List.length_replicate, List.length_map]
    omega
  · by_cases hi : i < ds.length
    · rw [List.getElem?_append_left hi] at e
      obtain ⟨v, ev, rv⟩ := rds_at rd e
      refine ⟨some v, ?_, .inr ⟨v, rfl, rv⟩⟩
      unfold L2.start
      rw [List.getElem?_append_left (by rw [List.length_map]; omega), List.getElem?_map, ev]
      rfl
    · rw [List.getElem?_append_right (by omega)] at e
      have hlt := (List.getElem?_eq_some_iff.mp e).1
      rw [List.length_replicate] at hlt
      rw [List.getElem?_replicate, if_pos hlt] at e
      cases e
      refine ⟨none, ?_, .inl rfl⟩
      unfold L2.start
      rw [List.getElem?_append_right (by rw [List.length_map]; omega), List.length_map, List.getElem?_replicate, if_pos (by omega)]
theorem sp_len {n : Nat} {F : SF} {vs : List V} {H : Hp} {Q : VK} {E : XK} (h : spF K n F vs H Q E) : vs.length = n := by
  obtain ⟨B, io, R, ds, rep, rd, hl, _⟩ := h
  rw [← rd.len, hl]
theorem sp_err {n : Nat} {x : Str} {f : Addr} {fd : FuncData} {ps : List Str} {k : Nat} (hn : n = ps.length) : FnOk P w K mg base (CX P w) k f fd ps (spF K n (errF x)) := by
  subst hn
  exact ⟨fun vs H Q E h => sp_len h, fun A outer s H args us vs Q E hr he hbi hv hs => by
    obtain ⟨_, _, _, _, _, _, _, p⟩ := hs
    exact p.elim⟩
def FnAll (P : Program) (w : World) (K : PySem.W.Frag) (mg : Str → Option Value) (base : Heap) (glob : List (Str × Gi)) (st : Sc) (T : List Fi) (k : Nat) : Prop := ∀ (x : Str) (fi : Fi), findF T x = some fi → FnScope fi.N fi.ps fi.scope → ∀ {f : Addr} {fd : FuncData} {y : Str} {params : Arguments} {dvs : List V} {kws : List (Str × V)}, FunD K y fi.qual params fi.body fi.scope dvs kws f fd →
    FnOk P w K mg base (CX P w) k f fd fi.ps (spF K fi.ps.length (callF glob st T k x))
theorem df_of {k : Nat} (A : FnAll P w K mg base glob st T k) {x : Str} {fi : Fi} (e : findF T x = some fi) {f : Addr} (d : FiD K fi f) : DfOk P w K mg base (callF glob st T k x) fi.ps.length fi.dfl k f := by
  obtain ⟨fd, y, pr, dv, kw, F, hb⟩ := d.ex
  exact ⟨⟨fd, fi.ps, A x fi e d.sc F, hb⟩, fun ds R hl => callF_len e ds R hl⟩
theorem fn_step (hg : ∀ x g, glob.lookup x = some g → GlOk w K mg T x g) (hm : MsAll K st T) (hx : XAll P w K mg base st.xk) {k0 : Nat} (A0 : FnAll P w K mg base glob st T (k0 + 1)) (A1 : FnAll P w K mg base glob st T (k0 + 1 + 1)) : FnAll P w K mg base glob st T (k0 + 1 + 2) := by
  intro x fi e sc f fd _ _ _ _ F
  refine F.ok sc (fun vs H Q E h => sp_len h) fun cdv A outer s H vs Q E hr hsp => ?_
  rw [callF_run e] at hsp
  have std : ∀ {z : Str} {fi2 : Fi}, findF T z = some fi2 → fi2.low = false → callW glob st T (k0 + 1 + 1) z = callF glob st T (k0 + 1 + 1) z := fun e2 hl => callW_std (by unfold lowF; rw [e2]; exact hl)
  have low : ∀ {z : Str} {fi2 : Fi}, findF T z = some fi2 → fi2.low = true → callW glob st T (k0 + 1 + 1) z = callF glob st T (k0 + 1) z := fun e2 hl => callW_low (by unfold lowF; rw [e2]; exact hl)
  have hX : XOk (cnOf glob st (callW glob st T (k0 + 1 + 1)) fi) (cxOf (CX P w) P w K mg base fi.N fi.qual fi.scope f cdv A outer s H E) (fun cls d _ H => E cls d H) := {
    N := rfl
    nd := sc.nd
    kf := sc.kind
    lo := fun _ h => h
    ce := fun _ h => ⟨h, rfl⟩
    fr := fun _ h => .inr h
    gi := fun _ h => h
    top := fun _ _ => rfl
    calm := fun _ => rfl
    hu := by
      have := hr.un
      show (A.deeper (envOfC fi.qual fi.scope s.heap.objs.size f cdv)).units + 65 < cLine
      omega
    tk := takes_of rfl rfl rfl rfl
    po := passes_of rfl
    fa := hm.fa
    ms := fun m c n dfl h => by
      obtain ⟨q1, q2, fi2, e2, d2, e3, e4, e5⟩ := hm.ms m c n dfl h
      subst e3 e4
      refine ⟨q1, q2, k0 + 1 + 1, ?_, hr⟩
      show DfOk P w K mg base (callW glob st T (k0 + 1 + 1) (mkey c m)) fi2.ps.length fi2.dfl (k0 + 1 + 1) (mA K c m)
      rw [std e2 e5]
      exact df_of A1 e2 d2
    eq := ⟨fun c c' G hG => by
      unfold eqF at hG
      split at hG
      · rename_i hin
        cases hG
        obtain ⟨fi2, e2, d2, e3, e4, e5⟩ := hm.eq _ hin
        have D := df_of A0 e2 d2
        rw [e3, e4] at D
        obtain ⟨fd2, ps2, F2, hb⟩ := D.ex
        obtain ⟨dvs, ds, r1, r2, r3⟩ := hb 2 (Nat.le_refl _) (by simp)
        have : dvs = [] := by
          have := (r1 (fun _ => False) [] (fun _ => none)).len
          simp at this
          exact List.length_eq_zero_iff.mp this.symm
        subst this
        cases r2
        refine ⟨(k0 + 1), mA K c "__eq__", fd2, ps2, ?_, hm.fa.eq _ hin, r3, hr⟩
        show FnOk P w K mg base (CX P w) (k0 + 1) (mA K c "__eq__") fd2 ps2 (spF K 2 (callW glob st T (k0 + 1 + 1) (mkey c "__eq__")))
        rw [low e2 e5]
        exact F2
      · cases hG⟩
    gl := fun z g ez => by
      have q := hg z g ez
      cases g with
      | con d => exact q
      | blt => exact q
      | kd tb => exact q
      | kt ts => exact q
      | fn n dfl =>
        obtain ⟨fi2, e2, ok2, e3, e4, e5⟩ := q
        obtain ⟨f2, d2, hm2⟩ := ok2.ex
        obtain ⟨fd2, y2, pr2, dv2, kw2, F2, hb2⟩ := d2.ex
        have en2 : fi2.nm = z := findF_nm e2
        subst e3
        subst e4
        rw [en2] at hm2
        refine ⟨by rw [← en2]; exact ok2.nd, k0 + 1 + 1, f2, fd2, fi2.ps, hm2, F2.kp, ?_, hr, ?_, hb2⟩
        · show FnOk P w K mg base (CX P w) (k0 + 1 + 1) f2 fd2 fi2.ps (spF K fi2.ps.length (callW glob st T (k0 + 1 + 1) z))
          rw [std e2 e5]
          exact A1 z fi2 e2 d2.sc F2
        · show ∀ ds R, ds.length ≠ fi2.ps.length → callW glob st T (k0 + 1 + 1) z ds R = .err
          rw [std e2 e5]
          exact fun ds R hl => callF_len e2 ds R hl
      | cls c n dfl =>
        obtain ⟨q1, q2, q3, fi2, e2, d2, e3, e4, e5⟩ := q
        refine ⟨q1, q2, q3, (k0 + 1), ?_, hr⟩
        show DfOk P w K mg base (callW glob st T (k0 + 1 + 1) (mkey c "__init__")) (n + 1) dfl (k0 + 1) (mA K c "__init__")
        rw [low e2 e5, ← e3, ← e4]
        exact df_of A0 e2 d2
    xr := fun r hr2 => by
      obtain ⟨q1, q2, q3⟩ := hx.xr r hr2
      refine ⟨q1, q2, ?_⟩
      cases eo : r.own with
      | false => rw [eo] at q3; exact q3
      | true =>
        rw [eo] at q3
        obtain ⟨q4, fd2, ps2, q5, q6⟩ := q3
        exact ⟨q4, k0 + 1, fd2, ps2, q5 k0, hr, q6⟩
    xh := hx.xh
    stk := fun _ => ⟨rfl, rfl⟩ }
  refine ⟨_, eSs_ok (ev_ok EVN) hX fi.body, ?_⟩
  obtain ⟨B, io, R, ds, rep, rd, hl, p⟩ := hsp
  unfold runF at p
  rw [if_pos hl] at p
  have hpre : fi.ps.length ≤ fi.N.length := by
    have := congrArg List.length sc.pre
    rw [List.length_take] at this
    omega
  exact ⟨B, io, R, _, rep, start_rs rd hl hpre, finM_ok rep p⟩
theorem fn_two (hg : ∀ x g, glob.lookup x = some g → GlOk w K mg T x g) (hm : MsAll K st T) (hx : XAll P w K mg base st.xk) : ∀ k : Nat, FnAll P w K mg base glob st T (k + 1) ∧ FnAll P w K mg base glob st T (k + 2)
  | 0 => ⟨fun x fi e sc _ _ _ _ _ _ F => sp_err (x := x) rfl, fun x fi e sc _ _ _ _ _ _ F => sp_err (x := x) rfl⟩
  | k + 1 => ⟨(fn_two hg hm hx k).2, fn_step hg hm hx (fn_two hg hm hx k).1 (fn_two hg hm hx k).2⟩
theorem fn_ok (hg : ∀ x g, glob.lookup x = some g → GlOk w K mg T x g) (hm : MsAll K st T) (hx : XAll P w K mg base st.xk) (k : Nat) : FnAll P w K mg base glob st T (k + 1) := (fn_two hg hm hx k).1
/-! ### a law -/
theorem int_rds {bar : Addr → Prop} {io : Io} {H : Hp} : ∀ ns : List Int, RDs K bar io H (ns.map D.int) (ns.map V.int)
  | [] => .nil
  | n :: r => .cons (.int n) (int_rds r)
theorem rep_nil {H : Hp} : Rep K (fun _ => False) [] [] H where
  len := rfl
  inj := fun i j p h => by cases h
  bt := fun a h => h.elim
  bd := fun a h => by cases h
  obj := fun i o h => by cases h
theorem law_sp {F : SF} {H : Hp} {a : Addr} {ns : List Int} (h : ∃ R, F [.lst (ns.map .int)] [] = .ok (.bl true) R) (hs : SqL K H a (ns.map V.int)) : spF K 1 F [.ref a] H (fun v _ => v = .bl true) fun _ _ _ => False := by
  obtain ⟨R, e⟩ := h
  have nb : ¬ bars (fun _ => False) [] a := fun z => by
    rcases z with z | z
    · exact z
    · cases z
  refine ⟨fun _ => False, [], [], [.lst (ns.map .int)], rep_nil, .cons (.lst ?_ (int_rds ns)) .nil, rfl, ?_⟩
  · rcases hs with hs | hs
    · exact .inl ⟨nb, hs⟩
    · exact .inr hs
  · rw [e]
    intro io' H' v st rep r
    cases r
    rfl
theorem cx_no {H : Hp} {s s' : Shared} {e : Value} (h : CX P w [] H s (fun _ _ _ => False) e s') : False := by
  obtain ⟨_, _, _, _, _, _, _, _, _, _, _, _, z⟩ := h
  exact z
end
theorem walk_om {l : PySem.W.OpenLaw} {n k : Nat} {q : Program} {loose : List Str} {XP : (Str → Option Value) → Heap → Prop} {YP : World → Heap → Prop} {d : DefRec} {x : Str} (hn : l.most = some n) (hn2 : n ≤ sizeLine) (hdf : d.params.defaults = []) (hr : Room k callerA)
    (F : ∀ (u : World) (m : Str → Option Value) (f : Addr) (h : Heap), YP u h → h.Ns mainGlobals m → m d.name = some (.ref f) → ∃ (K : PySem.W.Frag) (fd : FuncData) (sp : Sp), K.In h ∧ (∀ (s : Shared) (v : Value), BindsTo s fd ⟨[v], []⟩ [(x, v)]) ∧
      (∀ (H : Hp) (a : Addr) (ns : List Int), ns.length ≤ n → SqL K H a (ns.map V.int) → sp [.ref a] H (fun v _ => v = .bl true) fun _ _ _ => False) ∧ ∀ b : Heap, K.In b → b.Ns mainGlobals m → FnOk l.prog u K m b (CX l.prog u) k f fd [x] sp) :
    PySem.W.WalkO q loose XP YP l.row.toRowW d [] (fun f vs => PySem.call f vs) := by
  refine Att.attach_call hn hdf fun u s0 s1 m mb f ob pm cd doc a vs ns G Y g1 g2 g3 g4 g5 g6 g7 g8 => ?_
  obtain ⟨K, fd, sp, h1, h2, h3, h4⟩ := F u m f _ Y G.T.g g4
  exact law_call h1 G.T.g G.T.b G.T.builtins G.T.nolimit g8 g5 g6 (Nat.le_trans g7 hn2) hr h4 h2 (fun H _ h => h3 H a ns g7 h) fun _ _ _ h => cx_no h
end Om
/-! Om, part Ve: what the head tells, with dicts of the module. -/
namespace Om
open PySem PySem.Spec PyProof.Rows L2 RZ
/-- a dict of the module: its name, its keys in order -/
abbrev TbK : Type := Str × List Str
def obsOT (φ : PySem.W.Frag → Bool) (fa : List He.Fa) (fn : List He.DefD) (ts : List TbK) (K : PySem.W.Frag) : He.AlT := (obsO φ fa fn K, ts.map fun t => He.dicW K (He.ga K t.1))
def valOT (fn : List He.DefD) (ts : List TbK) (w : World) : He.AlT := (He.valD fn, ts.map fun t => some (He.keysIn w.params t.2))
def SaysOT (φ : PySem.W.Frag → Bool) (fa : List He.Fa) (fn : List He.DefD) (ts : List TbK) (w : World) (K : PySem.W.Frag) : Prop := obsOT φ fa fn ts K = valOT fn ts w
def obsOTG (n : Nat) (φ : PySem.W.Frag → Bool) (fa : List He.Fa) (fn : List He.DefD) (ts : List TbK) (g : Addr → Option Obj) : He.AlT := obsOT φ fa fn ts (He.frG g (cStatics :: He.asD g n))
def hookOT (n : Nat) (φ : PySem.W.Frag → Bool) (fa : List He.Fa) (fn : List He.DefD) (ts : List TbK) : PySem.W.Hook where
  α := He.AlT
  obs := fun s => obsOTG n φ fa fn ts s.heap.get?
  val := fun w => valOT fn ts w
  says := fun w h => ∃ K : PySem.W.Frag, K.In h ∧ SaysOT φ fa fn ts w K
  of := fun _ _ e => ⟨_, He.frG_in, e⟩
  keeps := fun _ _ _ ⟨K, hK, c⟩ k => ⟨K, PySem.W.Frag.In.keeps hK k, c⟩
theorem obsOTG_eq {n : Nat} {φ : PySem.W.Frag → Bool} {fa : List He.Fa} {fn : List He.DefD} {ts : List TbK} {g : Addr → Option Obj} {s : Shared} (h : ∀ a, g a = s.heap.get? a) : obsOTG n φ fa fn ts g = (hookOT n φ fa fn ts).obs s := by
  have e : g = s.heap.get? := funext h
  rw [e] <;> rfl
section
variable {φ : PySem.W.Frag → Bool} {fa : List He.Fa} {fn : List He.DefD} {ts : List TbK} {w : World} {K : PySem.W.Frag}
theorem SaysOT.o (c : SaysOT φ fa fn ts w K) : SaysO φ fa fn K := congrArg (fun z : He.AlT => z.1) c
theorem SaysOT.tab (c : SaysOT φ fa fn ts w K) (i : Nat) {t : TbK} (h : ts[i]? = some t) : ∃ es n, KDict K w (He.ga K t.1) es n := by
  have e : ts.map (fun t => He.dicW K (He.ga K t.1)) = ts.map fun t => some (He.keysIn w.params t.2) := congrArg (fun z : He.AlT => z.2) c
  have e2 : (ts.map fun t => He.dicW K (He.ga K t.1))[i]? = (ts.map fun t => some (He.keysIn w.params t.2))[i]? := by rw [e]
  rw [List.getElem?_map, List.getElem?_map, h] at e2
  exact He.dicW_ok (Option.some.inj e2)
end
end Om
/-! Om, part S: reckoning with what the evaluator computes. -/
namespace Om
open PySem PySem.Spec PyProof.Rows L2 RZ
section
variable {a b c : SE} {k l : SB} {m n : SS} {es : SA} {s : List D} {R : Rg} {x y z : D} {xs ys : List D} {i j : Int}
/-! ### combinators, applied -/
@[simp] theorem a_con : cCon x s R = .ok x R := rfl
@[simp] theorem a_nil : cNil s R = .ok [] R := rfl
@[simp] theorem a_cons : cCons a es s R = (a s R).bind fun d R1 => (es s R1).bind fun ds R2 => .ok (d :: ds) R2 := rfl
@[simp] theorem a_op1 {p : P1} : cOp1 p a s R = (a s R).bind fun x R1 => lift (p x R1) := rfl
@[simp] theorem a_op2 {p : P2} : cOp2 p a b s R = (a s R).bind fun x R1 => (b s R1).bind fun y R2 => lift (p x y R2) := rfl
@[simp] theorem a_opN {p : PN} : cOpN p es s R = (es s R).bind fun xs R1 => lift (p xs R1) := rfl
@[simp] theorem a_if : cIf k a b s R = (k s R).bind fun t R1 => if t = true then a s R1 else b s R1 := rfl
@[simp] theorem a_and : cAndT a b s R = (a s R).bind fun x R1 => match truD R1 x with
  | some true => b s R1
  | some false => .ok x R1
  | none => .err := rfl
@[simp] theorem a_or : cOrT a b s R = (a s R).bind fun x R1 => match truD R1 x with
  | some true => .ok x R1
  | some false => b s R1
  | none => .err := rfl
@[simp] theorem a_not : cNotT a s R = (a s R).bind fun x R1 => match truD R1 x with
  | some k => .ok (.bl (!k)) R1
  | none => .err := rfl
@[simp] theorem a_val : bVal a s R = (a s R).bind fun x R1 => match truD R1 x with
  | some k => .ok k R1
  | none => .err := rfl
@[simp] theorem a_bof : bOf a s R = (a s R).bind fun x R1 => match x with
  | .bl k => .ok k R1
  | _ => .err := rfl
@[simp] theorem a_bnot : bNot k s R = (k s R).bind fun t R1 => .ok (!t) R1 := rfl
@[simp] theorem a_band : bAnd k l s R = (k s R).bind fun t R1 => if t = true then l s R1 else .ok false R1 := rfl
@[simp] theorem a_bor : bOr k l s R = (k s R).bind fun t R1 => if t = true then .ok true R1 else l s R1 := rfl
@[simp] theorem a_tup : cTup es s R = (es s R).bind fun xs R1 => if xs.length ≤ LINE then .ok (.tup xs) R1 else .err := rfl
@[simp] theorem a_lst {t : Bool} : cLst t es s R = (es s R).bind fun xs R1 => lift (mkL t xs R1) := rfl
@[simp] theorem a_dnew {t : Bool} : cDNew t s R = lift (mkK t [] R) := rfl
@[simp] theorem a_ch {p q : P2} : cCh p q a b c s R = (a s R).bind fun x R1 => (b s R1).bind fun y R2 => (lift (p x y R2)).bind fun z R3 => match z with
  | .bl true => (c s R3).bind fun w R4 => lift (q y w R4)
  | .bl false => .ok (.bl false) R3
  | _ => .err := rfl
@[simp] theorem a_call {F : SF} {dfl : List D} : cCall F dfl es s R = (es s R).bind fun ds R1 => F (ds ++ dfl) R1 := rfl
@[simp] theorem a_lift {A : Type} {t : A} : lift (some (t, R)) = .ok t R := rfl
@[simp] theorem a_lift0 {A : Type} : lift (none : Option (A × Rg)) = .err := rfl
theorem a_seq : sSeq m n s R = match m s R with
  | .nx s1 R1 => n s1 R1
  | o => o := rfl
@[simp] theorem a_pass : sPass s R = .nx s R := rfl
@[simp] theorem a_brk : sBrk s R = .bk s R := rfl
@[simp] theorem a_cont : sCont s R = .ct s R := rfl
@[simp] theorem a_err : sErr s R = .err := rfl
@[simp] theorem a_bind_ok {A : Type} {t : A} {f : A → Rg → Out} : sBind (.ok t R) s f = f t R := rfl
@[simp] theorem a_bind_err {A : Type} {f : A → Rg → Out} : sBind (.err : Res A) s f = .err := rfl
@[simp] theorem a_ret : sRet a s R = sBind (a s R) s fun d R1 => .rt d R1 := rfl
@[simp] theorem a_retN : sRetN s R = .rt .non R := rfl
@[simp] theorem a_expr : sExpr a s R = sBind (a s R) s fun _ R1 => .nx s R1 := rfl
@[simp] theorem a_asg {g : SG} : sAsg a g s R = sBind (a s R) s fun d R1 => sGo g d s R1 := rfl
@[simp] theorem a_go {i : Nat} : sGo (gVar i) x s R = .nx (s.set i x) R := rfl
theorem a_sif : sIf k m n s R = sBind (k s R) s fun t R1 => if t = true then m s R1 else n s R1 := rfl
@[simp] theorem a_tryN : sTryN m s R = match m s R with
  | .exc _ _ _ _ => .err
  | o => o := rfl
@[simp] theorem a_gvar {i : Nat} : gVar i x s R = .ok (s.set i x) R := rfl
theorem a_var {i : Nat} (h : s[i]? = some x) (hu : x ≠ .undef) : cVar i s R = .ok x R := by
  unfold cVar
  rw [h]
  cases x <;> first | rfl | exact absurd rfl hu
theorem v_int {i : Nat} {n : Int} (h : s[i]? = some (.int n)) : cVar i s R = .ok (.int n) R := a_var h (by simp)
theorem v_tup {i : Nat} (h : s[i]? = some (.tup xs)) : cVar i s R = .ok (.tup xs) R := a_var h (by simp)
theorem v_lst {i : Nat} (h : s[i]? = some (.lst xs)) : cVar i s R = .ok (.lst xs) R := a_var h (by simp)
theorem v_ref {i n : Nat} (h : s[i]? = some (.ref n)) : cVar i s R = .ok (.ref n) R := a_var h (by simp)
theorem v_bl {i : Nat} {t : Bool} (h : s[i]? = some (.bl t)) : cVar i s R = .ok (.bl t) R := a_var h (by simp)
theorem v_non {i : Nat} (h : s[i]? = some .non) : cVar i s R = .ok .non R := a_var h (by simp)
theorem v_str {i : Nat} {t : List Nat} (h : s[i]? = some (.str t)) : cVar i s R = .ok (.str t) R := a_var h (by simp)
def isU : D → Bool
  | .undef => true
  | _ => false
def look : List D → Nat → D
  | [], _ => .undef
  | x :: _, 0 => x
  | _ :: s, n + 1 => look s n
theorem look_eq : ∀ (s : List D) (i : Nat), look s i = (s[i]?).getD .undef
  | [], i => by simp [look]
  | x :: s, 0 => rfl
  | x :: s, n + 1 => by
    rw [look, look_eq s n]
    rfl
@[simp low] theorem a_cvar {i : Nat} : cVar i s R = if isU (look s i) = true then .err else .ok (look s i) R := by
  unfold cVar
  rw [look_eq]
  cases s[i]? with
  | none => rfl
  | some d => cases d <;> rfl
@[simp] theorem look_zero : look (x :: xs) 0 = x := rfl
@[simp] theorem look_succ {n : Nat} : look (x :: xs) (n + 1) = look xs n := rfl
@[simp] theorem u_int : isU (.int i) = false := rfl
@[simp] theorem u_bl {t : Bool} : isU (.bl t) = false := rfl
@[simp] theorem u_non : isU .non = false := rfl
@[simp] theorem u_tup : isU (.tup xs) = false := rfl
@[simp] theorem u_lst : isU (.lst xs) = false := rfl
@[simp] theorem u_dct {t : List (D × D)} : isU (.dct t) = false := rfl
@[simp] theorem u_ref {t : Nat} : isU (.ref t) = false := rfl
@[simp] theorem u_str {t : List Nat} : isU (.str t) = false := rfl
@[simp] theorem u_byt {t : List UInt8} : isU (.byt t) = false := rfl
@[simp] theorem u_ins {c : Nat} {t : List (Nat × D)} : isU (.ins c t) = false := rfl
/-! ### operators on whole numbers and truths -/
@[simp] theorem t_bl {t : Bool} : truD R (.bl t) = some t := rfl
@[simp] theorem t_int : truD R (.int i) = some (i != 0) := rfl
@[simp] theorem p_add {t : Bool} : addD t (.int i) (.int j) R = some (.int (i + j), R) := rfl
@[simp] theorem p_sub : subD (.int i) (.int j) R = some (.int (i - j), R) := rfl
theorem p_mul {t : Bool} (h : mulOk i j = true) : mulD t (.int i) (.int j) R = some (.int (i * j), R) := if_pos h
theorem p_mod (h : 0 < j) : modD (.int i) (.int j) R = some (.int (i % j), R) := by
  show (if 0 < j then _ else _) = _
  rw [if_pos h]
theorem pure_lst : pureD (.lst xs) = pureDs xs := by simp only [pureD]
theorem pure_tup : pureD (.tup xs) = pureDs xs := by simp only [pureD]
theorem snap_pure (h : pureD x = true) : snapD R x = some x := if_pos h
theorem p_eq {neg : Bool} (h1 : pureD x = true) (h2 : pureD y = true) (h3 : eqOk 12 x = true) (h4 : eqOk 12 y = true) : eqD' neg x y R = some (.bl (decide (x = y) != neg), R) := by
  have e : eqD R x y = some (decide (x = y)) := by
    have go : (match snapD R x, snapD R y with
      | some a, some b => if eqOk 12 a = true ∧ eqOk 12 b = true then some (decide (a = b)) else none
      | _, _ => none) = some (decide (x = y)) := by
      rw [snap_pure h1, snap_pure h2]
      exact if_pos ⟨h3, h4⟩
    cases x <;> cases y <;> first
      | exact go
      | (simp [eqOk] at h3; done)
      | (simp [eqOk] at h4; done)
  unfold eqD'
  rw [e]
@[simp] theorem p_eq_int {neg : Bool} : eqD' neg (.int i) (.int j) R = some (.bl (decide (i = j) != neg), R) := by
  rw [p_eq rfl rfl rfl rfl]
  simp
theorem p_lt {o : LtOp} (h1 : pureD x = true) (h2 : pureD y = true) (h3 : eqOk 12 x = true) (h4 : eqOk 12 y = true) (h5 : ltOk x y = true) (h6 : ltOk y x = true) : ltD' o x y R = some (.bl (ltR o x y), R) := by
  unfold ltD'
  rw [snap_pure h1, snap_pure h2]
  exact if_pos ⟨h3, h4, h5, h6⟩
@[simp] theorem p_lt_int : ltD' .lt (.int i) (.int j) R = some (.bl (decide (i < j)), R) := p_lt rfl rfl rfl rfl rfl rfl
@[simp] theorem p_gt_int : ltD' .gt (.int i) (.int j) R = some (.bl (decide (j < i)), R) := p_lt rfl rfl rfl rfl rfl rfl
@[simp] theorem p_le_int : ltD' .le (.int i) (.int j) R = some (.bl (decide (i ≤ j)), R) := by
  rw [p_lt rfl rfl rfl rfl rfl rfl]
  show some (D.bl (!decide (j < i)), R) = _
  by_cases h : i ≤ j
  · rw [decide_eq_true h, decide_eq_false (by omega)]; rfl
  · rw [decide_eq_false h, decide_eq_true (by omega)]; rfl
@[simp] theorem p_ge_int : ltD' .ge (.int i) (.int j) R = some (.bl (decide (j ≤ i)), R) := by
  rw [p_lt rfl rfl rfl rfl rfl rfl]
  show some (D.bl (!decide (i < j)), R) = _
  by_cases h : j ≤ i
  · rw [decide_eq_true h, decide_eq_false (by omega)]; rfl
  · rw [decide_eq_false h, decide_eq_true (by omega)]; rfl
@[simp] theorem p_int : intD [.int i] R = some (.int i, R) := rfl
@[simp] theorem p_len_lst : lenD [.lst xs] R = some (.int xs.length, R) := rfl
@[simp] theorem p_len_tup : lenD [.tup xs] R = some (.int xs.length, R) := rfl
@[simp] theorem p_tuple_lst : tupleD [.lst xs] R = some (.tup xs, R) := rfl
@[simp] theorem p_tuple_tup : tupleD [.tup xs] R = some (.tup xs, R) := rfl
theorem isi_of {t u : String} {k : Bool} (h : tyD R x = some t) (hk : kitB t u = some k) : isiD [x, .ty u] R = some (.bl k, R) := by
  show (match tyD R x, D.ty u with
    | some a, .ty b => (kitB a b).map fun k => (D.bl k, R)
    | _, _ => none) = _
  rw [h]
  show (kitB t u).map _ = _
  rw [hk]
  rfl
@[simp] theorem isi_ii : isiD [.int i, .ty "int"] R = some (.bl true, R) := isi_of (t := "int") rfl (by decide +kernel)
@[simp] theorem isi_ib : isiD [.int i, .ty "bool"] R = some (.bl false, R) := isi_of (t := "int") rfl (by decide +kernel)
@[simp] theorem isi_tt : isiD [.tup xs, .ty "tuple"] R = some (.bl true, R) := isi_of (t := "tuple") rfl (by decide +kernel)
@[simp] theorem isi_ll : isiD [.lst xs, .ty "list"] R = some (.bl true, R) := isi_of (t := "list") rfl (by decide +kernel)
@[simp] theorem isi_lt : isiD [.lst xs, .ty "tuple"] R = some (.bl false, R) := isi_of (t := "list") rfl (by decide +kernel)
@[simp] theorem isi_tl : isiD [.tup xs, .ty "list"] R = some (.bl false, R) := isi_of (t := "tuple") rfl (by decide +kernel)
/-- a place of a tuple, of a list -/
@[simp] theorem ix_tup {n : Nat} (h : xs[n]? = some x) : ixD (.tup xs) (.int (n : Int)) R = some (x, R) := by
  have hn := (List.getElem?_eq_some_iff.mp h).1
  have e : atI xs ((n : Nat) : Int) = some x := by
    unfold atI ixN
    rw [if_pos (by omega), if_pos (by omega)]
    simpa using h
  show (atI xs ((n : Nat) : Int)).map (fun d => (d, R)) = _
  rw [e]
  rfl
@[simp] theorem ix_lst {n : Nat} (h : xs[n]? = some x) : ixD (.lst xs) (.int (n : Int)) R = some (x, R) := by
  have hn := (List.getElem?_eq_some_iff.mp h).1
  have e : atI xs ((n : Nat) : Int) = some x := by
    unfold atI ixN
    rw [if_pos (by omega), if_pos (by omega)]
    simpa using h
  show (atI xs ((n : Nat) : Int)).map (fun d => (d, R)) = _
  rw [e]
  rfl
@[simp] theorem ix_tup0 : ixD (.tup (x :: xs)) (.int 0) R = some (x, R) := ix_tup (n := 0) rfl
@[simp] theorem ix_tup1 : ixD (.tup (y :: x :: xs)) (.int 1) R = some (x, R) := ix_tup (n := 1) rfl
@[simp] theorem ix_tup2 : ixD (.tup (y :: z :: x :: xs)) (.int 2) R = some (x, R) := ix_tup (n := 2) rfl
theorem ix_ref {n r : Nat} (hr : R[r]? = some (.lst xs)) (h : xs[n]? = some x) : ixD (.ref r) (.int (n : Int)) R = some (x, R) := by
  have hn := (List.getElem?_eq_some_iff.mp h).1
  have e : atI xs ((n : Nat) : Int) = some x := by
    unfold atI ixN
    rw [if_pos (by omega), if_pos (by omega)]
    simpa using h
  have e1 : dctOf R (.ref r) = none := by rw [dctOf_ref, hr]
  have e2 : seqOf R (.ref r) = some xs := by
    show lstOf R (.ref r) = _
    rw [lstOf_ref, hr]
  show (match dctOf R (.ref r) with
    | some ks => if keyOk (.int (n : Int)) = true then (lookD ks (.int (n : Int))).map fun d => (d, R) else none
    | none => match seqOf R (.ref r), D.int (n : Int) with
      | some xs, .int i => (atI xs i).map fun d => (d, R)
      | _, _ => none) = _
  rw [e1, e2]
  show (atI xs ((n : Nat) : Int)).map (fun d => (d, R)) = _
  rw [e]
  rfl
/-- the end of a def that leaves the region as it found it -/
theorem fin_pure (h : pureD x = true) : fin false R (.rt x R) = .ok x R := by
  have e1 : frzN R.length R.length R FZ x = some x := by
    show frzN R.length R.length R (7 + 1) x = some x
    unfold frzN
    exact if_pos h
  have e2 : keepR R.length R.length R R = some R := by
    unfold keepR
    rw [List.take_length]
    exact if_pos rfl
  show (match frzN R.length R.length R FZ x, keepR R.length R.length R R with
      | some d', some R1 => .ok d' R1
      | _, _ => .err : Res D) = _
  rw [e1, e2]
theorem fin_none : fin false R (.nx s R) = .ok .non R := by
  have e2 : keepR R.length R.length R R = some R := by
    unfold keepR
    rw [List.take_length]
    exact if_pos rfl
  show (match keepR R.length R.length R R with
    | some R1 => .ok .non R1
    | none => .err : Res D) = _
  rw [e2]
@[simp] theorem fin_bl {t : Bool} : fin false R (.rt (.bl t) R) = .ok (.bl t) R := fin_pure rfl
@[simp] theorem fin_int : fin false R (.rt (.int i) R) = .ok (.int i) R := fin_pure rfl
/-! ### loops over what stands still -/
def goL (g : SG) (m : SS) : List D → List D → Rg → Out
  | [], s, R => .nx s R
  | d :: ds, s, R => match g d s R with
    | .ok s1 R1 => turnO (goL g m ds) (m s1 R1)
    | _ => .err
theorem forL_fix {g : SG} {m : SS} {xs : List D} : ∀ (n i : Nat) (s : List D) (R : Rg), xs.length ≤ i + n → forL g m (fixS xs) n i s R = goL g m (xs.drop i) s R
  | 0, i, s, R, h => by
    rw [List.drop_eq_nil_of_le (by omega), forL]
    show (match (some xs[i]? : Option (Option D)) with
      | some none => Out.nx s R
      | _ => .err) = _
    rw [List.getElem?_eq_none (by omega)]
    rfl
  | n + 1, i, s, R, h => by
    rw [forL]
    show (match (some xs[i]? : Option (Option D)) with
      | none => Out.err
      | some none => .nx s R
      | some (some d) => match g d s R with
        | .ok s1 R1 => turnO (forL g m (fixS xs) n (i + 1)) (m s1 R1)
        | _ => .err) = _
    by_cases hi : i < xs.length
    · rw [List.getElem?_eq_getElem hi, List.drop_eq_getElem_cons hi, goL]
      show (match g xs[i] s R with
        | .ok s1 R1 => turnO (forL g m (fixS xs) n (i + 1)) (m s1 R1)
        | _ => .err) = _
      have ih : forL g m (fixS xs) n (i + 1) = goL g m (xs.drop (i + 1)) := by
        funext s R
        exact forL_fix n (i + 1) s R (by omega)
      rw [ih]
    · rw [List.getElem?_eq_none (by omega), List.drop_eq_nil_of_le (by omega)]
      rfl
theorem for_fix {it : SI} {g : SG} {m : SS} {R1 : Rg} (h : it s R = .ok (fixS xs) R1) (hl : xs.length ≤ FUEL) : sFor it g m s R = goL g m xs s R1 := by
  unfold sFor
  rw [h, a_bind_ok, forL_fix FUEL 0 s R1 (by omega), List.drop_zero]
/-- what a range, an enumeration, a zip walk -/
theorem rng_fix (lo : Int) (n : Nat) : rngS lo n = fixS ((List.range n).map fun i => D.int (lo + (i : Nat))) := by
  funext R i
  unfold rngS fixS
  by_cases h : i < n
  · rw [if_pos h, List.getElem?_map, List.getElem?_range h]
    rfl
  · rw [if_neg h, List.getElem?_eq_none (by simp; omega)]
def enumL : Nat → List D → List D
  | _, [] => []
  | i, x :: xs => .tup [.int i, x] :: enumL (i + 1) xs
theorem enumL_at : ∀ (xs : List D) (k i : Nat), (enumL k xs)[i]? = (xs[i]?).map fun d => .tup [.int ((k + i : Nat) : Int), d]
  | [], k, i => by simp [enumL]
  | x :: xs, k, 0 => by simp [enumL]
  | x :: xs, k, i + 1 => by
    show (enumL (k + 1) xs)[i]? = (xs[i]?).map _
    rw [enumL_at xs (k + 1) i, show k + 1 + i = k + (i + 1) by omega]
theorem enu_fix (xs : List D) : enuS (fixS xs) = fixS (enumL 0 xs) := by
  funext R i
  unfold enuS fixS
  rw [enumL_at]
  cases xs[i]? with
  | none => rfl
  | some d => simp
def zipL : List D → List D → List D
  | x :: xs, y :: ys => .tup [x, y] :: zipL xs ys
  | _, _ => []
theorem zip_fix (xs ys : List D) : zipS (fixS xs) (fixS ys) = fixS (zipL xs ys) := by
  funext R i
  unfold zipS fixS
  show (match (some xs[i]? : Option (Option D)), (some ys[i]? : Option (Option D)) with
    | some (some d), some (some e) => some (some (D.tup [d, e]))
    | some none, some _ => some none
    | some (some _), some none => some none
    | _, _ => none) = some (zipL xs ys)[i]?
  induction xs generalizing ys i with
  | nil => cases ys <;> simp [zipL]
  | cons x xs ih =>
    cases ys with
    | nil =>
      cases i with
      | zero => simp [zipL]
      | succ i =>
        simp only [zipL, List.getElem?_nil, List.getElem?_cons_succ]
        cases xs[i]? <;> rfl
    | cons y ys =>
      cases i with
      | zero => simp [zipL]
      | succ i =>
        simp only [zipL, List.getElem?_cons_succ]
        exact ih ys i
/-! ### comprehensions over what stands still -/
def goC (g : SG) (t : SB) (e : SE) (s0 : List D) : List D → List D → Rg → Option (List D × Rg)
  | [], acc, R => some (acc, R)
  | d :: ds, acc, R => match g d s0 R with
    | .ok s1 R1 => (match t s1 R1 with
      | .ok k R2 => if k = true then (match e s1 R2 with
        | .ok y R3 => if acc.length < LINE then goC g t e s0 ds (acc ++ [y]) R3 else none
        | _ => none) else goC g t e s0 ds acc R2
      | _ => none)
    | _ => none
theorem compL_fix {g : SG} {t : SB} {e : SE} {s0 : List D} {xs : List D} : ∀ (n i : Nat) (acc : List D) (R : Rg), xs.length ≤ i + n → compL g t e (fixS xs) s0 n i acc R = goC g t e s0 (xs.drop i) acc R
  | 0, i, acc, R, h => by
    rw [List.drop_eq_nil_of_le (by omega), compL]
    show (match (some xs[i]? : Option (Option D)) with
      | some none => some (acc, R)
      | _ => none) = _
    rw [List.getElem?_eq_none (by omega)]
    rfl
  | n + 1, i, acc, R, h => by
    rw [compL]
    by_cases hi : i < xs.length
    · have e1 : fixS xs R i = some (some xs[i]) := by
        unfold fixS
        rw [List.getElem?_eq_getElem hi]
      rw [e1, List.drop_eq_getElem_cons hi, goC]
      have ih : ∀ acc R, compL g t e (fixS xs) s0 n (i + 1) acc R = goC g t e s0 (xs.drop (i + 1)) acc R := fun acc R => compL_fix n (i + 1) acc R (by omega)
      simp only [ih] <;> rfl
    · have e1 : fixS xs R i = some none := by
        unfold fixS
        rw [List.getElem?_eq_none (by omega)]
      rw [e1, List.drop_eq_nil_of_le (by omega)]
      rfl
theorem comp_fix {it : SI} {g : SG} {t : SB} {e : SE} {vs : List Nat} {mm : Bool} {R1 : Rg} (h : it s R = .ok (fixS xs) R1) (hl : xs.length ≤ FUEL) : cComp it g t e vs mm s R = lift ((goC g t e (wipeD s vs) xs [] R1).bind fun z => mkL mm z.1 z.2) := by
  unfold cComp
  rw [h, Res.bind_ok, compL_fix FUEL 0 [] R1 (by omega), List.drop_zero]
/-- each thing to a thing, the region as it stands -/
theorem goC_map {g : SG} {t : SB} {e : SE} {s0 : List D} {A : Type} {f : A → D} {w : A → D} {p : A → Bool} : ∀ (as : List A) (acc : List D) (R : Rg), (∀ a ∈ as, ∃ s1, g (f a) s0 R = .ok s1 R ∧ t s1 R = .ok (p a) R ∧ (p a = true → e s1 R = .ok (w a) R)) →
    acc.length + as.length ≤ LINE → goC g t e s0 (as.map f) acc R = some (acc ++ (as.filter p).map w, R)
  | [], acc, R, _, _ => by simp [goC]
  | a :: as, acc, R, h, hl => by
    obtain ⟨s1, h1, h2, h3⟩ := h a List.mem_cons_self
    have hl' : acc.length + (as.length + 1) ≤ LINE := hl
    rw [List.map_cons, goC, h1]
    show (match t s1 R with
      | .ok k R2 => if k = true then (match e s1 R2 with
        | .ok y R3 => if acc.length < LINE then goC g t e s0 (as.map f) (acc ++ [y]) R3 else none
        | _ => none) else goC g t e s0 (as.map f) acc R2
      | _ => none) = _
    rw [h2]
    show (if p a = true then (match e s1 R with
        | .ok y R3 => if acc.length < LINE then goC g t e s0 (as.map f) (acc ++ [y]) R3 else none
        | _ => none) else goC g t e s0 (as.map f) acc R) = _
    cases hp : p a with
    | false =>
      rw [if_neg (by decide), goC_map as acc R (fun b hb => h b (List.mem_cons_of_mem _ hb)) (by omega), List.filter_cons, hp]
      rfl
    | true =>
      rw [if_pos rfl, h3 hp]
      show (if acc.length < LINE then goC g t e s0 (as.map f) (acc ++ [w a]) R else none) = _
      rw [if_pos (by omega), goC_map as (acc ++ [w a]) R (fun b hb => h b (List.mem_cons_of_mem _ hb)) (by rw [List.length_append]; simp; omega), List.filter_cons, hp]
      simp
@[simp] theorem wipeD_nil : wipeD s [] = s := rfl
@[simp] theorem wipeD_cons {i : Nat} {is : List Nat} : wipeD s (i :: is) = (wipeD s is).set i .undef := rfl
theorem line_fuel : LINE ≤ FUEL := by decide
theorem comp_lst {A : Type} {g : SG} {t : SB} {e : SE} {vs : List Nat} {as : List A} {f w : A → D} {p : A → Bool} (h : a s R = .ok (.lst (as.map f)) R) (hl : as.length ≤ LINE)
    (he : ∀ a ∈ as, ∃ s1, g (f a) (wipeD s vs) R = .ok s1 R ∧ t s1 R = .ok (p a) R ∧ (p a = true → e s1 R = .ok (w a) R)) : cComp (iSeq a) g t e vs false s R = .ok (.lst ((as.filter p).map w)) R := by
  have hf := List.length_filter_le p as
  have lf := line_fuel
  rw [comp_fix (xs := as.map f) (R1 := R) (by show (a s R).bind srcD = _; rw [h]; rfl) (by rw [List.length_map]; omega), goC_map as [] R he (by simpa using hl)]
  show lift (mkL false (as.filter p |>.map w) R) = _
  unfold mkL
  rw [if_pos (by rw [List.length_map]; omega), if_neg (by decide)]
  rfl
theorem comp_tup {A : Type} {g : SG} {t : SB} {e : SE} {vs : List Nat} {as : List A} {f w : A → D} {p : A → Bool} (h : a s R = .ok (.tup (as.map f)) R) (hl : as.length ≤ LINE)
    (he : ∀ a ∈ as, ∃ s1, g (f a) (wipeD s vs) R = .ok s1 R ∧ t s1 R = .ok (p a) R ∧ (p a = true → e s1 R = .ok (w a) R)) : cComp (iSeq a) g t e vs false s R = .ok (.lst ((as.filter p).map w)) R := by
  have hf := List.length_filter_le p as
  have lf := line_fuel
  rw [comp_fix (xs := as.map f) (R1 := R) (by show (a s R).bind srcD = _; rw [h]; rfl) (by rw [List.length_map]; omega), goC_map as [] R he (by simpa using hl)]
  show lift (mkL false (as.filter p |>.map w) R) = _
  unfold mkL
  rw [if_pos (by rw [List.length_map]; omega), if_neg (by decide)]
  rfl
theorem comp_src {A : Type} {it : SI} {g : SG} {t : SB} {e : SE} {vs : List Nat} {as : List A} {f w : A → D} {p : A → Bool} (h : it s R = .ok (fixS (as.map f)) R) (hl : as.length ≤ LINE)
    (he : ∀ a ∈ as, ∃ s1, g (f a) (wipeD s vs) R = .ok s1 R ∧ t s1 R = .ok (p a) R ∧ (p a = true → e s1 R = .ok (w a) R)) : cComp it g t e vs false s R = .ok (.lst ((as.filter p).map w)) R := by
  have hf := List.length_filter_le p as
  have lf := line_fuel
  rw [comp_fix (xs := as.map f) (R1 := R) h (by rw [List.length_map]; omega), goC_map as [] R he (by simpa using hl)]
  show lift (mkL false (as.filter p |>.map w) R) = _
  unfold mkL
  rw [if_pos (by rw [List.length_map]; omega), if_neg (by decide)]
  rfl
theorem bools_map {A : Type} (f : A → Bool) : ∀ as : List A, boolsOf (as.map fun a => D.bl (f a)) = some (as.map f)
  | [] => rfl
  | a :: as => by
    show (boolsOf (as.map fun a => D.bl (f a))).map (f a :: ·) = _
    rw [bools_map f as]
    rfl
theorem p_all {A : Type} (f : A → Bool) (as : List A) : allD [.lst (as.map fun a => .bl (f a))] R = some (.bl (as.all f), R) := by
  show (boolsOf (as.map fun a => D.bl (f a))).map (fun bs => (D.bl (bs.all id), R)) = _
  rw [bools_map]
  simp [List.all_map, Function.comp_def]
theorem p_any {A : Type} (f : A → Bool) (as : List A) : anyD [.lst (as.map fun a => .bl (f a))] R = some (.bl (as.any f), R) := by
  show (boolsOf (as.map fun a => D.bl (f a))).map (fun bs => (D.bl (bs.any id), R)) = _
  rw [bools_map]
  simp [List.any_map, Function.comp_def]
/-! ### slices, zips -/
theorem cut_from (n : Nat) : cutD xs (some (n : Int)) none = xs.drop n := by
  unfold cutD
  rw [HT.sIx_nat, HT.sIx_none]
  by_cases h : n ≤ xs.length
  · rw [Nat.min_eq_left h, List.take_of_length_le (by rw [List.length_drop]; omega)]
  · rw [Nat.min_eq_right (by omega), List.drop_eq_nil_of_le (Nat.le_refl _), List.drop_eq_nil_of_le (by omega), List.take_nil]
theorem cut_to (n : Nat) : cutD xs none (some (n : Int)) = xs.take n := by
  unfold cutD
  rw [HT.sIx_nat, HT.sIx_none, List.drop_zero, Nat.sub_zero]
  by_cases h : n ≤ xs.length
  · rw [Nat.min_eq_left h]
  · rw [Nat.min_eq_right (by omega), List.take_length, List.take_of_length_le (by omega)]
theorem sl_tup1 {t : Bool} (h : a s R = .ok (.tup xs) R) : cSl t a (some (cCon (.int 1))) none s R = .ok (.tup (xs.drop 1)) R := by
  unfold cSl
  rw [h]
  show lift (slD t (.tup xs) (some 1) none R) = _
  show lift (some (D.tup (cutD xs (some 1) none), R)) = _
  rw [show (1 : Int) = ((1 : Nat) : Int) from rfl, cut_from]
  rfl
theorem sl_lst1 (h : a s R = .ok (.lst xs) R) (hl : xs.length ≤ LINE) : cSl false a (some (cCon (.int 1))) none s R = .ok (.lst (xs.drop 1)) R := by
  unfold cSl
  rw [h]
  show lift (mkL false (cutD xs (some 1) none) R) = _
  rw [show (1 : Int) = ((1 : Nat) : Int) from rfl, cut_from]
  unfold mkL
  rw [if_pos (by rw [List.length_drop]; omega), if_neg (by decide)]
  rfl
theorem zipL_map {A B : Type} (f : A → D) (g : B → D) : ∀ (as : List A) (bs : List B), zipL (as.map f) (bs.map g) = (as.zip bs).map fun z => .tup [f z.1, g z.2]
  | [], _ => by cases ‹List B› <;> rfl
  | _ :: _, [] => rfl
  | a :: as, b :: bs => by
    show D.tup [f a, g b] :: zipL (as.map f) (bs.map g) = _
    rw [zipL_map f g as bs]
    rfl
/-! ### new things that are changed -/
theorem frz_map (n k f : Nat) (R : Rg) : ∀ {xs : List D}, pureDs xs = true → xs.mapM (frzN n k R f) = some xs
  | [], _ => rfl
  | x :: xs, h => by
    have h' : pureD x = true ∧ pureDs xs = true := by simpa [pureDs] using h
    rw [List.mapM_cons, frz_map n k f R h'.2]
    have e : frzN n k R f x = some x := by
      cases f with
      | zero => exact if_pos h'.1
      | succ f =>
        unfold frzN
        exact if_pos h'.1
    rw [e]
    rfl
theorem keep_take {k : Nat} {R0 R1 : Rg} (h : R1.take R0.length = R0) : keepR R0.length k R0 R1 = some R0 := if_pos h
/-- the end of a def that hands back its own list -/
theorem fin_lst {i : Nat} {R1 : Rg} (hi : R.length ≤ i) (h1 : R1[i]? = some (.lst xs)) (ht : R1.take R.length = R) (hp : pureDs xs = true) : fin false R (.rt (.ref i) R1) = .ok (.lst xs) R := by
  have hl := (List.getElem?_eq_some_iff.mp h1).1
  have e1 : frzN R.length R1.length R1 FZ (.ref i) = some (.lst xs) := by
    show frzN R.length R1.length R1 (7 + 1) (.ref i) = _
    unfold frzN
    rw [if_neg (by simp [pureD])]
    show (if i < R.length then some (D.ref i) else if i = R1.length then none else (match R1[i]? with
      | some (.lst xs) => (xs.mapM (frzN R.length R1.length R1 7)).map D.lst
      | some (.dct ks) => (ks.mapM fun p => (frzN R.length R1.length R1 7 p.2).map fun v => (p.1, v)).map .dct
      | some (.ins c fs) => (fs.mapM fun p => (frzN R.length R1.length R1 7 p.2).map fun v => (p.1, v)).map (.ins c)
      | _ => none)) = _
    rw [if_neg (by omega), if_neg (by omega), h1]
    show (xs.mapM (frzN R.length R1.length R1 7)).map D.lst = _
    rw [frz_map _ _ _ _ hp]
    rfl
  show (match frzN R.length R1.length R1 FZ (.ref i), keepR R.length R1.length R R1 with
      | some d', some R1 => .ok d' R1
      | _, _ => .err : Res D) = _
  rw [e1, keep_take ht]
/-- .. that hands back a tree -/
theorem fin_tree {R1 : Rg} (ht : R1.take R.length = R) (hp : pureD x = true) : fin false R (.rt x R1) = .ok x R := by
  have e1 : frzN R.length R1.length R1 FZ x = some x := by
    show frzN R.length R1.length R1 (7 + 1) x = some x
    unfold frzN
    exact if_pos hp
  show (match frzN R.length R1.length R1 FZ x, keepR R.length R1.length R R1 with
      | some d', some R1 => .ok d' R1
      | _, _ => .err : Res D) = _
  rw [e1, keep_take ht]
/-- .. that hands it back to be changed -/
theorem fin_live {i : Nat} {R1 : Rg} (hi : R.length ≤ i) (h1 : R1[i]? = some (.lst xs)) (ht : R1.take R.length = R) (hp : pureDs xs = true) : fin true R (.rt (.ref i) R1) = .ok (.ref R.length) (R ++ [.lst xs]) := by
  show (if R.length ≤ i then (match R1[i]? with
      | some o => match frzO R.length i R1 o, keepR R.length i R R1 with
        | some o', some R1 => .ok (.ref R.length) (R1 ++ [o'])
        | _, _ => .err
      | none => .err) else .err : Res D) = _
  rw [if_pos hi, h1, keep_take ht]
  show (match (xs.mapM (frzN R.length i R1 FZ)).map O.lst, some R with
    | some o', some R1 => .ok (.ref R.length) (R1 ++ [o'])
    | _, _ => .err : Res D) = _
  rw [frz_map _ _ _ _ hp]
  rfl
@[simp] theorem mkL_new (h : xs.length ≤ LINE) : mkL true xs R = some (.ref R.length, R ++ [.lst xs]) := by
  unfold mkL
  rw [if_pos h, if_pos rfl]
@[simp] theorem mkL_old (h : xs.length ≤ LINE) : mkL false xs R = some (.lst xs, R) := by
  unfold mkL
  rw [if_pos h, if_neg (by decide)]
@[simp] theorem p_list_lst {t : Bool} : listD t [.lst xs] R = mkL t xs R := rfl
@[simp] theorem p_list_tup {t : Bool} : listD t [.tup xs] R = mkL t xs R := rfl
/-- a store at a place of a list -/
theorem set_ref {n r : Nat} (hr : R[r]? = some (.lst xs)) (h : n < xs.length) : setD (.ref r) (.int (n : Int)) x R = some (R.set r (.lst (xs.set n x))) := by
  have e : ixN xs.length ((n : Nat) : Int) = some n := by
    unfold ixN
    rw [if_pos (by omega), if_pos (by omega)]
    simp
  show (match R[r]?, D.int (n : Int) with
    | some (.lst xs), .int k => (ixN xs.length k).map fun j => R.set r (.lst (xs.set j x))
    | some (.dct ks), k => if keyOk k = true ∧ ks.length < LINE then some (R.set r (.dct (setK ks k x))) else none
    | _, _ => none) = _
  rw [hr]
  show (ixN xs.length ((n : Nat) : Int)).map _ = _
  rw [e]
  rfl
theorem go_ix {i : D} {R1 R2 R3 : Rg} (h1 : a s R = .ok y R1) (h2 : b s R1 = .ok i R2) (h3 : setD y i x R2 = some R3) : sGo (gIx a b) x s R = .nx s R3 := by
  have e : gIx a b x s R = .ok s R3 := by
    unfold gIx
    rw [h1, Res.bind_ok, h2, Res.bind_ok, h3]
  unfold sGo
  rw [e]
theorem at_end {o : O} : (R ++ [o])[R.length]? = some o := by simp
theorem set_end {o o' : O} : (R ++ [o]).set R.length o' = R ++ [o'] := by simp
/-- a turn whose target is three names, two names, one name -/
theorem goL_t3 {m : SS} {i1 i2 i3 : Nat} {x1 x2 x3 : D} {ds : List D} : goL (gT 3 (gC (gVar i1) (gC (gVar i2) (gC (gVar i3) gN)))) m (.tup [x1, x2, x3] :: ds) s R = turnO (goL (gT 3 (gC (gVar i1) (gC (gVar i2) (gC (gVar i3) gN)))) m ds) (m (((s.set i1 x1).set i2 x2).set i3 x3) R) := rfl
theorem goL_t2 {m : SS} {i1 i2 : Nat} {x1 x2 : D} {ds : List D} : goL (gT 2 (gC (gVar i1) (gC (gVar i2) gN))) m (.tup [x1, x2] :: ds) s R = turnO (goL (gT 2 (gC (gVar i1) (gC (gVar i2) gN))) m ds) (m ((s.set i1 x1).set i2 x2) R) := rfl
theorem goL_t1 {m : SS} {i1 : Nat} {x1 : D} {ds : List D} : goL (gVar i1) m (x1 :: ds) s R = turnO (goL (gVar i1) m ds) (m (s.set i1 x1) R) := rfl
/-! ### dicts by whole numbers -/
def lookN {A : Type} : List (Nat × A) → Nat → Option A
  | [], _ => none
  | e :: es, p => if e.1 = p then some e.2 else lookN es p
def putN {A : Type} : List (Nat × A) → Nat → A → List (Nat × A)
  | [], p, t => [(p, t)]
  | e :: es, p, t => if e.1 = p then (e.1, t) :: es else e :: putN es p t
def dctN {A : Type} (f : A → D) (es : List (Nat × A)) : List (D × D) := es.map fun e => (.int (e.1 : Int), f e.2)
theorem look_map {A : Type} (f : A → D) (p : Nat) : ∀ es : List (Nat × A), lookD (dctN f es) (.int (p : Int)) = (lookN es p).map f
  | [] => rfl
  | e :: es => by
    show (if D.int (e.1 : Int) = .int (p : Int) then some (f e.2) else lookD (dctN f es) (.int (p : Int))) = _
    unfold lookN
    by_cases h : e.1 = p
    · rw [if_pos (by rw [h]), if_pos h]; rfl
    · rw [if_neg (fun z => h (by have := D.int.inj z; omega)), if_neg h]
      exact look_map f p es
theorem put_map {A : Type} (f : A → D) (p : Nat) (t : A) : ∀ es : List (Nat × A), setK (dctN f es) (.int (p : Int)) (f t) = dctN f (putN es p t)
  | [] => rfl
  | e :: es => by
    show (if D.int (e.1 : Int) = .int (p : Int) then (D.int (e.1 : Int), f t) :: dctN f es else (D.int (e.1 : Int), f e.2) :: setK (dctN f es) (.int (p : Int)) (f t)) = _
    unfold putN
    by_cases h : e.1 = p
    · rw [if_pos (by rw [h]), if_pos h]; rfl
    · rw [if_neg (fun z => h (by have := D.int.inj z; omega)), if_neg h, put_map f p t es]
      rfl
theorem ixd_ref {A : Type} {f : A → D} {es : List (Nat × A)} {p r : Nat} {t : A} (hr : R[r]? = some (.dct (dctN f es))) (h : lookN es p = some t) : ixD (.ref r) (.int (p : Int)) R = some (f t, R) := by
  have e1 : dctOf R (.ref r) = some (dctN f es) := by rw [dctOf_ref, hr]
  show (match dctOf R (.ref r) with
    | some ks => if keyOk (.int (p : Int)) = true then (lookD ks (.int (p : Int))).map fun d => (d, R) else none
    | none => match seqOf R (.ref r), D.int (p : Int) with
      | some xs, .int i => (atI xs i).map fun d => (d, R)
      | _, _ => none) = _
  rw [e1]
  show (if keyOk (.int (p : Int)) = true then (lookD (dctN f es) (.int (p : Int))).map fun d => (d, R) else none) = _
  rw [if_pos (show keyOk (.int (p : Int)) = true from rfl), look_map, h]
  rfl
theorem ind_ref {A : Type} {f : A → D} {es : List (Nat × A)} {p r : Nat} {neg : Bool} (hr : R[r]? = some (.dct (dctN f es))) : inD neg (.int (p : Int)) (.ref r) R = some (.bl ((lookN es p).isSome != neg), R) := by
  have e1 : dctOf R (.ref r) = some (dctN f es) := by rw [dctOf_ref, hr]
  unfold inD
  rw [e1]
  show (if keyOk (.int (p : Int)) = true then some (D.bl (hasD (dctN f es) (.int (p : Int)) != neg), R) else none) = _
  rw [if_pos (show keyOk (.int (p : Int)) = true from rfl)]
  unfold hasD
  rw [look_map]
  cases lookN es p <;> rfl
theorem setd_ref {A : Type} {f : A → D} {es : List (Nat × A)} {p r : Nat} {t : A} (hr : R[r]? = some (.dct (dctN f es))) (h : es.length < LINE) : setD (.ref r) (.int (p : Int)) (f t) R = some (R.set r (.dct (dctN f (putN es p t)))) := by
  show (match R[r]?, D.int (p : Int) with
    | some (.lst xs), .int k => (ixN xs.length k).map fun j => R.set r (.lst (xs.set j (f t)))
    | some (.dct ks), k => if keyOk k = true ∧ ks.length < LINE then some (R.set r (.dct (setK ks k (f t)))) else none
    | _, _ => none) = _
  rw [hr]
  show (if keyOk (.int (p : Int)) = true ∧ (dctN f es).length < LINE then some (R.set r (.dct (setK (dctN f es) (.int (p : Int)) (f t)))) else none) = _
  rw [if_pos ⟨rfl, by unfold dctN; rw [List.length_map]; exact h⟩, put_map]
@[simp] theorem line_eq : LINE = 16777216 := rfl
end
end Om
/-! Om, part W: what holds behind what is computed. -/
namespace Om
open PySem PySem.Spec PyProof.Rows L2 RZ
structure wpR {A : Type} (r : Res A) (P : A → Rg → Prop) (E : Nat → D → Rg → Prop) : Prop where
  run : match r with
    | .ok a R => P a R
    | .exc c f R => E c f R
    | .err => False
structure Po where
  rt : D → Rg → Prop
  bk : List D → Rg → Prop
  ct : List D → Rg → Prop
  ex : Nat → D → List D → Rg → Prop
structure wpS (o : Out) (N : List D → Rg → Prop) (p : Po) : Prop where
  run : match o with
    | .nx s R => N s R
    | .rt d R => p.rt d R
    | .bk s R => p.bk s R
    | .ct s R => p.ct s R
    | .exc c f s R => p.ex c f s R
    | .err => False
def noE : Nat → D → Rg → Prop := fun _ _ _ => False
section
variable {A Z : Type} {a b c : SE} {k l : SB} {m n : SS} {es : SA} {s : List D} {R R' : Rg} {x y z : D} {P : A → Rg → Prop} {E : Nat → D → Rg → Prop} {Q : D → Rg → Prop} {N : List D → Rg → Prop} {p : Po}
@[simp] theorem wp_ok {t : A} : wpR (.ok t R) P E = P t R := propext ⟨fun h => h.run, fun h => ⟨h⟩⟩
@[simp] theorem wp_exc {c : Nat} {f : D} : wpR (.exc c f R : Res A) P E = E c f R := propext ⟨fun h => h.run, fun h => ⟨h⟩⟩
@[simp] theorem wp_err : wpR (.err : Res A) P E = False := propext ⟨fun h => h.run, fun h => ⟨h⟩⟩
@[simp] theorem wp_bind {r : Res Z} {f : Z → Rg → Res A} : wpR (r.bind f) P E = wpR r (fun z R1 => wpR (f z R1) P E) E := by cases r <;> simp only [Res.bind_ok, Res.bind_exc, Res.bind_err, wp_ok, wp_exc, wp_err]
@[simp] theorem wp_sbind {r : Res Z} {f : Z → Rg → Out} : wpS (sBind r s f) N p = wpR r (fun z R1 => wpS (f z R1) N p) (fun c f R => p.ex c f s R) := by
  cases r with
  | ok a R => rw [a_bind_ok, wp_ok]
  | exc c f R => exact propext ⟨fun h => ⟨h.run⟩, fun h => ⟨h.run⟩⟩
  | err => exact propext ⟨fun h => h.run.elim, fun h => h.run.elim⟩
@[simp] theorem ws_nx : wpS (.nx s R) N p = N s R := propext ⟨fun h => h.run, fun h => ⟨h⟩⟩
@[simp] theorem ws_rt : wpS (.rt x R) N p = p.rt x R := propext ⟨fun h => h.run, fun h => ⟨h⟩⟩
@[simp] theorem ws_bk : wpS (.bk s R) N p = p.bk s R := propext ⟨fun h => h.run, fun h => ⟨h⟩⟩
@[simp] theorem ws_ct : wpS (.ct s R) N p = p.ct s R := propext ⟨fun h => h.run, fun h => ⟨h⟩⟩
@[simp] theorem ws_exc {c : Nat} {f : D} : wpS (.exc c f s R) N p = p.ex c f s R := propext ⟨fun h => h.run, fun h => ⟨h⟩⟩
@[simp] theorem ws_err : wpS .err N p = False := propext ⟨fun h => h.run, fun h => ⟨h⟩⟩
@[simp] theorem ws_seq : wpS (sSeq m n s R) N p = wpS (m s R) (fun s R => wpS (n s R) N p) p := by
  unfold sSeq
  cases m s R <;> first | rfl | exact propext ⟨fun h => ⟨h⟩, fun h => h.run⟩ | exact propext ⟨fun h => ⟨h.run⟩, fun h => ⟨h.run⟩⟩
@[simp] theorem ws_if : wpS (sIf k m n s R) N p = wpR (k s R) (fun t R1 => if t = true then wpS (m s R1) N p else wpS (n s R1) N p) (fun c f R => p.ex c f s R) := by
  unfold sIf
  rw [wp_sbind]
  congr 1
  funext t R1
  cases t <;> rfl
theorem ws_go {g : SG} : wpS (sGo g x s R) N p = wpR (g x s R) N noE := by
  unfold sGo
  cases g x s R <;> exact propext ⟨fun h => ⟨h.run⟩, fun h => ⟨h.run⟩⟩
@[simp] theorem ws_turn {k : List D → Rg → Out} {o : Out} : wpS (turnO k o) N p = wpS o (fun s R => wpS (k s R) N p) { rt := p.rt, bk := N, ct := fun s R => wpS (k s R) N p, ex := p.ex } := by cases o <;> first | exact propext ⟨fun h => ⟨h⟩, fun h => h.run⟩ | exact propext ⟨fun h => ⟨h.run⟩, fun h => ⟨h.run⟩⟩
theorem wpR_mono {r : Res A} {P' : A → Rg → Prop} {E' : Nat → D → Rg → Prop} (h : wpR r P E) (hp : ∀ a R, P a R → P' a R) (he : ∀ c f R, E c f R → E' c f R) : wpR r P' E' := by
  cases r with
  | ok a R => exact ⟨hp _ _ h.run⟩
  | exc c f R => exact ⟨he _ _ _ h.run⟩
  | err => exact ⟨h.run⟩
theorem wpR_imp {r : Res A} {P' : A → Rg → Prop} (h : wpR r P noE) (hp : ∀ a R, P a R → P' a R) : wpR r P' E := wpR_mono h hp fun _ _ _ h => h.elim
theorem wpS_mono {o : Out} {N' : List D → Rg → Prop} {p' : Po} (h : wpS o N p) (h1 : ∀ s R, N s R → N' s R) (h2 : ∀ d R, p.rt d R → p'.rt d R) (h3 : ∀ s R, p.bk s R → p'.bk s R) (h4 : ∀ s R, p.ct s R → p'.ct s R) (h5 : ∀ c f s R, p.ex c f s R → p'.ex c f s R) : wpS o N' p' := by
  cases o with
  | nx s R => exact ⟨h1 _ _ h.run⟩
  | rt d R => exact ⟨h2 _ _ h.run⟩
  | bk s R => exact ⟨h3 _ _ h.run⟩
  | ct s R => exact ⟨h4 _ _ h.run⟩
  | exc c f s R => exact ⟨h5 _ _ _ _ h.run⟩
  | err => exact ⟨h.run⟩
theorem ws_cut {o : Out} (I : List D → Rg → Prop) (h1 : wpS o I p) (h2 : ∀ s R, I s R → N s R) : wpS o N p := wpS_mono h1 h2 (fun _ _ h => h) (fun _ _ h => h) (fun _ _ h => h) (fun _ _ _ _ h => h)
/-- a statement, then the rest -/
theorem ws_then (I : List D → Rg → Prop) (h1 : wpS (m s R) I p) (h2 : ∀ s R, I s R → wpS (n s R) N p) : wpS (sSeq m n s R) N p := by
  rw [ws_seq]
  exact ws_cut I h1 h2
theorem ws_then2 {m2 : SS} (I : List D → Rg → Prop) (h1 : wpS (sSeq m m2 s R) I p) (h2 : ∀ s R, I s R → wpS (n s R) N p) : wpS (sSeq m (sSeq m2 n) s R) N p := by
  rw [ws_seq] at h1 ⊢
  refine ws_cut _ h1 fun s R h => ?_
  rw [ws_seq]
  exact ws_cut I h h2
theorem ws_then3 {m2 m3 : SS} (I : List D → Rg → Prop) (h1 : wpS (sSeq m (sSeq m2 m3) s R) I p) (h2 : ∀ s R, I s R → wpS (n s R) N p) : wpS (sSeq m (sSeq m2 (sSeq m3 n)) s R) N p := by
  rw [ws_seq] at h1 ⊢
  refine ws_cut _ h1 fun s R h => ?_
  exact ws_then2 I h h2
theorem ws_then4 {m2 m3 m4 : SS} (I : List D → Rg → Prop) (h1 : wpS (sSeq m (sSeq m2 (sSeq m3 m4)) s R) I p) (h2 : ∀ s R, I s R → wpS (n s R) N p) : wpS (sSeq m (sSeq m2 (sSeq m3 (sSeq m4 n))) s R) N p := by
  rw [ws_seq] at h1 ⊢
  refine ws_cut _ h1 fun s R h => ?_
  exact ws_then3 I h h2
theorem eq_of_wp {r : Res A} {t : A} (h : wpR r (fun a R1 => a = t ∧ R1 = R') noE) : r = .ok t R' := by
  cases r with
  | ok a R => obtain ⟨e1, e2⟩ := h.run; rw [e1, e2]
  | exc c f R => exact h.run.elim
  | err => exact h.run.elim
theorem wp_of_eq {r : Res A} {t : A} (h : r = .ok t R') (hp : P t R') : wpR r P E := by rw [h]; exact ⟨hp⟩
theorem ex_of_wp {r : Res A} (h : wpR r P noE) : ∃ a R1, r = .ok a R1 ∧ P a R1 := by
  cases r with
  | ok a R => exact ⟨a, R, rfl, h.run⟩
  | exc c f R => exact h.run.elim
  | err => exact h.run.elim
theorem go_ixv {i j : Nat} {y z : D} {R3 : Rg} (h1 : s[i]? = some y) (h2 : s[j]? = some z) (h3 : setD y z x R = some R3) (hy : y ≠ .undef) (hz : z ≠ .undef) : sGo (gIx (cVar i) (cVar j)) x s R = .nx s R3 := go_ix (a_var h1 hy) (a_var h2 hz) h3
@[simp] theorem mkK_nil : mkK true [] R = some (.ref R.length, R ++ [.dct []]) := rfl
@[simp] theorem t_pass : wpS (.nx s R) N p = N s R := propext ⟨fun h => h.run, fun h => ⟨h⟩⟩
theorem p_add_tup {t : Bool} {xs ys : List D} (h : xs.length + ys.length ≤ LINE) : addD t (.tup xs) (.tup ys) R = some (.tup (xs ++ ys), R) := if_pos h
@[simp] theorem a_iseq : iSeq a s R = (a s R).bind srcD := rfl
@[simp] theorem src_tup_ok {xs : List D} : srcD (.tup xs) R = .ok (fixS xs) R := rfl
@[simp] theorem src_lst_ok {xs : List D} : srcD (.lst xs) R = .ok (fixS xs) R := rfl
theorem p_list_dct {t : Bool} {r : Nat} {ks : List (D × D)} (h : R[r]? = some (.dct ks)) : listD t [.ref r] R = mkL t (ks.map (·.1)) R := by
  have e1 : dctOf R (.ref r) = some ks := by rw [dctOf_ref, h]
  show (match dctOf R (.ref r) with
    | some ks => mkL t (List.map (fun p : D × D => p.1) ks) R
    | none => match seqOf R (.ref r) with
      | some xs => mkL t xs R
      | none => none) = _
  rw [e1]
theorem ints_int (ns : List Int) : intsOf (ns.map D.int) = some ns := by
  induction ns with
  | nil => rfl
  | cons n ns ih =>
    show (intsOf (ns.map D.int)).map (n :: ·) = _
    rw [ih]
    rfl
theorem sortI_len (ns : List Int) : (sortI ns).length = ns.length := (sortI_perm ns).length_eq
theorem p_sorted_lst {t : Bool} {ns : List Int} (h : ns.length < 64) : sortedX t [.lst (ns.map .int)] R = mkL t ((sortI ns).map .int) R := by
  show (match intsOf (ns.map D.int) with
    | some ns => if ns.length < 64 then mkL t ((sortI ns).map .int) R else none
    | none => none) = _
  rw [ints_int]
  exact if_pos h
theorem keys_dctN {A : Type} {f : A → D} : ∀ es : List (Nat × A), (dctN f es).map (fun p => p.1) = (es.map fun e => (e.1 : Int)).map D.int
  | [] => rfl
  | e :: es => by
    show D.int (e.1 : Int) :: (dctN f es).map (·.1) = _
    rw [keys_dctN es]
    rfl
theorem snap_map {n : Nat} : ∀ {xs : List D}, pureDs xs = true → xs.mapM (snapN n R) = some xs
  | [], _ => rfl
  | x :: xs, h => by
    have h' : pureD x = true ∧ pureDs xs = true := by simpa [pureDs] using h
    have e : snapN n R x = some x := by
      cases n with
      | zero => exact if_pos h'.1
      | succ n => unfold snapN; exact if_pos h'.1
    rw [List.mapM_cons, e, snap_map h'.2]
    rfl
theorem snap_ref {r : Nat} {xs : List D} (h : R[r]? = some (.lst xs)) (hp : pureDs xs = true) : snapD R (.ref r) = some (.lst xs) := by
  show snapN (5 + 1) R (.ref r) = _
  unfold snapN
  rw [if_neg (by simp [pureD])]
  simp only [h]
  rw [snap_map hp]
  rfl
theorem p_eq_ref {r : Nat} {xs : List D} {neg : Bool} (h : R[r]? = some (.lst xs)) (hp : pureDs xs = true) (h1 : pureD y = true) (h2 : eqOk 12 (.lst xs) = true) (h3 : eqOk 12 y = true) : eqD' neg (.ref r) y R = some (.bl (decide (D.lst xs = y) != neg), R) := by
  have e : eqD R (.ref r) y = some (decide (D.lst xs = y)) := by
    have go : (match snapD R (.ref r), snapD R y with
      | some a, some b => if eqOk 12 a = true ∧ eqOk 12 b = true then some (decide (a = b)) else none
      | _, _ => none) = some (decide (D.lst xs = y)) := by
      rw [snap_ref h hp, snap_pure h1]
      exact if_pos ⟨h2, h3⟩
    exact go
  unfold eqD'
  rw [e]
theorem pure_ints : ∀ ns : List Int, pureDs (ns.map .int) = true
  | [] => rfl
  | n :: ns => by
    show (pureD (.int n) && pureDs (ns.map .int)) = true
    rw [pure_ints ns]
    rfl
theorem eqOks_ints (n : Nat) : ∀ ns : List Int, eqOks n (ns.map .int) = true
  | [] => rfl
  | i :: ns => by
    show (eqOk n (.int i) && eqOks n (ns.map .int)) = true
    rw [eqOks_ints n ns]
    cases n <;> rfl
theorem pop0_ref {r : Nat} {xs : List D} (h : R[r]? = some (.lst (x :: xs))) : popD (.ref r) [.int 0] R = some (x, R.set r (.lst xs)) := by
  show (match R[r]? with
    | some (.lst xs) => (ixN xs.length 0).bind fun j => (xs[j]?).map fun y => (y, R.set r (.lst (xs.eraseIdx j)))
    | _ => none) = _
  rw [h]
  show (ixN (x :: xs).length 0).bind _ = _
  have e : ixN (x :: xs).length 0 = some 0 := by
    unfold ixN
    rw [if_pos (by omega), if_pos (by rw [List.length_cons]; omega)]
    rfl
  rw [e]
  rfl
theorem isT_lst {r : Nat} {xs : List D} (h : R[r]? = some (.lst xs)) : isT 0 (.ref r) R = true := by
  have e : lstOf R (.ref r) = some xs := by rw [lstOf_ref, h]
  show (lstOf R (.ref r)).isSome = true
  rw [e]
  rfl
@[simp] theorem a_meth1 {ps : List (Nat × PM)} : eMetL ps a es s R = (a s R).bind fun x R1 => match ps.find? fun p => isT p.1 x R1 with
  | some p => (es s R1).bind fun ds R2 => lift (p.2 x ds R2)
  | none => .err := rfl
theorem app_ref {r : Nat} {xs : List D} (h : R[r]? = some (.lst xs)) (hl : xs.length < LINE) : appendD (.ref r) [x] R = some (.non, R.set r (.lst (xs ++ [x]))) := by
  show (match R[r]? with
    | some (.lst xs) => if xs.length < LINE then some (D.non, R.set r (.lst (xs ++ [x]))) else none
    | _ => none) = _
  rw [h]
  exact if_pos hl
/-! ### loops -/
/-- a loop over a list of things: what holds behind each part of it -/
theorem ws_goL {B : Type} {enc : B → D} {g : SG} (I : List B → List D → Rg → Prop) (as : List B) (h0 : I [] s R)
    (step : ∀ done a rest, as = done ++ a :: rest → ∀ s R, I done s R → wpR (g (enc a) s R) (fun s1 R1 => wpS (m s1 R1) (I (done ++ [a])) { ct := I (done ++ [a]), bk := N, rt := p.rt, ex := p.ex }) noE)
    (he : ∀ s R, I as s R → N s R) : wpS (goL g m (as.map enc) s R) N p := by
  have go : ∀ (rest done : List B), as = done ++ rest → ∀ s R, I done s R → wpS (goL g m (rest.map enc) s R) N p := by
    intro rest
    induction rest with
    | nil =>
      intro done e s R h
      rw [List.append_nil] at e
      subst e
      exact ⟨he s R h⟩
    | cons a rest ih =>
      intro done e s R h
      have q := step done a rest e s R h
      rw [List.map_cons, goL]
      cases eg : g (enc a) s R with
      | ok s1 R1 =>
        rw [eg] at q
        show wpS (turnO _ _) N p
        rw [ws_turn]
        have ih' := ih (done ++ [a]) (by rw [e]; simp)
        exact wpS_mono (show wpS (m s1 R1) _ _ from q.run) ih' (fun _ _ h => h) (fun _ _ h => h) ih' (fun _ _ _ _ h => h)
      | exc c f R1 => rw [eg] at q; exact q.run.elim
      | err => rw [eg] at q; exact q.run.elim
  exact go as [] rfl s R h0
theorem ws_for {B : Type} {enc : B → D} {it : SI} {g : SG} {R1 : Rg} (as : List B) (hi : it s R = .ok (fixS (as.map enc)) R1) (hl : as.length ≤ FUEL) (I : List B → List D → Rg → Prop) (h0 : I [] s R1)
    (step : ∀ done a rest, as = done ++ a :: rest → ∀ s R, I done s R → wpR (g (enc a) s R) (fun s1 R1 => wpS (m s1 R1) (I (done ++ [a])) { ct := I (done ++ [a]), bk := N, rt := p.rt, ex := p.ex }) noE)
    (he : ∀ s R, I as s R → N s R) : wpS (sFor it g m s R) N p := by
  rw [for_fix hi (by rw [List.length_map]; exact hl)]
  exact ws_goL I as h0 step he
/-- a while, by what holds and what falls -/
theorem ws_while {c : SB} (I : Nat → List D → Rg → Prop) (n : Nat) (hn : n < FUEL) (h0 : I n s R)
    (step : ∀ n s R, I n s R → wpR (c s R) (fun t R1 => if t = true then wpS (m s R1) (fun s R => ∃ n', n' < n ∧ I n' s R) { ct := fun s R => ∃ n', n' < n ∧ I n' s R, bk := N, rt := p.rt, ex := p.ex } else N s R1) (fun c f R => p.ex c f s R)) : wpS (sWhile c m s R) N p := by
  have go : ∀ (f n : Nat), n < f → ∀ s R, I n s R → wpS (whileL c m f s R) N p := by
    intro f
    induction f with
    | zero => exact fun n h => absurd h (Nat.not_lt_zero n)
    | succ f ih =>
      intro n hn s R h
      rw [whileL, wp_sbind]
      refine wpR_mono (step n s R h) (fun t R1 q => ?_) (fun _ _ _ h => h)
      cases t with
      | true =>
        rw [if_pos rfl] at q ⊢
        rw [ws_turn]
        have nx : ∀ s R, (∃ n', n' < n ∧ I n' s R) → wpS (whileL c m f s R) N p := fun s R ⟨n', h1, h2⟩ => ih n' (by omega) s R h2
        exact wpS_mono q nx (fun _ _ h => h) (fun _ _ h => h) nx (fun _ _ _ _ h => h)
      | false => exact ⟨q⟩
  exact go FUEL n hn s R h0
/-- a comprehension, by what holds of what was made -/
theorem wp_goC {B : Type} {enc : B → D} {g : SG} {t : SB} {e : SE} {s0 : List D} (I : List B → List D → Rg → Prop) (as : List B) (h0 : I [] [] R) (hl : as.length ≤ LINE)
    (step : ∀ done a rest, as = done ++ a :: rest → ∀ ys R, I done ys R → wpR (g (enc a) s0 R) (fun s1 R1 => wpR (t s1 R1) (fun k R2 => if k = true then wpR (e s1 R2) (fun y R3 => I (done ++ [a]) (ys ++ [y]) R3) noE else I (done ++ [a]) ys R2) noE) noE) :
    ∃ ys R', goC g t e s0 (as.map enc) [] R = some (ys, R') ∧ I as ys R' ∧ ys.length ≤ as.length := by
  have go : ∀ (rest done : List B), as = done ++ rest → ∀ ys R, ys.length ≤ done.length → I done ys R → ∃ zs R', goC g t e s0 (rest.map enc) ys R = some (zs, R') ∧ I as zs R' ∧ zs.length ≤ as.length := by
    intro rest
    induction rest with
    | nil =>
      intro done e ys R hy h
      rw [List.append_nil] at e
      subst e
      exact ⟨ys, R, rfl, h, hy⟩
    | cons a rest ih =>
      intro done e' ys R hy h
      have q := step done a rest e' ys R h
      have hd : done.length + (rest.length + 1) ≤ LINE := by rw [e', List.length_append] at hl; exact hl
      have e2 : as = (done ++ [a]) ++ rest := by rw [e']; simp
      rw [List.map_cons, goC]
      cases eg : g (enc a) s0 R with
      | ok s1 R1 =>
        rw [eg] at q
        simp only [wp_ok] at q
        cases et : t s1 R1 with
        | ok k R2 =>
          rw [et] at q
          simp only [wp_ok] at q
          cases k with
          | true =>
            rw [if_pos rfl] at q
            cases ee : e s1 R2 with
            | ok y R3 =>
              rw [ee] at q
              have hq : I (done ++ [a]) (ys ++ [y]) R3 := q.run
              simp only [et, ee, if_true]
              rw [if_pos (show ys.length < LINE by omega)]
              exact ih (done ++ [a]) e2 (ys ++ [y]) R3 (by simp; exact hy) hq
            | exc c f R3 => rw [ee] at q; exact q.run.elim
            | err => rw [ee] at q; exact q.run.elim
          | false =>
            rw [if_neg (by decide)] at q
            simp only [et]
            rw [if_neg (by decide)]
            exact ih (done ++ [a]) e2 ys R2 (by simp; omega) q
        | exc c f R2 => rw [et] at q; exact q.run.elim
        | err => rw [et] at q; exact q.run.elim
      | exc c f R1 => rw [eg] at q; exact q.run.elim
      | err => rw [eg] at q; exact q.run.elim
  exact go as [] rfl [] R (Nat.le_refl _) h0
theorem wp_comp {B : Type} {enc : B → D} {it : SI} {g : SG} {t : SB} {e : SE} {vs : List Nat} {mm : Bool} {R1 : Rg} (as : List B) (hi : it s R = .ok (fixS (as.map enc)) R1) (hl : as.length ≤ LINE) (I : List B → List D → Rg → Prop) (h0 : I [] [] R1)
    (step : ∀ done a rest, as = done ++ a :: rest → ∀ ys R, I done ys R → wpR (g (enc a) (wipeD s vs) R) (fun s1 R1 => wpR (t s1 R1) (fun k R2 => if k = true then wpR (e s1 R2) (fun y R3 => I (done ++ [a]) (ys ++ [y]) R3) noE else I (done ++ [a]) ys R2) noE) noE)
    (he : ∀ ys R, I as ys R → ys.length ≤ as.length → wpR (lift (mkL mm ys R)) Q E) : wpR (cComp it g t e vs mm s R) Q E := by
  have lf := line_fuel
  rw [comp_fix hi (by rw [List.length_map]; omega)]
  obtain ⟨ys, R', e1, e2, e3⟩ := wp_goC (R := R1) I as h0 hl step
  rw [e1]
  exact he ys R' e2 e3
/-! ### ends of defs -/
theorem wp_fin {P : D → Rg → Prop} (h : wpS (m s R) (fun _ R1 => R1.take R.length = R ∧ P .non R) (.mk (fun d R1 => ∃ d', frzN R.length R1.length R1 FZ d = some d' ∧ R1.take R.length = R ∧ P d' R) (fun _ _ => False) (fun _ _ => False)
    (fun c f _ R1 => f = .undef ∧ R1.take R.length = R ∧ E c f R))) : wpR (fin false R (m s R)) P E := by
  cases e : m s R with
  | nx s1 R1 =>
    rw [e] at h
    obtain ⟨h1, h2⟩ := h.run
    show wpR (match keepR R.length R1.length R R1 with
      | some R1 => .ok .non R1
      | none => .err : Res D) P E
    rw [keep_take h1]
    exact ⟨h2⟩
  | rt d R1 =>
    rw [e] at h
    obtain ⟨d', h0, h1, h2⟩ := h.run
    have e2 : fin false R (.rt d R1) = (match frzN R.length R1.length R1 FZ d, keepR R.length R1.length R R1 with
      | some d', some R1 => .ok d' R1
      | _, _ => .err : Res D) := by cases d <;> rfl
    rw [e2, h0, keep_take h1]
    exact ⟨h2⟩
  | exc c f s1 R1 =>
    rw [e] at h
    obtain ⟨h0, h1, h2⟩ := h.run
    subst h0
    show wpR (match (if D.undef = .undef then some D.undef else frzN R.length R1.length R1 FZ .undef), keepR R.length R1.length R R1 with
      | some f', some R1 => .exc c f' R1
      | _, _ => .err : Res D) P E
    rw [if_pos rfl, keep_take h1]
    exact ⟨h2⟩
  | bk s1 R1 => rw [e] at h; exact h.run.elim
  | ct s1 R1 => rw [e] at h; exact h.run.elim
  | err => rw [e] at h; exact h.run.elim
theorem frz_pure {n k f : Nat} (h : pureD x = true) : frzN n k R f x = some x := by
  cases f with
  | zero => exact if_pos h
  | succ f =>
    unfold frzN
    exact if_pos h
theorem frz_lst {i n k : Nat} {xs : List D} (hn : n ≤ i) (hk : i ≠ k) (h : R[i]? = some (.lst xs)) (hp : pureDs xs = true) : frzN n k R FZ (.ref i) = some (.lst xs) := by
  show frzN n k R (7 + 1) (.ref i) = _
  unfold frzN
  rw [if_neg (by simp [pureD])]
  show (if i < n then some (D.ref i) else if i = k then none else (match R[i]? with
    | some (.lst xs) => (xs.mapM (frzN n k R 7)).map D.lst
    | some (.dct ks) => (ks.mapM fun p => (frzN n k R 7 p.2).map fun v => (p.1, v)).map .dct
    | some (.ins c fs) => (fs.mapM fun p => (frzN n k R 7 p.2).map fun v => (p.1, v)).map (.ins c)
    | _ => none)) = _
  rw [if_neg (by omega), if_neg hk, h]
  show (xs.mapM (frzN n k R 7)).map D.lst = _
  rw [frz_map _ _ _ _ hp]
  rfl
/-! ### what a def changed -/
def pureO : O → Bool
  | .lst xs => pureDs xs
  | .dct ks => ks.all fun p => pureD p.2
  | .ins _ fs => fs.all fun p => pureD p.2
  | _ => false
theorem frzO_pure {n k : Nat} {o : O} (h : pureO o = true) : frzO n k R o = some o := by
  cases o with
  | lst xs =>
    show (xs.mapM (frzN n k R FZ)).map O.lst = _
    rw [frz_map _ _ _ _ h]
    rfl
  | dct ks =>
    have go : ∀ ks : List (D × D), (ks.all fun p => pureD p.2) = true → (ks.mapM fun p => (frzN n k R FZ p.2).map fun v => (p.1, v)) = some ks := by
      intro ks
      induction ks with
      | nil => exact fun _ => rfl
      | cons p ks ih =>
        intro h
        rw [List.all_cons, Bool.and_eq_true] at h
        rw [List.mapM_cons, frz_pure h.1, ih h.2]
        rfl
    show (ks.mapM fun p => (frzN n k R FZ p.2).map fun v => (p.1, v)).map O.dct = _
    rw [go ks h]
    rfl
  | ins c ks =>
    have go : ∀ ks : List (Nat × D), (ks.all fun p => pureD p.2) = true → (ks.mapM fun p => (frzN n k R FZ p.2).map fun v => (p.1, v)) = some ks := by
      intro ks
      induction ks with
      | nil => exact fun _ => rfl
      | cons p ks ih =>
        intro h
        rw [List.all_cons, Bool.and_eq_true] at h
        rw [List.mapM_cons, frz_pure h.1, ih h.2]
        rfl
    show (ks.mapM fun p => (frzN n k R FZ p.2).map fun v => (p.1, v)).map (O.ins c) = _
    rw [go ks h]
    rfl
  | _ => cases h
/-- the places of R behind a def: as they stood, or trees -/
def kept (R R1 : Rg) : Prop := R.length ≤ R1.length ∧ ∀ (i : Nat) (o : O), i < R.length → R1[i]? = some o → R[i]? = some o ∨ pureO o = true
theorem keepG_kept {n k : Nat} {R2 : Rg} : ∀ {R0 R1 : Rg}, kept R0 R1 → keepG n k R2 R0 R1 = some (R1.take R0.length)
  | [], _, _ => by rw [keepG]; rfl
  | o :: R0, [], h => absurd h.1 (by simp)
  | o :: R0, o1 :: R1, h => by
    have h0 := h.2 0 o1 (by simp) rfl
    have ht : kept R0 R1 := ⟨by have := h.1; simpa using this, fun i u hi e => h.2 (i + 1) u (by simpa using hi) e⟩
    rw [keepG, keepG_kept ht]
    have e : (if o = o1 then some o1 else frzO n k R2 o1) = some o1 := by
      rcases h0 with h0 | h0
      · have : o = o1 := by simpa using h0
        rw [if_pos this]
      · split
        · rfl
        · exact frzO_pure h0
    rw [e]
    rfl
theorem keepR_kept {k : Nat} {R1 : Rg} (h : kept R R1) : keepR R.length k R R1 = some (R1.take R.length) := by
  unfold keepR
  split
  · rename_i e
    rw [e]
  · exact keepG_kept h
theorem kept_refl : kept R R := ⟨Nat.le_refl _, fun _ _ _ h => .inl h⟩
theorem kept_app {R1 T : Rg} (h : kept R R1) : kept R (R1 ++ T) := ⟨by have := h.1; rw [List.length_append]; omega, fun i o hi e => h.2 i o hi (by rw [List.getElem?_append_left (by have := h.1; omega)] at e; exact e)⟩
theorem kept_set {R1 : Rg} {j : Nat} {o : O} (h : kept R R1) (hp : pureO o = true) : kept R (R1.set j o) := ⟨by rw [List.length_set]; exact h.1, fun i u hi e => by
  by_cases hj : j = i
  · subst hj
    rw [List.getElem?_set_self (by have := h.1; omega)] at e
    cases e
    exact .inr hp
  · rw [List.getElem?_set_ne hj] at e
    exact h.2 i u hi e⟩
theorem wp_fin2 {P : D → Rg → Prop} (h : wpS (m s R) (fun _ R1 => kept R R1 ∧ P .non (R1.take R.length)) (.mk (fun d R1 => ∃ d', frzN R.length R1.length R1 FZ d = some d' ∧ kept R R1 ∧ P d' (R1.take R.length)) (fun _ _ => False) (fun _ _ => False)
    (fun c f _ R1 => f = .undef ∧ kept R R1 ∧ E c f (R1.take R.length)))) : wpR (fin false R (m s R)) P E := by
  cases e : m s R with
  | nx s1 R1 =>
    rw [e] at h
    obtain ⟨h1, h2⟩ := h.run
    show wpR (match keepR R.length R1.length R R1 with
      | some R1 => .ok .non R1
      | none => .err : Res D) P E
    rw [keepR_kept h1]
    exact ⟨h2⟩
  | rt d R1 =>
    rw [e] at h
    obtain ⟨d', h0, h1, h2⟩ := h.run
    have e2 : fin false R (.rt d R1) = (match frzN R.length R1.length R1 FZ d, keepR R.length R1.length R R1 with
      | some d', some R1 => .ok d' R1
      | _, _ => .err : Res D) := by cases d <;> rfl
    rw [e2, h0, keepR_kept h1]
    exact ⟨h2⟩
  | exc c f s1 R1 =>
    rw [e] at h
    obtain ⟨h0, h1, h2⟩ := h.run
    subst h0
    show wpR (match (if D.undef = .undef then some D.undef else frzN R.length R1.length R1 FZ .undef), keepR R.length R1.length R R1 with
      | some f', some R1 => .exc c f' R1
      | _, _ => .err : Res D) P E
    rw [if_pos rfl, keepR_kept h1]
    exact ⟨h2⟩
  | bk s1 R1 => rw [e] at h; exact h.run.elim
  | ct s1 R1 => rw [e] at h; exact h.run.elim
  | err => rw [e] at h; exact h.run.elim
theorem p_fdiv {i j : Int} (h : divOk j = true) : fdivD (.int i) (.int j) R = some (.int (i / j), R) := if_pos h
theorem p_pow {i j : Int} (h : 0 ≤ j ∧ j ≤ 1000000 ∧ i.natAbs < 18446744073709551616) : powD (.int i) (.int j) R = some (.int (i ^ j.toNat), R) := if_pos h
theorem it_rng1 {n : Nat} {R1 : Rg} (h : a s R = .ok (.int (n : Int)) R1) (hn : n < 4000000000000000000) : iArgs rng1 (cCons a cNil) s R = .ok (fixS ((List.range n).map fun i : Nat => D.int (i : Int))) R1 := by
  unfold iArgs
  rw [a_cons, h, Res.bind_ok, a_nil, Res.bind_ok, Res.bind_ok]
  show (if rngOk (n : Int) = true then Res.ok (rngS 0 (n : Int).toNat) R1 else .err) = _
  rw [if_pos (by unfold rngOk; simp; omega), rng_fix]
  simp
theorem add_lst {t : Bool} {xs ys : List D} (h1 : lstOf R x = some xs) (h2 : lstOf R y = some ys) : addD t x y R = mkL t (xs ++ ys) R := by
  unfold addD
  split
  · cases h1
  · cases h1
  · cases h1
  · rw [h1, h2]
theorem lst_ref {r : Nat} {xs : List D} (h : R[r]? = some (.lst xs)) : lstOf R (.ref r) = some xs := by rw [lstOf_ref, h]
theorem at_n {n : Nat} {o : O} (h : R.length = n) : (R ++ [o])[n]? = some o := by rw [← h]; exact at_end
theorem set_n {n : Nat} {o o' : O} (h : R.length = n) : (R ++ [o]).set n o' = R ++ [o'] := by rw [← h]; exact set_end
theorem tuple_ref {r : Nat} {xs : List D} (h : R[r]? = some (.lst xs)) : tupleD [.ref r] R = some (.tup xs, R) := by
  have e : seqOf R (.ref r) = some xs := lst_ref h
  show (seqOf R (.ref r)).map (fun xs => (D.tup xs, R)) = _
  rw [e]
  rfl
theorem set_same {r : Nat} {o : O} (h : R[r]? = some o) : R.set r o = R := by
  apply List.ext_getElem?
  intro i
  by_cases hi : r = i
  · subst hi
    rw [List.getElem?_set_self (List.getElem?_eq_some_iff.mp h).1, h]
  · rw [List.getElem?_set_ne hi]
theorem take_set {r : Nat} {o : O} : (R.set r o).take R.length = R.set r o := List.take_of_length_le (by rw [List.length_set]; exact Nat.le_refl _)
theorem wp_fin_live {P : D → Rg → Prop} (h : wpS (m s R) (fun _ _ => False) (.mk (fun d R1 => ∃ i xs, d = .ref i ∧ R.length ≤ i ∧ R1[i]? = some (.lst xs) ∧ pureDs xs = true ∧ R1.take R.length = R ∧ P (.ref R.length) (R ++ [.lst xs])) (fun _ _ => False) (fun _ _ => False)
    (fun _ _ _ _ => False))) : wpR (fin true R (m s R)) P E := by
  cases e : m s R with
  | rt d R1 =>
    rw [e] at h
    obtain ⟨i, xs, h0, h1, h2, h3, h4, h5⟩ := h.run
    subst h0
    rw [fin_live h1 h2 h4 h3]
    exact ⟨h5⟩
  | nx s1 R1 => rw [e] at h; exact h.run.elim
  | exc c f s1 R1 => rw [e] at h; exact h.run.elim
  | bk s1 R1 => rw [e] at h; exact h.run.elim
  | ct s1 R1 => rw [e] at h; exact h.run.elim
  | err => rw [e] at h; exact h.run.elim
end
end Om
/-! Om, part X: own classes and more, as rules of simp. -/
namespace Om
open PySem PySem.Spec PyProof.Rows L2 RZ
section
variable {A Z : Type} {a b c : SE} {k l : SB} {m n : SS} {es : SA} {s : List D} {R R' : Rg} {x y z : D} {xs ys : List D} {i j : Int} {P : A → Rg → Prop} {E : Nat → D → Rg → Prop} {Q : D → Rg → Prop} {N : List D → Rg → Prop} {p : Po}
theorem x_data {neg : Bool} {eqs : EqT} (h1 : insOf R x = none) (h2 : insOf R y = none) : eqX neg eqs x y R = eqD' neg x y R := by
  unfold eqX
  rw [h1, h2]
@[simp] theorem x_int {neg : Bool} {eqs : EqT} : eqX neg eqs (.int i) (.int j) R = some (.bl (decide (i = j) != neg), R) := (x_data rfl rfl).trans p_eq_int
theorem ok_str {n : Nat} {t : List Nat} (h : (t.all fun c => decide (c < 1114112)) = true) : eqOk n (.str t) = true := by
  have h' : ∀ c ∈ t, c < 1114112 := fun c hc => of_decide_eq_true (List.all_eq_true.mp h c hc)
  cases n <;> simpa [eqOk] using h'
theorem p_eq_str {neg : Bool} {t u : List Nat} (h1 : (t.all fun c => decide (c < 1114112)) = true) (h2 : (u.all fun c => decide (c < 1114112)) = true) : eqD' neg (.str t) (.str u) R = some (.bl (decide (t = u) != neg), R) := (p_eq rfl rfl (ok_str h1) (ok_str h2)).trans (by simp)
@[simp] theorem x_str {neg : Bool} {eqs : EqT} {t u : List Nat} (h1 : (t.all fun c => decide (c < 1114112)) = true) (h2 : (u.all fun c => decide (c < 1114112)) = true) : eqX neg eqs (.str t) (.str u) R = some (.bl (decide (t = u) != neg), R) := (x_data rfl rfl).trans (p_eq_str h1 h2)
@[simp] theorem x_lst {neg : Bool} {eqs : EqT} : eqX neg eqs (.lst xs) (.lst ys) R = eqD' neg (.lst xs) (.lst ys) R := x_data rfl rfl
@[simp] theorem x_tup {neg : Bool} {eqs : EqT} : eqX neg eqs (.tup xs) (.tup ys) R = eqD' neg (.tup xs) (.tup ys) R := x_data rfl rfl
@[simp] theorem isx_ty {cls : List Nat} {kit : Kit} {t : String} : isiX cls kit [x, .ty t] R = isiD [x, .ty t] R := rfl
@[simp] theorem isi_ss {t : List Nat} : isiD [.str t, .ty "str"] R = some (.bl true, R) := isi_of (t := "str") rfl (by decide +kernel)
@[simp] theorem isi_si {t : List Nat} : isiD [.str t, .ty "int"] R = some (.bl false, R) := isi_of (t := "str") rfl (by decide +kernel)
@[simp] theorem ins_ins {c : Nat} {fs : List (Nat × D)} : insOf R (.ins c fs) = some (c, fs) := rfl
theorem ins_ref {r c : Nat} {fs : List (Nat × D)} (h : R[r]? = some (.ins c fs)) : insOf R (.ref r) = some (c, fs) := by
  rw [insOf_ref, h]
theorem fld_of {ca : CaT} {n c : Nat} {fs : List (Nat × D)} (h : insOf R x = some (c, fs)) (hk : okAt ca c n = true) (hl : lookF fs n = some y) : fldD ca n x R = some (y, R) := by
  unfold fldD
  rw [h]
  show (if okAt ca c n = true then (lookF fs n).map fun d => (d, R) else none) = _
  rw [if_pos hk, hl]
  rfl
@[simp] theorem ixp {n : Nat} (h : xs[n + 1]? = some x) : ixD (.lst xs) (.int ((n : Int) + 1)) R = some (x, R) := ix_lst (n := n + 1) h
@[simp] theorem ix_lst0 : ixD (.lst (x :: xs)) (.int 0) R = some (x, R) := ix_lst (n := 0) rfl
theorem ix_0 (h : xs[0]? = some x) : ixD (.lst xs) (.int 0) R = some (x, R) := ix_lst (n := 0) h
theorem ix_last (h : xs[xs.length - 1]? = some x) : ixD (.lst xs) (.int (-1)) R = some (x, R) := by
  have hn : 0 < xs.length := by
    cases xs with
    | nil => cases h
    | cons _ _ => simp
  have e : atI xs (-1) = some x := by
    unfold atI ixN
    rw [if_neg (by omega), if_pos (by omega)]
    show xs[(((xs.length : Nat) : Int) + (-1)).toNat]? = _
    rw [show (((xs.length : Nat) : Int) + (-1)).toNat = xs.length - 1 by omega]
    exact h
  show (atI xs (-1)).map (fun d => (d, R)) = _
  rw [e]
  rfl
@[simp] theorem a_neg : negD (.int i) R = some (.int (-i), R) := rfl
@[simp] theorem p_addI : addI (.int i) (.int j) R = some (.int (i + j), R) := rfl
@[simp] theorem a_par2 {i j : Nat} : sPar2 i j es s R = sBind (es s R) s fun ds R1 => match ds with
  | [x, y] => .nx ((s.set i x).set j y) R1
  | _ => .err := rfl
@[simp] theorem a_rev {t : Bool} : revD t (.lst xs) R = mkL t xs.reverse R := rfl
theorem p_in_tup {neg : Bool} (h1 : pureD x = true) (h2 : pureDs ys = true) (h3 : eqOk 12 x = true) (h4 : eqOk 12 (.tup ys) = true) : inD neg x (.tup ys) R = some (.bl (decide (x ∈ ys) != neg), R) := by
  have go : (match snapD R x, snapD R (.tup ys) with
    | some a, some (.lst ys) => if eqOk 12 a = true ∧ eqOk 12 (.lst ys) = true then some (.bl (decide (a ∈ ys) != neg), R) else none
    | some a, some (.tup ys) => if eqOk 12 a = true ∧ eqOk 12 (.tup ys) = true then some (.bl (decide (a ∈ ys) != neg), R) else none
    | _, _ => none : Option (D × Rg)) = some (.bl (decide (x ∈ ys) != neg), R) := by
    rw [snap_pure h1, snap_pure (show pureD (.tup ys) = true by rw [pure_tup]; exact h2)]
    exact if_pos ⟨h3, h4⟩
  exact go
theorem p_in_lst {neg : Bool} (h1 : pureD x = true) (h2 : pureDs ys = true) (h3 : eqOk 12 x = true) (h4 : eqOk 12 (.lst ys) = true) : inD neg x (.lst ys) R = some (.bl (decide (x ∈ ys) != neg), R) := by
  have go : (match snapD R x, snapD R (.lst ys) with
    | some a, some (.lst ys) => if eqOk 12 a = true ∧ eqOk 12 (.lst ys) = true then some (.bl (decide (a ∈ ys) != neg), R) else none
    | some a, some (.tup ys) => if eqOk 12 a = true ∧ eqOk 12 (.tup ys) = true then some (.bl (decide (a ∈ ys) != neg), R) else none
    | _, _ => none : Option (D × Rg)) = some (.bl (decide (x ∈ ys) != neg), R) := by
    rw [snap_pure h1, snap_pure (show pureD (.lst ys) = true by rw [pure_lst]; exact h2)]
    exact if_pos ⟨h3, h4⟩
  exact go
theorem ints_map {B : Type} (f : B → Int) : ∀ as : List B, intsOf (as.map fun a => D.int (f a)) = some (as.map f)
  | [] => rfl
  | a :: as => by
    show (intsOf (as.map fun a => D.int (f a))).map (f a :: ·) = _
    rw [ints_map f as]
    rfl
theorem it_zip {t u : List D} (h1 : a s R = .ok (.lst t) R) (h2 : b s R = .ok (.lst u) R) : iArgs zip2 (cCons a (cCons b cNil)) s R = .ok (fixS (zipL t u)) R := by
  unfold iArgs
  rw [a_cons, h1, Res.bind_ok, a_cons, h2, Res.bind_ok, a_nil, Res.bind_ok, Res.bind_ok, Res.bind_ok, ← zip_fix]
  rfl
theorem it_zipM {B C : Type} {f : B → D} {g : C → D} {as : List B} {bs : List C} (h1 : a s R = .ok (.lst (as.map f)) R) (h2 : b s R = .ok (.lst (bs.map g)) R) : iArgs zip2 (cCons a (cCons b cNil)) s R = .ok (fixS ((as.zip bs).map fun z => .tup [f z.1, g z.2])) R := by
  rw [it_zip h1 h2, zipL_map]
theorem enumL_map {B : Type} (f : B → D) : ∀ (as : List B) (k : Nat), enumL k (as.map f) = (as.zipIdx k).map fun z => .tup [.int (z.2 : Int), f z.1]
  | [], _ => rfl
  | a :: as, k => by
    show D.tup [.int (k : Int), f a] :: enumL (k + 1) (as.map f) = _
    rw [enumL_map f as (k + 1)]
    rfl
theorem it_enumM {B : Type} {f : B → D} {as : List B} (h1 : a s R = .ok (.lst (as.map f)) R) : iArgs enum1 (cCons a cNil) s R = .ok (fixS ((as.zipIdx).map fun z => .tup [.int (z.2 : Int), f z.1])) R := by
  unfold iArgs
  rw [a_cons, h1, Res.bind_ok, a_nil, Res.bind_ok, Res.bind_ok]
  show (Res.ok (enuS (fixS (as.map f))) R : Res Src) = _
  rw [enu_fix, enumL_map]
theorem idx_split {B : Type} {as : List B} {done rest : List (B × Nat)} {z : B × Nat} (e : as.zipIdx = done ++ z :: rest) : z.2 = done.length ∧ as[done.length]? = some z.1 := by
  have h : (as.zipIdx)[done.length]? = some z := by rw [e]; simp
  rw [List.getElem?_zipIdx] at h
  obtain ⟨x, h1, h2⟩ := Option.map_eq_some_iff.mp h
  subst h2
  exact ⟨by simp, h1⟩
theorem it_rngN {n : Nat} {R1 : Rg} (h : a s R = .ok (.int (n : Int)) R1) (hn : n < 4000000000000000000) : iArgs rng1 (cCons a cNil) s R = .ok (fixS ((List.range n).map fun i : Nat => D.int (i : Int))) R1 := it_rng1 h hn
theorem kept_last {o o' : O} (h : pureO o' = true) : kept (R ++ [o]) (R ++ [o']) := ⟨by simp, fun i u hi e => by
  by_cases hj : i < R.length
  · rw [List.getElem?_append_left hj] at e ⊢
    exact .inl e
  · have hl : i = R.length := by rw [List.length_append] at hi; simp at hi; omega
    subst hl
    rw [at_end] at e
    cases e
    exact .inr h⟩
theorem setF_last {ca : CaT} {n c : Nat} {fs : List (Nat × D)} (hk : okAt ca c n = true) (hl : fs.length < 1000) : setF ca n (.ref R.length) x (R ++ [.ins c fs]) = some (R ++ [.ins c (putFD fs n x)]) := by
  have e := @set_end R (.ins c fs) (.ins c (putFD fs n x))
  unfold setF
  simp only [at_end]
  rw [if_pos ⟨hk, hl⟩, e]
theorem frz_ins {i n k c : Nat} {fs : List (Nat × D)} (hn : n ≤ i) (hk : i ≠ k) (h : R[i]? = some (.ins c fs)) (hp : (fs.all fun p => pureD p.2) = true) : frzN n k R FZ (.ref i) = some (.ins c fs) := by
  show frzN n k R (7 + 1) (.ref i) = _
  unfold frzN
  rw [if_neg (by simp [pureD])]
  show (if i < n then some (D.ref i) else if i = k then none else (match R[i]? with
    | some (.lst xs) => (xs.mapM (frzN n k R 7)).map D.lst
    | some (.dct ks) => (ks.mapM fun p => (frzN n k R 7 p.2).map fun v => (p.1, v)).map .dct
    | some (.ins c fs) => (fs.mapM fun p => (frzN n k R 7 p.2).map fun v => (p.1, v)).map (.ins c)
    | _ => none)) = _
  rw [if_neg (by omega), if_neg hk, h]
  have go : ∀ ks : List (Nat × D), (ks.all fun p => pureD p.2) = true → (ks.mapM fun p => (frzN n k R 7 p.2).map fun v => (p.1, v)) = some ks := by
    intro ks
    induction ks with
    | nil => exact fun _ => rfl
    | cons p ks ih =>
      intro h
      rw [List.all_cons, Bool.and_eq_true] at h
      rw [List.mapM_cons, frz_pure h.1, ih h.2]
      rfl
  show (fs.mapM fun p => (frzN n k R 7 p.2).map fun v => (p.1, v)).map (D.ins c) = _
  rw [go fs hp]
  rfl
@[simp] theorem a_setF {ca : CaT} {n : Nat} : sSetF ca n a b s R = sBind (a s R) s fun v R1 => sBind (b s R1) s fun x R2 => match setF ca n x v R2 with
  | some R3 => .nx s R3
  | none => .err := rfl
theorem len_ref {r : Nat} {xs : List D} (h : R[r]? = some (.lst xs)) : lenD [.ref r] R = some (.int xs.length, R) := by
  have e : seqOf R (.ref r) = some xs := lst_ref h
  show (match dctOf R (.ref r) with
    | some ks => some (D.int ks.length, R)
    | none => (seqOf R (.ref r)).map fun xs : List D => (D.int xs.length, R)) = _
  rw [dctOf_ref, h, e]
  rfl
theorem map_erase {B C : Type} (f : B → C) : ∀ (l : List B) (i : Nat), (l.map f).eraseIdx i = (l.eraseIdx i).map f
  | [], _ => rfl
  | a :: l, 0 => rfl
  | a :: l, i + 1 => by
    show f a :: (l.map f).eraseIdx i = f a :: (l.eraseIdx i).map f
    rw [map_erase f l i]
theorem perm_erase {B : Type} : ∀ (l : List B) (i : Nat) (h : i < l.length), (l[i] :: l.eraseIdx i).Perm l
  | [], i, h => absurd h (by simp)
  | a :: l, 0, _ => List.Perm.refl _
  | a :: l, i + 1, h => by
    show (l[i]'(by simpa using h) :: a :: l.eraseIdx i).Perm (a :: l)
    exact (List.Perm.swap _ _ _).trans ((perm_erase l i (by simpa using h)).cons a)
theorem idxL_at {y : D} : ∀ {xs : List D} {j : Nat}, xs[j]? = some y → (∀ m, m < j → xs[m]? ≠ some y) → idxL xs y = some j
  | [], _, h, _ => by cases h
  | z :: xs, 0, h, _ => by
    have : z = y := by simpa using h
    subst this
    unfold idxL
    rw [if_pos rfl]
  | z :: xs, j + 1, h, hm => by
    have hz : z ≠ y := fun e => hm 0 (by omega) (by simp [e])
    unfold idxL
    rw [if_neg hz, idxL_at (xs := xs) (j := j) (by simpa using h) fun m hl => by have := hm (m + 1) (by omega); simpa using this]
    rfl
end
end Om
/-! Om, part Y: texts, dicts walked, as rules of simp. -/
namespace Om
open PySem PySem.Spec PyProof.Rows L2 RZ
section
variable {A Z : Type} {a b c : SE} {k l : SB} {m n : SS} {es : SA} {s : List D} {R R' : Rg} {x y z : D} {xs ys : List D} {i j : Int} {P : A → Rg → Prop} {E : Nat → D → Rg → Prop} {Q : D → Rg → Prop} {N : List D → Rg → Prop} {p : Po} {t u : List Nat} {r : Nat} {neg : Bool}
@[simp] theorem a_iany : iAny a s R = (a s R).bind srcX := rfl
@[simp] theorem srx_str : srcX (.str t) R = .ok (fixS (t.map fun c => .str [c])) R := rfl
@[simp] theorem srx_tup : srcX (.tup xs) R = .ok (fixS xs) R := rfl
@[simp] theorem srx_lst : srcX (.lst xs) R = .ok (fixS xs) R := rfl
theorem srx_dctL {ks : List (D × D)} (h : R[r]? = some (.dctL ks)) : srcX (.ref r) R = .ok (fixS (ks.map (·.1))) R := by
  show (match R[r]? with
    | some (.dctL ks) => .ok (fixS (ks.map (·.1))) R
    | _ => srcD (.ref r) R : Res Src) = _
  rw [h]
@[simp] theorem inx_sign {c : Nat} : inX neg (.str [c]) (.str t) R = some (.bl (decide (c ∈ t) != neg), R) := rfl
@[simp] theorem inx_lst : inX neg x (.lst xs) R = inD neg x (.lst xs) R := by
  unfold inX
  split
  · rename_i h; cases h
  · rfl
@[simp] theorem inx_tup : inX neg x (.tup xs) R = inD neg x (.tup xs) R := by
  unfold inX
  split
  · rename_i h; cases h
  · rfl
@[simp] theorem inx_ref : inX neg x (.ref r) R = inD neg x (.ref r) R := by
  unfold inX
  split
  · rename_i h; cases h
  · rfl
@[simp] theorem intx_int : intX [.int i] R = some (.int i, R) := rfl
theorem intx_str (hl : t.length ≤ 640) {n : Int} (h : PySem.intText? (strOf t) = some n) : intX [.str t] R = some (.int n, R) := by
  show (if t.length ≤ 640 then (PySem.intText? (strOf t)).map fun n => (D.int n, R) else none) = _
  rw [if_pos hl, h]
  rfl
@[simp] theorem str_str : strD [.str t] R = some (.str t, R) := rfl
theorem str_nat {n : Nat} (h : n < 1000000) : strD [.int (n : Int)] R = some (.str (TL.numL n), R) := by
  show (if 0 ≤ (n : Int) ∧ (n : Int).natAbs.log2 < 1920 then some (D.str (TL.numL (n : Int).toNat), R) else none) = _
  have hl : n.log2 < 1920 := by
    by_cases h0 : n = 0
    · subst h0
      decide
    · have := Nat.log2_self_le h0
      refine Nat.lt_of_le_of_lt (m := 20) ?_ (by omega)
      refine Nat.le_of_not_lt fun hh => ?_
      have h2 : 2 ^ 21 ≤ 2 ^ n.log2 := Nat.pow_le_pow_right (by omega) hh
      omega
  rw [if_pos ⟨by omega, by simpa using hl⟩]
  simp
theorem strs_map : ∀ ys : List (List Nat), strsOf (ys.map D.str) = some ys
  | [] => rfl
  | y :: ys => by
    show (strsOf (ys.map D.str)).map (y :: ·) = _
    rw [strs_map ys]
    rfl
theorem join_lst {ys : List (List Nat)} (h : (ys.map fun z : List Nat => z.length).sum + ys.length * t.length ≤ 16777216) : joinD (.str t) [.lst (ys.map .str)] R = some (.str (TL.joinL t ys), R) := by
  have e : (seqOf R (.lst (ys.map D.str))).bind strsOf = some ys := by
    show strsOf (ys.map D.str) = _
    exact strs_map ys
  show (match (seqOf R (.lst (ys.map D.str))).bind strsOf with
    | some ys => if (ys.map fun z : List Nat => z.length).sum + ys.length * t.length ≤ 16777216 then some (D.str (TL.joinL t ys), R) else none
    | none => none) = _
  rw [e]
  exact if_pos h
theorem spl_len (b : List Nat) : ∀ (a : List Nat) (k : Nat) (acc : List Nat), (TL.spl b k acc a).length ≤ a.length + 1
  | [], k, acc => by rw [TL.spl_nil]; simp
  | c :: a, 0, acc => by
    cases h : TL.pre b (c :: a) with
    | true => rw [TL.spl_hit h, List.length_cons, List.length_cons]; have := spl_len b a (b.length - 1) []; omega
    | false => rw [TL.spl_miss h, List.length_cons]; have := spl_len b a 0 (acc ++ [c]); omega
  | c :: a, k + 1, acc => by
    show (TL.spl b k acc a).length ≤ _
    have := spl_len b a k acc
    rw [List.length_cons]; omega
/-- all signs of the parts come from the text -/
theorem spl_all (b : List Nat) (q : Nat → Prop) : ∀ (a : List Nat) (k : Nat) (acc : List Nat), (∀ c ∈ a, q c) → (∀ c ∈ acc, q c) → ∀ p ∈ TL.spl b k acc a, ∀ c ∈ p, q c
  | [], k, acc, h1, h2 => by
    rw [TL.spl_nil]
    intro p hp
    rw [List.mem_singleton] at hp
    subst hp
    exact h2
  | c :: a, 0, acc, h1, h2 => by
    have h1' : ∀ d ∈ a, q d := fun d hd => h1 d (List.mem_cons_of_mem _ hd)
    cases h : TL.pre b (c :: a) with
    | true =>
      rw [TL.spl_hit h]
      intro p hp
      rcases List.mem_cons.mp hp with e | e
      · subst e; exact h2
      · exact spl_all b q a (b.length - 1) [] h1' (fun _ h => by cases h) p e
    | false =>
      rw [TL.spl_miss h]
      refine spl_all b q a 0 (acc ++ [c]) h1' fun d hd => ?_
      rcases List.mem_append.mp hd with e | e
      · exact h2 d e
      · rw [List.mem_singleton] at e
        subst e
        exact h1 d List.mem_cons_self
  | c :: a, k + 1, acc, h1, h2 => by
    show ∀ p ∈ TL.spl b k acc a, _
    exact spl_all b q a k acc (fun d hd => h1 d (List.mem_cons_of_mem _ hd)) h2
theorem spl_plen (b : List Nat) : ∀ (a : List Nat) (k : Nat) (acc : List Nat), ∀ p ∈ TL.spl b k acc a, p.length ≤ acc.length + a.length
  | [], k, acc => by
    rw [TL.spl_nil]
    intro p hp
    rw [List.mem_singleton] at hp
    subst hp
    simp
  | c :: a, 0, acc => by
    cases h : TL.pre b (c :: a) with
    | true =>
      rw [TL.spl_hit h]
      intro p hp
      rcases List.mem_cons.mp hp with e | e
      · subst e; omega
      · have := spl_plen b a (b.length - 1) [] p e
        simp at this ⊢
        omega
    | false =>
      rw [TL.spl_miss h]
      intro p hp
      have := spl_plen b a 0 (acc ++ [c]) p hp
      simp at this ⊢
      omega
  | c :: a, k + 1, acc => by
    show ∀ p ∈ TL.spl b k acc a, _
    intro p hp
    have := spl_plen b a k acc p hp
    simp
    omega
theorem spl_ne (b : List Nat) : ∀ (a : List Nat) (k : Nat) (acc : List Nat), TL.spl b k acc a ≠ []
  | [], k, acc => by rw [TL.spl_nil]; simp
  | c :: a, 0, acc => by
    cases h : TL.pre b (c :: a) with
    | true => rw [TL.spl_hit h]; simp
    | false => rw [TL.spl_miss h]; exact spl_ne b a 0 _
  | c :: a, k + 1, acc => by
    show TL.spl b k acc a ≠ _
    exact spl_ne b a k acc
theorem split_str (hb : lineOk u = true) (hl : t.length + 2 ≤ LINE) : splitD false (.str t) [.str u] R = some (.lst ((splitN t u).map .str), R) := by
  show (if lineOk u = true ∧ t.length + 2 ≤ LINE then mkL false ((splitN t u).map D.str) R else none) = _
  rw [if_pos ⟨hb, hl⟩, mkL_old]
  rw [List.length_map]
  have := spl_len u t 0 []
  show (TL.spl u 0 [] t).length ≤ _
  omega
@[simp] theorem mulx_int {m : Bool} : mulX m (.int i) (.int j) R = mulD m (.int i) (.int j) R := rfl
theorem mulx_str {m : Bool} {k : Int} (h0 : 0 ≤ k) (h : k < 1000000) (hl : t.length * k.toNat ≤ LINE) : mulX m (.str t) (.int k) R = some (.str (List.replicate k.toNat t).flatten, R) := by
  have hc : -(2 ^ 63) ≤ k ∧ k < 2 ^ 63 ∧ t.length * k.toNat ≤ LINE := ⟨by omega, by omega, hl⟩
  unfold mulX
  simp only
  rw [if_pos hc]
@[simp] theorem isT2_str : isT 2 (.str t) R = true := rfl
theorem isT1_ref {ks : List (D × D)} (h : R[r]? = some (.dct ks)) : isT 1 (.ref r) R = true := by
  have e : dctOf R (.ref r) = some ks := by rw [dctOf_ref, h]
  show (dctOf R (.ref r)).isSome = true
  rw [e]
  rfl
theorem isT0_dct {ks : List (D × D)} (h : R[r]? = some (.dct ks)) : isT 0 (.ref r) R = false := by
  have e : lstOf R (.ref r) = none := by rw [lstOf_ref, h]
  show (lstOf R (.ref r)).isSome = false
  rw [e]
  rfl
@[simp] theorem isT0_str : isT 0 (.str t) R = false := rfl
@[simp] theorem isT1_str : isT 1 (.str t) R = false := rfl
@[simp] theorem p_len_str (h : t.length ≤ LINE) : lenD [.str t] R = some (.int t.length, R) := by
  show (if t.length ≤ LINE then some (D.int t.length, R) else none) = _
  rw [if_pos h]
@[simp] theorem p_add_str {m : Bool} (h : t.length + u.length ≤ LINE) : addD m (.str t) (.str u) R = some (.str (t ++ u), R) := by
  show (if t.length + u.length ≤ LINE then some (D.str (t ++ u), R) else none) = _
  rw [if_pos h]
/-- a dict while it is walked -/
theorem a_lock {md cc : SE} {ks : List (D × D)} {R1 : Rg} (h : md s R = .ok (.ref r) R1) (hr : R[r]? = some (.dct ks)) : cLock md cc s R = match cc s (R.set r (.dctL ks)) with
    | .ok d R1 => (match unLk r R1 with
      | some R2 => .ok d R2
      | none => .err)
    | _ => .err := by
  have e : lkAt md s R = some (r, ks) := by
    unfold lkAt
    rw [h]
    show (match R[r]? with
    | some (.dct ks) => some (r, ks)
    | _ => none) = _
    rw [hr]
  unfold cLock
  rw [e]
  try rfl
@[simp] theorem finM_f {live : Bool} {o : Out} : finM false live R o = fin live R o := if_neg (by decide)
@[simp] theorem finM_t {live : Bool} {o : Out} : finM true live R o = finA o := if_pos rfl
theorem wp_finA {P : D → Rg → Prop} (h : wpS (m s R) (fun _ R1 => P .non R1) (.mk P (fun _ _ => False) (fun _ _ => False) (fun c f _ R1 => E c f R1))) : wpR (finA (m s R)) P E := by
  cases e : m s R with
  | nx s1 R1 => rw [e] at h; exact ⟨h.run⟩
  | rt d R1 => rw [e] at h; exact ⟨h.run⟩
  | exc c f s1 R1 => rw [e] at h; exact ⟨h.run⟩
  | bk s1 R1 => rw [e] at h; exact h.run.elim
  | ct s1 R1 => rw [e] at h; exact h.run.elim
  | err => rw [e] at h; exact h.run.elim
theorem getd_ref {B : Type} {f : B → D} {es : List (Nat × B)} {q : Nat} (hr : R[r]? = some (.dct (dctN f es))) : Om.getD (.ref r) [.int (q : Int), y] R = some (((lookN es q).map f).getD y, R) := by
  have e : dctOf R (.ref r) = some (dctN f es) := by rw [dctOf_ref, hr]
  show (match dctOf R (.ref r), [D.int (q : Int), y] with
    | some ks, [k] => if keyOk k = true then some ((lookD ks k).getD .non, R) else none
    | some ks, [k, d] => if keyOk k = true then some ((lookD ks k).getD d, R) else none
    | _, _ => none) = _
  rw [e]
  show (if keyOk (.int (q : Int)) = true then some ((lookD (dctN f es) (.int (q : Int))).getD y, R) else none) = _
  rw [if_pos (show keyOk (.int (q : Int)) = true from rfl), look_map]
def delN {B : Type} (es : List (Nat × B)) (q : Nat) : List (Nat × B) := es.filter fun e => !decide (e.1 = q)
end
end Om
/-! Om, part Yb: dicts by whole numbers: walked, made anew, taken from. -/
namespace Om
open PySem PySem.Spec PyProof.Rows L2 RZ
section
variable {A Z : Type} {a b c : SE} {k l : SB} {m n : SS} {es : SA} {s : List D} {R R' : Rg} {x y z : D} {xs ys : List D} {i j : Int} {P : A → Rg → Prop} {E : Nat → D → Rg → Prop} {Q : D → Rg → Prop} {N : List D → Rg → Prop} {p : Po} {t u : List Nat} {r : Nat} {neg : Bool}
@[simp] theorem a_bind_exc {A : Type} {c : Nat} {f : D} {g : A → Rg → Out} : sBind (.exc c f R : Res A) s g = .exc c f s R := rfl
@[simp] theorem a_raise1 {c : Nat} : sRaise1 c a s R = sBind (a s R) s fun d R1 => .exc c d s R1 := rfl
@[simp] theorem a_raise0 {c : Nat} : sRaise0 c s R = .exc c .undef s R := rfl
@[simp] theorem isd_non : isD neg .non .non R = some (.bl (true != neg), R) := by
  show some (D.bl (decide (D.non = .non) != neg), R) = _
  rw [decide_eq_true rfl]
@[simp] theorem isd_tup : isD neg (.tup xs) .non R = some (.bl (false != neg), R) := by
  show some (D.bl (decide (D.tup xs = .non) != neg), R) = _
  rw [decide_eq_false (by simp)]
@[simp] theorem isd_int : isD neg (.int i) .non R = some (.bl (false != neg), R) := by
  show some (D.bl (decide (D.int i = .non) != neg), R) = _
  rw [decide_eq_false (by simp)]
@[simp] theorem isd_lst : isD neg (.lst xs) .non R = some (.bl (false != neg), R) := by
  show some (D.bl (decide (D.lst xs = .non) != neg), R) = _
  rw [decide_eq_false (by simp)]
@[simp] theorem a_gt2 {i j : Nat} : gT 2 (gC (gVar i) (gC (gVar j) gN)) (.tup [x, y]) s R = .ok ((s.set i x).set j y) R := rfl
@[simp] theorem a_gt3 {i j k : Nat} : gT 3 (gC (gVar i) (gC (gVar j) (gC (gVar k) gN))) (.tup [x, y, z]) s R = .ok (((s.set i x).set j y).set k z) R := rfl
@[simp] theorem a_got2 {i j : Nat} : sGo (gT 2 (gC (gVar i) (gC (gVar j) gN))) (.tup [x, y]) s R = .nx ((s.set i x).set j y) R := rfl
@[simp] theorem a_got3 {i j k : Nat} : sGo (gT 3 (gC (gVar i) (gC (gVar j) (gC (gVar k) gN)))) (.tup [x, y, z]) s R = .nx (((s.set i x).set j y).set k z) R := rfl
theorem compK_map {B : Type} {g : SG} {t : SB} {ek ev : SE} {s0 : List D} {f : B → D} {wk : B → Nat} {wv : B → D} {p : B → Bool} : ∀ (as : List B) (pre : List D) (acc : List (D × D)) (n : Nat),
    (∀ a ∈ as, ∃ s1, g (f a) s0 R = .ok s1 R ∧ t s1 R = .ok (p a) R ∧ (p a = true → ek s1 R = .ok (.int (wk a : Int)) R ∧ ev s1 R = .ok (wv a) R)) → acc.length + as.length ≤ LINE → as.length ≤ n →
    compK g t ek ev (fixS (pre ++ as.map f)) s0 n pre.length acc R = some ((as.filter p).foldl (fun acc a => setK acc (.int (wk a : Int)) (wv a)) acc, R)
  | [], pre, acc, n, _, _, _ => by
    have e : (fixS (pre ++ ([] : List B).map f)) R pre.length = some none := by
      show some ((pre ++ [])[pre.length]?) = _
      simp
    cases n with
    | zero => rw [compK, e]; rfl
    | succ n => rw [compK, e]; rfl
  | a :: as, pre, acc, 0, _, _, hn => absurd hn (by simp)
  | a :: as, pre, acc, n + 1, h, hl, hn => by
    obtain ⟨s1, h1, h2, h3⟩ := h a List.mem_cons_self
    have e : (fixS (pre ++ (a :: as).map f)) R pre.length = some (some (f a)) := by
      show some ((pre ++ _)[pre.length]?) = _
      simp
    have hl' : acc.length + (as.length + 1) ≤ LINE := hl
    have e2 : pre ++ (a :: as).map f = (pre ++ [f a]) ++ as.map f := by simp
    have ih := fun acc hh => compK_map (g := g) (t := t) (ek := ek) (ev := ev) (s0 := s0) (f := f) (wk := wk) (wv := wv) (p := p) as (pre ++ [f a]) acc n (fun b hb => h b (List.mem_cons_of_mem _ hb)) hh (by simpa using hn)
    rw [compK, e]
    simp only [h1, h2]
    cases hp : p a with
    | false =>
      rw [if_neg (by decide)]
      have := ih acc (by omega)
      rw [List.length_append, ← e2] at this
      rw [show pre.length + 1 = pre.length + [f a].length from rfl, this, List.filter_cons, hp]
      rfl
    | true =>
      rw [if_pos rfl]
      obtain ⟨h4, h5⟩ := h3 hp
      simp only [h4, h5]
      rw [if_pos ⟨rfl, by omega⟩]
      have hk : (setK acc (.int (wk a : Int)) (wv a)).length ≤ acc.length + 1 := by
        have : ∀ (acc : List (D × D)) (q v : D), (setK acc q v).length ≤ acc.length + 1 := by
          intro acc q v
          induction acc with
          | nil => exact Nat.le_refl _
          | cons p acc ih =>
            unfold setK
            split <;> simp
            omega
        exact this _ _ _
      have := ih (setK acc (.int (wk a : Int)) (wv a)) (by omega)
      rw [List.length_append, ← e2] at this
      rw [show pre.length + 1 = pre.length + [f a].length from rfl, this, List.filter_cons, hp]
      rfl
theorem putN_new {B : Type} : ∀ (es : List (Nat × B)) (q : Nat) (v : B), q ∉ es.map (·.1) → putN es q v = es ++ [(q, v)]
  | [], _, _, _ => rfl
  | e :: es, q, v, h => by
    unfold putN
    rw [List.map_cons, List.mem_cons] at h
    rw [if_neg (fun z => h (.inl z.symm)), putN_new es q v fun z => h (.inr z)]
    rfl
theorem fold_set {B : Type} (f : B → D) : ∀ (as acc : List (Nat × B)), ((acc ++ as).map (·.1)).Nodup → as.foldl (fun acc a => setK acc (.int (a.1 : Int)) (f a.2)) (dctN f acc) = dctN f (acc ++ as)
  | [], acc, _ => by simp
  | a :: as, acc, h => by
    rw [List.foldl_cons, put_map]
    have hq : a.1 ∉ acc.map (·.1) := by
      rw [List.map_append, List.map_cons, List.nodup_append] at h
      intro z
      exact h.2.2 _ z _ List.mem_cons_self rfl
    rw [putN_new _ _ _ hq, fold_set f as (acc ++ [(a.1, a.2)]) (by simpa using h)]
    simp
theorem lookN_mem {B : Type} : ∀ {es : List (Nat × B)} {e : Nat × B}, (es.map (·.1)).Nodup → e ∈ es → lookN es e.1 = some e.2
  | [], _, _, h => by cases h
  | e0 :: es, e, hn, h => by
    rw [List.map_cons, List.nodup_cons] at hn
    unfold lookN
    rcases List.mem_cons.mp h with e1 | e1
    · subst e1
      rw [if_pos rfl]
    · rw [if_neg fun z => hn.1 (by rw [z]; exact List.mem_map.mpr ⟨e, e1, rfl⟩), lookN_mem hn.2 e1]
theorem putN_keys {B : Type} : ∀ (es : List (Nat × B)) (q : Nat) (v : B), ((putN es q v).map (·.1)) = if q ∈ es.map (·.1) then es.map (·.1) else es.map (·.1) ++ [q]
  | [], _, _ => rfl
  | e :: es, q, v => by
    unfold putN
    by_cases h : e.1 = q
    · rw [if_pos h, List.map_cons, List.map_cons, if_pos (by rw [h]; exact List.mem_cons_self)]
    · rw [if_neg h, List.map_cons, putN_keys es q v, List.map_cons]
      by_cases h2 : q ∈ es.map (·.1)
      · rw [if_pos h2, if_pos (List.mem_cons_of_mem _ h2)]
      · rw [if_neg h2, if_neg]
        · rfl
        · intro z
          rcases List.mem_cons.mp z with z | z
          · exact h z.symm
          · exact h2 z
theorem putN_nodup {B : Type} {es : List (Nat × B)} {q : Nat} {v : B} (h : (es.map (·.1)).Nodup) : ((putN es q v).map (·.1)).Nodup := by
  rw [putN_keys]
  split
  · exact h
  · rename_i h2
    rw [List.nodup_append]
    refine ⟨h, by simp, fun a ha b hb z => ?_⟩
    rw [List.mem_singleton] at hb
    subst hb
    subst z
    exact h2 ha
theorem putN_length {B : Type} (es : List (Nat × B)) (q : Nat) (v : B) : (putN es q v).length ≤ es.length + 1 := by
  have := congrArg List.length (putN_keys es q v)
  rw [List.length_map] at this
  rw [this]
  split <;> simp
theorem filter_nodup {B : Type} {es : List (Nat × B)} (q : Nat × B → Bool) (h : (es.map (·.1)).Nodup) : ((es.filter q).map (·.1)).Nodup := h.sublist (List.Sublist.map _ List.filter_sublist)
theorem del_map {B : Type} (f : B → D) (es : List (Nat × B)) (q : Nat) : delK (dctN f es) (.int (q : Int)) = dctN f (delN es q) := by
  unfold delK dctN delN
  rw [List.filter_map]
  congr 1
  apply List.filter_congr
  intro e _
  show decide (D.int (e.1 : Int) ≠ .int (q : Int)) = !decide (e.1 = q)
  by_cases h : e.1 = q
  · rw [h]; simp
  · have h1 : D.int (e.1 : Int) ≠ .int (q : Int) := fun z => h (by have := D.int.inj z; omega)
    rw [decide_eq_true h1, decide_eq_false h]; rfl
theorem dpop_ref {B : Type} {f : B → D} {es : List (Nat × B)} {q : Nat} {v : B} (hr : R[r]? = some (.dct (dctN f es))) (h : lookN es q = some v) : dpopD (.ref r) [.int (q : Int)] R = some (f v, R.set r (.dct (dctN f (delN es q)))) := by
  show (match R[r]? with
    | some (.dct ks) => if keyOk (.int (q : Int)) = true then (lookD ks (.int (q : Int))).map fun v => (v, R.set r (.dct (delK ks (.int (q : Int))))) else none
    | _ => none) = _
  rw [hr]
  show (if keyOk (.int (q : Int)) = true then (lookD (dctN f es) (.int (q : Int))).map fun v => (v, R.set r (.dct (delK (dctN f es) (.int (q : Int))))) else none) = _
  rw [if_pos (show keyOk (.int (q : Int)) = true from rfl), look_map, h, del_map]
  rfl
theorem setF_ref {ca : CaT} {n c r : Nat} {fs : List (Nat × D)} (hr : R[r]? = some (.ins c fs)) (hk : okAt ca c n = true) (hl : fs.length < 1000) : setF ca n (.ref r) x R = some (R.set r (.ins c (putFD fs n x))) := by
  unfold setF
  simp only [hr]
  rw [if_pos ⟨hk, hl⟩]
theorem unLk_ref {ks : List (D × D)} (h : R[r]? = some (.dctL ks)) : unLk r R = some (R.set r (.dct ks)) := by
  unfold unLk
  rw [h]
/-- {k: v for .. in d.items() if ..} -/
theorem a_dcomp {B : Type} {it : SI} {g : SG} {t : SB} {ek ev : SE} {vs : List Nat} {mm : Bool} {as : List B} {f : B → D} {wk : B → Nat} {wv : B → D} {q : B → Bool} {R1 : Rg} (hi : it s R = .ok (fixS (as.map f)) R1) (hl : as.length ≤ LINE)
    (h : ∀ a ∈ as, ∃ s1, g (f a) (wipeD s vs) R1 = .ok s1 R1 ∧ t s1 R1 = .ok (q a) R1 ∧ (q a = true → ek s1 R1 = .ok (.int (wk a : Int)) R1 ∧ ev s1 R1 = .ok (wv a) R1)) :
    cDComp it g t ek ev vs mm s R = lift (mkK mm ((as.filter q).foldl (fun acc a => setK acc (.int (wk a : Int)) (wv a)) []) R1) := by
  have lf := line_fuel
  have e := compK_map (R := R1) as [] [] FUEL h (by simpa using hl) (by omega)
  unfold cDComp
  rw [hi, Res.bind_ok]
  rw [List.nil_append, List.length_nil] at e
  rw [e]
  rfl
theorem pairs_dct {B : Type} (f : B → D) : ∀ es : List (Nat × B), pairsD (es.map fun e => .tup [.int (e.1 : Int), f e.2]) = some (dctN f es)
  | [] => rfl
  | e :: es => by
    show (if keyOk (.int (e.1 : Int)) = true then (pairsD (es.map fun e => .tup [.int (e.1 : Int), f e.2])).map ((D.int (e.1 : Int), f e.2) :: ·) else none) = _
    rw [if_pos (show keyOk (.int (e.1 : Int)) = true from rfl), pairs_dct f es]
    rfl
theorem merge_dct {B : Type} (f : B → D) (es : List (Nat × B)) (h : (es.map (·.1)).Nodup) : mergeD [] (dctN f es) = dctN f es := by
  have := fold_set f es [] (by simpa using h)
  rw [List.nil_append] at this
  rw [show mergeD [] (dctN f es) = (dctN f es).foldl (fun acc p => setK acc p.1 p.2) [] from rfl]
  rw [show (dctN f es).foldl (fun acc p => setK acc p.1 p.2) [] = es.foldl (fun acc a => setK acc (.int (a.1 : Int)) (f a.2)) [] from by unfold dctN; rw [List.foldl_map]]
  exact this
theorem dict_pairs {B : Type} {f : B → D} {mm : Bool} (es : List (Nat × B)) (h : (es.map (·.1)).Nodup) : dictD mm [.lst (es.map fun e : Nat × B => .tup [.int (e.1 : Int), f e.2])] R = mkK mm (dctN f es) R := by
  show (match dctOf R (.lst (es.map fun e : Nat × B => .tup [.int (e.1 : Int), f e.2])) with
    | some ks => mkK mm ks R
    | none => match (lstOf R (.lst (es.map fun e : Nat × B => .tup [.int (e.1 : Int), f e.2]))).bind pairsD with
      | some ps => mkK mm (mergeD [] ps) R
      | none => none) = _
  show (match (some (es.map fun e : Nat × B => D.tup [.int (e.1 : Int), f e.2])).bind pairsD with
      | some ps => mkK mm (mergeD [] ps) R
      | none => none) = _
  rw [Option.bind_some, pairs_dct]
  show mkK mm (mergeD [] (dctN f es)) R = _
  rw [merge_dct f es h]
theorem in_ref {r : Nat} {ys : List D} (h : R[r]? = some (.lst ys)) (h1 : pureD x = true) (h2 : pureDs ys = true) (h3 : eqOk 12 x = true) (h4 : eqOk 12 (.lst ys) = true) : inD neg x (.ref r) R = some (.bl (decide (x ∈ ys) != neg), R) := by
  have e1 : dctOf R (.ref r) = none := by rw [dctOf_ref, h]
  unfold inD
  rw [e1, snap_pure h1, snap_ref h h2]
  exact if_pos ⟨h3, h4⟩
theorem ixd_refL {B : Type} {f : B → D} {es : List (Nat × B)} {q r : Nat} {v : B} (hr : R[r]? = some (.dctL (dctN f es))) (h : lookN es q = some v) : ixD (.ref r) (.int (q : Int)) R = some (f v, R) := by
  have e1 : dctOf R (.ref r) = some (dctN f es) := by rw [dctOf_ref, hr]
  show (match dctOf R (.ref r) with
    | some ks => if keyOk (.int (q : Int)) = true then (lookD ks (.int (q : Int))).map fun d => (d, R) else none
    | none => match seqOf R (.ref r), D.int (q : Int) with
      | some xs, .int i => (atI xs i).map fun d => (d, R)
      | _, _ => none) = _
  rw [e1]
  show (if keyOk (.int (q : Int)) = true then (lookD (dctN f es) (.int (q : Int))).map fun d => (d, R) else none) = _
  rw [if_pos (show keyOk (.int (q : Int)) = true from rfl), look_map, h]
  rfl
theorem mkK_new {ks : List (D × D)} (h : ks.length ≤ LINE) : mkK true ks R = some (.ref R.length, R ++ [.dct ks]) := by
  unfold mkK
  rw [if_pos h, if_pos rfl]
theorem take_app {T : Rg} (h : R'.length ≤ R.length) (e : R.take R'.length = R') : (R ++ T).take R'.length = R' := by
  rw [List.take_append_of_le_length h]
  exact e
theorem take_setN {i : Nat} {o : O} (h : R'.length ≤ i) (e : R.take R'.length = R') : (R.set i o).take R'.length = R' := by
  rw [List.take_set_of_le h]
  exact e
theorem a_star2 {i j : Nat} (h : xs.length ≤ LINE) : sGo (gStar 2 0 (gC (gVar i) (gC (gVar j) gN)) false) (.lst (xs ++ [z])) s R = .nx ((s.set i (.lst xs)).set j z) R := by
  have e : gStar 2 0 (gC (gVar i) (gC (gVar j) gN)) false (.lst (xs ++ [z])) s R = .ok ((s.set i (.lst xs)).set j z) R := by
    show (if 0 < 2 ∧ 2 ≤ (xs ++ [z]).length + 1 then (match mkL false (((xs ++ [z]).drop 0).take ((xs ++ [z]).length + 1 - 2)) R with
      | some (y, R1) => (gC (gVar i) (gC (gVar j) gN)) ((xs ++ [z]).take 0 ++ [y] ++ ((xs ++ [z]).drop 0).drop ((xs ++ [z]).length + 1 - 2)) s R1
      | none => .err) else .err : Res (List D)) = _
    rw [if_pos ⟨by omega, by simp⟩]
    have e1 : ((xs ++ [z]).drop 0).take ((xs ++ [z]).length + 1 - 2) = xs := by simp
    have e2 : ((xs ++ [z]).drop 0).drop ((xs ++ [z]).length + 1 - 2) = [z] := by simp
    rw [e1, e2, mkL_old h]
    rfl
  unfold sGo
  rw [e]
theorem cut_m1 : cutD (xs ++ [z]) none (some (-1)) = xs := by
  unfold cutD HT.sIx
  simp
  rw [show (-1 + ((xs.length : Int) + 1)).toNat = xs.length by omega]
  simp
theorem frame_take {n : Nat} (h : ∀ i, i < n → R'[i]? = R[i]?) : R'.take n = R.take n := by
  apply List.ext_getElem?
  intro i
  rw [List.getElem?_take, List.getElem?_take]
  by_cases hi : i < n
  · rw [if_pos hi, if_pos hi, h i hi]
  · rw [if_neg hi, if_neg hi]
theorem wp_finX {P : D → Rg → Prop} (h : wpS (m s R) (fun _ R1 => R1.take R.length = R ∧ P .non R) (.mk (fun d R1 => ∃ d', frzN R.length R1.length R1 FZ d = some d' ∧ R1.take R.length = R ∧ P d' R) (fun _ _ => False) (fun _ _ => False)
    (fun c f _ R1 => f ≠ .undef ∧ pureD f = true ∧ R1.take R.length = R ∧ E c f R))) : wpR (fin false R (m s R)) P E := by
  cases e : m s R with
  | nx s1 R1 =>
    rw [e] at h
    obtain ⟨h1, h2⟩ := h.run
    show wpR (match keepR R.length R1.length R R1 with
      | some R1 => .ok .non R1
      | none => .err : Res D) P E
    rw [keep_take h1]
    exact ⟨h2⟩
  | rt d R1 =>
    rw [e] at h
    obtain ⟨d', h0, h1, h2⟩ := h.run
    have e2 : fin false R (.rt d R1) = (match frzN R.length R1.length R1 FZ d, keepR R.length R1.length R R1 with
      | some d', some R1 => .ok d' R1
      | _, _ => .err : Res D) := by cases d <;> rfl
    rw [e2, h0, keep_take h1]
    exact ⟨h2⟩
  | exc c f s1 R1 =>
    rw [e] at h
    obtain ⟨h0, h00, h1, h2⟩ := h.run
    show wpR (match (if f = .undef then some f else frzN R.length R1.length R1 FZ f), keepR R.length R1.length R R1 with
      | some f', some R1 => .exc c f' R1
      | _, _ => .err : Res D) P E
    rw [if_neg h0, frz_pure h00, keep_take h1]
    exact ⟨h2⟩
  | bk s1 R1 => rw [e] at h; exact h.run.elim
  | ct s1 R1 => rw [e] at h; exact h.run.elim
  | err => rw [e] at h; exact h.run.elim
theorem a_meto {l : List (Nat × SF × List D)} {mm : Str} {r c : Nat} {fs : List (Nat × D)} {F : SF} {dfl : List D} {R1 : Rg} (h : a s R = .ok (.ref r) R1) (hr : R1[r]? = some (.ins c fs)) (hf : (l.find? fun p => decide (p.1 = c)) = some (c, F, dfl)) (hn : noFld mm fs = true) : eMetO l mm a es s R = (es s R1).bind fun ds R2 => F (.ref r :: (ds ++ dfl)) R2 := by
  unfold eMetO
  rw [h, Res.bind_ok, ins_ref hr]
  simp only [hf]
  rw [if_pos hn]
end
end Om
namespace Lw
open PySem PySem.Spec PyProof.Rows L2 RZ Om
def top (i : Nat) : Stmt := PySem.Challenge.pw_onememory_k35_whole_bytes.main.body.getD i (.Pass ⟨0, 0, 0, 0⟩)
def d_is_number : He.DefD := ⟨("is_number", none), "is_number", "is_number", defArgs (top 11), defBody (top 11), defScope (top 11), [], []⟩
def f_is_number : Fi := ⟨"is_number", "is_number", ["thing", "least", "most"], ["thing", "least", "most"], [], false, false, false, defBody (top 11), defScope (top 11), fun _ => false, fun _ => false⟩
def d_is_event : He.DefD := ⟨("is_event", none), "is_event", "is_event", defArgs (top 12), defBody (top 12), defScope (top 12), [], []⟩
def f_is_event : Fi := ⟨"is_event", "is_event", ["thing"], ["thing"], [], false, false, false, defBody (top 12), defScope (top 12), fun _ => false, fun _ => false⟩
def d_Locks___init__ : He.DefD := ⟨("Locks", some "__init__"), "__init__", "Locks.__init__", defArgs (inClass (top 13) 0), defBody (inClass (top 13) 0), defScope (inClass (top 13) 0), [], []⟩
def f_Locks___init__ : Fi := ⟨"Locks.__init__", "Locks.__init__", ["self"], ["self"], [], false, true, true, defBody (inClass (top 13) 0), defScope (inClass (top 13) 0), fun p => decide (p ∈ ([⟨34, 23, 34, 25⟩, ⟨35, 20, 35, 22⟩] : List Pos)), fun _ => false⟩
def d_Locks_comes : He.DefD := ⟨("Locks", some "comes"), "comes", "Locks.comes", defArgs (inClass (top 13) 1), defBody (inClass (top 13) 1), defScope (inClass (top 13) 1), [], []⟩
def f_Locks_comes : Fi := ⟨"Locks.comes", "Locks.comes", ["self", "event"], ["self", "event", "word", "thread", "lock", "holder"], [], false, true, false, defBody (inClass (top 13) 1), defScope (inClass (top 13) 1), fun p => decide (p ∈ ([⟨51, 27, 51, 102⟩] : List Pos)), fun p => decide (p ∈ ([⟨51, 27, 51, 102⟩] : List Pos))⟩
def d_check_history : He.DefD := ⟨("check_history", none), "check_history", "check_history", defArgs (top 14), defBody (top 14), defScope (top 14), [.int (200)], []⟩
def f_check_history : Fi := ⟨"check_history", "check_history", ["thing", "most"], ["thing", "most", "locks", "at", "event"], [.int (200)], false, false, false, defBody (top 14), defScope (top 14), fun _ => false, fun _ => false⟩
def d_packed : He.DefD := ⟨("packed", none), "packed", "packed", defArgs (top 19), defBody (top 19), defScope (top 19), [], []⟩
def f_packed : Fi := ⟨"packed", "packed", ["history"], ["history", "found", "event"], [], false, false, false, defBody (top 19), defScope (top 19), fun p => decide (p ∈ ([⟨66, 12, 66, 14⟩, ⟨69, 21, 69, 36⟩] : List Pos)), fun _ => false⟩
def d_Bytes___init__ : He.DefD := ⟨("Bytes", some "__init__"), "__init__", "Bytes.__init__", defArgs (inClass (top 20) 0), defBody (inClass (top 20) 0), defScope (inClass (top 20) 0), [], []⟩
def f_Bytes___init__ : Fi := ⟨"Bytes.__init__", "Bytes.__init__", ["self", "data"], ["self", "data"], [], false, true, true, defBody (inClass (top 20) 0), defScope (inClass (top 20) 0), fun _ => false, fun _ => false⟩
def d_Bytes_take : He.DefD := ⟨("Bytes", some "take"), "take", "Bytes.take", defArgs (inClass (top 20) 1), defBody (inClass (top 20) 1), defScope (inClass (top 20) 1), [], []⟩
def f_Bytes_take : Fi := ⟨"Bytes.take", "Bytes.take", ["self", "many"], ["self", "many"], [], false, true, false, defBody (inClass (top 20) 1), defScope (inClass (top 20) 1), fun _ => false, fun _ => false⟩
def d_Bytes_event_taken : He.DefD := ⟨("Bytes", some "event_taken"), "event_taken", "Bytes.event_taken", defArgs (inClass (top 20) 2), defBody (inClass (top 20) 2), defScope (inClass (top 20) 2), [], []⟩
def f_Bytes_event_taken : Fi := ⟨"Bytes.event_taken", "Bytes.event_taken", ["self"], ["self", "whole", "word", "thread", "cell"], [], false, true, false, defBody (inClass (top 20) 2), defScope (inClass (top 20) 2), fun _ => false, fun _ => false⟩
def d_unpacked : He.DefD := ⟨("unpacked", none), "unpacked", "unpacked", defArgs (top 21), defBody (top 21), defScope (top 21), [], []⟩
def f_unpacked : Fi := ⟨"unpacked", "unpacked", ["data"], ["data", "reader", "locks", "found", "begin", "event"], [], false, false, false, defBody (top 21), defScope (top 21), fun p => decide (p ∈ ([⟨95, 50, 95, 52⟩] : List Pos)), fun _ => false⟩
def d_hexed : He.DefD := ⟨("hexed", none), "hexed", "hexed", defArgs (top 22), defBody (top 22), defScope (top 22), [], []⟩
def f_hexed : Fi := ⟨"hexed", "hexed", ["history"], ["history"], [], false, false, false, defBody (top 22), defScope (top 22), fun _ => false, fun _ => false⟩
def d_of_hex : He.DefD := ⟨("of_hex", none), "of_hex", "of_hex", defArgs (top 23), defBody (top 23), defScope (top 23), [], []⟩
def f_of_hex : Fi := ⟨"of_hex", "of_hex", ["text"], ["text", "sign"], [], false, false, false, defBody (top 23), defScope (top 23), fun _ => false, fun _ => false⟩
def d__law_cell_at : He.DefD := ⟨("_law_cell_at", none), "_law_cell_at", "_law_cell_at", defArgs (top 25), defBody (top 25), defScope (top 25), [], []⟩
def f__law_cell_at : Fi := ⟨"_law_cell_at", "_law_cell_at", ["_law_script", "_law_k"], ["_law_script", "_law_k"], [], false, false, false, defBody (top 25), defScope (top 25), fun _ => false, fun _ => false⟩
def d__law_numbers : He.DefD := ⟨("_law_numbers", none), "_law_numbers", "_law_numbers", defArgs (top 26), defBody (top 26), defScope (top 26), [], []⟩
def f__law_numbers : Fi := ⟨"_law_numbers", "_law_numbers", ["_law_cell", "_law_limits"], ["_law_cell", "_law_limits", "_law_rest", "_law_found"], [], false, false, false, defBody (top 26), defScope (top 26), fun p => decide (p ∈ ([⟨120, 17, 120, 19⟩] : List Pos)), fun _ => false⟩
def d__law_by : He.DefD := ⟨("_law_by", none), "_law_by", "_law_by", defArgs (top 27), defBody (top 27), defScope (top 27), [], []⟩
def f__law_by : Fi := ⟨"_law_by", "_law_by", ["_law_draws_here", "_law_many"], ["_law_draws_here", "_law_many"], [], false, false, false, defBody (top 27), defScope (top 27), fun _ => false, fun _ => false⟩
def d__law_draws : He.DefD := ⟨("_law_draws", none), "_law_draws", "_law_draws", defArgs (top 28), defBody (top 28), defScope (top 28), [], []⟩
def f__law_draws : Fi := ⟨"_law_draws", "_law_draws", ["_law_script", "_law_at", "_law_many"], ["_law_script", "_law_at", "_law_many", "_law_found", "_law_k"], [], true, false, false, defBody (top 28), defScope (top 28), fun p => decide (p ∈ ([⟨128, 17, 128, 19⟩, ⟨130, 21, 130, 123⟩] : List Pos)), fun _ => false⟩
def d__law_history : He.DefD := ⟨("_law_history", none), "_law_history", "_law_history", defArgs (top 29), defBody (top 29), defScope (top 29), [], []⟩
def f__law_history : Fi := ⟨"_law_history", "_law_history", ["_law_draws_here", "_law_many"], ["_law_draws_here", "_law_many", "_law_turn", "_law_found", "_law_holders", "_law_lost", "_law_thread", "_law_kind", "_law_lock", "_law_cell", "_law_one"], [], false, false, false, defBody (top 29), defScope (top 29), fun p => decide (p ∈ ([⟨133, 43, 133, 45⟩, ⟨133, 47, 133, 49⟩, ⟨133, 51, 133, 53⟩, ⟨146, 27, 146, 139⟩] : List Pos)), fun p => decide (p ∈ ([⟨146, 32, 146, 138⟩] : List Pos))⟩
def d__law_can_be : He.DefD := ⟨("_law_can_be", none), "_law_can_be", "_law_can_be", defArgs (top 30), defBody (top 30), defScope (top 30), [], []⟩
def f__law_can_be : Fi := ⟨"_law_can_be", "_law_can_be", ["_law_history_here"], ["_law_history_here", "_law_holders", "_law_lost", "_law_at", "_law_event", "_law_word", "_law_thread", "_law_one"], [], false, false, false, defBody (top 30), defScope (top 30), fun p => decide (p ∈ ([⟨155, 31, 155, 33⟩, ⟨155, 35, 155, 37⟩, ⟨168, 27, 168, 139⟩] : List Pos)), fun p => decide (p ∈ ([⟨168, 32, 168, 138⟩] : List Pos))⟩
def d__law_hexed : He.DefD := ⟨("_law_hexed", none), "_law_hexed", "_law_hexed", defArgs (top 31), defBody (top 31), defScope (top 31), [], []⟩
def f__law_hexed : Fi := ⟨"_law_hexed", "_law_hexed", ["_law_numbers_here"], ["_law_numbers_here", "_law_one"], [], false, false, false, defBody (top 31), defScope (top 31), fun _ => false, fun _ => false⟩
def d__law_numbers_of : He.DefD := ⟨("_law_numbers_of", none), "_law_numbers_of", "_law_numbers_of", defArgs (top 32), defBody (top 32), defScope (top 32), [], []⟩
def f__law_numbers_of : Fi := ⟨"_law_numbers_of", "_law_numbers_of", ["_law_history_here"], ["_law_history_here", "_law_found", "_law_event"], [], false, false, false, defBody (top 32), defScope (top 32), fun p => decide (p ∈ ([⟨173, 17, 173, 19⟩, ⟨176, 21, 176, 54⟩] : List Pos)), fun _ => false⟩
def d__law_due : He.DefD := ⟨("_law_due", none), "_law_due", "_law_due", defArgs (top 33), defBody (top 33), defScope (top 33), [], []⟩
def f__law_due : Fi := ⟨"_law_due", "_law_due", ["_law_numbers_here"], ["_law_numbers_here", "_law_found", "_law_at", "_law_word", "_law_bounds", "_law_event", "_law_step", "_law_most"], [], false, false, false, defBody (top 33), defScope (top 33), fun _ => false, fun _ => false⟩
def d__law_judged : He.DefD := ⟨("_law_judged", none), "_law_judged", "_law_judged", defArgs (top 34), defBody (top 34), defScope (top 34), [], []⟩
def f__law_judged : Fi := ⟨"_law_judged", "_law_judged", ["_law_numbers_here"], ["_law_numbers_here", "_law_due_here", "error"], [], false, false, false, defBody (top 34), defScope (top 34), fun _ => false, fun _ => false⟩
def d__law_bent : He.DefD := ⟨("_law_bent", none), "_law_bent", "_law_bent", defArgs (top 35), defBody (top 35), defScope (top 35), [], []⟩
def f__law_bent : Fi := ⟨"_law_bent", "_law_bent", ["_law_cell", "_law_numbers_here"], ["_law_cell", "_law_numbers_here", "_law_at", "_law_byte"], [], false, false, false, defBody (top 35), defScope (top 35), fun _ => false, fun _ => false⟩
def d__law_all_right : He.DefD := ⟨("_law_all_right", none), "_law_all_right", "_law_all_right", defArgs (top 36), defBody (top 36), defScope (top 36), [], []⟩
def f__law_all_right : Fi := ⟨"_law_all_right", "_law_all_right", ["_law_script"], ["_law_script", "_law_k", "_law_odd", "_law_draws_here", "_law_history_here", "_law_numbers_here", "_law_turn", "error"], [], false, false, false, defBody (top 36), defScope (top 36), fun _ => false, fun _ => false⟩
def d_law : He.DefD := ⟨("law", none), "law", "law", defArgs (top 37), defBody (top 37), defScope (top 37), [], []⟩
def f_law : Fi := ⟨"law", "law", ["_law_script"], ["_law_script"], [], false, false, false, defBody (top 37), defScope (top 37), fun _ => false, fun _ => false⟩
def r_Locks : CRow := ⟨4, [3, 4], ["comes"], true, false⟩
def r_Bytes : CRow := ⟨14, [33, 34], ["take", "event_taken"], true, false⟩
def d_BadHistory___init__ : He.DefD := ⟨("BadHistory", some "__init__"), "__init__", "BadHistory.__init__", defArgs (inClass (top 2) 0), defBody (inClass (top 2) 0), defScope (inClass (top 2) 0), [], []⟩
def d_BadBytes___init__ : He.DefD := ⟨("BadBytes", some "__init__"), "__init__", "BadBytes.__init__", defArgs (inClass (top 3) 0), defBody (inClass (top 3) 0), defScope (inClass (top 3) 0), [], []⟩
def scl : Sc := ⟨[r_Locks, r_Bytes], [], ⟨[], []⟩, [("comes", 4, 2, []), ("take", 14, 2, []), ("event_taken", 14, 1, [])], ⟨[⟨1, true⟩, ⟨18, true⟩], [(1, 18, false), (18, 18, true), (1, 0, true), (18, 0, true)]⟩⟩
def fn : List He.DefD := ([d_is_number, d_is_event, d_Locks___init__, d_Locks_comes, d_check_history, d_packed, d_Bytes___init__, d_Bytes_take, d_Bytes_event_taken, d_unpacked, d_hexed, d_of_hex, d__law_cell_at, d__law_numbers, d__law_by, d__law_draws, d__law_history, d__law_can_be, d__law_hexed, d__law_numbers_of, d__law_due, d__law_judged, d__law_bent, d__law_all_right, d_law, d_BadHistory___init__, d_BadBytes___init__] : List He.DefD)
def t_SIZES : Tb := [([119, 114, 105, 116, 101], 4), ([114, 101, 97, 100], 4), ([116, 97, 107, 101], 3), ([102, 114, 101, 101], 3), ([103, 111, 110, 101], 2)]
def u_WORDS : List (List Nat) := [[119, 114, 105, 116, 101], [114, 101, 97, 100], [116, 97, 107, 101], [102, 114, 101, 101], [103, 111, 110, 101]]
def tks : List TbK := [("SIZES", ["write", "read", "take", "free", "gone"])]
def fa : List He.Fa := ([.glo "is_number", .glo "is_event", .glo "check_history", .glo "packed", .glo "unpacked", .glo "hexed", .glo "of_hex", .glo "_law_cell_at", .glo "_law_numbers", .glo "_law_by", .glo "_law_draws", .glo "_law_history", .glo "_law_can_be", .glo "_law_hexed", .glo "_law_numbers_of", .glo "_law_due", .glo "_law_judged", .glo "_law_bent", .glo "_law_all_right", .glo "law", .glo "Locks", .glo "Bytes", .glo "BadHistory", .glo "BadBytes", .glo "LendError", .int "THREADS" (6), .int "LOCKS" (3), .int "CELLS" (16), .int "VALUES" (100), .int "MOST_EVENTS" (200)] : List He.Fa) ++ ([.int "EIGHT" (8), .free "isinstance", .free "int", .free "bool", .free "tuple", .free "str", .free "len", .free "enumerate", .free "list", .free "bytes", .free "all", .free "range", .free "dict", .str "HEX" "0123456789abcdef", .glo "SIZES", .glo "WORDS"] : List He.Fa)
def T : List Fi := ([f_is_number, f_is_event, f_Locks___init__, f_Locks_comes, f_check_history, f_packed, f_Bytes___init__, f_Bytes_take, f_Bytes_event_taken, f_unpacked, f_hexed, f_of_hex, f__law_cell_at, f__law_numbers, f__law_by, f__law_draws, f__law_history, f__law_can_be, f__law_hexed, f__law_numbers_of, f__law_due, f__law_judged, f__law_bent, f__law_all_right, f_law] : List Fi)
def glob : List (Str × Gi) := ([("is_number", .fn 3 []), ("is_event", .fn 1 []), ("check_history", .fn 2 [.int (200)]), ("packed", .fn 1 []), ("unpacked", .fn 1 []), ("hexed", .fn 1 []), ("of_hex", .fn 1 []), ("_law_cell_at", .fn 2 []), ("_law_numbers", .fn 2 []), ("_law_by", .fn 2 []), ("_law_draws", .fn 3 []), ("_law_history", .fn 2 []), ("_law_can_be", .fn 1 []), ("_law_hexed", .fn 1 []), ("_law_numbers_of", .fn 1 []), ("_law_due", .fn 1 []), ("_law_judged", .fn 1 []), ("_law_bent", .fn 2 []), ("_law_all_right", .fn 1 []), ("law", .fn 1 []), ("Locks", .cls 4 0 []), ("Bytes", .cls 14 1 []), ("THREADS", .con (.int (6))), ("LOCKS", .con (.int (3))), ("CELLS", .con (.int (16))), ("VALUES", .con (.int (100))), ("MOST_EVENTS", .con (.int (200))), ("EIGHT", .con (.int (8))), ("isinstance", .blt), ("int", .blt)] : List (Str × Gi)) ++ ([("bool", .blt), ("tuple", .blt), ("str", .blt), ("len", .blt), ("enumerate", .blt), ("list", .blt), ("bytes", .blt), ("all", .blt), ("range", .blt), ("dict", .blt), ("HEX", .con (.str [48, 49, 50, 51, 52, 53, 54, 55, 56, 57, 97, 98, 99, 100, 101, 102])), ("SIZES", .kd t_SIZES), ("WORDS", .kt u_WORDS)] : List (Str × Gi))
end Lw
namespace Lw
open PySem PySem.Spec PyProof.Rows L2 RZ Om
section
variable {K : PySem.W.Frag} {mg : Str → Option Value} {h : Heap}
theorem s_is_number : FnScope f_is_number.N f_is_number.ps f_is_number.scope := ⟨rfl, rfl, rfl, by decide +kernel, rfl, by decide +kernel, by decide +kernel⟩
theorem e_is_number (c : He.SaysD fa fn K) : FiD K f_is_number (He.ga K "is_number") := by
  obtain ⟨fd, F⟩ := c.def_ 0 (d := d_is_number) rfl
  refine ⟨s_is_number, fd, _, _, _, _, F, fun m _ _ => ⟨[], [], fun _ _ _ => ?_, .nil, F.bindsN fun _ _ _ _ _ _ us hl => match us, hl with | [_, _, _], _ => rfl⟩⟩
  rw [show f_is_number.dfl = [] from rfl, List.drop_nil]
  exact .nil
theorem o_is_number (X : K.In h) (G : h.Ns mainGlobals mg) (c : He.SaysD fa fn K) : FiOk K mg f_is_number := ⟨by decide +kernel, _, e_is_number c, He.glo_ok X G (c.fact 0 (f := .glo "is_number") rfl)⟩
theorem s_is_event : FnScope f_is_event.N f_is_event.ps f_is_event.scope := ⟨rfl, rfl, rfl, by decide +kernel, rfl, by decide +kernel, by decide +kernel⟩
theorem e_is_event (c : He.SaysD fa fn K) : FiD K f_is_event (He.ga K "is_event") := by
  obtain ⟨fd, F⟩ := c.def_ 1 (d := d_is_event) rfl
  refine ⟨s_is_event, fd, _, _, _, _, F, fun m _ _ => ⟨[], [], fun _ _ _ => ?_, .nil, F.bindsN fun _ _ _ _ _ _ us hl => match us, hl with | [_], _ => rfl⟩⟩
  rw [show f_is_event.dfl = [] from rfl, List.drop_nil]
  exact .nil
theorem o_is_event (X : K.In h) (G : h.Ns mainGlobals mg) (c : He.SaysD fa fn K) : FiOk K mg f_is_event := ⟨by decide +kernel, _, e_is_event c, He.glo_ok X G (c.fact 1 (f := .glo "is_event") rfl)⟩
theorem s_Locks___init__ : FnScope f_Locks___init__.N f_Locks___init__.ps f_Locks___init__.scope := ⟨rfl, rfl, rfl, by decide +kernel, rfl, by decide +kernel, by decide +kernel⟩
theorem e_Locks___init__ (c : He.SaysD fa fn K) : FiD K f_Locks___init__ (mA K 4 "__init__") := by
  obtain ⟨fd, F⟩ := c.def_ 2 (d := d_Locks___init__) rfl
  refine ⟨s_Locks___init__, fd, _, _, _, _, F, fun m _ _ => ⟨[], [], fun _ _ _ => ?_, .nil, F.bindsN fun _ _ _ _ _ _ us hl => match us, hl with | [_], _ => rfl⟩⟩
  rw [show f_Locks___init__.dfl = [] from rfl, List.drop_nil]
  exact .nil
theorem s_Locks_comes : FnScope f_Locks_comes.N f_Locks_comes.ps f_Locks_comes.scope := ⟨rfl, rfl, rfl, by decide +kernel, rfl, by decide +kernel, by decide +kernel⟩
theorem e_Locks_comes (c : He.SaysD fa fn K) : FiD K f_Locks_comes (mA K 4 "comes") := by
  obtain ⟨fd, F⟩ := c.def_ 3 (d := d_Locks_comes) rfl
  refine ⟨s_Locks_comes, fd, _, _, _, _, F, fun m _ _ => ⟨[], [], fun _ _ _ => ?_, .nil, F.bindsN fun _ _ _ _ _ _ us hl => match us, hl with | [_, _], _ => rfl⟩⟩
  rw [show f_Locks_comes.dfl = [] from rfl, List.drop_nil]
  exact .nil
theorem s_check_history : FnScope f_check_history.N f_check_history.ps f_check_history.scope := ⟨rfl, rfl, rfl, by decide +kernel, rfl, by decide +kernel, by decide +kernel⟩
theorem e_check_history (c : He.SaysD fa fn K) : FiD K f_check_history (He.ga K "check_history") := by
  obtain ⟨fd, F⟩ := c.def_ 4 (d := d_check_history) rfl
  have F' : FunD K _ _ _ _ _ [V.int (200)] [] _ fd := F
  refine ⟨s_check_history, fd, _, _, _, _, F, fun m h1 h2 => ?_⟩
  have h1 : m ≤ 2 := h1
  have h2 : 2 ≤ m + 1 := h2
  have hm : m = 1 ∨ m = 2 := by omega
  rcases hm with hm | hm
  · subst hm
    obtain ⟨ds, hv, hb⟩ := F'.binds1 (ps := f_check_history.ps) 1 0 (by simp) rfl fun T kV doc pm an cdv ct us its hl hi => match us, its, hl, hi with | [_], [_], _, _ => ⟨_, rfl, rfl⟩
    exact ⟨_, ds, fun _ _ _ => .cons (.int (200)) .nil, hv, hb⟩
  · subst hm
    obtain ⟨ds, hv, hb⟩ := F'.binds1 (ps := f_check_history.ps) 2 1 (by simp) rfl fun T kV doc pm an cdv ct us its hl hi => match us, its, hl, hi with | [_, _], [_], _, _ => ⟨_, rfl, rfl⟩
    exact ⟨_, ds, fun _ _ _ => .nil, hv, hb⟩
theorem o_check_history (X : K.In h) (G : h.Ns mainGlobals mg) (c : He.SaysD fa fn K) : FiOk K mg f_check_history := ⟨by decide +kernel, _, e_check_history c, He.glo_ok X G (c.fact 2 (f := .glo "check_history") rfl)⟩
theorem s_packed : FnScope f_packed.N f_packed.ps f_packed.scope := ⟨rfl, rfl, rfl, by decide +kernel, rfl, by decide +kernel, by decide +kernel⟩
theorem e_packed (c : He.SaysD fa fn K) : FiD K f_packed (He.ga K "packed") := by
  obtain ⟨fd, F⟩ := c.def_ 5 (d := d_packed) rfl
  refine ⟨s_packed, fd, _, _, _, _, F, fun m _ _ => ⟨[], [], fun _ _ _ => ?_, .nil, F.bindsN fun _ _ _ _ _ _ us hl => match us, hl with | [_], _ => rfl⟩⟩
  rw [show f_packed.dfl = [] from rfl, List.drop_nil]
  exact .nil
theorem o_packed (X : K.In h) (G : h.Ns mainGlobals mg) (c : He.SaysD fa fn K) : FiOk K mg f_packed := ⟨by decide +kernel, _, e_packed c, He.glo_ok X G (c.fact 3 (f := .glo "packed") rfl)⟩
theorem s_Bytes___init__ : FnScope f_Bytes___init__.N f_Bytes___init__.ps f_Bytes___init__.scope := ⟨rfl, rfl, rfl, by decide +kernel, rfl, by decide +kernel, by decide +kernel⟩
theorem e_Bytes___init__ (c : He.SaysD fa fn K) : FiD K f_Bytes___init__ (mA K 14 "__init__") := by
  obtain ⟨fd, F⟩ := c.def_ 6 (d := d_Bytes___init__) rfl
  refine ⟨s_Bytes___init__, fd, _, _, _, _, F, fun m _ _ => ⟨[], [], fun _ _ _ => ?_, .nil, F.bindsN fun _ _ _ _ _ _ us hl => match us, hl with | [_, _], _ => rfl⟩⟩
  rw [show f_Bytes___init__.dfl = [] from rfl, List.drop_nil]
  exact .nil
theorem s_Bytes_take : FnScope f_Bytes_take.N f_Bytes_take.ps f_Bytes_take.scope := ⟨rfl, rfl, rfl, by decide +kernel, rfl, by decide +kernel, by decide +kernel⟩
theorem e_Bytes_take (c : He.SaysD fa fn K) : FiD K f_Bytes_take (mA K 14 "take") := by
  obtain ⟨fd, F⟩ := c.def_ 7 (d := d_Bytes_take) rfl
  refine ⟨s_Bytes_take, fd, _, _, _, _, F, fun m _ _ => ⟨[], [], fun _ _ _ => ?_, .nil, F.bindsN fun _ _ _ _ _ _ us hl => match us, hl with | [_, _], _ => rfl⟩⟩
  rw [show f_Bytes_take.dfl = [] from rfl, List.drop_nil]
  exact .nil
theorem s_Bytes_event_taken : FnScope f_Bytes_event_taken.N f_Bytes_event_taken.ps f_Bytes_event_taken.scope := ⟨rfl, rfl, rfl, by decide +kernel, rfl, by decide +kernel, by decide +kernel⟩
theorem e_Bytes_event_taken (c : He.SaysD fa fn K) : FiD K f_Bytes_event_taken (mA K 14 "event_taken") := by
  obtain ⟨fd, F⟩ := c.def_ 8 (d := d_Bytes_event_taken) rfl
  refine ⟨s_Bytes_event_taken, fd, _, _, _, _, F, fun m _ _ => ⟨[], [], fun _ _ _ => ?_, .nil, F.bindsN fun _ _ _ _ _ _ us hl => match us, hl with | [_], _ => rfl⟩⟩
  rw [show f_Bytes_event_taken.dfl = [] from rfl, List.drop_nil]
  exact .nil
theorem s_unpacked : FnScope f_unpacked.N f_unpacked.ps f_unpacked.scope := ⟨rfl, rfl, rfl, by decide +kernel, rfl, by decide +kernel, by decide +kernel⟩
theorem e_unpacked (c : He.SaysD fa fn K) : FiD K f_unpacked (He.ga K "unpacked") := by
  obtain ⟨fd, F⟩ := c.def_ 9 (d := d_unpacked) rfl
  refine ⟨s_unpacked, fd, _, _, _, _, F, fun m _ _ => ⟨[], [], fun _ _ _ => ?_, .nil, F.bindsN fun _ _ _ _ _ _ us hl => match us, hl with | [_], _ => rfl⟩⟩
  rw [show f_unpacked.dfl = [] from rfl, List.drop_nil]
  exact .nil
theorem o_unpacked (X : K.In h) (G : h.Ns mainGlobals mg) (c : He.SaysD fa fn K) : FiOk K mg f_unpacked := ⟨by decide +kernel, _, e_unpacked c, He.glo_ok X G (c.fact 4 (f := .glo "unpacked") rfl)⟩
theorem s_hexed : FnScope f_hexed.N f_hexed.ps f_hexed.scope := ⟨rfl, rfl, rfl, by decide +kernel, rfl, by decide +kernel, by decide +kernel⟩
theorem e_hexed (c : He.SaysD fa fn K) : FiD K f_hexed (He.ga K "hexed") := by
  obtain ⟨fd, F⟩ := c.def_ 10 (d := d_hexed) rfl
  refine ⟨s_hexed, fd, _, _, _, _, F, fun m _ _ => ⟨[], [], fun _ _ _ => ?_, .nil, F.bindsN fun _ _ _ _ _ _ us hl => match us, hl with | [_], _ => rfl⟩⟩
  rw [show f_hexed.dfl = [] from rfl, List.drop_nil]
  exact .nil
theorem o_hexed (X : K.In h) (G : h.Ns mainGlobals mg) (c : He.SaysD fa fn K) : FiOk K mg f_hexed := ⟨by decide +kernel, _, e_hexed c, He.glo_ok X G (c.fact 5 (f := .glo "hexed") rfl)⟩
theorem s_of_hex : FnScope f_of_hex.N f_of_hex.ps f_of_hex.scope := ⟨rfl, rfl, rfl, by decide +kernel, rfl, by decide +kernel, by decide +kernel⟩
theorem e_of_hex (c : He.SaysD fa fn K) : FiD K f_of_hex (He.ga K "of_hex") := by
  obtain ⟨fd, F⟩ := c.def_ 11 (d := d_of_hex) rfl
  refine ⟨s_of_hex, fd, _, _, _, _, F, fun m _ _ => ⟨[], [], fun _ _ _ => ?_, .nil, F.bindsN fun _ _ _ _ _ _ us hl => match us, hl with | [_], _ => rfl⟩⟩
  rw [show f_of_hex.dfl = [] from rfl, List.drop_nil]
  exact .nil
theorem o_of_hex (X : K.In h) (G : h.Ns mainGlobals mg) (c : He.SaysD fa fn K) : FiOk K mg f_of_hex := ⟨by decide +kernel, _, e_of_hex c, He.glo_ok X G (c.fact 6 (f := .glo "of_hex") rfl)⟩
theorem s__law_cell_at : FnScope f__law_cell_at.N f__law_cell_at.ps f__law_cell_at.scope := ⟨rfl, rfl, rfl, by decide +kernel, rfl, by decide +kernel, by decide +kernel⟩
theorem e__law_cell_at (c : He.SaysD fa fn K) : FiD K f__law_cell_at (He.ga K "_law_cell_at") := by
  obtain ⟨fd, F⟩ := c.def_ 12 (d := d__law_cell_at) rfl
  refine ⟨s__law_cell_at, fd, _, _, _, _, F, fun m _ _ => ⟨[], [], fun _ _ _ => ?_, .nil, F.bindsN fun _ _ _ _ _ _ us hl => match us, hl with | [_, _], _ => rfl⟩⟩
  rw [show f__law_cell_at.dfl = [] from rfl, List.drop_nil]
  exact .nil
theorem o__law_cell_at (X : K.In h) (G : h.Ns mainGlobals mg) (c : He.SaysD fa fn K) : FiOk K mg f__law_cell_at := ⟨by decide +kernel, _, e__law_cell_at c, He.glo_ok X G (c.fact 7 (f := .glo "_law_cell_at") rfl)⟩
theorem s__law_numbers : FnScope f__law_numbers.N f__law_numbers.ps f__law_numbers.scope := ⟨rfl, rfl, rfl, by decide +kernel, rfl, by decide +kernel, by decide +kernel⟩
theorem e__law_numbers (c : He.SaysD fa fn K) : FiD K f__law_numbers (He.ga K "_law_numbers") := by
  obtain ⟨fd, F⟩ := c.def_ 13 (d := d__law_numbers) rfl
  refine ⟨s__law_numbers, fd, _, _, _, _, F, fun m _ _ => ⟨[], [], fun _ _ _ => ?_, .nil, F.bindsN fun _ _ _ _ _ _ us hl => match us, hl with | [_, _], _ => rfl⟩⟩
  rw [show f__law_numbers.dfl = [] from rfl, List.drop_nil]
  exact .nil
theorem o__law_numbers (X : K.In h) (G : h.Ns mainGlobals mg) (c : He.SaysD fa fn K) : FiOk K mg f__law_numbers := ⟨by decide +kernel, _, e__law_numbers c, He.glo_ok X G (c.fact 8 (f := .glo "_law_numbers") rfl)⟩
theorem s__law_by : FnScope f__law_by.N f__law_by.ps f__law_by.scope := ⟨rfl, rfl, rfl, by decide +kernel, rfl, by decide +kernel, by decide +kernel⟩
theorem e__law_by (c : He.SaysD fa fn K) : FiD K f__law_by (He.ga K "_law_by") := by
  obtain ⟨fd, F⟩ := c.def_ 14 (d := d__law_by) rfl
  refine ⟨s__law_by, fd, _, _, _, _, F, fun m _ _ => ⟨[], [], fun _ _ _ => ?_, .nil, F.bindsN fun _ _ _ _ _ _ us hl => match us, hl with | [_, _], _ => rfl⟩⟩
  rw [show f__law_by.dfl = [] from rfl, List.drop_nil]
  exact .nil
theorem o__law_by (X : K.In h) (G : h.Ns mainGlobals mg) (c : He.SaysD fa fn K) : FiOk K mg f__law_by := ⟨by decide +kernel, _, e__law_by c, He.glo_ok X G (c.fact 9 (f := .glo "_law_by") rfl)⟩
theorem s__law_draws : FnScope f__law_draws.N f__law_draws.ps f__law_draws.scope := ⟨rfl, rfl, rfl, by decide +kernel, rfl, by decide +kernel, by decide +kernel⟩
theorem e__law_draws (c : He.SaysD fa fn K) : FiD K f__law_draws (He.ga K "_law_draws") := by
  obtain ⟨fd, F⟩ := c.def_ 15 (d := d__law_draws) rfl
  refine ⟨s__law_draws, fd, _, _, _, _, F, fun m _ _ => ⟨[], [], fun _ _ _ => ?_, .nil, F.bindsN fun _ _ _ _ _ _ us hl => match us, hl with | [_, _, _], _ => rfl⟩⟩
  rw [show f__law_draws.dfl = [] from rfl, List.drop_nil]
  exact .nil
theorem o__law_draws (X : K.In h) (G : h.Ns mainGlobals mg) (c : He.SaysD fa fn K) : FiOk K mg f__law_draws := ⟨by decide +kernel, _, e__law_draws c, He.glo_ok X G (c.fact 10 (f := .glo "_law_draws") rfl)⟩
theorem s__law_history : FnScope f__law_history.N f__law_history.ps f__law_history.scope := ⟨rfl, rfl, rfl, by decide +kernel, rfl, by decide +kernel, by decide +kernel⟩
theorem e__law_history (c : He.SaysD fa fn K) : FiD K f__law_history (He.ga K "_law_history") := by
  obtain ⟨fd, F⟩ := c.def_ 16 (d := d__law_history) rfl
  refine ⟨s__law_history, fd, _, _, _, _, F, fun m _ _ => ⟨[], [], fun _ _ _ => ?_, .nil, F.bindsN fun _ _ _ _ _ _ us hl => match us, hl with | [_, _], _ => rfl⟩⟩
  rw [show f__law_history.dfl = [] from rfl, List.drop_nil]
  exact .nil
theorem o__law_history (X : K.In h) (G : h.Ns mainGlobals mg) (c : He.SaysD fa fn K) : FiOk K mg f__law_history := ⟨by decide +kernel, _, e__law_history c, He.glo_ok X G (c.fact 11 (f := .glo "_law_history") rfl)⟩
theorem s__law_can_be : FnScope f__law_can_be.N f__law_can_be.ps f__law_can_be.scope := ⟨rfl, rfl, rfl, by decide +kernel, rfl, by decide +kernel, by decide +kernel⟩
theorem e__law_can_be (c : He.SaysD fa fn K) : FiD K f__law_can_be (He.ga K "_law_can_be") := by
  obtain ⟨fd, F⟩ := c.def_ 17 (d := d__law_can_be) rfl
  refine ⟨s__law_can_be, fd, _, _, _, _, F, fun m _ _ => ⟨[], [], fun _ _ _ => ?_, .nil, F.bindsN fun _ _ _ _ _ _ us hl => match us, hl with | [_], _ => rfl⟩⟩
  rw [show f__law_can_be.dfl = [] from rfl, List.drop_nil]
  exact .nil
theorem o__law_can_be (X : K.In h) (G : h.Ns mainGlobals mg) (c : He.SaysD fa fn K) : FiOk K mg f__law_can_be := ⟨by decide +kernel, _, e__law_can_be c, He.glo_ok X G (c.fact 12 (f := .glo "_law_can_be") rfl)⟩
theorem s__law_hexed : FnScope f__law_hexed.N f__law_hexed.ps f__law_hexed.scope := ⟨rfl, rfl, rfl, by decide +kernel, rfl, by decide +kernel, by decide +kernel⟩
theorem e__law_hexed (c : He.SaysD fa fn K) : FiD K f__law_hexed (He.ga K "_law_hexed") := by
  obtain ⟨fd, F⟩ := c.def_ 18 (d := d__law_hexed) rfl
  refine ⟨s__law_hexed, fd, _, _, _, _, F, fun m _ _ => ⟨[], [], fun _ _ _ => ?_, .nil, F.bindsN fun _ _ _ _ _ _ us hl => match us, hl with | [_], _ => rfl⟩⟩
  rw [show f__law_hexed.dfl = [] from rfl, List.drop_nil]
  exact .nil
theorem o__law_hexed (X : K.In h) (G : h.Ns mainGlobals mg) (c : He.SaysD fa fn K) : FiOk K mg f__law_hexed := ⟨by decide +kernel, _, e__law_hexed c, He.glo_ok X G (c.fact 13 (f := .glo "_law_hexed") rfl)⟩
theorem s__law_numbers_of : FnScope f__law_numbers_of.N f__law_numbers_of.ps f__law_numbers_of.scope := ⟨rfl, rfl, rfl, by decide +kernel, rfl, by decide +kernel, by decide +kernel⟩
theorem e__law_numbers_of (c : He.SaysD fa fn K) : FiD K f__law_numbers_of (He.ga K "_law_numbers_of") := by
  obtain ⟨fd, F⟩ := c.def_ 19 (d := d__law_numbers_of) rfl
  refine ⟨s__law_numbers_of, fd, _, _, _, _, F, fun m _ _ => ⟨[], [], fun _ _ _ => ?_, .nil, F.bindsN fun _ _ _ _ _ _ us hl => match us, hl with | [_], _ => rfl⟩⟩
  rw [show f__law_numbers_of.dfl = [] from rfl, List.drop_nil]
  exact .nil
theorem o__law_numbers_of (X : K.In h) (G : h.Ns mainGlobals mg) (c : He.SaysD fa fn K) : FiOk K mg f__law_numbers_of := ⟨by decide +kernel, _, e__law_numbers_of c, He.glo_ok X G (c.fact 14 (f := .glo "_law_numbers_of") rfl)⟩
theorem s__law_due : FnScope f__law_due.N f__law_due.ps f__law_due.scope := ⟨rfl, rfl, rfl, by decide +kernel, rfl, by decide +kernel, by decide +kernel⟩
theorem e__law_due (c : He.SaysD fa fn K) : FiD K f__law_due (He.ga K "_law_due") := by
  obtain ⟨fd, F⟩ := c.def_ 20 (d := d__law_due) rfl
  refine ⟨s__law_due, fd, _, _, _, _, F, fun m _ _ => ⟨[], [], fun _ _ _ => ?_, .nil, F.bindsN fun _ _ _ _ _ _ us hl => match us, hl with | [_], _ => rfl⟩⟩
  rw [show f__law_due.dfl = [] from rfl, List.drop_nil]
  exact .nil
theorem o__law_due (X : K.In h) (G : h.Ns mainGlobals mg) (c : He.SaysD fa fn K) : FiOk K mg f__law_due := ⟨by decide +kernel, _, e__law_due c, He.glo_ok X G (c.fact 15 (f := .glo "_law_due") rfl)⟩
theorem s__law_judged : FnScope f__law_judged.N f__law_judged.ps f__law_judged.scope := ⟨rfl, rfl, rfl, by decide +kernel, rfl, by decide +kernel, by decide +kernel⟩
theorem e__law_judged (c : He.SaysD fa fn K) : FiD K f__law_judged (He.ga K "_law_judged") := by
  obtain ⟨fd, F⟩ := c.def_ 21 (d := d__law_judged) rfl
  refine ⟨s__law_judged, fd, _, _, _, _, F, fun m _ _ => ⟨[], [], fun _ _ _ => ?_, .nil, F.bindsN fun _ _ _ _ _ _ us hl => match us, hl with | [_], _ => rfl⟩⟩
  rw [show f__law_judged.dfl = [] from rfl, List.drop_nil]
  exact .nil
theorem o__law_judged (X : K.In h) (G : h.Ns mainGlobals mg) (c : He.SaysD fa fn K) : FiOk K mg f__law_judged := ⟨by decide +kernel, _, e__law_judged c, He.glo_ok X G (c.fact 16 (f := .glo "_law_judged") rfl)⟩
theorem s__law_bent : FnScope f__law_bent.N f__law_bent.ps f__law_bent.scope := ⟨rfl, rfl, rfl, by decide +kernel, rfl, by decide +kernel, by decide +kernel⟩
theorem e__law_bent (c : He.SaysD fa fn K) : FiD K f__law_bent (He.ga K "_law_bent") := by
  obtain ⟨fd, F⟩ := c.def_ 22 (d := d__law_bent) rfl
  refine ⟨s__law_bent, fd, _, _, _, _, F, fun m _ _ => ⟨[], [], fun _ _ _ => ?_, .nil, F.bindsN fun _ _ _ _ _ _ us hl => match us, hl with | [_, _], _ => rfl⟩⟩
  rw [show f__law_bent.dfl = [] from rfl, List.drop_nil]
  exact .nil
theorem o__law_bent (X : K.In h) (G : h.Ns mainGlobals mg) (c : He.SaysD fa fn K) : FiOk K mg f__law_bent := ⟨by decide +kernel, _, e__law_bent c, He.glo_ok X G (c.fact 17 (f := .glo "_law_bent") rfl)⟩
theorem s__law_all_right : FnScope f__law_all_right.N f__law_all_right.ps f__law_all_right.scope := ⟨rfl, rfl, rfl, by decide +kernel, rfl, by decide +kernel, by decide +kernel⟩
theorem e__law_all_right (c : He.SaysD fa fn K) : FiD K f__law_all_right (He.ga K "_law_all_right") := by
  obtain ⟨fd, F⟩ := c.def_ 23 (d := d__law_all_right) rfl
  refine ⟨s__law_all_right, fd, _, _, _, _, F, fun m _ _ => ⟨[], [], fun _ _ _ => ?_, .nil, F.bindsN fun _ _ _ _ _ _ us hl => match us, hl with | [_], _ => rfl⟩⟩
  rw [show f__law_all_right.dfl = [] from rfl, List.drop_nil]
  exact .nil
theorem o__law_all_right (X : K.In h) (G : h.Ns mainGlobals mg) (c : He.SaysD fa fn K) : FiOk K mg f__law_all_right := ⟨by decide +kernel, _, e__law_all_right c, He.glo_ok X G (c.fact 18 (f := .glo "_law_all_right") rfl)⟩
theorem s_law : FnScope f_law.N f_law.ps f_law.scope := ⟨rfl, rfl, rfl, by decide +kernel, rfl, by decide +kernel, by decide +kernel⟩
theorem e_law (c : He.SaysD fa fn K) : FiD K f_law (He.ga K "law") := by
  obtain ⟨fd, F⟩ := c.def_ 24 (d := d_law) rfl
  refine ⟨s_law, fd, _, _, _, _, F, fun m _ _ => ⟨[], [], fun _ _ _ => ?_, .nil, F.bindsN fun _ _ _ _ _ _ us hl => match us, hl with | [_], _ => rfl⟩⟩
  rw [show f_law.dfl = [] from rfl, List.drop_nil]
  exact .nil
theorem o_law (X : K.In h) (G : h.Ns mainGlobals mg) (c : He.SaysD fa fn K) : FiOk K mg f_law := ⟨by decide +kernel, _, e_law c, He.glo_ok X G (c.fact 19 (f := .glo "law") rfl)⟩
def GAll (w : World) (K : PySem.W.Frag) (mg : Str → Option Value) : List (Str × Gi) → Prop
  | [] => True
  | p :: r => GlOk w K mg T p.1 p.2 ∧ GAll w K mg r
theorem GAll.look {w : World} : ∀ {l : List (Str × Gi)} {x : Str} {g : Gi}, GAll w K mg l → l.lookup x = some g → GlOk w K mg T x g
  | [], _, _, _, e => by cases e
  | (y, g') :: r, x, g, ⟨h1, h2⟩, e => by
    rw [List.lookup_cons] at e
    cases hx : x == y with
    | true =>
      rw [hx] at e
      have e1 : g' = g := Option.some.inj e
      have e2 : x = y := eq_of_beq hx
      subst e1 e2
      exact h1
    | false =>
      rw [hx] at e
      exact h2.look e
theorem g_int {w : World} (X : K.In h) (G : h.Ns mainGlobals mg) {x : Str} {i : Int} (hx : (x == ("__debug__" : Str)) = false) (c : (He.Fa.int x i).ok K = true) : GlOk w K mg T x (.con (.int i)) := by
  obtain ⟨t, e⟩ := He.int_ok X G c
  exact ⟨hx, .int i t, .int i, e, ⟨t, rfl⟩, fun _ _ _ => .int i⟩
theorem g_str {w : World} (X : K.In h) (G : h.Ns mainGlobals mg) {x z : Str} {y : List Nat} (hx : (x == ("__debug__" : Str)) = false) (c : (He.Fa.str x z).ok K = true) (hz : z = strOf y) : GlOk w K mg T x (.con (.str y)) := by
  obtain ⟨t, e⟩ := He.str_ok X G c
  exact ⟨hx, .str z t, .str z, e, ⟨t, rfl⟩, fun _ _ _ => by rw [hz]; exact .str y⟩
theorem g_tab {w : World} (X : K.In h) (G : h.Ns mainGlobals mg) {x : Str} {tb : Tb} (hx : (x == ("__debug__" : Str)) = false) (c : (He.Fa.glo x).ok K = true) (k : KT K w (He.ga K x) tb) : GlOk w K mg T x (.kd tb) := ⟨hx, He.glo_ok X G c, k⟩
theorem g_tup {w : World} (X : K.In h) (G : h.Ns mainGlobals mg) {x : Str} {ts : List (List Nat)} (hx : (x == ("__debug__" : Str)) = false) (c : (He.Fa.glo x).ok K = true) (k : KTup K (He.ga K x) ts) : GlOk w K mg T x (.kt ts) := ⟨hx, He.glo_ok X G c, k⟩
theorem g_all {w : World} (X : K.In h) (G : h.Ns mainGlobals mg) (F : Facts K scl.cr scl.eqs scl.kit) (c : He.SaysD fa fn K) (k_SIZES : KT K w (He.ga K "SIZES") t_SIZES) (k_WORDS : KTup K (He.ga K "WORDS") u_WORDS) : GAll w K mg glob := by
  exact ⟨⟨f_is_number, by kernel_rfl, o_is_number X G c, rfl, rfl, rfl⟩,
    ⟨f_is_event, by kernel_rfl, o_is_event X G c, rfl, rfl, rfl⟩,
    ⟨f_check_history, by kernel_rfl, o_check_history X G c, rfl, rfl, rfl⟩,
    ⟨f_packed, by kernel_rfl, o_packed X G c, rfl, rfl, rfl⟩,
    ⟨f_unpacked, by kernel_rfl, o_unpacked X G c, rfl, rfl, rfl⟩,
    ⟨f_hexed, by kernel_rfl, o_hexed X G c, rfl, rfl, rfl⟩,
    ⟨f_of_hex, by kernel_rfl, o_of_hex X G c, rfl, rfl, rfl⟩,
    ⟨f__law_cell_at, by kernel_rfl, o__law_cell_at X G c, rfl, rfl, rfl⟩,
    ⟨f__law_numbers, by kernel_rfl, o__law_numbers X G c, rfl, rfl, rfl⟩,
    ⟨f__law_by, by kernel_rfl, o__law_by X G c, rfl, rfl, rfl⟩,
    ⟨f__law_draws, by kernel_rfl, o__law_draws X G c, rfl, rfl, rfl⟩,
    ⟨f__law_history, by kernel_rfl, o__law_history X G c, rfl, rfl, rfl⟩,
    ⟨f__law_can_be, by kernel_rfl, o__law_can_be X G c, rfl, rfl, rfl⟩,
    ⟨f__law_hexed, by kernel_rfl, o__law_hexed X G c, rfl, rfl, rfl⟩,
    ⟨f__law_numbers_of, by kernel_rfl, o__law_numbers_of X G c, rfl, rfl, rfl⟩,
    ⟨f__law_due, by kernel_rfl, o__law_due X G c, rfl, rfl, rfl⟩,
    ⟨f__law_judged, by kernel_rfl, o__law_judged X G c, rfl, rfl, rfl⟩,
    ⟨f__law_bent, by kernel_rfl, o__law_bent X G c, rfl, rfl, rfl⟩,
    ⟨f__law_all_right, by kernel_rfl, o__law_all_right X G c, rfl, rfl, rfl⟩,
    ⟨f_law, by kernel_rfl, o_law X G c, rfl, rfl, rfl⟩,
    ⟨by decide +kernel, He.glo_ok X G (c.fact 20 (f := .glo "Locks") rfl), F.make r_Locks (by simp [scl]) rfl, f_Locks___init__, by kernel_rfl, e_Locks___init__ c, rfl, rfl, rfl⟩,
    ⟨by decide +kernel, He.glo_ok X G (c.fact 21 (f := .glo "Bytes") rfl), F.make r_Bytes (by simp [scl]) rfl, f_Bytes___init__, by kernel_rfl, e_Bytes___init__ c, rfl, rfl, rfl⟩,
    g_int X G (x := "THREADS") (by decide +kernel) (c.fact 25 (f := .int "THREADS" (6)) rfl),
    g_int X G (x := "LOCKS") (by decide +kernel) (c.fact 26 (f := .int "LOCKS" (3)) rfl),
    g_int X G (x := "CELLS") (by decide +kernel) (c.fact 27 (f := .int "CELLS" (16)) rfl),
    g_int X G (x := "VALUES") (by decide +kernel) (c.fact 28 (f := .int "VALUES" (100)) rfl),
    g_int X G (x := "MOST_EVENTS") (by decide +kernel) (c.fact 29 (f := .int "MOST_EVENTS" (200)) rfl),
    g_int X G (x := "EIGHT") (by decide +kernel) (c.fact 30 (f := .int "EIGHT" (8)) rfl),
    He.free_ok X G (x := "isinstance") (c.fact 31 (f := .free "isinstance") rfl),
    He.free_ok X G (x := "int") (c.fact 32 (f := .free "int") rfl),
    He.free_ok X G (x := "bool") (c.fact 33 (f := .free "bool") rfl),
    He.free_ok X G (x := "tuple") (c.fact 34 (f := .free "tuple") rfl),
    He.free_ok X G (x := "str") (c.fact 35 (f := .free "str") rfl),
    He.free_ok X G (x := "len") (c.fact 36 (f := .free "len") rfl),
    He.free_ok X G (x := "enumerate") (c.fact 37 (f := .free "enumerate") rfl),
    He.free_ok X G (x := "list") (c.fact 38 (f := .free "list") rfl),
    He.free_ok X G (x := "bytes") (c.fact 39 (f := .free "bytes") rfl),
    He.free_ok X G (x := "all") (c.fact 40 (f := .free "all") rfl),
    He.free_ok X G (x := "range") (c.fact 41 (f := .free "range") rfl),
    He.free_ok X G (x := "dict") (c.fact 42 (f := .free "dict") rfl),
    g_str X G (x := "HEX") (by decide +kernel) (c.fact 43 (f := .str "HEX" "0123456789abcdef") rfl) (by decide +kernel),
    g_tab X G (x := "SIZES") (by decide +kernel) (c.fact 44 (f := .glo "SIZES") rfl) k_SIZES,
    g_tup X G (x := "WORDS") (by decide +kernel) (c.fact 45 (f := .glo "WORDS") rfl) k_WORDS, True.intro⟩
theorem ms_all (F : Facts K scl.cr scl.eqs scl.kit) (c : He.SaysD fa fn K) : MsAll K scl T := by
  refine ⟨F, fun m c0 n dfl hm => ?_, fun p hp => ?_⟩
  · rcases List.mem_cons.mp hm with e | e
    · cases e
      exact ⟨F.me r_Locks (by simp [scl]) _ (by simp [r_Locks]), (F.cls r_Locks (by simp [scl])).cls, f_Locks_comes, by kernel_rfl, e_Locks_comes c, rfl, rfl, rfl⟩
    · rcases List.mem_cons.mp e with e | e
      · cases e
        exact ⟨F.me r_Bytes (by simp [scl]) _ (by simp [r_Bytes]), (F.cls r_Bytes (by simp [scl])).cls, f_Bytes_take, by kernel_rfl, e_Bytes_take c, rfl, rfl, rfl⟩
      · rcases List.mem_cons.mp e with e | e
        · cases e
          exact ⟨F.me r_Bytes (by simp [scl]) _ (by simp [r_Bytes]), (F.cls r_Bytes (by simp [scl])).cls, f_Bytes_event_taken, by kernel_rfl, e_Bytes_event_taken c, rfl, rfl, rfl⟩
        · cases e
  · cases hp
theorem xb_BadHistory : defBody (inClass (top 2) 0) = xBody "LendError" "self" "at" "no history" "at" 0 ⟨7, 8, 7, 17⟩ ⟨7, 8, 7, 26⟩ ⟨7, 27, 7, 31⟩ ⟨7, 33, 7, 45⟩ ⟨7, 8, 7, 46⟩ ⟨7, 8, 7, 46⟩ ⟨8, 8, 8, 12⟩ ⟨8, 8, 8, 15⟩ ⟨8, 18, 8, 20⟩ ⟨8, 8, 8, 20⟩ := by kernel_rfl
theorem xb_BadBytes : defBody (inClass (top 3) 0) = xBody "LendError" "self" "at" "no bytes" "at" 0 ⟨12, 8, 12, 17⟩ ⟨12, 8, 12, 26⟩ ⟨12, 27, 12, 31⟩ ⟨12, 33, 12, 43⟩ ⟨12, 8, 12, 44⟩ ⟨12, 8, 12, 44⟩ ⟨13, 8, 13, 12⟩ ⟨13, 8, 13, 15⟩ ⟨13, 18, 13, 20⟩ ⟨13, 8, 13, 20⟩ := by kernel_rfl
theorem x_all {P : Program} {w : World} {base : Heap} (X : K.In h) (G : h.Ns mainGlobals mg) (F : XFacts K scl.xk) (c : He.SaysD fa fn K) : XAll P w K mg base scl.xk := by
  refine ⟨fun r hr => ?_, fun p hp => ?_⟩
  · have hr0 := hr
    rcases List.mem_cons.mp hr with e | e
    · cases e
      obtain ⟨fd, FD⟩ := c.def_ 25 (d := d_BadHistory___init__) rfl
      refine ⟨He.glo_ok X G (c.fact 22 (f := .glo "BadHistory") rfl), by decide +kernel, (F.own _ hr0 rfl).1, fd, ["self", "at"], fun k => xinit_ok (x := "__init__") (qual := "BadHistory.__init__") (params := defArgs (inClass (top 2) 0)) (scope := defScope (inClass (top 2) 0)) (dvs := []) (kws := []) (show FunD K "__init__" "BadHistory.__init__" (defArgs (inClass (top 2) 0)) (xBody "LendError" "self" "at" "no history" "at" 0 ⟨7, 8, 7, 17⟩ ⟨7, 8, 7, 26⟩ ⟨7, 27, 7, 31⟩ ⟨7, 33, 7, 45⟩ ⟨7, 8, 7, 46⟩ ⟨7, 8, 7, 46⟩ ⟨8, 8, 8, 12⟩ ⟨8, 8, 8, 15⟩ ⟨8, 18, 8, 20⟩ ⟨8, 8, 8, 20⟩) (defScope (inClass (top 2) 0)) [] [] _ fd from by rw [← xb_BadHistory]; exact FD) ⟨rfl, rfl, rfl, by decide +kernel, rfl, by decide +kernel, by decide +kernel⟩ rfl rfl rfl (by decide +kernel) ⟨by decide +kernel, by decide +kernel⟩ ⟨by decide +kernel, by decide +kernel⟩ (fun env => ⟨_, rfl⟩) (F.own _ hr0 rfl).2 (He.glo_ok X G (c.fact 24 (f := .glo "LendError") rfl)) (F.own _ hr0 rfl).1.oe (F.own _ hr0 rfl).1.no k, ?_⟩
      exact FD.bindsN fun _ _ _ _ _ _ us hl => match us, hl with | [_, _], _ => rfl
    · rcases List.mem_cons.mp e with e | e
      · cases e
        obtain ⟨fd, FD⟩ := c.def_ 26 (d := d_BadBytes___init__) rfl
        refine ⟨He.glo_ok X G (c.fact 23 (f := .glo "BadBytes") rfl), by decide +kernel, (F.own _ hr0 rfl).1, fd, ["self", "at"], fun k => xinit_ok (x := "__init__") (qual := "BadBytes.__init__") (params := defArgs (inClass (top 3) 0)) (scope := defScope (inClass (top 3) 0)) (dvs := []) (kws := []) (show FunD K "__init__" "BadBytes.__init__" (defArgs (inClass (top 3) 0)) (xBody "LendError" "self" "at" "no bytes" "at" 0 ⟨12, 8, 12, 17⟩ ⟨12, 8, 12, 26⟩ ⟨12, 27, 12, 31⟩ ⟨12, 33, 12, 43⟩ ⟨12, 8, 12, 44⟩ ⟨12, 8, 12, 44⟩ ⟨13, 8, 13, 12⟩ ⟨13, 8, 13, 15⟩ ⟨13, 18, 13, 20⟩ ⟨13, 8, 13, 20⟩) (defScope (inClass (top 3) 0)) [] [] _ fd from by rw [← xb_BadBytes]; exact FD) ⟨rfl, rfl, rfl, by decide +kernel, rfl, by decide +kernel, by decide +kernel⟩ rfl rfl rfl (by decide +kernel) ⟨by decide +kernel, by decide +kernel⟩ ⟨by decide +kernel, by decide +kernel⟩ (fun env => ⟨_, rfl⟩) (F.own _ hr0 rfl).2 (He.glo_ok X G (c.fact 24 (f := .glo "LendError") rfl)) (F.own _ hr0 rfl).1.oe (F.own _ hr0 rfl).1.no k, ?_⟩
        exact FD.bindsN fun _ _ _ _ _ _ us hl => match us, hl with | [_, _], _ => rfl
      · cases e
  · have hp0 := hp
    rcases List.mem_cons.mp hp with e | e
    · cases e
      exact ⟨F.hit _ hp0, He.glo_ok X G (c.fact 23 (f := .glo "BadBytes") rfl), by decide +kernel⟩
    · rcases List.mem_cons.mp e with e | e
      · cases e
        exact ⟨F.hit _ hp0, He.glo_ok X G (c.fact 23 (f := .glo "BadBytes") rfl), by decide +kernel⟩
      · rcases List.mem_cons.mp e with e | e
        · cases e
          exact ⟨F.hit _ hp0, He.glo_ok X G (c.fact 24 (f := .glo "LendError") rfl), by decide +kernel⟩
        · rcases List.mem_cons.mp e with e | e
          · cases e
            exact ⟨F.hit _ hp0, He.glo_ok X G (c.fact 24 (f := .glo "LendError") rfl), by decide +kernel⟩
          · cases e
end
end Lw
namespace Lw
open PySem PySem.Spec PyProof.Rows L2 RZ Om
def m_is_number (call : Str → SF) : SS := (sSeq (sRet (cAndT (cOpN (isiX scl.cls scl.kit) (cCons (cVar 0) (cCons (cCon (.ty "int")) cNil))) (cAndT (cNotT (cOpN (isiX scl.cls scl.kit) (cCons (cVar 0) (cCons (cCon (.ty "bool")) cNil)))) (cCh (ltD' .le) (ltD' .le) (cVar 1) (cVar 0) (cVar 2)))))
  sPass)
theorem b_is_number (call : Str → SF) : bodyF glob scl call f_is_number = m_is_number call := by kernel_rfl
theorem c_is_number (k : Nat) (ds : List D) (R : Rg) (h : ds.length = 3) : callF glob scl T (k + 3) "is_number" ds R = finM false false R (m_is_number (callW glob scl T (k + 2)) (ds ++ List.replicate 0 .undef) R) := by
  rw [callF_run (fi := f_is_number) (by kernel_rfl)]
  unfold runF
  rw [if_pos (show ds.length = f_is_number.ps.length from h), b_is_number]
  rfl
theorem w_is_number (k : Nat) : callW glob scl T k "is_number" = callF glob scl T k "is_number" := callW_std (by kernel_rfl)
def m_is_event (call : Str → SF) : SS := (sSeq (sIf (bOr (bNot (bVal (cOpN (isiX scl.cls scl.kit) (cCons (cVar 0) (cCons (cCon (.ty "tuple")) cNil))))) (bOr (bOf (cOp2 (eqX false (eqF call scl.eqs)) (cVar 0) (cTup cNil))) (bNot (bVal (cOpN (isiX scl.cls scl.kit) (cCons (cOp2 ixD (cVar 0) (cCon (.int 0))) (cCons (cCon (.ty "str")) cNil))))))) (sSeq (sRet (cCon (.bl false)))
  sPass) sPass)
  (sSeq (sIf (bOr (bOf (cOp2 (eqX true (eqF call scl.eqs)) (cOpN (getT t_SIZES) (cCons (cOp2 ixD (cVar 0) (cCon (.int 0))) (cCons (cCon (.int 0)) cNil))) (cOpN lenD (cCons (cVar 0) cNil)))) (bNot (bVal (cCall (call "is_number") [] (cCons (cOp2 ixD (cVar 0) (cCon (.int 1))) (cCons (cCon (.int 0)) (cCons (cOp2 subD (cCon (.int (6))) (cCon (.int 1))) cNil))))))) (sSeq (sRet (cCon (.bl false)))
  sPass) sPass)
  (sSeq (sIf (bOf (cOp2 (inX false) (cOp2 ixD (cVar 0) (cCon (.int 0))) (cTup (cCons (cCon (.str [119, 114, 105, 116, 101])) (cCons (cCon (.str [114, 101, 97, 100])) cNil))))) (sSeq (sRet (cAndT (cCall (call "is_number") [] (cCons (cOp2 ixD (cVar 0) (cCon (.int 2))) (cCons (cCon (.int 0)) (cCons (cOp2 subD (cCon (.int (16))) (cCon (.int 1))) cNil)))) (cCall (call "is_number") [] (cCons (cOp2 ixD (cVar 0) (cCon (.int 3))) (cCons (cCon (.int 0)) (cCons (cOp2 subD (cCon (.int (100))) (cCon (.int 1))) cNil))))))
  sPass) sPass)
  (sSeq (sRet (cOrT (cOp2 (eqX false (eqF call scl.eqs)) (cOp2 ixD (cVar 0) (cCon (.int 0))) (cCon (.str [103, 111, 110, 101]))) (cCall (call "is_number") [] (cCons (cOp2 ixD (cVar 0) (cCon (.int 2))) (cCons (cCon (.int 0)) (cCons (cOp2 subD (cCon (.int (3))) (cCon (.int 1))) cNil))))))
  sPass))))
theorem b_is_event (call : Str → SF) : bodyF glob scl call f_is_event = m_is_event call := by kernel_rfl
theorem c_is_event (k : Nat) (ds : List D) (R : Rg) (h : ds.length = 1) : callF glob scl T (k + 3) "is_event" ds R = finM false false R (m_is_event (callW glob scl T (k + 2)) (ds ++ List.replicate 0 .undef) R) := by
  rw [callF_run (fi := f_is_event) (by kernel_rfl)]
  unfold runF
  rw [if_pos (show ds.length = f_is_event.ps.length from h), b_is_event]
  rfl
theorem w_is_event (k : Nat) : callW glob scl T k "is_event" = callF glob scl T k "is_event" := callW_std (by kernel_rfl)
def m_Locks___init__ (call : Str → SF) : SS := (sSeq (sSetF scl.ca 3 (cDNew true) (cVar 0))
  (sSeq (sSetF scl.ca 4 (cDNew true) (cVar 0))
  sPass))
theorem b_Locks___init__ (call : Str → SF) : bodyF glob scl call f_Locks___init__ = m_Locks___init__ call := by kernel_rfl
theorem c_Locks___init__ (k : Nat) (ds : List D) (R : Rg) (h : ds.length = 1) : callF glob scl T (k + 3) "Locks.__init__" ds R = finM true false R (m_Locks___init__ (callW glob scl T (k + 2)) (ds ++ List.replicate 0 .undef) R) := by
  rw [callF_run (fi := f_Locks___init__) (by kernel_rfl)]
  unfold runF
  rw [if_pos (show ds.length = f_Locks___init__.ps.length from h), b_Locks___init__]
  rfl
theorem w_Locks___init__ (k : Nat) : callW glob scl T (k + 1) "Locks.__init__" = callF glob scl T k "Locks.__init__" := callW_low (by kernel_rfl)
def m_Locks_comes_t1 (call : Str → SF) : SB := (bOf (cOp2 (eqX true (eqF call scl.eqs)) (cVar 5) (cVar 3)))
def m_Locks_comes_e1 (call : Str → SF) : SE := (cVar 4)
def m_Locks_comes_e2 (call : Str → SF) : SE := (cVar 5)
def m_Locks_comes (call : Str → SF) : SS := (sSeq (sAsg (cTup (cCons (cOp2 ixD (cVar 1) (cCon (.int 0))) (cCons (cOp2 ixD (cVar 1) (cCon (.int 1))) cNil))) (gT 2 (gC (gVar 2) (gC (gVar 3) gN))))
  (sSeq (sIf (bOf (cOp2 (inX false) (cVar 3) (cOp1 (fldD scl.ca 4) (cVar 0)))) (sSeq (sRet (cCon (.bl false)))
  sPass) sPass)
  (sSeq (sIf (bOf (cOp2 (eqX false (eqF call scl.eqs)) (cVar 2) (cCon (.str [116, 97, 107, 101])))) (sSeq (sIf (bOf (cOp2 (inX false) (cOp2 ixD (cVar 1) (cCon (.int 2))) (cOp1 (fldD scl.ca 3) (cVar 0)))) (sSeq (sRet (cCon (.bl false)))
  sPass) sPass)
  (sSeq (sAsg (cVar 3) (gIx (cOp1 (fldD scl.ca 3) (cVar 0)) (cOp2 ixD (cVar 1) (cCon (.int 2)))))
  sPass)) (sSeq (sIf (bOf (cOp2 (eqX false (eqF call scl.eqs)) (cVar 2) (cCon (.str [102, 114, 101, 101])))) (sSeq (sIf (bOf (cOp2 (eqX true (eqF call scl.eqs)) (eMetL [(1, Om.getD)] (cOp1 (fldD scl.ca 3) (cVar 0)) (cCons (cOp2 ixD (cVar 1) (cCon (.int 2))) (cCons (cCon .non) cNil))) (cVar 3))) (sSeq (sRet (cCon (.bl false)))
  sPass) sPass)
  (sSeq (sExpr (eMetL [(0, popD), (1, dpopD)] (cOp1 (fldD scl.ca 3) (cVar 0)) (cCons (cOp2 ixD (cVar 1) (cCon (.int 2))) cNil)))
  sPass)) (sSeq (sIf (bOf (cOp2 (eqX false (eqF call scl.eqs)) (cVar 2) (cCon (.str [103, 111, 110, 101])))) (sSeq (sAsg (cCon (.bl true)) (gIx (cOp1 (fldD scl.ca 4) (cVar 0)) (cVar 3)))
  (sSeq (sSetF scl.ca 3 (cLock (cOp1 (fldD scl.ca 3) (cVar 0)) (cDComp (iItm (cOp1 (fldD scl.ca 3) (cVar 0))) (gT 2 (gC (gVar 4) (gC (gVar 5) gN))) (m_Locks_comes_t1 call) (m_Locks_comes_e1 call) (m_Locks_comes_e2 call) [4, 5] true)) (cVar 0))
  sPass)) sPass)
  sPass))
  sPass))
  (sSeq (sRet (cCon (.bl true)))
  sPass))))
theorem b_Locks_comes (call : Str → SF) : bodyF glob scl call f_Locks_comes = m_Locks_comes call := by kernel_rfl
theorem c_Locks_comes (k : Nat) (ds : List D) (R : Rg) (h : ds.length = 2) : callF glob scl T (k + 3) "Locks.comes" ds R = finM true false R (m_Locks_comes (callW glob scl T (k + 2)) (ds ++ List.replicate 4 .undef) R) := by
  rw [callF_run (fi := f_Locks_comes) (by kernel_rfl)]
  unfold runF
  rw [if_pos (show ds.length = f_Locks_comes.ps.length from h), b_Locks_comes]
  rfl
theorem w_Locks_comes (k : Nat) : callW glob scl T k "Locks.comes" = callF glob scl T k "Locks.comes" := callW_std (by kernel_rfl)
def m_check_history_b1 (call : Str → SF) : SS := (sSeq (sIf (bOr (bOf (cOp2 (ltD' .ge) (cVar 3) (cVar 1))) (bOr (bNot (bVal (cCall (call "is_event") [] (cCons (cVar 4) cNil)))) (bNot (bVal (eMetO [(4, call "Locks.comes", [])] "comes" (cVar 2) (cCons (cVar 4) cNil)))))) (sSeq (sRaise1 1 (cVar 3))
  sPass) sPass)
  sPass)
def m_check_history (call : Str → SF) : SS := (sSeq (sIf (bNot (bVal (cOpN (isiX scl.cls scl.kit) (cCons (cVar 0) (cCons (cCon (.ty "list")) cNil))))) (sSeq (sRaise1 1 (cCon .non))
  sPass) sPass)
  (sSeq (sAsg (cMake 4 (call "Locks.__init__") [] cNil) (gVar 2))
  (sSeq (sFor (iArgs enum1 (cCons (cVar 0) cNil)) (gT 2 (gC (gVar 3) (gC (gVar 4) gN))) (m_check_history_b1 call))
  sPass)))
theorem b_check_history (call : Str → SF) : bodyF glob scl call f_check_history = m_check_history call := by kernel_rfl
theorem c_check_history (k : Nat) (ds : List D) (R : Rg) (h : ds.length = 2) : callF glob scl T (k + 3) "check_history" ds R = finM false false R (m_check_history (callW glob scl T (k + 2)) (ds ++ List.replicate 3 .undef) R) := by
  rw [callF_run (fi := f_check_history) (by kernel_rfl)]
  unfold runF
  rw [if_pos (show ds.length = f_check_history.ps.length from h), b_check_history]
  rfl
theorem w_check_history (k : Nat) : callW glob scl T k "check_history" = callF glob scl T k "check_history" := callW_std (by kernel_rfl)
def m_packed_b1 (call : Str → SF) : SS := (sSeq (sExpr (eMetL [(0, appendD)] (cVar 1) (cCons (cOp2 (addD false) (cOp2 (mulX false) (cCon (.int (8))) (cOpN (idxK u_WORDS) (cCons (cOp2 ixD (cVar 2) (cCon (.int 0))) cNil))) (cOp2 ixD (cVar 2) (cCon (.int 1)))) cNil)))
  (sSeq (sExpr (eMetL [(0, extendD)] (cVar 1) (cCons (cOpN (listX true) (cCons (cSl false (cVar 2) (some (cCon (.int 2))) none) cNil)) cNil)))
  sPass))
def m_packed (call : Str → SF) : SS := (sSeq (sExpr (cCall (call "check_history") [.int (200)] (cCons (cVar 0) cNil)))
  (sSeq (sAsg (cLst true cNil) (gVar 1))
  (sSeq (sFor (iAny (cVar 0)) (gVar 2) (m_packed_b1 call))
  (sSeq (sRet (cOpN bytesD (cCons (cVar 1) cNil)))
  sPass))))
theorem b_packed (call : Str → SF) : bodyF glob scl call f_packed = m_packed call := by kernel_rfl
theorem c_packed (k : Nat) (ds : List D) (R : Rg) (h : ds.length = 1) : callF glob scl T (k + 3) "packed" ds R = finM false false R (m_packed (callW glob scl T (k + 2)) (ds ++ List.replicate 2 .undef) R) := by
  rw [callF_run (fi := f_packed) (by kernel_rfl)]
  unfold runF
  rw [if_pos (show ds.length = f_packed.ps.length from h), b_packed]
  rfl
theorem w_packed (k : Nat) : callW glob scl T k "packed" = callF glob scl T k "packed" := callW_std (by kernel_rfl)
def m_Bytes___init__ (call : Str → SF) : SS := (sSeq (sSetF scl.ca 33 (cVar 1) (cVar 0))
  (sSeq (sSetF scl.ca 34 (cCon (.int 0)) (cVar 0))
  sPass))
theorem b_Bytes___init__ (call : Str → SF) : bodyF glob scl call f_Bytes___init__ = m_Bytes___init__ call := by kernel_rfl
theorem c_Bytes___init__ (k : Nat) (ds : List D) (R : Rg) (h : ds.length = 2) : callF glob scl T (k + 3) "Bytes.__init__" ds R = finM true false R (m_Bytes___init__ (callW glob scl T (k + 2)) (ds ++ List.replicate 0 .undef) R) := by
  rw [callF_run (fi := f_Bytes___init__) (by kernel_rfl)]
  unfold runF
  rw [if_pos (show ds.length = f_Bytes___init__.ps.length from h), b_Bytes___init__]
  rfl
theorem w_Bytes___init__ (k : Nat) : callW glob scl T (k + 1) "Bytes.__init__" = callF glob scl T k "Bytes.__init__" := callW_low (by kernel_rfl)
def m_Bytes_take (call : Str → SF) : SS := (sSeq (sIf (bOr (bOf (cOp2 (ltD' .ge) (cOp1 (fldD scl.ca 34) (cVar 0)) (cOpN lenD (cCons (cOp1 (fldD scl.ca 33) (cVar 0)) cNil)))) (bOf (cOp2 (ltD' .ge) (cOp2 ixD (cOp1 (fldD scl.ca 33) (cVar 0)) (cOp1 (fldD scl.ca 34) (cVar 0))) (cVar 1)))) (sSeq (sRaise1 18 (cOp1 (fldD scl.ca 34) (cVar 0)))
  sPass) sPass)
  (sSeq (sFAug scl.ca 34 addI (cVar 0) (cCon (.int 1)))
  (sSeq (sRet (cOp2 ixD (cOp1 (fldD scl.ca 33) (cVar 0)) (cOp2 subD (cOp1 (fldD scl.ca 34) (cVar 0)) (cCon (.int 1)))))
  sPass)))
theorem b_Bytes_take (call : Str → SF) : bodyF glob scl call f_Bytes_take = m_Bytes_take call := by kernel_rfl
theorem c_Bytes_take (k : Nat) (ds : List D) (R : Rg) (h : ds.length = 2) : callF glob scl T (k + 3) "Bytes.take" ds R = finM true false R (m_Bytes_take (callW glob scl T (k + 2)) (ds ++ List.replicate 0 .undef) R) := by
  rw [callF_run (fi := f_Bytes_take) (by kernel_rfl)]
  unfold runF
  rw [if_pos (show ds.length = f_Bytes_take.ps.length from h), b_Bytes_take]
  rfl
theorem w_Bytes_take (k : Nat) : callW glob scl T k "Bytes.take" = callF glob scl T k "Bytes.take" := callW_std (by kernel_rfl)
def m_Bytes_event_taken (call : Str → SF) : SS := (sSeq (sAsg (eMetO [(14, call "Bytes.take", [])] "take" (cVar 0) (cCons (cOp2 (mulX false) (cCon (.int (8))) (cOpN lenD (cCons (cCon (.tup (u_WORDS.map .str))) cNil))) cNil)) (gVar 1))
  (sSeq (sPar2 2 3 (cCons (cOp2 ixD (cCon (.tup (u_WORDS.map .str))) (cOp2 fdivD (cVar 1) (cCon (.int (8))))) (cCons (cOp2 subD (cVar 1) (cOp2 (mulX false) (cOp2 fdivD (cVar 1) (cCon (.int (8)))) (cCon (.int (8))))) cNil)))
  (sSeq (sIf (bOf (cOp2 (ltD' .ge) (cVar 3) (cCon (.int (6))))) (sSeq (sRaise1 18 (cOp2 subD (cOp1 (fldD scl.ca 34) (cVar 0)) (cCon (.int 1))))
  sPass) sPass)
  (sSeq (sIf (bOf (cOp2 (eqX false (eqF call scl.eqs)) (cOp1 (ixT t_SIZES) (cVar 2)) (cCon (.int 4)))) (sSeq (sAsg (eMetO [(14, call "Bytes.take", [])] "take" (cVar 0) (cCons (cCon (.int (16))) cNil)) (gVar 4))
  (sSeq (sRet (cTup (cCons (cVar 2) (cCons (cVar 3) (cCons (cVar 4) (cCons (eMetO [(14, call "Bytes.take", [])] "take" (cVar 0) (cCons (cCon (.int (100))) cNil)) cNil))))))
  sPass)) sPass)
  (sSeq (sRet (cIf (bOf (cOp2 (eqX false (eqF call scl.eqs)) (cOp1 (ixT t_SIZES) (cVar 2)) (cCon (.int 3)))) (cTup (cCons (cVar 2) (cCons (cVar 3) (cCons (eMetO [(14, call "Bytes.take", [])] "take" (cVar 0) (cCons (cCon (.int (3))) cNil)) cNil)))) (cTup (cCons (cVar 2) (cCons (cVar 3) cNil)))))
  sPass)))))
theorem b_Bytes_event_taken (call : Str → SF) : bodyF glob scl call f_Bytes_event_taken = m_Bytes_event_taken call := by kernel_rfl
theorem c_Bytes_event_taken (k : Nat) (ds : List D) (R : Rg) (h : ds.length = 1) : callF glob scl T (k + 3) "Bytes.event_taken" ds R = finM true false R (m_Bytes_event_taken (callW glob scl T (k + 2)) (ds ++ List.replicate 4 .undef) R) := by
  rw [callF_run (fi := f_Bytes_event_taken) (by kernel_rfl)]
  unfold runF
  rw [if_pos (show ds.length = f_Bytes_event_taken.ps.length from h), b_Bytes_event_taken]
  rfl
theorem w_Bytes_event_taken (k : Nat) : callW glob scl T k "Bytes.event_taken" = callF glob scl T k "Bytes.event_taken" := callW_std (by kernel_rfl)
def m_unpacked_c1 (call : Str → SF) : SB := (bOf (cOp2 (ltD' .lt) (cOp1 (fldD scl.ca 34) (cVar 1)) (cOpN lenD (cCons (cVar 0) cNil))))
def m_unpacked_b1 (call : Str → SF) : SS := (sSeq (sAsg (cOp1 (fldD scl.ca 34) (cVar 1)) (gVar 4))
  (sSeq (sAsg (eMetO [(14, call "Bytes.event_taken", [])] "event_taken" (cVar 1) cNil) (gVar 5))
  (sSeq (sIf (bOr (bOf (cOp2 (ltD' .ge) (cOpN lenD (cCons (cVar 3) cNil)) (cCon (.int (200))))) (bNot (bVal (eMetO [(4, call "Locks.comes", [])] "comes" (cVar 2) (cCons (cVar 5) cNil))))) (sSeq (sRaise1 18 (cVar 4))
  sPass) sPass)
  (sSeq (sExpr (eMetL [(0, appendD)] (cVar 3) (cCons (cVar 5) cNil)))
  sPass))))
def m_unpacked (call : Str → SF) : SS := (sSeq (sIf (bNot (bVal (cOpN (isiX scl.cls scl.kit) (cCons (cVar 0) (cCons (cCon (.ty "bytes")) cNil))))) (sSeq (sRaise1 18 (cCon .non))
  sPass) sPass)
  (sSeq (sPar3 1 2 3 (cCons (cMake 14 (call "Bytes.__init__") [] (cCons (cVar 0) cNil)) (cCons (cMake 4 (call "Locks.__init__") [] cNil) (cCons (cLst true cNil) cNil))))
  (sSeq (sWhile (m_unpacked_c1 call) (m_unpacked_b1 call))
  (sSeq (sRet (cVar 3))
  sPass))))
theorem b_unpacked (call : Str → SF) : bodyF glob scl call f_unpacked = m_unpacked call := by kernel_rfl
theorem c_unpacked (k : Nat) (ds : List D) (R : Rg) (h : ds.length = 1) : callF glob scl T (k + 3) "unpacked" ds R = finM false false R (m_unpacked (callW glob scl T (k + 2)) (ds ++ List.replicate 5 .undef) R) := by
  rw [callF_run (fi := f_unpacked) (by kernel_rfl)]
  unfold runF
  rw [if_pos (show ds.length = f_unpacked.ps.length from h), b_unpacked]
  rfl
theorem w_unpacked (k : Nat) : callW glob scl T k "unpacked" = callF glob scl T k "unpacked" := callW_std (by kernel_rfl)
def m_hexed (call : Str → SF) : SS := (sSeq (sRet (eMetL [(3, hexM)] (cCall (call "packed") [] (cCons (cVar 0) cNil)) cNil))
  sPass)
theorem b_hexed (call : Str → SF) : bodyF glob scl call f_hexed = m_hexed call := by kernel_rfl
theorem c_hexed (k : Nat) (ds : List D) (R : Rg) (h : ds.length = 1) : callF glob scl T (k + 3) "hexed" ds R = finM false false R (m_hexed (callW glob scl T (k + 2)) (ds ++ List.replicate 0 .undef) R) := by
  rw [callF_run (fi := f_hexed) (by kernel_rfl)]
  unfold runF
  rw [if_pos (show ds.length = f_hexed.ps.length from h), b_hexed]
  rfl
theorem w_hexed (k : Nat) : callW glob scl T k "hexed" = callF glob scl T k "hexed" := callW_std (by kernel_rfl)
def m_of_hex_e1 (call : Str → SF) : SE := (cOp2 (inX false) (cVar 1) (cCon (.str [48, 49, 50, 51, 52, 53, 54, 55, 56, 57, 97, 98, 99, 100, 101, 102])))
def m_of_hex (call : Str → SF) : SS := (sSeq (sIf (bOr (bNot (bVal (cOpN (isiX scl.cls scl.kit) (cCons (cVar 0) (cCons (cCon (.ty "str")) cNil))))) (bOr (bOf (cOp2 (eqX true (eqF call scl.eqs)) (cOp2 modD (cOpN lenD (cCons (cVar 0) cNil)) (cCon (.int 2))) (cCon (.int 0)))) (bNot (bVal (cOpN allD (cCons (cComp (iAny (cVar 0)) (gVar 1) (fun _ R => .ok true R) (m_of_hex_e1 call) [1] false) cNil)))))) (sSeq (sRaise1 18 (cCon .non))
  sPass) sPass)
  (sSeq (sRet (cCall (call "unpacked") [] (cCons (eFh (cCon (.ty "bytes")) (cCons (cVar 0) cNil)) cNil)))
  sPass))
theorem b_of_hex (call : Str → SF) : bodyF glob scl call f_of_hex = m_of_hex call := by kernel_rfl
theorem c_of_hex (k : Nat) (ds : List D) (R : Rg) (h : ds.length = 1) : callF glob scl T (k + 3) "of_hex" ds R = finM false false R (m_of_hex (callW glob scl T (k + 2)) (ds ++ List.replicate 1 .undef) R) := by
  rw [callF_run (fi := f_of_hex) (by kernel_rfl)]
  unfold runF
  rw [if_pos (show ds.length = f_of_hex.ps.length from h), b_of_hex]
  rfl
theorem w_of_hex (k : Nat) : callW glob scl T k "of_hex" = callF glob scl T k "of_hex" := callW_std (by kernel_rfl)
def m__law_cell_at (call : Str → SF) : SS := (sSeq (sIf (bOf (cOp2 (ltD' .lt) (cVar 1) (cOpN lenD (cCons (cVar 0) cNil)))) (sSeq (sRet (cOp2 ixD (cVar 0) (cVar 1)))
  sPass) sPass)
  (sSeq (sIf (bOf (cOp2 (eqX false (eqF call scl.eqs)) (cVar 0) (cLst false cNil))) (sSeq (sRet (cOp2 (mulX false) (cVar 1) (cCon (.int 48271))))
  sPass) sPass)
  (sSeq (sRet (cOp2 modD (cOp2 (mulX false) (cOp2 (addD false) (cOp2 ixD (cVar 0) (cOp2 modD (cVar 1) (cOpN lenD (cCons (cVar 0) cNil)))) (cVar 1)) (cCon (.int 48271))) (cCon (.int 2147483647))))
  sPass)))
theorem b__law_cell_at (call : Str → SF) : bodyF glob scl call f__law_cell_at = m__law_cell_at call := by kernel_rfl
theorem c__law_cell_at (k : Nat) (ds : List D) (R : Rg) (h : ds.length = 2) : callF glob scl T (k + 3) "_law_cell_at" ds R = finM false false R (m__law_cell_at (callW glob scl T (k + 2)) (ds ++ List.replicate 0 .undef) R) := by
  rw [callF_run (fi := f__law_cell_at) (by kernel_rfl)]
  unfold runF
  rw [if_pos (show ds.length = f__law_cell_at.ps.length from h), b__law_cell_at]
  rfl
theorem w__law_cell_at (k : Nat) : callW glob scl T k "_law_cell_at" = callF glob scl T k "_law_cell_at" := callW_std (by kernel_rfl)
def m__law_numbers_b1 (call : Str → SF) : SS := (sSeq (sExpr (eMetL [(0, appendD)] (cVar 3) (cCons (cOp2 modD (cOpN intX (cCons (cVar 2) cNil)) (cVar 1)) cNil)))
  (sSeq (sAsg (cOp2 fdivD (cVar 2) (cVar 1)) (gVar 2))
  sPass))
def m__law_numbers (call : Str → SF) : SS := (sSeq (sAsg (cVar 0) (gVar 2))
  (sSeq (sIf (bOf (cOp2 (ltD' .lt) (cVar 0) (cOp2 powD (cCon (.int 10)) (cCon (.int 18))))) (sSeq (sAsg (cOp2 fdivD (cOp2 powD (cOp2 (addD false) (cOp2 (mulX false) (cOp2 modD (cVar 0) (cCon (.int 2147483647))) (cCon (.int 48271))) (cCon (.int 12345))) (cCon (.int 5))) (cCon (.int 1013))) (gVar 2))
  sPass) sPass)
  (sSeq (sAsg (cLst true cNil) (gVar 3))
  (sSeq (sFor (iAny (cVar 1)) (gVar 1) (m__law_numbers_b1 call))
  (sSeq (sRet (cVar 3))
  sPass)))))
theorem b__law_numbers (call : Str → SF) : bodyF glob scl call f__law_numbers = m__law_numbers call := by kernel_rfl
theorem c__law_numbers (k : Nat) (ds : List D) (R : Rg) (h : ds.length = 2) : callF glob scl T (k + 3) "_law_numbers" ds R = finM false false R (m__law_numbers (callW glob scl T (k + 2)) (ds ++ List.replicate 2 .undef) R) := by
  rw [callF_run (fi := f__law_numbers) (by kernel_rfl)]
  unfold runF
  rw [if_pos (show ds.length = f__law_numbers.ps.length from h), b__law_numbers]
  rfl
theorem w__law_numbers (k : Nat) : callW glob scl T k "_law_numbers" = callF glob scl T k "_law_numbers" := callW_std (by kernel_rfl)
def m__law_by (call : Str → SF) : SS := (sSeq (sRet (cIf (bOf (cOp2 (eqX true (eqF call scl.eqs)) (cVar 0) (cLst false cNil))) (cOp2 modD (cOpN intX (cCons (eMetL [(0, popD), (1, dpopD)] (cVar 0) (cCons (cCon (.int 0)) cNil)) cNil)) (cVar 1)) (cCon (.int 0))))
  sPass)
theorem b__law_by (call : Str → SF) : bodyF glob scl call f__law_by = m__law_by call := by kernel_rfl
theorem c__law_by (k : Nat) (ds : List D) (R : Rg) (h : ds.length = 2) : callF glob scl T (k + 3) "_law_by" ds R = finM false false R (m__law_by (callW glob scl T (k + 2)) (ds ++ List.replicate 0 .undef) R) := by
  rw [callF_run (fi := f__law_by) (by kernel_rfl)]
  unfold runF
  rw [if_pos (show ds.length = f__law_by.ps.length from h), b__law_by]
  rfl
theorem w__law_by (k : Nat) : callW glob scl T k "_law_by" = callF glob scl T k "_law_by" := callW_std (by kernel_rfl)
def m__law_draws_b1 (call : Str → SF) : SS := (sSeq (sAsg (cOp2 (addD true) (cVar 3) (cCall (call "_law_numbers") [] (cCons (cCall (call "_law_cell_at") [] (cCons (cVar 0) (cCons (cOp2 (addD false) (cVar 1) (cVar 4)) cNil))) (cCons (cLst false (cCons (cCon (.int 120)) (cCons (cCon (.int 120)) (cCons (cCon (.int 120)) (cCons (cCon (.int 120)) (cCons (cCon (.int 120)) (cCons (cCon (.int 120)) cNil))))))) cNil)))) (gVar 3))
  sPass)
def m__law_draws (call : Str → SF) : SS := (sSeq (sAsg (cLst true cNil) (gVar 3))
  (sSeq (sFor (iArgs rng1 (cCons (cVar 2) cNil)) (gVar 4) (m__law_draws_b1 call))
  (sSeq (sRet (cVar 3))
  sPass)))
theorem b__law_draws (call : Str → SF) : bodyF glob scl call f__law_draws = m__law_draws call := by kernel_rfl
theorem c__law_draws (k : Nat) (ds : List D) (R : Rg) (h : ds.length = 3) : callF glob scl T (k + 3) "_law_draws" ds R = finM false true R (m__law_draws (callW glob scl T (k + 2)) (ds ++ List.replicate 2 .undef) R) := by
  rw [callF_run (fi := f__law_draws) (by kernel_rfl)]
  unfold runF
  rw [if_pos (show ds.length = f__law_draws.ps.length from h), b__law_draws]
  rfl
theorem w__law_draws (k : Nat) : callW glob scl T k "_law_draws" = callF glob scl T k "_law_draws" := callW_std (by kernel_rfl)
def m__law_history_t1 (call : Str → SF) : SB := (bOf (cOp2 (eqX true (eqF call scl.eqs)) (cOp2 ixD (cVar 4) (cVar 10)) (cVar 6)))
def m__law_history_e1 (call : Str → SF) : SE := (cTup (cCons (cVar 10) (cCons (cOp2 ixD (cVar 4) (cVar 10)) cNil)))
def m__law_history_b1 (call : Str → SF) : SS := (sSeq (sAsg (cTup (cCons (cCall (call "_law_by") [] (cCons (cVar 0) (cCons (cCon (.int 4)) cNil))) (cCons (cCall (call "_law_by") [] (cCons (cVar 0) (cCons (cCon (.int 12)) cNil))) cNil))) (gT 2 (gC (gVar 6) (gC (gVar 7) gN))))
  (sSeq (sPar2 8 9 (cCons (cCall (call "_law_by") [] (cCons (cVar 0) (cCons (cCon (.int 3)) cNil))) (cCons (cOp2 ixD (cLst false (cCons (cCon (.int 0)) (cCons (cCon (.int 1)) (cCons (cCon (.int 4)) (cCons (cCon (.int 15)) cNil))))) (cCall (call "_law_by") [] (cCons (cVar 0) (cCons (cCon (.int 4)) cNil)))) cNil)))
  (sSeq (sIf (bOf (cOp2 (inX false) (cVar 6) (cVar 5))) (sSeq sCont
  sPass) sPass)
  (sSeq (sIf (bOf (cOp2 (ltD' .lt) (cVar 7) (cCon (.int 4)))) (sSeq (sExpr (eMetL [(0, appendD)] (cVar 3) (cCons (cTup (cCons (cCon (.str [119, 114, 105, 116, 101])) (cCons (cVar 6) (cCons (cVar 9) (cCons (cOp2 (mulX false) (cCall (call "_law_by") [] (cCons (cVar 0) (cCons (cCon (.int 4)) cNil))) (cCon (.int 33))) cNil))))) cNil)))
  sPass) (sSeq (sIf (bOf (cOp2 (ltD' .lt) (cVar 7) (cCon (.int 8)))) (sSeq (sExpr (eMetL [(0, appendD)] (cVar 3) (cCons (cTup (cCons (cCon (.str [114, 101, 97, 100])) (cCons (cVar 6) (cCons (cVar 9) (cCons (cOp2 (mulX false) (cCall (call "_law_by") [] (cCons (cVar 0) (cCons (cCon (.int 4)) cNil))) (cCon (.int 33))) cNil))))) cNil)))
  sPass) (sSeq (sIf (bAnd (bOf (cOp2 (eqX false (eqF call scl.eqs)) (cVar 7) (cCon (.int 8)))) (bOf (cOp2 (eqX false (eqF call scl.eqs)) (cOp2 modD (cVar 2) (cCon (.int 3))) (cCon (.int 0))))) (sSeq (sExpr (eMetL [(0, appendD)] (cVar 3) (cCons (cTup (cCons (cCon (.str [103, 111, 110, 101])) (cCons (cVar 6) cNil))) cNil)))
  (sSeq (sExpr (eMetL [(0, appendD)] (cVar 5) (cCons (cVar 6) cNil)))
  (sSeq (sAsg (cOpN (dictD true) (cCons (cLock (cVar 4) (cComp (iAny (cVar 4)) (gVar 10) (m__law_history_t1 call) (m__law_history_e1 call) [10] false)) cNil)) (gVar 4))
  sPass))) (sSeq (sIf (bOf (cOp2 (inX true) (cVar 8) (cVar 4))) (sSeq (sExpr (eMetL [(0, appendD)] (cVar 3) (cCons (cTup (cCons (cCon (.str [116, 97, 107, 101])) (cCons (cVar 6) (cCons (cVar 8) cNil)))) cNil)))
  (sSeq (sAsg (cVar 6) (gIx (cVar 4) (cVar 8)))
  sPass)) (sSeq (sIf (bOf (cOp2 (eqX false (eqF call scl.eqs)) (cOp2 ixD (cVar 4) (cVar 8)) (cVar 6))) (sSeq (sExpr (eMetL [(0, appendD)] (cVar 3) (cCons (cTup (cCons (cCon (.str [102, 114, 101, 101])) (cCons (cVar 6) (cCons (cVar 8) cNil)))) cNil)))
  (sSeq (sExpr (eMetL [(0, popD), (1, dpopD)] (cVar 4) (cCons (cVar 8) cNil)))
  sPass)) sPass)
  sPass))
  sPass))
  sPass))
  sPass))
  sPass))))
def m__law_history (call : Str → SF) : SS := (sSeq (sAsg (cTup (cCons (cLst true cNil) (cCons (cDNew true) (cCons (cLst true cNil) cNil)))) (gT 3 (gC (gVar 3) (gC (gVar 4) (gC (gVar 5) gN)))))
  (sSeq (sFor (iArgs rng1 (cCons (cVar 1) cNil)) (gVar 2) (m__law_history_b1 call))
  (sSeq (sRet (cVar 3))
  sPass)))
theorem b__law_history (call : Str → SF) : bodyF glob scl call f__law_history = m__law_history call := by kernel_rfl
theorem c__law_history (k : Nat) (ds : List D) (R : Rg) (h : ds.length = 2) : callF glob scl T (k + 3) "_law_history" ds R = finM false false R (m__law_history (callW glob scl T (k + 2)) (ds ++ List.replicate 9 .undef) R) := by
  rw [callF_run (fi := f__law_history) (by kernel_rfl)]
  unfold runF
  rw [if_pos (show ds.length = f__law_history.ps.length from h), b__law_history]
  rfl
theorem w__law_history (k : Nat) : callW glob scl T k "_law_history" = callF glob scl T k "_law_history" := callW_std (by kernel_rfl)
def m__law_can_be_t1 (call : Str → SF) : SB := (bOf (cOp2 (eqX true (eqF call scl.eqs)) (cOp2 ixD (cVar 1) (cVar 7)) (cVar 6)))
def m__law_can_be_e1 (call : Str → SF) : SE := (cTup (cCons (cVar 7) (cCons (cOp2 ixD (cVar 1) (cVar 7)) cNil)))
def m__law_can_be_b1 (call : Str → SF) : SS := (sSeq (sAsg (cTup (cCons (cOp2 ixD (cVar 4) (cCon (.int 0))) (cCons (cOp2 ixD (cVar 4) (cCon (.int 1))) cNil))) (gT 2 (gC (gVar 5) (gC (gVar 6) gN))))
  (sSeq (sIf (bOr (bOf (cOp2 (inX false) (cVar 6) (cVar 2))) (bAnd (bOf (cOp2 (eqX false (eqF call scl.eqs)) (cVar 5) (cCon (.str [116, 97, 107, 101])))) (bOf (cOp2 (inX false) (cOp2 ixD (cVar 4) (cCon (.int 2))) (cVar 1))))) (sSeq (sRet (cVar 3))
  sPass) sPass)
  (sSeq (sIf (bAnd (bOf (cOp2 (eqX false (eqF call scl.eqs)) (cVar 5) (cCon (.str [102, 114, 101, 101])))) (bOf (cOp2 (eqX true (eqF call scl.eqs)) (eMetL [(1, Om.getD)] (cVar 1) (cCons (cOp2 ixD (cVar 4) (cCon (.int 2))) (cCons (cCon .non) cNil))) (cVar 6)))) (sSeq (sRet (cVar 3))
  sPass) sPass)
  (sSeq (sIf (bOf (cOp2 (eqX false (eqF call scl.eqs)) (cVar 5) (cCon (.str [116, 97, 107, 101])))) (sSeq (sAsg (cVar 6) (gIx (cVar 1) (cOp2 ixD (cVar 4) (cCon (.int 2)))))
  sPass) (sSeq (sIf (bOf (cOp2 (eqX false (eqF call scl.eqs)) (cVar 5) (cCon (.str [102, 114, 101, 101])))) (sSeq (sExpr (eMetL [(0, popD), (1, dpopD)] (cVar 1) (cCons (cOp2 ixD (cVar 4) (cCon (.int 2))) cNil)))
  sPass) (sSeq (sIf (bOf (cOp2 (eqX false (eqF call scl.eqs)) (cVar 5) (cCon (.str [103, 111, 110, 101])))) (sSeq (sExpr (eMetL [(0, appendD)] (cVar 2) (cCons (cVar 6) cNil)))
  (sSeq (sAsg (cOpN (dictD true) (cCons (cLock (cVar 1) (cComp (iAny (cVar 1)) (gVar 7) (m__law_can_be_t1 call) (m__law_can_be_e1 call) [7] false)) cNil)) (gVar 1))
  sPass)) sPass)
  sPass))
  sPass))
  sPass))))
def m__law_can_be (call : Str → SF) : SS := (sSeq (sAsg (cTup (cCons (cDNew true) (cCons (cLst true cNil) cNil))) (gT 2 (gC (gVar 1) (gC (gVar 2) gN))))
  (sSeq (sFor (iArgs enum1 (cCons (cVar 0) cNil)) (gT 2 (gC (gVar 3) (gC (gVar 4) gN))) (m__law_can_be_b1 call))
  (sSeq (sRet (cCon .non))
  sPass)))
theorem b__law_can_be (call : Str → SF) : bodyF glob scl call f__law_can_be = m__law_can_be call := by kernel_rfl
theorem c__law_can_be (k : Nat) (ds : List D) (R : Rg) (h : ds.length = 1) : callF glob scl T (k + 3) "_law_can_be" ds R = finM false false R (m__law_can_be (callW glob scl T (k + 2)) (ds ++ List.replicate 7 .undef) R) := by
  rw [callF_run (fi := f__law_can_be) (by kernel_rfl)]
  unfold runF
  rw [if_pos (show ds.length = f__law_can_be.ps.length from h), b__law_can_be]
  rfl
theorem w__law_can_be (k : Nat) : callW glob scl T k "_law_can_be" = callF glob scl T k "_law_can_be" := callW_std (by kernel_rfl)
def m__law_hexed_e1 (call : Str → SF) : SE := (cOp2 (addD false) (cOp2 ixD (cCon (.str [48, 49, 50, 51, 52, 53, 54, 55, 56, 57, 97, 98, 99, 100, 101, 102])) (cOp2 fdivD (cVar 1) (cCon (.int 16)))) (cOp2 ixD (cCon (.str [48, 49, 50, 51, 52, 53, 54, 55, 56, 57, 97, 98, 99, 100, 101, 102])) (cOp2 modD (cOpN intX (cCons (cVar 1) cNil)) (cCon (.int 16)))))
def m__law_hexed (call : Str → SF) : SS := (sSeq (sRet (eMetL [(2, joinD)] (cCon (.str [])) (cCons (cComp (iAny (cVar 0)) (gVar 1) (fun _ R => .ok true R) (m__law_hexed_e1 call) [1] false) cNil)))
  sPass)
theorem b__law_hexed (call : Str → SF) : bodyF glob scl call f__law_hexed = m__law_hexed call := by kernel_rfl
theorem c__law_hexed (k : Nat) (ds : List D) (R : Rg) (h : ds.length = 1) : callF glob scl T (k + 3) "_law_hexed" ds R = finM false false R (m__law_hexed (callW glob scl T (k + 2)) (ds ++ List.replicate 1 .undef) R) := by
  rw [callF_run (fi := f__law_hexed) (by kernel_rfl)]
  unfold runF
  rw [if_pos (show ds.length = f__law_hexed.ps.length from h), b__law_hexed]
  rfl
theorem w__law_hexed (k : Nat) : callW glob scl T k "_law_hexed" = callF glob scl T k "_law_hexed" := callW_std (by kernel_rfl)
def m__law_numbers_of_b1 (call : Str → SF) : SS := (sSeq (sExpr (eMetL [(0, appendD)] (cVar 1) (cCons (cOp2 (addD false) (cOp2 (mulX false) (cCon (.int 8)) (eMetL [(0, indexD)] (cLst false (cCons (cCon (.str [119, 114, 105, 116, 101])) (cCons (cCon (.str [114, 101, 97, 100])) (cCons (cCon (.str [116, 97, 107, 101])) (cCons (cCon (.str [102, 114, 101, 101])) (cCons (cCon (.str [103, 111, 110, 101])) cNil)))))) (cCons (cOp2 ixD (cVar 2) (cCon (.int 0))) cNil))) (cOp2 ixD (cVar 2) (cCon (.int 1)))) cNil)))
  (sSeq (sAsg (cOp2 (addD true) (cVar 1) (cOpN (listX false) (cCons (cSl false (cVar 2) (some (cCon (.int 2))) none) cNil))) (gVar 1))
  sPass))
def m__law_numbers_of (call : Str → SF) : SS := (sSeq (sAsg (cLst true cNil) (gVar 1))
  (sSeq (sFor (iAny (cVar 0)) (gVar 2) (m__law_numbers_of_b1 call))
  (sSeq (sRet (cVar 1))
  sPass)))
theorem b__law_numbers_of (call : Str → SF) : bodyF glob scl call f__law_numbers_of = m__law_numbers_of call := by kernel_rfl
theorem c__law_numbers_of (k : Nat) (ds : List D) (R : Rg) (h : ds.length = 1) : callF glob scl T (k + 3) "_law_numbers_of" ds R = finM false false R (m__law_numbers_of (callW glob scl T (k + 2)) (ds ++ List.replicate 2 .undef) R) := by
  rw [callF_run (fi := f__law_numbers_of) (by kernel_rfl)]
  unfold runF
  rw [if_pos (show ds.length = f__law_numbers_of.ps.length from h), b__law_numbers_of]
  rfl
theorem w__law_numbers_of (k : Nat) : callW glob scl T k "_law_numbers_of" = callF glob scl T k "_law_numbers_of" := callW_std (by kernel_rfl)
def m__law_due_c1 (call : Str → SF) : SB := (bOf (cOp2 (ltD' .lt) (cVar 2) (cOpN lenD (cCons (cVar 0) cNil))))
def m__law_due_b1 (call : Str → SF) : SS := (sSeq (sIf (bOf (cOp2 (ltD' .ge) (cOp2 (addD false) (cOp2 (addD false) (cVar 2) (cCon (.int 1))) (cVar 6)) (cOpN lenD (cCons (cVar 0) cNil)))) (sSeq (sRet (cOpN lenD (cCons (cVar 0) cNil)))
  sPass) sPass)
  (sSeq (sIf (bOf (cOp2 (ltD' .gt) (cOp2 ixD (cVar 0) (cOp2 (addD false) (cOp2 (addD false) (cVar 2) (cCon (.int 1))) (cVar 6))) (cVar 7))) (sSeq (sRet (cOp2 (addD false) (cOp2 (addD false) (cVar 2) (cCon (.int 1))) (cVar 6)))
  sPass) sPass)
  sPass))
def m__law_due_b2 (call : Str → SF) : SS := (sSeq (sIf (bOr (bOf (cOp2 (ltD' .gt) (cOp2 fdivD (cOp2 ixD (cVar 0) (cVar 2)) (cCon (.int 8))) (cCon (.int 4)))) (bOf (cOp2 (ltD' .gt) (cOp2 modD (cOpN intX (cCons (cOp2 ixD (cVar 0) (cVar 2)) cNil)) (cCon (.int 8))) (cCon (.int 5))))) (sSeq (sRet (cVar 2))
  sPass) sPass)
  (sSeq (sAsg (cOp2 ixD (cLst false (cCons (cCon (.str [119, 114, 105, 116, 101])) (cCons (cCon (.str [114, 101, 97, 100])) (cCons (cCon (.str [116, 97, 107, 101])) (cCons (cCon (.str [102, 114, 101, 101])) (cCons (cCon (.str [103, 111, 110, 101])) cNil)))))) (cOp2 fdivD (cOp2 ixD (cVar 0) (cVar 2)) (cCon (.int 8)))) (gVar 3))
  (sSeq (sAsg (cOp2 ixD (cDisp false [((cCon (.str [119, 114, 105, 116, 101])), (cLst false (cCons (cCon (.int 15)) (cCons (cCon (.int 99)) cNil)))), ((cCon (.str [114, 101, 97, 100])), (cLst false (cCons (cCon (.int 15)) (cCons (cCon (.int 99)) cNil)))), ((cCon (.str [116, 97, 107, 101])), (cLst false (cCons (cCon (.int 2)) cNil))), ((cCon (.str [102, 114, 101, 101])), (cLst false (cCons (cCon (.int 2)) cNil))), ((cCon (.str [103, 111, 110, 101])), (cLst false cNil))]) (cVar 3)) (gVar 4))
  (sSeq (sFor (iArgs enum1 (cCons (cVar 4) cNil)) (gT 2 (gC (gVar 6) (gC (gVar 7) gN))) (m__law_due_b1 call))
  (sSeq (sAsg (cOpN tupleD (cCons (cOp2 (addD false) (cLst false (cCons (cVar 3) (cCons (cOp2 modD (cOpN intX (cCons (cOp2 ixD (cVar 0) (cVar 2)) cNil)) (cCon (.int 8))) cNil))) (cSl false (cVar 0) (some (cOp2 (addD false) (cVar 2) (cCon (.int 1)))) (some (cOp2 (addD false) (cOp2 (addD false) (cVar 2) (cCon (.int 1))) (cOpN lenD (cCons (cVar 4) cNil)))))) cNil)) (gVar 5))
  (sSeq (sIf (bOr (bOf (cOp2 (ltD' .ge) (cOpN lenD (cCons (cVar 1) cNil)) (cCon (.int 200)))) (bOf (cOp2 (isD true) (cCall (call "_law_can_be") [] (cCons (cOp2 (addD false) (cVar 1) (cLst false (cCons (cVar 5) cNil))) cNil)) (cCon .non)))) (sSeq (sRet (cVar 2))
  sPass) sPass)
  (sSeq (sPar2 1 2 (cCons (cOp2 (addD false) (cVar 1) (cLst false (cCons (cVar 5) cNil))) (cCons (cOp2 (addD false) (cOp2 (addD false) (cVar 2) (cCon (.int 1))) (cOpN lenD (cCons (cVar 4) cNil))) cNil)))
  sPass)))))))
def m__law_due (call : Str → SF) : SS := (sSeq (sPar2 1 2 (cCons (cLst false cNil) (cCons (cCon (.int 0)) cNil)))
  (sSeq (sWhile (m__law_due_c1 call) (m__law_due_b2 call))
  (sSeq (sRet (cVar 1))
  sPass)))
theorem b__law_due (call : Str → SF) : bodyF glob scl call f__law_due = m__law_due call := by kernel_rfl
theorem c__law_due (k : Nat) (ds : List D) (R : Rg) (h : ds.length = 1) : callF glob scl T (k + 3) "_law_due" ds R = finM false false R (m__law_due (callW glob scl T (k + 2)) (ds ++ List.replicate 7 .undef) R) := by
  rw [callF_run (fi := f__law_due) (by kernel_rfl)]
  unfold runF
  rw [if_pos (show ds.length = f__law_due.ps.length from h), b__law_due]
  rfl
theorem w__law_due (k : Nat) : callW glob scl T k "_law_due" = callF glob scl T k "_law_due" := callW_std (by kernel_rfl)
def m__law_judged_y1 (call : Str → SF) : SS := (sSeq (sRet (cAndT (cOp2 (eqX false (eqF call scl.eqs)) (cCall (call "of_hex") [] (cCons (cCall (call "_law_hexed") [] (cCons (cVar 0) cNil)) cNil)) (cVar 1)) (cOpN (isiX scl.cls scl.kit) (cCons (cVar 1) (cCons (cCon (.ty "list")) cNil)))))
  sPass)
def m__law_judged (call : Str → SF) : SS := (sSeq (sAsg (cCall (call "_law_due") [] (cCons (cVar 0) cNil)) (gVar 1))
  (sSeq (sTryA (m__law_judged_y1 call) (hitR scl.xk.hits 18) 2 (fun c f => (sErrF (ownR scl.xk.rows) true "at" c f (sSeq (sRet (cOp2 (eqX false (eqF call Sc.none.eqs)) (cCon f) (cVar 1))) sPass) (sSeq (sRet (cOp2 (eqX false (eqF call Sc.none.eqs)) (cOp1 (fldD Sc.none.ca 34) (cVar 2)) (cVar 1)))
  sPass))))
  sPass))
theorem b__law_judged (call : Str → SF) : bodyF glob scl call f__law_judged = m__law_judged call := by kernel_rfl
theorem c__law_judged (k : Nat) (ds : List D) (R : Rg) (h : ds.length = 1) : callF glob scl T (k + 3) "_law_judged" ds R = finM false false R (m__law_judged (callW glob scl T (k + 2)) (ds ++ List.replicate 2 .undef) R) := by
  rw [callF_run (fi := f__law_judged) (by kernel_rfl)]
  unfold runF
  rw [if_pos (show ds.length = f__law_judged.ps.length from h), b__law_judged]
  rfl
theorem w__law_judged (k : Nat) : callW glob scl T k "_law_judged" = callF glob scl T k "_law_judged" := callW_std (by kernel_rfl)
def m__law_bent (call : Str → SF) : SS := (sSeq (sPar2 2 3 (cCons (cOp2 modD (cOp2 fdivD (cVar 0) (cCon (.int 8))) (cOp2 (addD false) (cOpN lenD (cCons (cVar 1) cNil)) (cCon (.int 1)))) (cCons (cOp2 ixD (cLst false (cCons (cOp2 modD (cOp2 fdivD (cVar 0) (cCon (.int 5000))) (cCon (.int 256))) (cCons (cCon (.int 40)) (cCons (cCon (.int 14)) (cCons (cCon (.int 16)) (cCons (cCon (.int 0)) (cCons (cCon (.int 100)) cNil))))))) (cOp2 modD (cOp2 fdivD (cVar 0) (cCon (.int 700))) (cCon (.int 6)))) cNil)))
  (sSeq (sIf (bOf (cOp2 (ltD' .lt) (cOp2 modD (cVar 0) (cCon (.int 8))) (cCon (.int 3)))) (sSeq (sRet (cOp2 (addD false) (cOp2 (addD false) (cSl false (cVar 1) none (some (cVar 2))) (cLst false (cCons (cVar 3) cNil))) (cSl false (cVar 1) (some (cOp2 (addD false) (cVar 2) (cOp2 modD (cVar 0) (cCon (.int 2))))) none)))
  sPass) sPass)
  (sSeq (sIf (bOf (cOp2 (eqX false (eqF call scl.eqs)) (cOp2 modD (cVar 0) (cCon (.int 8))) (cCon (.int 3)))) (sSeq (sRet (cOp2 (addD false) (cSl false (cVar 1) none (some (cVar 2))) (cSl false (cVar 1) (some (cOp2 (addD false) (cVar 2) (cCon (.int 1)))) none)))
  sPass) sPass)
  (sSeq (sIf (bOf (cOp2 (eqX false (eqF call scl.eqs)) (cOp2 modD (cVar 0) (cCon (.int 8))) (cCon (.int 4)))) (sSeq (sRet (cSl false (cVar 1) none (some (cVar 2))))
  sPass) sPass)
  (sSeq (sRet (cOp2 (addD false) (cOp2 (addD false) (cSl false (cVar 1) none (some (cVar 2))) (cOp1 (revD false) (cSl false (cVar 1) (some (cVar 2)) (some (cOp2 (addD false) (cVar 2) (cCon (.int 2))))))) (cSl false (cVar 1) (some (cOp2 (addD false) (cVar 2) (cCon (.int 2)))) none)))
  sPass)))))
theorem b__law_bent (call : Str → SF) : bodyF glob scl call f__law_bent = m__law_bent call := by kernel_rfl
theorem c__law_bent (k : Nat) (ds : List D) (R : Rg) (h : ds.length = 2) : callF glob scl T (k + 3) "_law_bent" ds R = finM false false R (m__law_bent (callW glob scl T (k + 2)) (ds ++ List.replicate 2 .undef) R) := by
  rw [callF_run (fi := f__law_bent) (by kernel_rfl)]
  unfold runF
  rw [if_pos (show ds.length = f__law_bent.ps.length from h), b__law_bent]
  rfl
theorem w__law_bent (k : Nat) : callW glob scl T k "_law_bent" = callF glob scl T k "_law_bent" := callW_std (by kernel_rfl)
def m__law_all_right_y1 (call : Str → SF) : SS := (sSeq (sExpr (cCall (call "of_hex") [] (cCons (cVar 2) cNil)))
  (sSeq (sRet (cCon (.bl false)))
  sPass))
def m__law_all_right_b1 (call : Str → SF) : SS := (sSeq (sTryA (m__law_all_right_y1 call) (hitR scl.xk.hits 18) 7 (fun c f => (sErrF (ownR scl.xk.rows) true "at" c f (sSeq (sIf (bOf (cOp2 (isD true) (cCon f) (cCon .non))) (sSeq (sRet (cCon (.bl false)))
  sPass) sPass) sPass) (sSeq (sIf (bOf (cOp2 (isD true) (cOp1 (fldD Sc.none.ca 34) (cVar 7)) (cCon .non))) (sSeq (sRet (cCon (.bl false)))
  sPass) sPass)
  sPass))))
  sPass)
def m__law_all_right_b2 (call : Str → SF) : SS := (sSeq (sIf (bNot (bVal (cCall (call "_law_judged") [] (cCons (cCall (call "_law_bent") [] (cCons (cCall (call "_law_cell_at") [] (cCons (cVar 0) (cCons (cOp2 (addD false) (cOp2 (addD false) (cCon (.int 60)) (cOp2 (mulX false) (cCon (.int 4)) (cVar 1))) (cVar 6)) cNil))) (cCons (cVar 5) cNil))) cNil)))) (sSeq (sRet (cCon (.bl false)))
  sPass) sPass)
  sPass)
def m__law_all_right_b3 (call : Str → SF) : SS := (sSeq (sAsg (cCall (call "_law_draws") [] (cCons (cVar 0) (cCons (cOp2 (mulX false) (cCon (.int 14)) (cVar 1)) (cCons (cCon (.int 13)) cNil)))) (gVar 3))
  (sSeq (sAsg (cCall (call "_law_history") [] (cCons (cVar 3) (cCons (cCon (.int 14)) cNil))) (gVar 4))
  (sSeq (sAsg (cCall (call "_law_numbers_of") [] (cCons (cVar 4) cNil)) (gVar 5))
  (sSeq (sIf (bOr (bOf (cOp2 (eqX true (eqF call scl.eqs)) (cOpN (listX false) (cCons (cCall (call "packed") [] (cCons (cVar 4) cNil)) cNil)) (cVar 5))) (bOf (cOp2 (eqX true (eqF call scl.eqs)) (cCall (call "hexed") [] (cCons (cVar 4) cNil)) (cCall (call "_law_hexed") [] (cCons (cVar 5) cNil))))) (sSeq (sRet (cCon (.bl false)))
  sPass) sPass)
  (sSeq (sIf (bOr (bOf (cOp2 (eqX true (eqF call scl.eqs)) (cCall (call "unpacked") [] (cCons (cCall (call "packed") [] (cCons (cVar 4) cNil)) cNil)) (cVar 4))) (bNot (bVal (cCall (call "_law_judged") [] (cCons (cVar 5) cNil))))) (sSeq (sRet (cCon (.bl false)))
  sPass) sPass)
  (sSeq (sFor (iArgs rng1 (cCons (cCon (.int 4)) cNil)) (gVar 6) (m__law_all_right_b2 call))
  sPass))))))
def m__law_all_right (call : Str → SF) : SS := (sSeq (sFor (iArgs rng1 (cCons (cCon (.int 3)) cNil)) (gVar 1) (m__law_all_right_b3 call))
  (sSeq (sFor (iAny (cLst false (cCons (cCon (.str [48])) (cCons (cCon (.str [48, 71])) (cCons (cCon (.str [65, 66])) (cCons (cCon .non) (cCons (cCon (.int 5)) (cCons (cCon (.str [32, 48])) cNil)))))))) (gVar 2) (m__law_all_right_b1 call))
  (sSeq (sRet (cAndT (cCall (call "_law_judged") [] (cCons (cOp2 (mulX false) (cLst false (cCons (cCon (.int 0)) (cCons (cCon (.int 1)) (cCons (cCon (.int 2)) cNil)))) (cOp2 (addD false) (cCon (.int 199)) (cOp2 modD (cCall (call "_law_cell_at") [] (cCons (cVar 0) (cCons (cCon (.int 80)) cNil))) (cCon (.int 3))))) cNil)) (cCall (call "_law_judged") [] (cCons (cLst false cNil) cNil))))
  sPass)))
theorem b__law_all_right (call : Str → SF) : bodyF glob scl call f__law_all_right = m__law_all_right call := by kernel_rfl
theorem c__law_all_right (k : Nat) (ds : List D) (R : Rg) (h : ds.length = 1) : callF glob scl T (k + 3) "_law_all_right" ds R = finM false false R (m__law_all_right (callW glob scl T (k + 2)) (ds ++ List.replicate 7 .undef) R) := by
  rw [callF_run (fi := f__law_all_right) (by kernel_rfl)]
  unfold runF
  rw [if_pos (show ds.length = f__law_all_right.ps.length from h), b__law_all_right]
  rfl
theorem w__law_all_right (k : Nat) : callW glob scl T k "_law_all_right" = callF glob scl T k "_law_all_right" := callW_std (by kernel_rfl)
def m_law_y1 (call : Str → SF) : SS := (sSeq (sRet (cCall (call "_law_all_right") [] (cCons (cVar 0) cNil)))
  sPass)
def m_law (call : Str → SF) : SS := (sSeq (sTryO (m_law_y1 call) (hitR scl.xk.hits 0) (fun c f => (sSeq (sRet (cCon (.bl false)))
  sPass)))
  sPass)
theorem b_law (call : Str → SF) : bodyF glob scl call f_law = m_law call := by kernel_rfl
theorem c_law (k : Nat) (ds : List D) (R : Rg) (h : ds.length = 1) : callF glob scl T (k + 3) "law" ds R = finM false false R (m_law (callW glob scl T (k + 2)) (ds ++ List.replicate 0 .undef) R) := by
  rw [callF_run (fi := f_law) (by kernel_rfl)]
  unfold runF
  rw [if_pos (show ds.length = f_law.ps.length from h), b_law]
  rfl
theorem w_law (k : Nat) : callW glob scl T k "law" = callF glob scl T k "law" := callW_std (by kernel_rfl)
end Lw
namespace Lw
open PySem PySem.Spec PyProof.Rows L2 RZ Om
/-! ### events -/
abbrev WR : List Nat := [119, 114, 105, 116, 101]
abbrev RE : List Nat := [114, 101, 97, 100]
abbrev TK : List Nat := [116, 97, 107, 101]
abbrev FR : List Nat := [102, 114, 101, 101]
abbrev GN : List Nat := [103, 111, 110, 101]
structure Evt where
  w : List Nat
  ns : List Nat
deriving DecidableEq
def encN1 (n : Nat) : D := .int (n : Int)
def encE (e : Evt) : D := .tup (.str e.w :: e.ns.map encN1)
def encO : Option Evt → D
  | some e => encE e
  | none => .non
def bnd (w : List Nat) : Option (List Nat) := if w = WR then some [5, 15, 99] else if w = RE then some [5, 15, 99] else if w = TK then some [5, 2] else if w = FR then some [5, 2] else if w = GN then some [5] else none
def leAll : List Nat → List Nat → Bool
  | [], [] => true
  | n :: ns, b :: bs => decide (n ≤ b) && leAll ns bs
  | _, _ => false
def okE (e : Evt) : Bool := match bnd e.w with
  | none => false
  | some bs => leAll e.ns bs
theorem bnd_cases {w : List Nat} (h : (bnd w).isSome = true) : w = WR ∨ w = RE ∨ w = TK ∨ w = FR ∨ w = GN := by
  unfold bnd at h
  split at h
  · left; assumption
  split at h
  · right; left; assumption
  split at h
  · right; right; left; assumption
  split at h
  · right; right; right; left; assumption
  split at h
  · right; right; right; right; assumption
  cases h
theorem q_is_number (k : Nat) (n b : Nat) (R : Rg) : callF glob scl T (k + 3) "is_number" [.int (n : Int), .int 0, .int (b : Int)] R = .ok (.bl (decide (n ≤ b))) R := by
  rw [c_is_number k _ R rfl]
  rw [finM_f]
  refine eq_of_wp (wp_fin ?_)
  simp only [m_is_number]
  by_cases hb : n ≤ b
  · have hb' : (n : Int) ≤ b := by omega
    simp -implicitDefEqProofs [hb, hb']
    exact frz_pure rfl
  · have hb' : ¬ (n : Int) ≤ b := by omega
    simp -implicitDefEqProofs [hb, hb']
    exact frz_pure rfl
theorem pure_ns : ∀ ns : List Nat, pureDs (ns.map encN1) = true
  | [] => rfl
  | n :: ns => by
    show (pureD (.int (n : Int)) && pureDs (ns.map encN1)) = true
    rw [pure_ns ns]
    rfl
theorem eqOk_ns (m : Nat) : ∀ ns : List Nat, eqOks m (ns.map encN1) = true
  | [] => rfl
  | n :: ns => by
    show (eqOk m (.int (n : Int)) && eqOks m (ns.map encN1)) = true
    rw [eqOk_ns m ns]
    cases m <;> rfl
theorem bnd_code {w : List Nat} (h : (bnd w).isSome = true) : (w.all fun c => decide (c < 1114112)) = true := by
  rcases bnd_cases h with rfl | rfl | rfl | rfl | rfl <;> decide
theorem pure_evt (e : Evt) : pureD (encE e) = true := by
  unfold encE
  rw [pure_tup]
  show (pureD (.str e.w) && pureDs (e.ns.map encN1)) = true
  rw [pure_ns]
  rfl
theorem eqOk_evt {e : Evt} (h : (bnd e.w).isSome = true) (m : Nat) : eqOk (m + 1) (encE e) = true := by
  show eqOks m (.str e.w :: e.ns.map encN1) = true
  show (eqOk m (.str e.w) && eqOks m (e.ns.map encN1)) = true
  rw [eqOk_ns, ok_str (bnd_code h)]
  rfl
theorem evt_ne {e : Evt} (h : (bnd e.w).isSome = true) (R : Rg) : eqD' false (encE e) (.tup []) R = some (.bl false, R) := by
  rw [p_eq (pure_evt e) rfl (eqOk_evt h 11) rfl]
  simp [encE]
theorem in_wr {w : List Nat} (h : (bnd w).isSome = true) (R : Rg) : inD false (.str w) (.tup [.str [119, 114, 105, 116, 101], .str [114, 101, 97, 100]]) R = some (.bl (decide (w = WR ∨ w = RE)), R) := by
  rw [p_in_tup rfl rfl (ok_str (bnd_code h)) (by show eqOks 11 _ = true; simp [eqOk, eqOks])]
  simp
theorem ix_tup3 {x y z u : D} {xs : List D} {R : Rg} : ixD (.tup (x :: y :: z :: u :: xs)) (.int 3) R = some (u, R) := ix_tup (n := 3) rfl
theorem pf_is_event (call : Str → SF) (hn : ∀ (n b : Nat) (R : Rg), call "is_number" [.int (n : Int), .int 0, .int (b : Int)] R = .ok (.bl (decide (n ≤ b))) R) (e : Evt) (hw : (bnd e.w).isSome = true) (R : Rg) : fin false R (m_is_event call [encE e] R) = .ok (.bl (okE e)) R := by
  have h5 : ∀ (n : Nat) R, call "is_number" [.int (n : Int), .int 0, .int 5] R = .ok (.bl (decide (n ≤ 5))) R := fun n R => hn n 5 R
  have h15 : ∀ (n : Nat) R, call "is_number" [.int (n : Int), .int 0, .int 15] R = .ok (.bl (decide (n ≤ 15))) R := fun n R => hn n 15 R
  have h99 : ∀ (n : Nat) R, call "is_number" [.int (n : Int), .int 0, .int 99] R = .ok (.bl (decide (n ≤ 99))) R := fun n R => hn n 99 R
  have h2 : ∀ (n : Nat) R, call "is_number" [.int (n : Int), .int 0, .int 2] R = .ok (.bl (decide (n ≤ 2))) R := fun n R => hn n 2 R
  refine eq_of_wp (wp_fin ?_)
  obtain ⟨w, ns⟩ := e
  simp only [m_is_event]
  rcases bnd_cases hw with rfl | rfl | rfl | rfl | rfl
  · match ns with
    | [] =>
      have et := evt_ne (e := ⟨WR, []⟩) rfl R
      have ei := in_wr (w := WR) rfl R
      simp only [encE, List.map_cons, List.map_nil, encN1] at et ⊢
      simp -implicitDefEqProofs [getT, lookT, t_SIZES, optI, et, ei, encN1, h5, h15, h99, h2, ix_tup3, okE, bnd, leAll]
      first | exact frz_pure rfl | done
    | [a] =>
      have et := evt_ne (e := ⟨WR, [a]⟩) rfl R
      have ei := in_wr (w := WR) rfl R
      simp only [encE, List.map_cons, List.map_nil, encN1] at et ⊢
      simp -implicitDefEqProofs [getT, lookT, t_SIZES, optI, et, ei, encN1, h5, h15, h99, h2, ix_tup3, okE, bnd, leAll]
      first | exact frz_pure rfl | done
    | [a, b] =>
      have et := evt_ne (e := ⟨WR, [a, b]⟩) rfl R
      have ei := in_wr (w := WR) rfl R
      simp only [encE, List.map_cons, List.map_nil, encN1] at et ⊢
      simp -implicitDefEqProofs [getT, lookT, t_SIZES, optI, et, ei, encN1, h5, h15, h99, h2, ix_tup3, okE, bnd, leAll]
      first | exact frz_pure rfl | done
    | [a, b, c] =>
      have et := evt_ne (e := ⟨WR, [a, b, c]⟩) rfl R
      have ei := in_wr (w := WR) rfl R
      simp only [encE, List.map_cons, List.map_nil, encN1] at et ⊢
      by_cases ha : a ≤ 5
      · skip
        by_cases hb : b ≤ 15
        · skip
          by_cases hc : c ≤ 99
          · skip
            simp -implicitDefEqProofs [getT, lookT, t_SIZES, optI, et, ei, encN1, h5, h15, h99, h2, ix_tup3, okE, bnd, leAll, ha, hb, hc]
            first | exact frz_pure rfl | done
          · skip
            simp -implicitDefEqProofs [getT, lookT, t_SIZES, optI, et, ei, encN1, h5, h15, h99, h2, ix_tup3, okE, bnd, leAll, ha, hb, hc]
            first | exact frz_pure rfl | done
        · skip
          simp -implicitDefEqProofs [getT, lookT, t_SIZES, optI, et, ei, encN1, h5, h15, h99, h2, ix_tup3, okE, bnd, leAll, ha, hb]
          first | exact frz_pure rfl | done
      · skip
        simp -implicitDefEqProofs [getT, lookT, t_SIZES, optI, et, ei, encN1, h5, h15, h99, h2, ix_tup3, okE, bnd, leAll, ha]
        first | exact frz_pure rfl | done
    | a :: b :: c :: d :: r =>
      have et := evt_ne (e := ⟨WR, a :: b :: c :: d :: r⟩) rfl R
      have ei := in_wr (w := WR) rfl R
      simp only [encE, List.map_cons, List.map_nil, encN1] at et ⊢
      have hr : ¬ (4 : Int) = (r.length : Int) + 1 + 1 + 1 + 1 + 1 := by omega
      simp -implicitDefEqProofs [getT, lookT, t_SIZES, optI, et, ei, encN1, h5, h15, h99, h2, ix_tup3, okE, bnd, leAll, hr]
      first | exact frz_pure rfl | done
  · match ns with
    | [] =>
      have et := evt_ne (e := ⟨RE, []⟩) rfl R
      have ei := in_wr (w := RE) rfl R
      simp only [encE, List.map_cons, List.map_nil, encN1] at et ⊢
      simp -implicitDefEqProofs [getT, lookT, t_SIZES, optI, et, ei, encN1, h5, h15, h99, h2, ix_tup3, okE, bnd, leAll]
      first | exact frz_pure rfl | done
    | [a] =>
      have et := evt_ne (e := ⟨RE, [a]⟩) rfl R
      have ei := in_wr (w := RE) rfl R
      simp only [encE, List.map_cons, List.map_nil, encN1] at et ⊢
      simp -implicitDefEqProofs [getT, lookT, t_SIZES, optI, et, ei, encN1, h5, h15, h99, h2, ix_tup3, okE, bnd, leAll]
      first | exact frz_pure rfl | done
    | [a, b] =>
      have et := evt_ne (e := ⟨RE, [a, b]⟩) rfl R
      have ei := in_wr (w := RE) rfl R
      simp only [encE, List.map_cons, List.map_nil, encN1] at et ⊢
      simp -implicitDefEqProofs [getT, lookT, t_SIZES, optI, et, ei, encN1, h5, h15, h99, h2, ix_tup3, okE, bnd, leAll]
      first | exact frz_pure rfl | done
    | [a, b, c] =>
      have et := evt_ne (e := ⟨RE, [a, b, c]⟩) rfl R
      have ei := in_wr (w := RE) rfl R
      simp only [encE, List.map_cons, List.map_nil, encN1] at et ⊢
      by_cases ha : a ≤ 5
      · skip
        by_cases hb : b ≤ 15
        · skip
          by_cases hc : c ≤ 99
          · skip
            simp -implicitDefEqProofs [getT, lookT, t_SIZES, optI, et, ei, encN1, h5, h15, h99, h2, ix_tup3, okE, bnd, leAll, ha, hb, hc]
            first | exact frz_pure rfl | done
          · skip
            simp -implicitDefEqProofs [getT, lookT, t_SIZES, optI, et, ei, encN1, h5, h15, h99, h2, ix_tup3, okE, bnd, leAll, ha, hb, hc]
            first | exact frz_pure rfl | done
        · skip
          simp -implicitDefEqProofs [getT, lookT, t_SIZES, optI, et, ei, encN1, h5, h15, h99, h2, ix_tup3, okE, bnd, leAll, ha, hb]
          first | exact frz_pure rfl | done
      · skip
        simp -implicitDefEqProofs [getT, lookT, t_SIZES, optI, et, ei, encN1, h5, h15, h99, h2, ix_tup3, okE, bnd, leAll, ha]
        first | exact frz_pure rfl | done
    | a :: b :: c :: d :: r =>
      have et := evt_ne (e := ⟨RE, a :: b :: c :: d :: r⟩) rfl R
      have ei := in_wr (w := RE) rfl R
      simp only [encE, List.map_cons, List.map_nil, encN1] at et ⊢
      have hr : ¬ (4 : Int) = (r.length : Int) + 1 + 1 + 1 + 1 + 1 := by omega
      simp -implicitDefEqProofs [getT, lookT, t_SIZES, optI, et, ei, encN1, h5, h15, h99, h2, ix_tup3, okE, bnd, leAll, hr]
      first | exact frz_pure rfl | done
  · match ns with
    | [] =>
      have et := evt_ne (e := ⟨TK, []⟩) rfl R
      have ei := in_wr (w := TK) rfl R
      simp only [encE, List.map_cons, List.map_nil, encN1] at et ⊢
      simp -implicitDefEqProofs [getT, lookT, t_SIZES, optI, et, ei, encN1, h5, h15, h99, h2, ix_tup3, okE, bnd, leAll]
      first | exact frz_pure rfl | done
    | [a] =>
      have et := evt_ne (e := ⟨TK, [a]⟩) rfl R
      have ei := in_wr (w := TK) rfl R
      simp only [encE, List.map_cons, List.map_nil, encN1] at et ⊢
      simp -implicitDefEqProofs [getT, lookT, t_SIZES, optI, et, ei, encN1, h5, h15, h99, h2, ix_tup3, okE, bnd, leAll]
      first | exact frz_pure rfl | done
    | [a, b] =>
      have et := evt_ne (e := ⟨TK, [a, b]⟩) rfl R
      have ei := in_wr (w := TK) rfl R
      simp only [encE, List.map_cons, List.map_nil, encN1] at et ⊢
      by_cases ha : a ≤ 5
      · skip
        by_cases hb : b ≤ 2
        · skip
          simp -implicitDefEqProofs [getT, lookT, t_SIZES, optI, et, ei, encN1, h5, h15, h99, h2, ix_tup3, okE, bnd, leAll, ha, hb]
          first | exact frz_pure rfl | done
        · skip
          simp -implicitDefEqProofs [getT, lookT, t_SIZES, optI, et, ei, encN1, h5, h15, h99, h2, ix_tup3, okE, bnd, leAll, ha, hb]
          first | exact frz_pure rfl | done
      · skip
        simp -implicitDefEqProofs [getT, lookT, t_SIZES, optI, et, ei, encN1, h5, h15, h99, h2, ix_tup3, okE, bnd, leAll, ha]
        first | exact frz_pure rfl | done
    | [a, b, c] =>
      have et := evt_ne (e := ⟨TK, [a, b, c]⟩) rfl R
      have ei := in_wr (w := TK) rfl R
      simp only [encE, List.map_cons, List.map_nil, encN1] at et ⊢
      simp -implicitDefEqProofs [getT, lookT, t_SIZES, optI, et, ei, encN1, h5, h15, h99, h2, ix_tup3, okE, bnd, leAll]
      first | exact frz_pure rfl | done
    | a :: b :: c :: d :: r =>
      have et := evt_ne (e := ⟨TK, a :: b :: c :: d :: r⟩) rfl R
      have ei := in_wr (w := TK) rfl R
      simp only [encE, List.map_cons, List.map_nil, encN1] at et ⊢
      have hr : ¬ (3 : Int) = (r.length : Int) + 1 + 1 + 1 + 1 + 1 := by omega
      simp -implicitDefEqProofs [getT, lookT, t_SIZES, optI, et, ei, encN1, h5, h15, h99, h2, ix_tup3, okE, bnd, leAll, hr]
      first | exact frz_pure rfl | done
  · match ns with
    | [] =>
      have et := evt_ne (e := ⟨FR, []⟩) rfl R
      have ei := in_wr (w := FR) rfl R
      simp only [encE, List.map_cons, List.map_nil, encN1] at et ⊢
      simp -implicitDefEqProofs [getT, lookT, t_SIZES, optI, et, ei, encN1, h5, h15, h99, h2, ix_tup3, okE, bnd, leAll]
      first | exact frz_pure rfl | done
    | [a] =>
      have et := evt_ne (e := ⟨FR, [a]⟩) rfl R
      have ei := in_wr (w := FR) rfl R
      simp only [encE, List.map_cons, List.map_nil, encN1] at et ⊢
      simp -implicitDefEqProofs [getT, lookT, t_SIZES, optI, et, ei, encN1, h5, h15, h99, h2, ix_tup3, okE, bnd, leAll]
      first | exact frz_pure rfl | done
    | [a, b] =>
      have et := evt_ne (e := ⟨FR, [a, b]⟩) rfl R
      have ei := in_wr (w := FR) rfl R
      simp only [encE, List.map_cons, List.map_nil, encN1] at et ⊢
      by_cases ha : a ≤ 5
      · skip
        by_cases hb : b ≤ 2
        · skip
          simp -implicitDefEqProofs [getT, lookT, t_SIZES, optI, et, ei, encN1, h5, h15, h99, h2, ix_tup3, okE, bnd, leAll, ha, hb]
          first | exact frz_pure rfl | done
        · skip
          simp -implicitDefEqProofs [getT, lookT, t_SIZES, optI, et, ei, encN1, h5, h15, h99, h2, ix_tup3, okE, bnd, leAll, ha, hb]
          first | exact frz_pure rfl | done
      · skip
        simp -implicitDefEqProofs [getT, lookT, t_SIZES, optI, et, ei, encN1, h5, h15, h99, h2, ix_tup3, okE, bnd, leAll, ha]
        first | exact frz_pure rfl | done
    | [a, b, c] =>
      have et := evt_ne (e := ⟨FR, [a, b, c]⟩) rfl R
      have ei := in_wr (w := FR) rfl R
      simp only [encE, List.map_cons, List.map_nil, encN1] at et ⊢
      simp -implicitDefEqProofs [getT, lookT, t_SIZES, optI, et, ei, encN1, h5, h15, h99, h2, ix_tup3, okE, bnd, leAll]
      first | exact frz_pure rfl | done
    | a :: b :: c :: d :: r =>
      have et := evt_ne (e := ⟨FR, a :: b :: c :: d :: r⟩) rfl R
      have ei := in_wr (w := FR) rfl R
      simp only [encE, List.map_cons, List.map_nil, encN1] at et ⊢
      have hr : ¬ (3 : Int) = (r.length : Int) + 1 + 1 + 1 + 1 + 1 := by omega
      simp -implicitDefEqProofs [getT, lookT, t_SIZES, optI, et, ei, encN1, h5, h15, h99, h2, ix_tup3, okE, bnd, leAll, hr]
      first | exact frz_pure rfl | done
  · match ns with
    | [] =>
      have et := evt_ne (e := ⟨GN, []⟩) rfl R
      have ei := in_wr (w := GN) rfl R
      simp only [encE, List.map_cons, List.map_nil, encN1] at et ⊢
      simp -implicitDefEqProofs [getT, lookT, t_SIZES, optI, et, ei, encN1, h5, h15, h99, h2, ix_tup3, okE, bnd, leAll]
      first | exact frz_pure rfl | done
    | [a] =>
      have et := evt_ne (e := ⟨GN, [a]⟩) rfl R
      have ei := in_wr (w := GN) rfl R
      simp only [encE, List.map_cons, List.map_nil, encN1] at et ⊢
      by_cases ha : a ≤ 5
      · skip
        simp -implicitDefEqProofs [getT, lookT, t_SIZES, optI, et, ei, encN1, h5, h15, h99, h2, ix_tup3, okE, bnd, leAll, ha]
        first | exact frz_pure rfl | done
      · skip
        simp -implicitDefEqProofs [getT, lookT, t_SIZES, optI, et, ei, encN1, h5, h15, h99, h2, ix_tup3, okE, bnd, leAll, ha]
        first | exact frz_pure rfl | done
    | [a, b] =>
      have et := evt_ne (e := ⟨GN, [a, b]⟩) rfl R
      have ei := in_wr (w := GN) rfl R
      simp only [encE, List.map_cons, List.map_nil, encN1] at et ⊢
      simp -implicitDefEqProofs [getT, lookT, t_SIZES, optI, et, ei, encN1, h5, h15, h99, h2, ix_tup3, okE, bnd, leAll]
      first | exact frz_pure rfl | done
    | [a, b, c] =>
      have et := evt_ne (e := ⟨GN, [a, b, c]⟩) rfl R
      have ei := in_wr (w := GN) rfl R
      simp only [encE, List.map_cons, List.map_nil, encN1] at et ⊢
      simp -implicitDefEqProofs [getT, lookT, t_SIZES, optI, et, ei, encN1, h5, h15, h99, h2, ix_tup3, okE, bnd, leAll]
      first | exact frz_pure rfl | done
    | a :: b :: c :: d :: r =>
      have et := evt_ne (e := ⟨GN, a :: b :: c :: d :: r⟩) rfl R
      have ei := in_wr (w := GN) rfl R
      simp only [encE, List.map_cons, List.map_nil, encN1] at et ⊢
      have hr : ¬ (2 : Int) = (r.length : Int) + 1 + 1 + 1 + 1 + 1 := by omega
      simp -implicitDefEqProofs [getT, lookT, t_SIZES, optI, et, ei, encN1, h5, h15, h99, h2, ix_tup3, okE, bnd, leAll, hr]
      first | exact frz_pure rfl | done
theorem q_is_event (k : Nat) (e : Evt) (hw : (bnd e.w).isSome = true) (R : Rg) : callF glob scl T (k + 4) "is_event" [encE e] R = .ok (.bl (okE e)) R := by
  rw [c_is_event (k + 1) _ R rfl, finM_f]
  refine pf_is_event _ (fun n b R => ?_) e hw R
  rw [w_is_number]
  exact q_is_number k n b R
end Lw
namespace Lw
open PySem PySem.Spec PyProof.Rows L2 RZ Om
/-! ### locks -/
structure Lk where
  h : List (Nat × Nat)
  g : List Nat
def Evt.t (e : Evt) : Nat := e.ns.getD 0 0
def Evt.l (e : Evt) : Nat := e.ns.getD 1 0
def goneH (h : List (Nat × Nat)) (t : Nat) : List (Nat × Nat) := h.filter fun p => !decide (p.2 = t)
def comesP (st : Lk) (e : Evt) : Option Lk :=
  if e.t ∈ st.g then none
  else if e.w = TK then (if (lookN st.h e.l).isSome = true then none else some ⟨putN st.h e.l e.t, st.g⟩)
  else if e.w = FR then (if lookN st.h e.l = some e.t then some ⟨delN st.h e.l, st.g⟩ else none)
  else if e.w = GN then some ⟨goneH st.h e.t, st.g ++ [e.t]⟩
  else some st
theorem okE_shape {e : Evt} (h : okE e = true) : (∃ t c v, e = ⟨WR, [t, c, v]⟩ ∧ t ≤ 5 ∧ c ≤ 15 ∧ v ≤ 99) ∨ (∃ t c v, e = ⟨RE, [t, c, v]⟩ ∧ t ≤ 5 ∧ c ≤ 15 ∧ v ≤ 99) ∨ (∃ t l, e = ⟨TK, [t, l]⟩ ∧ t ≤ 5 ∧ l ≤ 2) ∨ (∃ t l, e = ⟨FR, [t, l]⟩ ∧ t ≤ 5 ∧ l ≤ 2) ∨ ∃ t, e = ⟨GN, [t]⟩ ∧ t ≤ 5 := by
  obtain ⟨w, ns⟩ := e
  have hw : (bnd w).isSome = true := by
    unfold okE at h
    cases hb : bnd w with
    | none => simp only [hb] at h; cases h
    | some _ => rfl
  rcases bnd_cases hw with rfl | rfl | rfl | rfl | rfl
  · have h : leAll ns [5, 15, 99] = true := h
    match ns, h with
    | [a, b, c], h => exact .inl ⟨a, b, c, rfl, by simpa [leAll] using h⟩
    | [], h => simp [leAll] at h
    | [a], h => simp [leAll] at h
    | [a, b], h => simp [leAll] at h
    | a :: b :: c :: d :: r, h => simp [leAll] at h
  · have h : leAll ns [5, 15, 99] = true := h
    match ns, h with
    | [a, b, c], h => exact .inr (.inl ⟨a, b, c, rfl, by simpa [leAll] using h⟩)
    | [], h => simp [leAll] at h
    | [a], h => simp [leAll] at h
    | [a, b], h => simp [leAll] at h
    | a :: b :: c :: d :: r, h => simp [leAll] at h
  · have h : leAll ns [5, 2] = true := h
    match ns, h with
    | [a, b], h => exact .inr (.inr (.inl ⟨a, b, rfl, by simpa [leAll] using h⟩))
    | [], h => simp [leAll] at h
    | [a], h => simp [leAll] at h
    | a :: b :: c :: r, h => simp [leAll] at h
  · have h : leAll ns [5, 2] = true := h
    match ns, h with
    | [a, b], h => exact .inr (.inr (.inr (.inl ⟨a, b, rfl, by simpa [leAll] using h⟩)))
    | [], h => simp [leAll] at h
    | [a], h => simp [leAll] at h
    | a :: b :: c :: r, h => simp [leAll] at h
  · have h : leAll ns [5] = true := h
    match ns, h with
    | [a], h => exact .inr (.inr (.inr (.inr ⟨a, rfl, by simpa [leAll] using h⟩)))
    | [], h => simp [leAll] at h
    | a :: b :: r, h => simp [leAll] at h
def encT : Unit → D := fun _ => .bl true
def lostN (g : List Nat) : List (Nat × Unit) := g.map fun t => (t, ())
theorem lost_look (t : Nat) : ∀ g : List Nat, (lookN (lostN g) t).isSome = decide (t ∈ g)
  | [] => by simp [lostN, lookN]
  | a :: g => by
    show (if a = t then some () else lookN (lostN g) t).isSome = _
    by_cases h : a = t
    · rw [if_pos h]; simp [h]
    · rw [if_neg h, lost_look t g]
      simp [show t ≠ a from fun z => h z.symm]
theorem lost_put {g : List Nat} {t : Nat} (h : t ∉ g) : putN (lostN g) t () = lostN (g ++ [t]) := by
  rw [putN_new _ _ _ (by unfold lostN; rw [List.map_map]; simpa using h)]
  simp [lostN]
structure LkAt (R : Rg) (r a b : Nat) (st : Lk) : Prop where
  i : R[r]? = some (.ins 4 [(3, .ref a), (4, .ref b)])
  h : R[a]? = some (.dct (dctN encN1 st.h))
  g : R[b]? = some (.dct (dctN encT (lostN st.g)))
  ab : a ≠ b
structure LkOk (st : Lk) (n : Nat) : Prop where
  nd : (st.h.map (·.1)).Nodup
  lh : st.h.length ≤ n
  lg : st.g.length ≤ n
theorem comes_ok {st st' : Lk} {e : Evt} {n : Nat} (h : LkOk st n) (hc : comesP st e = some st') : LkOk st' (n + 1) := by
  unfold comesP at hc
  split at hc
  · cases hc
  split at hc
  · split at hc
    · cases hc
    · cases hc
      exact ⟨putN_nodup h.nd, Nat.le_trans (putN_length _ _ _) (Nat.succ_le_succ h.lh), Nat.le_succ_of_le h.lg⟩
  split at hc
  · split at hc
    · cases hc
      exact ⟨filter_nodup _ h.nd, Nat.le_trans (List.length_filter_le _ _) (Nat.le_succ_of_le h.lh), Nat.le_succ_of_le h.lg⟩
    · cases hc
  split at hc
  · cases hc
    exact ⟨filter_nodup _ h.nd, Nat.le_trans (List.length_filter_le _ _) (Nat.le_succ_of_le h.lh), by show (st.g ++ [e.t]).length ≤ _; rw [List.length_append]; exact Nat.succ_le_succ h.lg⟩
  · cases hc
    exact ⟨h.nd, Nat.le_succ_of_le h.lh, Nat.le_succ_of_le h.lg⟩
/-- R1 behind a call that may change the locks alone -/
structure FrL (R R1 : Rg) (r a b a' : Nat) : Prop where
  le : R.length ≤ R1.length
  at_ : ∀ i, i < R.length → i ≠ r → i ≠ a → i ≠ b → R1[i]? = R[i]?
  new : a' = a ∨ R.length ≤ a'
theorem frl_refl (R : Rg) (r a b : Nat) : FrL R R r a b a := ⟨Nat.le_refl _, fun _ _ _ _ _ => rfl, .inl rfl⟩
theorem okE_t {e : Evt} (h : okE e = true) : ∃ ns, e.ns = e.t :: ns := by
  rcases okE_shape h with ⟨t, c, v, rfl, _⟩ | ⟨t, c, v, rfl, _⟩ | ⟨t, l, rfl, _⟩ | ⟨t, l, rfl, _⟩ | ⟨t, rfl, _⟩ <;> exact ⟨_, rfl⟩
section
variable {st : Lk} {t c v l : Nat}
theorem cp_lost {e : Evt} (h : e.t ∈ st.g) : comesP st e = none := if_pos h
theorem cp_wr (h : t ∉ st.g) : comesP st ⟨WR, [t, c, v]⟩ = some st := by simp [comesP, Evt.t, h]
theorem cp_re (h : t ∉ st.g) : comesP st ⟨RE, [t, c, v]⟩ = some st := by simp [comesP, Evt.t, h]
theorem cp_tk_no (h : t ∉ st.g) (hl : (lookN st.h l).isSome = true) : comesP st ⟨TK, [t, l]⟩ = none := by
  have hl' : ¬ lookN st.h l = none := fun z => by rw [z] at hl; cases hl
  simp [comesP, Evt.t, Evt.l, h, hl']
theorem cp_tk (h : t ∉ st.g) (hl : lookN st.h l = none) : comesP st ⟨TK, [t, l]⟩ = some ⟨putN st.h l t, st.g⟩ := by simp [comesP, Evt.t, Evt.l, h, hl]
theorem cp_fr_no (h : t ∉ st.g) (hl : lookN st.h l ≠ some t) : comesP st ⟨FR, [t, l]⟩ = none := by simp [comesP, Evt.t, Evt.l, h, hl]
theorem cp_fr (h : t ∉ st.g) (hl : lookN st.h l = some t) : comesP st ⟨FR, [t, l]⟩ = some ⟨delN st.h l, st.g⟩ := by simp [comesP, Evt.t, Evt.l, h, hl]
theorem cp_gn (h : t ∉ st.g) : comesP st ⟨GN, [t]⟩ = some ⟨goneH st.h t, st.g ++ [t]⟩ := by simp [comesP, Evt.t, h]
end
theorem nth_set {R : Rg} {i j : Nat} {o : O} (h : i ≠ j) : (R.set i o)[j]? = R[j]? := List.getElem?_set_ne h
theorem nth_self {R : Rg} {i : Nat} {o u : O} (h : R[i]? = some u) : (R.set i o)[i]? = some o := List.getElem?_set_self (List.getElem?_eq_some_iff.mp h).1
theorem nth_app {R T : Rg} {i : Nat} {u : O} (h : R[i]? = some u) : (R ++ T)[i]? = some u := by rw [List.getElem?_append_left (List.getElem?_eq_some_iff.mp h).1]; exact h
theorem LkAt.ra {R : Rg} {r a b : Nat} {st : Lk} (h : LkAt R r a b st) : r ≠ a := fun z => by have := h.i; rw [z, h.h] at this; cases this
theorem LkAt.rb {R : Rg} {r a b : Nat} {st : Lk} (h : LkAt R r a b st) : r ≠ b := fun z => by have := h.i; rw [z, h.g] at this; cases this
/-- what the walk of the holders makes -/
theorem dcomp_gone (call : Str → SF) (h : List (Nat × Nat)) (hn : (h.map (·.1)).Nodup) (hl : h.length ≤ 300) (t : Nat) (s : List D) (r a b : Nat) (R : Rg) (hi : R[r]? = some (.ins 4 [(3, .ref a), (4, .ref b)])) (ha : R[a]? = some (.dctL (dctN encN1 h)))
    (s0 : s[0]? = some (.ref r)) (s3 : s[3]? = some (.int (t : Int))) (sl : s.length = 6) :
    cDComp (iItm (cOp1 (fldD scl.ca 3) (cVar 0))) (gT 2 (gC (gVar 4) (gC (gVar 5) gN))) (m_Locks_comes_t1 call) (m_Locks_comes_e1 call) (m_Locks_comes_e2 call) [4, 5] true s R = .ok (.ref R.length) (R ++ [.dct (dctN encN1 (goneH h t))]) := by
  match s, sl, s0, s3 with
  | [x0, s1, s2, x3, s4, s5], _, g0, g3 =>
  have h0 : x0 = .ref r := by simpa using g0
  have h3 : x3 = .int (t : Int) := by simpa using g3
  subst h0
  subst h3
  have hr3 : fldD scl.ca 3 (.ref r) R = some (.ref a, R) := fld_of (ins_ref hi) (by decide +kernel) rfl
  have e := a_dcomp (R := R) (s := [.ref r, s1, s2, .int (t : Int), s4, s5]) (it := iItm (cOp1 (fldD scl.ca 3) (cVar 0))) (g := gT 2 (gC (gVar 4) (gC (gVar 5) gN))) (t := m_Locks_comes_t1 call) (ek := m_Locks_comes_e1 call) (ev := m_Locks_comes_e2 call) (vs := [4, 5]) (mm := true) (as := h) (f := fun p => .tup [.int (p.1 : Int), encN1 p.2]) (wk := fun p => p.1) (wv := fun p => encN1 p.2) (q := fun p => !decide (p.2 = t)) (R1 := R) (by
      show ((cOp1 (fldD scl.ca 3) (cVar 0)) _ R).bind itmD = _
      rw [a_op1, v_ref (n := r) rfl, Res.bind_ok, hr3]
      show itmD (.ref a) R = _
      show (match R[a]? with
        | some (.dctL ks) => .ok (fixS (ks.map fun p => .tup [p.1, p.2])) R
        | _ => .err : Res Src) = _
      rw [ha]
      show (Res.ok (fixS ((dctN encN1 h).map fun p => .tup [p.1, p.2])) R : Res Src) = _
      unfold dctN
      rw [List.map_map]
      rfl) (by rw [line_eq]; omega) fun p hp => ⟨[.ref r, s1, s2, .int (t : Int), .int (p.1 : Int), encN1 p.2], rfl, by
        simp only [m_Locks_comes_t1, encN1]
        simp -implicitDefEqProofs
        by_cases h : p.2 = t
        · rw [h]; simp
        · have : ¬ (p.2 : Int) = t := by omega
          simp [h, this], fun _ => ⟨by simp only [m_Locks_comes_e1]; simp -implicitDefEqProofs, by simp only [m_Locks_comes_e2, encN1]; simp -implicitDefEqProofs⟩⟩
  rw [e]
  have hf := fold_set encN1 (goneH h t) [] (by rw [List.nil_append]; exact filter_nodup _ hn)
  rw [List.nil_append] at hf
  show lift (mkK true ((goneH h t).foldl (fun acc a => setK acc (.int (a.1 : Int)) (encN1 a.2)) []) R) = _
  rw [show ([] : List (D × D)) = dctN encN1 [] from rfl, hf]
  have hl2 : (dctN encN1 (goneH h t)).length ≤ LINE := by
    unfold dctN
    rw [List.length_map]
    have := List.length_filter_le (fun p : Nat × Nat => !decide (p.2 = t)) h
    rw [line_eq]
    unfold goneH
    omega
  unfold mkK
  rw [if_pos hl2, if_pos rfl]
  rfl
theorem pf_comes (call : Str → SF) (e : Evt) (he : okE e = true) (R : Rg) (r a b : Nat) (st : Lk) (hL : LkAt R r a b st) (hk : LkOk st 300) :
    wpR (finA (m_Locks_comes call [.ref r, encE e, .undef, .undef, .undef, .undef] R)) (fun d R1 => match comesP st e with
      | none => d = .bl false ∧ R1 = R
      | some st' => d = .bl true ∧ ∃ a', LkAt R1 r a' b st' ∧ FrL R R1 r a b a') noE := by
  refine wp_finA ?_
  simp only [m_Locks_comes]
  have hr3 : fldD scl.ca 3 (.ref r) R = some (.ref a, R) := fld_of (ins_ref hL.i) (by decide +kernel) rfl
  have hr4 : fldD scl.ca 4 (.ref r) R = some (.ref b, R) := fld_of (ins_ref hL.i) (by decide +kernel) rfl
  have hin : ∀ t : Nat, inD false (.int (t : Int)) (.ref b) R = some (.bl (decide (t ∈ st.g)), R) := fun t => by
    rw [ind_ref hL.g, lost_look]; simp
  have hia : ∀ t : Nat, inD false (.int (t : Int)) (.ref a) R = some (.bl (lookN st.h t).isSome, R) := fun t => by
    rw [ind_ref hL.h]; simp
  by_cases hg : e.t ∈ st.g
  · have hc : comesP st e = none := if_pos hg
    obtain ⟨ns, en⟩ := okE_t he
    have hx : encE e = .tup (.str e.w :: .int (e.t : Int) :: ns.map encN1) := by unfold encE; rw [en]; rfl
    rw [hc, hx]
    have hin' := hin e.t
    rw [decide_eq_true hg] at hin'
    simp -implicitDefEqProofs [hr4, hin']
  · rcases okE_shape he with ⟨t, c, v, rfl, _⟩ | ⟨t, c, v, rfl, _⟩ | ⟨t, l, rfl, _⟩ | ⟨t, l, rfl, _⟩ | ⟨t, rfl, _⟩
    · have hg : t ∉ st.g := hg
      have hin' := hin t
      rw [decide_eq_false hg] at hin'
      rw [cp_wr hg]
      simp only [encE, List.map_cons, List.map_nil, encN1]
      simp -implicitDefEqProofs [hr4, hin']
      exact ⟨a, hL, frl_refl _ _ _ _⟩
    · have hg : t ∉ st.g := hg
      have hin' := hin t
      rw [decide_eq_false hg] at hin'
      rw [cp_re hg]
      simp only [encE, List.map_cons, List.map_nil, encN1]
      simp -implicitDefEqProofs [hr4, hin']
      exact ⟨a, hL, frl_refl _ _ _ _⟩
    · have hg : t ∉ st.g := hg
      have hin' := hin t
      rw [decide_eq_false hg] at hin'
      have hia' := hia l
      cases hl : lookN st.h l with
      | some q =>
        rw [cp_tk_no hg (by rw [hl]; rfl)]
        rw [hl] at hia'
        simp only [encE, List.map_cons, List.map_nil, encN1]
        simp -implicitDefEqProofs [hr3, hr4, hin', hia']
      | none =>
        rw [cp_tk hg hl]
        rw [hl] at hia'
        have hs := setd_ref (f := encN1) (p := l) (t := t) hL.h (by have := hk.lh; rw [line_eq]; omega)
        simp only [encE, List.map_cons, List.map_nil, encN1] at hs ⊢
        have hgo : sGo (gIx (cOp1 (fldD scl.ca 3) (cVar 0)) (cOp2 ixD (cVar 1) (cCon (.int 2)))) (.int (t : Int)) [.ref r, .tup [.str TK, .int (t : Int), .int (l : Int)], .str TK, .int (t : Int), .undef, .undef] R = .nx [.ref r, .tup [.str TK, .int (t : Int), .int (l : Int)], .str TK, .int (t : Int), .undef, .undef] (R.set a (.dct (dctN encN1 (putN st.h l t)))) :=
          go_ix (R1 := R) (R2 := R) (y := .ref a) (i := .int (l : Int)) (by simp -implicitDefEqProofs [hr3]) (by simp -implicitDefEqProofs) hs
        simp -implicitDefEqProofs [hr3, hr4, hin', hia', hgo]
        exact ⟨a, ⟨by rw [nth_set hL.ra.symm]; exact hL.i, nth_self hL.h, by rw [nth_set hL.ab]; exact hL.g, hL.ab⟩, ⟨by simp, fun i _ _ h2 _ => nth_set (Ne.symm h2), .inl rfl⟩⟩
    · have hg : t ∉ st.g := hg
      have hin' := hin t
      rw [decide_eq_false hg] at hin'
      have hgt := getd_ref (R := R) (y := .non) (f := encN1) (q := l) hL.h
      have i1 := isT1_ref hL.h
      have i0 := isT0_dct hL.h
      cases hl : lookN st.h l with
      | none =>
        rw [cp_fr_no hg (by rw [hl]; simp)]
        rw [hl] at hgt
        have eq := x_data (neg := true) (eqs := eqF call scl.eqs) (R := R) (x := .non) (y := .int (t : Int)) rfl rfl
        rw [p_eq (x := .non) (y := .int (t : Int)) rfl rfl rfl rfl] at eq
        simp only [encE, List.map_cons, List.map_nil, encN1]
        simp -implicitDefEqProofs [hr3, hr4, hin', hgt, i1, i0, eq]
      | some q =>
        rw [hl] at hgt
        simp only [Option.map_some, Option.getD_some, encN1] at hgt
        by_cases hq : q = t
        · subst hq
          rw [cp_fr hg hl]
          have hp := dpop_ref (f := encN1) hL.h hl
          simp only [encE, List.map_cons, List.map_nil, encN1] at hp ⊢
          simp -implicitDefEqProofs [hr3, hr4, hin', hgt, i1, i0, hp]
          exact ⟨a, ⟨by rw [nth_set hL.ra.symm]; exact hL.i, nth_self hL.h, by rw [nth_set hL.ab]; exact hL.g, hL.ab⟩, ⟨by simp, fun i _ _ h2 _ => nth_set (Ne.symm h2), .inl rfl⟩⟩
        · rw [cp_fr_no hg (by rw [hl]; intro z; exact hq (Option.some.inj z))]
          have hq' : ¬ (q : Int) = t := by omega
          simp only [encE, List.map_cons, List.map_nil, encN1]
          simp -implicitDefEqProofs [hr3, hr4, hin', hgt, i1, i0, hq']
    · have hg : t ∉ st.g := hg
      have hin' := hin t
      rw [decide_eq_false hg] at hin'
      rw [cp_gn hg]
      have hs := setd_ref (f := encT) (p := t) (t := ()) hL.g (by have := hk.lg; unfold lostN; rw [List.length_map, line_eq]; omega)
      rw [lost_put hg] at hs
      simp only [encE, List.map_cons, List.map_nil, encN1, encT] at hs ⊢
      have hgo : sGo (gIx (cOp1 (fldD scl.ca 4) (cVar 0)) (cVar 3)) (.bl true) [.ref r, .tup [.str GN, .int (t : Int)], .str GN, .int (t : Int), .undef, .undef] R = .nx [.ref r, .tup [.str GN, .int (t : Int)], .str GN, .int (t : Int), .undef, .undef] (R.set b (.dct (dctN (fun _ => .bl true) (lostN (st.g ++ [t]))))) :=
        go_ix (R1 := R) (R2 := R) (y := .ref b) (i := .int (t : Int)) (by simp -implicitDefEqProofs [hr4]) (by simp -implicitDefEqProofs) hs
      generalize hR1 : R.set b (.dct (dctN (fun _ => .bl true) (lostN (st.g ++ [t])))) = R1 at hgo
      have L1i : R1[r]? = some (.ins 4 [(3, .ref a), (4, .ref b)]) := by rw [← hR1, nth_set hL.rb.symm]; exact hL.i
      have L1h : R1[a]? = some (.dct (dctN encN1 st.h)) := by rw [← hR1, nth_set hL.ab.symm]; exact hL.h
      have L1g : R1[b]? = some (.dct (dctN encT (lostN (st.g ++ [t])))) := by rw [← hR1]; exact nth_self hL.g
      have hr31 : fldD scl.ca 3 (.ref r) R1 = some (.ref a, R1) := fld_of (ins_ref L1i) (by decide +kernel) rfl
      have lenR1 : R1.length = R.length := by rw [← hR1, List.length_set]
      have ha1 : a < R1.length := (List.getElem?_eq_some_iff.mp L1h).1
      have hlock : cLock (cOp1 (fldD scl.ca 3) (cVar 0)) (cDComp (iItm (cOp1 (fldD scl.ca 3) (cVar 0))) (gT 2 (gC (gVar 4) (gC (gVar 5) gN))) (m_Locks_comes_t1 call) (m_Locks_comes_e1 call) (m_Locks_comes_e2 call) [4, 5] true) [.ref r, .tup [.str GN, .int (t : Int)], .str GN, .int (t : Int), .undef, .undef] R1 = .ok (.ref R1.length) (R1 ++ [.dct (dctN encN1 (goneH st.h t))]) := by
        have e1 := a_lock (md := cOp1 (fldD scl.ca 3) (cVar 0)) (cc := cDComp (iItm (cOp1 (fldD scl.ca 3) (cVar 0))) (gT 2 (gC (gVar 4) (gC (gVar 5) gN))) (m_Locks_comes_t1 call) (m_Locks_comes_e1 call) (m_Locks_comes_e2 call) [4, 5] true) (s := [.ref r, .tup [.str GN, .int (t : Int)], .str GN, .int (t : Int), .undef, .undef]) (R := R1) (r := a) (R1 := R1) (by simp -implicitDefEqProofs [hr31]) L1h
        rw [e1, dcomp_gone call st.h hk.nd hk.lh t _ r a b (R1.set a (.dctL (dctN encN1 st.h))) (by rw [nth_set hL.ra.symm]; exact L1i) (nth_self L1h) rfl rfl rfl]
        simp only
        rw [unLk_ref (ks := dctN encN1 st.h) (nth_app (nth_self L1h))]
        simp only
        rw [List.length_set, List.set_append_left _ _ (by rw [List.length_set]; exact ha1), List.set_set, set_same L1h]
      have hset := setF_ref (ca := scl.ca) (n := 3) (x := .ref R1.length) (nth_app (T := [.dct (dctN encN1 (goneH st.h t))]) L1i) (by decide +kernel) (by simp)
      simp -implicitDefEqProofs [hr4, hin', hgo, hlock, hset]
      have hr1 : r < R1.length := (List.getElem?_eq_some_iff.mp L1i).1
      refine ⟨R1.length, ⟨?_, ?_, ?_, ?_⟩, ⟨?_, ?_, ?_⟩⟩
      · exact nth_self (nth_app L1i)
      · rw [nth_set (by omega)]; exact at_end
      · rw [nth_set hL.rb]; exact nth_app L1g
      · have := (List.getElem?_eq_some_iff.mp L1g).1; omega
      · rw [List.length_set, List.length_append]; omega
      · intro i hi h1 h2 h3
        rw [nth_set (Ne.symm h1), List.getElem?_append_left (by omega), ← hR1, nth_set (Ne.symm h3)]
      · right; omega
theorem q_comes (k : Nat) (e : Evt) (he : okE e = true) (R : Rg) (r a b : Nat) (st : Lk) (hL : LkAt R r a b st) (hk : LkOk st 300) :
    wpR (callF glob scl T (k + 3) "Locks.comes" [.ref r, encE e] R) (fun d R1 => match comesP st e with
      | none => d = .bl false ∧ R1 = R
      | some st' => d = .bl true ∧ ∃ a', LkAt R1 r a' b st' ∧ FrL R R1 r a b a') noE := by
  rw [c_Locks_comes k _ R rfl, finM_t]
  exact pf_comes _ e he R r a b st hL hk
def st0 : Lk := ⟨[], []⟩
theorem ok0 (n : Nat) : LkOk st0 n := ⟨by simp [st0], by simp [st0], by simp [st0]⟩
theorem q_init (k : Nat) (R : Rg) : callF glob scl T (k + 3) "Locks.__init__" [.ref R.length] (R ++ [.ins 4 []]) = .ok .non (R ++ [.ins 4 [(3, .ref (R.length + 1)), (4, .ref (R.length + 2))], .dct [], .dct []]) := by
  rw [c_Locks___init__ k _ _ rfl, finM_t]
  refine eq_of_wp (wp_finA ?_)
  simp only [m_Locks___init__]
  have h1 := setF_ref (ca := scl.ca) (n := 3) (x := .ref (R.length + 1)) (R := R ++ [.ins 4 [], .dct []]) (r := R.length) (c := 4) (fs := []) (by simp) (by decide +kernel) (by simp)
  have h2 := setF_ref (ca := scl.ca) (n := 4) (x := .ref (R.length + 2)) (R := R ++ [.ins 4 [(3, .ref (R.length + 1))], .dct [], .dct []]) (r := R.length) (c := 4) (fs := [(3, .ref (R.length + 1))]) (by simp) (by decide +kernel) (by simp)
  have e1 : putFD [] 3 (D.ref (R.length + 1)) = [(3, .ref (R.length + 1))] := rfl
  have e2 : putFD [(3, D.ref (R.length + 1))] 4 (D.ref (R.length + 2)) = [(3, .ref (R.length + 1)), (4, .ref (R.length + 2))] := rfl
  simp -implicitDefEqProofs [h1, h2, e1, e2]
theorem init_at (R : Rg) : LkAt (R ++ [.ins 4 [(3, .ref (R.length + 1)), (4, .ref (R.length + 2))], .dct [], .dct []]) R.length (R.length + 1) (R.length + 2) st0 :=
  ⟨by simp, by simp [dctN, st0], by simp [dctN, lostN, st0], by omega⟩
theorem comes_code {e : Evt} (h : okE e = true) : (bnd e.w).isSome = true := by
  unfold okE at h
  cases hb : bnd e.w with
  | none => simp only [hb] at h; cases h
  | some _ => rfl
end Lw
namespace Lw
open PySem PySem.Spec PyProof.Rows L2 RZ Om
/-! ### locks, the law's way -/
def runO (o : Option Lk) (e : Evt) : Option Lk := o.bind fun st => comesP st e
def runP (es : List Evt) : Option Lk := es.foldl runO (some st0)
theorem runO_none : ∀ es : List Evt, es.foldl runO none = none
  | [] => rfl
  | e :: es => runO_none es
theorem runP_snoc (es : List Evt) (e : Evt) : runP (es ++ [e]) = runO (runP es) e := by
  unfold runP
  rw [List.foldl_append]
  rfl
theorem runP_app (es fs : List Evt) : runP (es ++ fs) = fs.foldl runO (runP es) := by
  unfold runP
  rw [List.foldl_append]
theorem run_ok : ∀ (es : List Evt) {st : Lk}, runP es = some st → LkOk st es.length := by
  intro es
  have go : ∀ (es : List Evt) (n : Nat) (s0 st : Lk), LkOk s0 n → es.foldl runO (some s0) = some st → LkOk st (n + es.length) := by
    intro es
    induction es with
    | nil => intro n s0 st h e; cases e; exact h
    | cons e es ih =>
      intro n s0 st h he
      rw [List.foldl_cons] at he
      cases hc : comesP s0 e with
      | none =>
        have : runO (some s0) e = none := hc
        rw [this, runO_none] at he
        cases he
      | some s1 =>
        have : runO (some s0) e = some s1 := hc
        rw [this] at he
        have := ih (n + 1) s1 st (comes_ok h hc) he
        rw [List.length_cons]
        rw [show n + (es.length + 1) = n + 1 + es.length by omega]
        exact this
  intro st h
  have := go es 0 st0 st (ok0 0) h
  rwa [Nat.zero_add] at this
theorem LkOk.mono {st : Lk} {m n : Nat} (h : LkOk st m) (hm : m ≤ n) : LkOk st n := ⟨h.nd, Nat.le_trans h.lh hm, Nat.le_trans h.lg hm⟩
theorem mem_ns {t : Nat} {g : List Nat} : D.int (t : Int) ∈ g.map encN1 ↔ t ∈ g := by
  constructor
  · intro h
    obtain ⟨a, ha, e⟩ := List.mem_map.mp h
    have := D.int.inj e
    have : a = t := by omega
    rw [← this]; exact ha
  · intro h
    exact List.mem_map.mpr ⟨t, h, rfl⟩
structure CbAt (R0 R : Rg) (i j : Nat) (st : Lk) : Prop where
  h : R[i]? = some (.dct (dctN encN1 st.h))
  g : R[j]? = some (.lst (st.g.map encN1))
  hi : R0.length ≤ i
  hj : R0.length ≤ j
  ij : i ≠ j
  tk : R.take R0.length = R0
  le : R0.length ≤ R.length
/-- the walk that leaves out who is gone -/
theorem comp_gone {t1 : SB} {e1 : SE} {cv : SE} {vs : List Nat} {g : SG} (h : List (Nat × Nat)) (hn : (h.map (·.1)).Nodup) (hl : h.length ≤ 300) (t i : Nat) (s : List D) (R : Rg) (hv : cv s R = .ok (.ref i) R) (hi : R[i]? = some (.dct (dctN encN1 h)))
    (hs : ∀ p ∈ h, ∀ R, R[i]? = some (.dctL (dctN encN1 h)) → ∃ s1, g (.int (p.1 : Int)) (wipeD s vs) R = .ok s1 R ∧ t1 s1 R = .ok (!decide (p.2 = t)) R ∧ ((!decide (p.2 = t)) = true → e1 s1 R = .ok (.tup [.int (p.1 : Int), encN1 p.2]) R)) (hc : ∀ R, R[i]? = some (.dctL (dctN encN1 h)) → cv s R = .ok (.ref i) R) :
    cOpN (dictD true) (cCons (cLock cv (cComp (iAny cv) g t1 e1 vs false)) cNil) s R = .ok (.ref R.length) (R ++ [.dct (dctN encN1 (goneH h t))]) := by
  have hR := nth_self (o := .dctL (dctN encN1 h)) hi
  have e2 := comp_src (s := s) (R := R.set i (.dctL (dctN encN1 h))) (it := iAny cv) (g := g) (t := t1) (e := e1) (vs := vs) (as := h) (f := fun p => .int (p.1 : Int)) (w := fun p => .tup [.int (p.1 : Int), encN1 p.2]) (p := fun p => !decide (p.2 = t)) (by
    rw [a_iany, hc _ hR, Res.bind_ok, srx_dctL hR]
    unfold dctN
    rw [List.map_map]
    rfl) (by rw [line_eq]; omega) fun p hp => hs p hp _ hR
  have e3 : cLock cv (cComp (iAny cv) g t1 e1 vs false) s R = .ok (.lst ((goneH h t).map fun p => .tup [.int (p.1 : Int), encN1 p.2])) R := by
    rw [a_lock hv hi, e2]
    simp only
    rw [unLk_ref hR, List.set_set, set_same hi]
    rfl
  have hl2 : (dctN encN1 (goneH h t)).length ≤ LINE := by
    unfold dctN
    rw [List.length_map]
    have := List.length_filter_le (fun p : Nat × Nat => !decide (p.2 = t)) h
    rw [line_eq]
    unfold goneH
    omega
  rw [a_opN, a_cons, e3, Res.bind_ok, a_nil, Res.bind_ok, Res.bind_ok, dict_pairs (goneH h t) (filter_nodup _ hn), mkK_new hl2]
  rfl
theorem cb_body (call : Str → SF) (x0 x7 y3 y4 y5 y6 : D) (e : Evt) (he : okE e = true) (n : Nat) (R0 R : Rg) (i j : Nat) (st : Lk) (hL : CbAt R0 R i j st) (hk : LkOk st 300) :
    wpS (m__law_can_be_b1 call [x0, .ref i, .ref j, .int (n : Int), encE e, y5, y6, x7] R) (fun s R1 => ∃ st' i' z5 z6, comesP st e = some st' ∧ s = [x0, .ref i', .ref j, .int (n : Int), encE e, z5, z6, x7] ∧ CbAt R0 R1 i' j st')
      (.mk (fun d R1 => d = .int (n : Int) ∧ comesP st e = none ∧ R1 = R) (fun _ _ => False) (fun _ _ => False) (fun _ _ _ _ => False)) := by
  have hin : ∀ t : Nat, inD false (.int (t : Int)) (.ref j) R = some (.bl (decide (t ∈ st.g)), R) := fun t => by
    rw [in_ref hL.g rfl (pure_ns st.g) rfl (by show eqOks 11 _ = true; exact eqOk_ns 11 st.g), show decide (D.int (t : Int) ∈ st.g.map encN1) = decide (t ∈ st.g) from decide_eq_decide.mpr mem_ns]; simp
  have hia : ∀ t : Nat, inD false (.int (t : Int)) (.ref i) R = some (.bl (lookN st.h t).isSome, R) := fun t => by
    rw [ind_ref hL.h]; simp
  have i1 := isT1_ref hL.h
  have i0 := isT0_dct hL.h
  have j0 := isT_lst hL.g
  simp only [m__law_can_be_b1]
  by_cases hg : e.t ∈ st.g
  · have hc : comesP st e = none := if_pos hg
    obtain ⟨ns, en⟩ := okE_t he
    have hx : encE e = .tup (.str e.w :: .int (e.t : Int) :: ns.map encN1) := by unfold encE; rw [en]; rfl
    rw [hc, hx]
    have hin' := hin e.t
    rw [decide_eq_true hg] at hin'
    simp -implicitDefEqProofs [hin']
  · rcases okE_shape he with ⟨t, c, v, rfl, _⟩ | ⟨t, c, v, rfl, _⟩ | ⟨t, l, rfl, _⟩ | ⟨t, l, rfl, _⟩ | ⟨t, rfl, _⟩
    · have hg : t ∉ st.g := hg
      have hin' := hin t
      rw [decide_eq_false hg] at hin'
      rw [cp_wr hg]
      simp only [encE, List.map_cons, List.map_nil, encN1]
      simp -implicitDefEqProofs [hin']
      exact hL
    · have hg : t ∉ st.g := hg
      have hin' := hin t
      rw [decide_eq_false hg] at hin'
      rw [cp_re hg]
      simp only [encE, List.map_cons, List.map_nil, encN1]
      simp -implicitDefEqProofs [hin']
      exact hL
    · have hg : t ∉ st.g := hg
      have hin' := hin t
      rw [decide_eq_false hg] at hin'
      have hia' := hia l
      cases hl : lookN st.h l with
      | some q =>
        rw [cp_tk_no hg (by rw [hl]; rfl)]
        rw [hl] at hia'
        simp only [encE, List.map_cons, List.map_nil, encN1]
        simp -implicitDefEqProofs [hin', hia']
      | none =>
        rw [cp_tk hg hl]
        rw [hl] at hia'
        have hs := setd_ref (f := encN1) (p := l) (t := t) hL.h (by have := hk.lh; rw [line_eq]; omega)
        simp only [encE, List.map_cons, List.map_nil, encN1] at hs ⊢
        have hgo : sGo (gIx (cVar 1) (cOp2 ixD (cVar 4) (cCon (.int 2)))) (.int (t : Int)) [x0, .ref i, .ref j, .int (n : Int), .tup [.str TK, .int (t : Int), .int (l : Int)], .str TK, .int (t : Int), x7] R = .nx [x0, .ref i, .ref j, .int (n : Int), .tup [.str TK, .int (t : Int), .int (l : Int)], .str TK, .int (t : Int), x7] (R.set i (.dct (dctN encN1 (putN st.h l t)))) :=
          go_ix (R1 := R) (R2 := R) (y := .ref i) (i := .int (l : Int)) (by simp -implicitDefEqProofs) (by simp -implicitDefEqProofs) hs
        simp -implicitDefEqProofs [hin', hia', hgo]
        exact ⟨nth_self hL.h, by rw [nth_set hL.ij]; exact hL.g, hL.hi, hL.hj, hL.ij, take_setN hL.hi hL.tk, by rw [List.length_set]; exact hL.le⟩
    · have hg : t ∉ st.g := hg
      have hin' := hin t
      rw [decide_eq_false hg] at hin'
      have hgt := getd_ref (R := R) (y := .non) (f := encN1) (q := l) hL.h
      cases hl : lookN st.h l with
      | none =>
        rw [cp_fr_no hg (by rw [hl]; simp)]
        rw [hl] at hgt
        have eq := x_data (neg := true) (eqs := eqF call scl.eqs) (R := R) (x := .non) (y := .int (t : Int)) rfl rfl
        rw [p_eq (x := .non) (y := .int (t : Int)) rfl rfl rfl rfl] at eq
        simp only [encE, List.map_cons, List.map_nil, encN1]
        simp -implicitDefEqProofs [hin', hgt, i1, i0, eq]
      | some q =>
        rw [hl] at hgt
        simp only [Option.map_some, Option.getD_some, encN1] at hgt
        by_cases hq : q = t
        · subst hq
          rw [cp_fr hg hl]
          have hp := dpop_ref (f := encN1) hL.h hl
          simp only [encE, List.map_cons, List.map_nil, encN1] at hp ⊢
          simp -implicitDefEqProofs [hin', hgt, i1, i0, hp]
          exact ⟨nth_self hL.h, by rw [nth_set hL.ij]; exact hL.g, hL.hi, hL.hj, hL.ij, take_setN hL.hi hL.tk, by rw [List.length_set]; exact hL.le⟩
        · rw [cp_fr_no hg (by rw [hl]; intro z; exact hq (Option.some.inj z))]
          have hq' : ¬ (q : Int) = t := by omega
          simp only [encE, List.map_cons, List.map_nil, encN1]
          simp -implicitDefEqProofs [hin', hgt, i1, i0, hq']
    · have hg : t ∉ st.g := hg
      have hin' := hin t
      rw [decide_eq_false hg] at hin'
      rw [cp_gn hg]
      have ha := app_ref (x := .int (t : Int)) hL.g (by have := hk.lg; rw [List.length_map, line_eq]; omega)
      generalize hR1 : R.set j (.lst (st.g.map encN1 ++ [.int (t : Int)])) = R1 at ha
      have L1h : R1[i]? = some (.dct (dctN encN1 st.h)) := by rw [← hR1, nth_set hL.ij.symm]; exact hL.h
      have L1g : R1[j]? = some (.lst ((st.g ++ [t]).map encN1)) := by rw [← hR1, nth_self hL.g, List.map_append]; rfl
      have L1t : R1.take R0.length = R0 := by rw [← hR1]; exact take_setN hL.hj hL.tk
      have L1l : R0.length ≤ R1.length := by rw [← hR1, List.length_set]; exact hL.le
      have hcg := comp_gone (t1 := m__law_can_be_t1 call) (e1 := m__law_can_be_e1 call) (cv := cVar 1) (vs := [7]) (g := gVar 7) st.h hk.nd hk.lh t i [x0, .ref i, .ref j, .int (n : Int), .tup [.str GN, .int (t : Int)], .str GN, .int (t : Int), x7] R1 (by simp -implicitDefEqProofs) L1h (fun p hp R2 hR2 => ⟨[x0, .ref i, .ref j, .int (n : Int), .tup [.str GN, .int (t : Int)], .str GN, .int (t : Int), .int (p.1 : Int)], rfl, by
        have hx := ixd_refL (f := encN1) hR2 (lookN_mem hk.nd hp)
        simp only [encN1] at hx
        simp only [m__law_can_be_t1]
        simp -implicitDefEqProofs [hx]
        by_cases h : p.2 = t
        · rw [h]; simp
        · have : ¬ (p.2 : Int) = t := by omega
          simp [h, this], fun _ => by
        have hx := ixd_refL (f := encN1) hR2 (lookN_mem hk.nd hp)
        simp only [encN1] at hx
        simp only [m__law_can_be_e1, encN1]
        simp -implicitDefEqProofs [hx]⟩) (fun R2 hR2 => by simp -implicitDefEqProofs)
      simp only [encE, List.map_cons, List.map_nil, encN1]
      generalize hZ : cOpN (dictD true) (cCons (cLock (cVar 1) (cComp (iAny (cVar 1)) (gVar 7) (m__law_can_be_t1 call) (m__law_can_be_e1 call) [7] false)) cNil) = Z at hcg
      simp -implicitDefEqProofs [hin', j0, ha, hcg]
      exact ⟨at_end, nth_app L1g, Nat.le_trans hL.le (by rw [← hR1, List.length_set]; exact Nat.le_refl _), hL.hj, by have := (List.getElem?_eq_some_iff.mp L1g).1; omega, take_app L1l L1t, by rw [List.length_append]; omega⟩
theorem q_can_be (k : Nat) (es : List Evt) (he : ∀ e ∈ es, okE e = true) (hl : es.length ≤ 300) (R : Rg) :
    wpR (callF glob scl T (k + 3) "_law_can_be" [.lst (es.map encE)] R) (fun d R1 => R1 = R ∧ ((runP es).isSome = true ∧ d = .non ∨ runP es = none ∧ ∃ n : Nat, d = .int (n : Int))) noE := by
  rw [c__law_can_be k _ R rfl, finM_f]
  refine wp_fin ?_
  simp only [m__law_can_be]
  generalize hb : m__law_can_be_b1 _ = body
  simp -implicitDefEqProofs [mkK_new (show ([] : List (D × D)).length ≤ LINE by simp)]
  refine ws_for (enc := fun z : Evt × Nat => D.tup [.int (z.2 : Int), encE z.1]) (R1 := R ++ [.dct [], .lst []]) es.zipIdx (it_enumM (a := cVar 0) (by simp -implicitDefEqProofs)) (by rw [List.length_zipIdx]; have := line_fuel; rw [line_eq] at this; omega)
    (fun done s R1 => ∃ st i j y3 y4 y5 y6, runP (done.map (·.1)) = some st ∧ s = [.lst (es.map encE), .ref i, .ref j, y3, y4, y5, y6, .undef] ∧ CbAt R R1 i j st) ?_ ?_ ?_
  · refine ⟨st0, R.length, R.length + 1, _, _, _, _, rfl, rfl, ⟨by simp [st0, dctN], by simp [st0], Nat.le_refl _, by omega, by omega, by simp, by simp⟩⟩
  · rintro done z rest e0 _ R1 ⟨st, i, j, y3, y4, y5, y6, hr, rfl, hL⟩
    obtain ⟨e1, e2⟩ := idx_split e0
    obtain ⟨e, n⟩ := z
    have hem : e ∈ es := List.mem_of_getElem? e2
    have hdl : done.length ≤ 300 := by
      have := congrArg List.length e0
      rw [List.length_zipIdx, List.length_append] at this
      omega
    have hrun := runP_snoc (done.map (·.1)) e
    rw [hr] at hrun
    have hb2 := cb_body (callW glob scl T (k + 2)) (.lst (es.map encE)) .undef y3 y4 y5 y6 e (he e hem) n R R1 i j st hL ((run_ok _ hr).mono (by rw [List.length_map]; exact hdl))
    rw [hb] at hb2
    rw [a_gt2]
    simp -implicitDefEqProofs
    refine wpS_mono hb2 ?_ ?_ (fun _ _ h => h.elim) (fun _ _ h => h.elim) (fun _ _ _ _ h => h.elim)
    · rintro _ R2 ⟨st', i', z5, z6, hc, rfl, h2⟩
      refine ⟨st', ?_, i', j, ⟨_, _, _, _, rfl⟩, h2⟩
      rw [hrun]
      exact hc
    · rintro _ R2 ⟨rfl, hc, rfl⟩
      have hn : runP es = none := by
        have e3 : es = (done.map (·.1) ++ [e]) ++ rest.map (·.1) := by
          have := congrArg (List.map (·.1)) e0
          rw [List.zipIdx_map_fst] at this
          rw [this]
          simp
        rw [e3, runP_app, hrun]
        show List.foldl runO (comesP st e) _ = none
        rw [hc, runO_none]
      exact ⟨_, frz_pure rfl, hL.tk, .inr ⟨hn, n, rfl⟩⟩
  · rintro _ R1 ⟨st, i, j, y3, y4, y5, y6, hr, rfl, hL⟩
    rw [List.zipIdx_map_fst] at hr
    exact ⟨_, frz_pure rfl, hL.tk, .inl ⟨by rw [hr]; rfl, rfl⟩⟩
theorem pure_evts : ∀ es : List Evt, pureDs (es.map encE) = true
  | [] => rfl
  | e :: es => by
    show (pureD (encE e) && pureDs (es.map encE)) = true
    rw [pure_evts es, pure_evt]
    rfl
theorem eqOk_evts (m : Nat) : ∀ {es : List Evt}, (∀ e ∈ es, okE e = true) → eqOks (m + 1) (es.map encE) = true
  | [], _ => rfl
  | e :: es, h => by
    show (eqOk (m + 1) (encE e) && eqOks (m + 1) (es.map encE)) = true
    rw [eqOk_evts m (fun x hx => h x (List.mem_cons_of_mem _ hx)), eqOk_evt (comes_code (h e List.mem_cons_self))]
    rfl
theorem nofld_comes (x y : D) : noFld "comes" [(3, x), (4, y)] = true := by
  show ((!decide (atN 3 = ("comes" : Str))) && ((!decide (atN 4 = ("comes" : Str))) && true)) = true
  decide +kernel
end Lw
namespace Lw
open PySem PySem.Spec PyProof.Rows L2 RZ Om
/-! ### draws -/
theorem q_law_by (k : Nat) (r : Nat) (xs : List Int) (many : Nat) (hm : 0 < many) (R : Rg) (h : R[r]? = some (.lst (xs.map .int))) :
    ∃ (v : Nat) (ys : List Int), v < many ∧ callF glob scl T (k + 3) "_law_by" [.ref r, .int (many : Int)] R = .ok (.int (v : Int)) (R.set r (.lst (ys.map .int))) := by
  rw [c__law_by k _ R rfl, finM_f]
  have hr := (List.getElem?_eq_some_iff.mp h).1
  have eq : eqX true (eqF (callW glob scl T (k + 2)) scl.eqs) (.ref r) (.lst []) R = _ := (x_data (by rw [insOf_ref, h]) rfl).trans (p_eq_ref (neg := true) h (pure_ints xs) (y := .lst []) rfl (by simp -implicitDefEqProofs [eqOk, eqOks_ints]) rfl)
  have hm' : (0 : Int) < many := by omega
  cases xs with
  | nil =>
    refine ⟨0, [], hm, ?_⟩
    refine eq_of_wp (wp_fin2 ?_)
    simp only [m__law_by]
    simp -implicitDefEqProofs [eq]
    exact ⟨_, frz_pure rfl, kept_refl, rfl, (set_same h).symm⟩
  | cons x xs =>
    have h0 := Int.emod_nonneg x (show (many : Int) ≠ 0 by omega)
    have h1 := Int.emod_lt_of_pos x hm'
    refine ⟨(x % many).toNat, xs, by omega, ?_⟩
    rw [Int.toNat_of_nonneg h0]
    refine eq_of_wp (wp_fin2 ?_)
    simp only [m__law_by]
    have ep := pop0_ref (x := .int x) (xs := xs.map .int) h
    simp -implicitDefEqProofs [eq, isT_lst h, ep, p_mod hm']
    exact ⟨_, frz_pure rfl, kept_set kept_refl (pure_ints _), rfl, take_set⟩
theorem q_law_cell_at (k : Nat) (ns : List Int) (i : Int) (R : Rg) (hi : 0 ≤ i) (hi2 : i < 100000) (hl : ns.length ≤ 63) : ∃ n, callF glob scl T (k + 3) "_law_cell_at" [.lst (ns.map .int), .int i] R = .ok (.int n) R := by
  rw [c__law_cell_at k _ R rfl, finM_f]
  have hp : ∀ n, wpR (fin false R (m__law_cell_at (callW glob scl T (k + 2)) ([.lst (ns.map .int), .int i] ++ List.replicate 0 .undef) R)) (fun d R1 => d = .int n ∧ R1 = R) noE → ∃ n, fin false R (m__law_cell_at (callW glob scl T (k + 2)) ([.lst (ns.map .int), .int i] ++ List.replicate 0 .undef) R) = .ok (.int n) R := fun n h => ⟨n, eq_of_wp h⟩
  have h48 : ∀ j : Int, mulOk j 48271 = true := fun j => by
    unfold mulOk smallI
    simp -implicitDefEqProofs
  by_cases h1 : i < ns.length
  · obtain ⟨j, rfl⟩ : ∃ j : Nat, i = j := ⟨i.toNat, by omega⟩
    have hj : j < ns.length := by omega
    refine hp ns[j] (wp_fin ?_)
    have e : ixD (.lst (ns.map .int)) (.int (j : Int)) R = some (.int ns[j], R) := ix_lst (by rw [List.getElem?_map, List.getElem?_eq_getElem hj]; rfl)
    simp only [m__law_cell_at]
    simp -implicitDefEqProofs [hj, e]
    exact frz_pure rfl
  · cases ns with
    | nil =>
      refine hp (i * 48271) (wp_fin ?_)
      have eq := p_eq (neg := false) (x := .lst []) (y := .lst []) (R := R) rfl rfl rfl rfl
      simp only [m__law_cell_at]
      have h1' : ¬ i < 0 := by omega
      simp -implicitDefEqProofs [h1', eq, p_mul (h48 i)]
      exact frz_pure rfl
    | cons n ns =>
      have hpos : (0 : Int) < ((ns.length + 1 : Nat) : Int) := by omega
      obtain ⟨j, ej⟩ : ∃ j : Nat, i % ((ns.length + 1 : Nat) : Int) = j := ⟨(i % ((ns.length + 1 : Nat) : Int)).toNat, by have := Int.emod_nonneg i (show ((ns.length + 1 : Nat) : Int) ≠ 0 by omega); omega⟩
      have hj : j < (n :: ns).length := by
        have := Int.emod_lt_of_pos i hpos
        rw [List.length_cons]; omega
      refine hp (((n :: ns)[j] + i) * 48271 % 2147483647) (wp_fin ?_)
      have e : ixD (.lst (.int n :: ns.map .int)) (.int (j : Int)) R = some (.int (n :: ns)[j], R) := ix_lst (xs := (n :: ns).map .int) (by rw [List.getElem?_map, List.getElem?_eq_getElem hj]; rfl)
      have eq := p_eq (neg := false) (x := .lst (.int n :: ns.map .int)) (y := .lst []) (R := R) (by simp -implicitDefEqProofs [pureD, pureDs, pure_ints]) rfl (by simp [eqOk, eqOks, eqOks_ints]) rfl
      have h1' : ¬ i < (ns.length : Int) + 1 := by rw [List.length_cons] at h1; omega
      have em := p_mod (R := R) (i := i) hpos
      simp only [m__law_cell_at]
      have e' : ixD (.lst (.int n :: ns.map .int)) (.int (i % ((ns.length : Int) + 1))) R = some (.int (n :: ns)[j], R) := by
        rw [show i % ((ns.length : Int) + 1) = (j : Int) from by simpa using ej]
        exact e
      simp -implicitDefEqProofs [h1', eq, e', p_mul (h48 _), p_mod]
      exact frz_pure rfl
theorem q_law_numbers (k : Nat) (n : Int) (R : Rg) : ∃ ys : List Int, callF glob scl T (k + 3) "_law_numbers" [.int n, .lst [.int 120, .int 120, .int 120, .int 120, .int 120, .int 120]] R = .ok (.lst (ys.map .int)) R ∧ ys.length = 6 := by
  have go : ∀ rest : Int, wpS (sFor (iAny (cVar 1)) (gVar 1) (m__law_numbers_b1 (callW glob scl T (k + 2))) [.int n, .lst ([120, 120, 120, 120, 120, 120].map D.int), .int rest, .ref R.length] (R ++ [.lst []])) (fun s R1 => ∃ ys : List Int, s[3]? = some (.ref R.length) ∧ R1 = R ++ [.lst (ys.map .int)] ∧ ys.length = 6) (.mk (fun _ _ => False) (fun _ _ => False) (fun _ _ => False) (fun _ _ _ _ => False)) := by
    intro rest
    refine ws_for (enc := D.int) (R1 := R ++ [.lst []]) [120, 120, 120, 120, 120, 120] (by simp -implicitDefEqProofs) (by decide) (fun done s R1 => ∃ (ys : List Int) (d : D) (rest : Int), s = [.int n, d, .int rest, .ref R.length] ∧ R1 = R ++ [.lst (ys.map .int)] ∧ ys.length = done.length) ⟨[], _, rest, rfl, rfl, rfl⟩ ?_ ?_
    · rintro done a rst e _ _ ⟨ys, d, rest, rfl, rfl, hl⟩
      have ha : a = 120 := by
        have : a ∈ ([120, 120, 120, 120, 120, 120] : List Int) := by rw [e]; simp -implicitDefEqProofs
        simpa using this
      subst ha
      have hd : done.length < 6 := by
        have := congrArg List.length e
        rw [List.length_append, List.length_cons] at this
        simp -implicitDefEqProofs at this
        omega
      have ea := app_ref (x := .int (rest % 120)) (R := R ++ [.lst (ys.map .int)]) (r := R.length) (xs := ys.map .int) at_end (by rw [List.length_map, line_eq]; omega)
      rw [set_end] at ea
      simp only [m__law_numbers_b1]
      simp -implicitDefEqProofs [isT_lst (r := R.length) at_end, p_mod, ea, p_fdiv (show divOk 120 = true by decide +kernel)]
      exact ⟨ys ++ [rest % 120], by simp -implicitDefEqProofs, by simp [hl]⟩
    · rintro _ _ ⟨ys, d, rest, rfl, rfl, hl⟩
      exact ⟨ys, rfl, rfl, hl⟩
  rw [c__law_numbers k _ R rfl, finM_f]
  suffices h : wpR (fin false R (m__law_numbers (callW glob scl T (k + 2)) ([.int n, .lst [.int 120, .int 120, .int 120, .int 120, .int 120, .int 120]] ++ List.replicate 2 .undef) R)) (fun d R1 => ∃ ys : List Int, d = .lst (ys.map .int) ∧ R1 = R ∧ ys.length = 6) noE by
    obtain ⟨d, R1, e, ys, rfl, rfl, hh⟩ := ex_of_wp h
    exact ⟨ys, e, hh⟩
  refine wp_fin ?_
  simp only [m__law_numbers]
  have pw := p_pow (R := R) (i := 10) (j := 18) (by decide)
  have nb : (n % 2147483647 * 48271 + 12345).natAbs < 18446744073709551616 := by omega
  have pw2 := p_pow (R := R) (i := n % 2147483647 * 48271 + 12345) (j := 5) ⟨by decide, by decide, nb⟩
  have mo : mulOk (n % 2147483647) 48271 = true := by simp -implicitDefEqProofs [mulOk, smallI]
  have dv : divOk 1013 = true := by decide +kernel
  have mo48 : mulOk (n % 2147483647) 48271 = true := mo
  simp -implicitDefEqProofs [pw, p_mod, p_mul mo, pw2, p_fdiv dv]
  split <;>
  · refine wpS_mono (go _) ?_ (fun _ _ h => h.elim) (fun _ _ h => h.elim) (fun _ _ h => h.elim) (fun _ _ _ _ h => h.elim)
    rintro s R1 ⟨ys, e, rfl, h⟩
    have e2 : look s 3 = .ref R.length := by rw [look_eq, e]; rfl
    simp -implicitDefEqProofs [e2]
    exact ⟨_, frz_lst (Nat.le_refl _) (by simp -implicitDefEqProofs) at_end (pure_ints ys), ys, rfl, h⟩
theorem q_law_draws (k : Nat) (ns : List Int) (a : Int) (R : Rg) (ha : 0 ≤ a) (ha2 : a < 1000) (hl : ns.length ≤ 63) : ∃ ys : List Int, callF glob scl T (k + 4) "_law_draws" [.lst (ns.map .int), .int a, .int 13] R = .ok (.ref R.length) (R ++ [.lst (ys.map .int)]) := by
  rw [c__law_draws (k + 1) _ R rfl, finM_f]
  suffices h : wpR (fin true R (m__law_draws (callW glob scl T (k + 3)) ([.lst (ns.map .int), .int a, .int 13] ++ List.replicate 2 .undef) R)) (fun d R1 => ∃ ys : List Int, d = .ref R.length ∧ R1 = R ++ [.lst (ys.map .int)]) noE by
    obtain ⟨d, R1, e, ys, rfl, rfl⟩ := ex_of_wp h
    exact ⟨ys, e⟩
  refine wp_fin_live ?_
  simp only [m__law_draws]
  simp -implicitDefEqProofs
  refine ws_for (enc := fun i : Nat => D.int (i : Int)) (R1 := R ++ [.lst []]) (List.range 13) ?_ (by decide) (fun done s R1 => ∃ (i : Nat) (d : D) (ys : List Int), s = [.lst (ns.map .int), .int a, .int 13, .ref i, d] ∧ R.length ≤ i ∧ R1.take R.length = R ∧ R1[i]? = some (.lst (ys.map .int)) ∧ ys.length ≤ 100 * done.length) ?_ ?_ ?_
  · exact it_rng1 (n := 13) (by simp -implicitDefEqProofs) (by decide)
  · exact ⟨_, _, [], rfl, Nat.le_refl _, by simp -implicitDefEqProofs, at_end, Nat.zero_le _⟩
  · rintro done i rest e _ R1 ⟨r, d, ys, rfl, h1, h2, h3, h4⟩
    have hd : done.length < 13 ∧ i < 13 := by
      have := congrArg List.length e
      rw [List.length_append, List.length_cons, List.length_range] at this
      have h : i ∈ List.range 13 := by rw [e]; simp -implicitDefEqProofs
      have := List.mem_range.mp h
      omega
    obtain ⟨n, en⟩ := q_law_cell_at k ns (a + i) R1 (by omega) (by omega) hl
    obtain ⟨zs, ez, hz⟩ := q_law_numbers k n R1
    rw [← w__law_cell_at] at en
    rw [← w__law_numbers] at ez
    have ea := add_lst (t := true) (R := R1) (x := .ref r) (y := .lst (zs.map .int)) (lst_ref h3) rfl
    rw [← List.map_append, mkL_new (by rw [List.length_map, List.length_append, line_eq]; omega)] at ea
    simp only [m__law_draws_b1]
    simp -implicitDefEqProofs [en, ez, ea]
    refine ⟨by have := congrArg List.length h2; rw [List.length_take] at this; omega, ?_, ys ++ zs, by simp -implicitDefEqProofs, by rw [List.length_append]; omega⟩
    rw [List.take_append_of_le_length (by have := congrArg List.length h2; rw [List.length_take] at this; omega)]
    exact h2
  · rintro s R1 ⟨r, d, ys, rfl, h1, h2, h3, h4⟩
    simp -implicitDefEqProofs
    exact ⟨h1, _, h3, pure_ints _, h2, ys, rfl⟩
end Lw
namespace Lw
open PySem PySem.Spec PyProof.Rows L2 RZ Om
/-! ### histories -/
def By (call : Str → SF) : Prop := ∀ (r : Nat) (xs : List Int) (many : Nat) (R : Rg), 0 < many → R[r]? = some (.lst (xs.map .int)) → ∃ (v : Nat) (ys : List Int), v < many ∧ call "_law_by" [.ref r, .int (many : Int)] R = .ok (.int (v : Int)) (R.set r (.lst (ys.map .int)))
structure HsAt (R0 R : Rg) (q fo i j : Nat) (es : List Evt) (st : Lk) : Prop where
  dr : ∃ ys : List Int, R[q]? = some (.lst (ys.map .int)) ∧ R.take R0.length = R0.set q (.lst (ys.map .int))
  fl : R[fo]? = some (.lst (es.map encE))
  hh : R[i]? = some (.dct (dctN encN1 st.h))
  gg : R[j]? = some (.lst (st.g.map encN1))
  q0 : q < R0.length
  ge : R0.length ≤ fo ∧ R0.length ≤ i ∧ R0.length ≤ j
  ne : fo ≠ j
  le : R0.length ≤ R.length
  run : runP es = some st
  ok : ∀ e ∈ es, okE e = true
theorem HsAt.fi {R0 R : Rg} {q fo i j : Nat} {es : List Evt} {st : Lk} (h : HsAt R0 R q fo i j es st) : fo ≠ i := fun z => by have := h.fl; rw [z, h.hh] at this; cases this
theorem HsAt.ij {R0 R : Rg} {q fo i j : Nat} {es : List Evt} {st : Lk} (h : HsAt R0 R q fo i j es st) : i ≠ j := fun z => by have := h.hh; rw [z, h.gg] at this; cases this
theorem HsAt.by {call : Str → SF} (hb : By call) {R0 R : Rg} {q fo i j : Nat} {es : List Evt} {st : Lk} (h : HsAt R0 R q fo i j es st) (many : Nat) (hm : 0 < many) : ∃ (v : Nat) (R1 : Rg), v < many ∧ call "_law_by" [.ref q, .int (many : Int)] R = .ok (.int (v : Int)) R1 ∧ HsAt R0 R1 q fo i j es st := by
  obtain ⟨ys, h1, h2⟩ := h.dr
  obtain ⟨v, zs, h3, h4⟩ := hb q ys many R hm h1
  obtain ⟨g1, g2, g3⟩ := h.ge
  have hq := h.q0
  refine ⟨v, _, h3, h4, ⟨⟨zs, nth_self h1, ?_⟩, by rw [nth_set (by omega)]; exact h.fl, by rw [nth_set (by omega)]; exact h.hh, by rw [nth_set (by omega)]; exact h.gg, hq, h.ge, h.ne, by rw [List.length_set]; exact h.le, h.run, h.ok⟩⟩
  rw [List.take_set, h2, List.set_set]
/-- an event more -/
theorem HsAt.push {R0 R : Rg} {q fo i j : Nat} {es : List Evt} {st : Lk} (h : HsAt R0 R q fo i j es st) {e : Evt} (he : okE e = true) (hc : comesP st e = some st) : HsAt R0 (R.set fo (.lst ((es ++ [e]).map encE))) q fo i j (es ++ [e]) st := by
  obtain ⟨ys, h1, h2⟩ := h.dr
  obtain ⟨g1, g2, g3⟩ := h.ge
  have hq := h.q0
  refine ⟨⟨ys, by rw [nth_set (by omega)]; exact h1, ?_⟩, nth_self h.fl, by rw [nth_set h.fi]; exact h.hh, by rw [nth_set h.ne]; exact h.gg, hq, h.ge, h.ne, by rw [List.length_set]; exact h.le, by rw [runP_snoc, h.run]; exact hc, fun x hx => ?_⟩
  · rw [List.take_set_of_le g1]; exact h2
  · rcases List.mem_append.mp hx with hx | hx
    · exact h.ok x hx
    · rw [List.mem_singleton] at hx; subst hx; exact he
/-- an event more that changes who holds -/
theorem HsAt.pushH {R0 R : Rg} {q fo i j : Nat} {es : List Evt} {st : Lk} (h : HsAt R0 R q fo i j es st) {e : Evt} (he : okE e = true) {hh : List (Nat × Nat)} (hc : comesP st e = some ⟨hh, st.g⟩) : HsAt R0 ((R.set fo (.lst ((es ++ [e]).map encE))).set i (.dct (dctN encN1 hh))) q fo i j (es ++ [e]) ⟨hh, st.g⟩ := by
  obtain ⟨ys, h1, h2⟩ := h.dr
  obtain ⟨g1, g2, g3⟩ := h.ge
  have hq := h.q0
  refine ⟨⟨ys, by rw [nth_set (by omega), nth_set (by omega)]; exact h1, ?_⟩, by rw [nth_set h.fi.symm]; exact nth_self h.fl, nth_self (by rw [nth_set h.fi]; exact h.hh), by rw [nth_set h.ij, nth_set h.ne]; exact h.gg, hq, h.ge, h.ne, by rw [List.length_set, List.length_set]; exact h.le, by rw [runP_snoc, h.run]; exact hc, fun x hx => ?_⟩
  · rw [List.take_set_of_le g2, List.take_set_of_le g1]; exact h2
  · rcases List.mem_append.mp hx with hx | hx
    · exact h.ok x hx
    · rw [List.mem_singleton] at hx; subst hx; exact he
theorem ix_four (v : Nat) (h : v < 4) (R : Rg) : ∃ c : Nat, c ≤ 15 ∧ ixD (.lst [.int 0, .int 1, .int 4, .int 15]) (.int (v : Int)) R = some (.int (c : Int), R) := by
  match v, h with
  | 0, _ => exact ⟨0, by omega, ix_lst (n := 0) rfl⟩
  | 1, _ => exact ⟨1, by omega, ix_lst (n := 1) rfl⟩
  | 2, _ => exact ⟨4, by omega, ix_lst (n := 2) rfl⟩
  | 3, _ => exact ⟨15, by omega, ix_lst (n := 3) rfl⟩
theorem mul33 (v : Nat) (h : v < 4) (R : Rg) : mulD false (.int (v : Int)) (.int 33) R = some (.int ((v : Int) * 33), R) := by
  rw [p_mul (by unfold mulOk smallI; rw [show decide (-18446744073709551616 < (33 : Int) ∧ (33 : Int) < 18446744073709551616) = true from rfl]; rfl)]
theorem ok_wr {t c v : Nat} (h1 : t ≤ 5) (h2 : c ≤ 15) (h3 : v ≤ 99) : okE ⟨WR, [t, c, v]⟩ = true := by simp [okE, bnd, leAll, h1, h2, h3]
theorem ok_re {t c v : Nat} (h1 : t ≤ 5) (h2 : c ≤ 15) (h3 : v ≤ 99) : okE ⟨RE, [t, c, v]⟩ = true := by simp [okE, bnd, leAll, h1, h2, h3]
theorem ok_tk {t l : Nat} (h1 : t ≤ 5) (h2 : l ≤ 2) : okE ⟨TK, [t, l]⟩ = true := by simp [okE, bnd, leAll, h1, h2]
theorem ok_fr {t l : Nat} (h1 : t ≤ 5) (h2 : l ≤ 2) : okE ⟨FR, [t, l]⟩ = true := by simp [okE, bnd, leAll, h1, h2]
theorem ok_gn {t : Nat} (h1 : t ≤ 5) : okE ⟨GN, [t]⟩ = true := by simp [okE, bnd, leAll, h1]
theorem hist_body (call : Str → SF) (hb : By call) (x1 x6 x7 x8 x9 x10 : D) (n : Nat) (R0 R : Rg) (q fo i j : Nat) (es : List Evt) (st : Lk) (hL : HsAt R0 R q fo i j es st) (hk : LkOk st 300) (hl : es.length ≤ 100) :
    wpS (m__law_history_b1 call [.ref q, x1, .int (n : Int), .ref fo, .ref i, .ref j, x6, x7, x8, x9, x10] R) (fun s R1 => ∃ es' st' i' z6 z7 z8 z9, s = [.ref q, x1, .int (n : Int), .ref fo, .ref i', .ref j, z6, z7, z8, z9, x10] ∧ HsAt R0 R1 q fo i' j es' st' ∧ es'.length ≤ es.length + 1)
      (.mk (fun _ _ => False) (fun _ _ => False) (fun s R1 => ∃ es' st' i' z6 z7 z8 z9, s = [.ref q, x1, .int (n : Int), .ref fo, .ref i', .ref j, z6, z7, z8, z9, x10] ∧ HsAt R0 R1 q fo i' j es' st' ∧ es'.length ≤ es.length + 1) (fun _ _ _ _ => False)) := by
  obtain ⟨t, R1, t1, ht, h1⟩ := hL.by hb 4 (by omega)
  obtain ⟨kd, R2, k1, hkd, h2⟩ := h1.by hb 12 (by omega)
  obtain ⟨l, R3, l1, hlk, h3⟩ := h2.by hb 3 (by omega)
  obtain ⟨c0, R4, c1, hce, h4⟩ := h3.by hb 4 (by omega)
  obtain ⟨c, c2, hc⟩ := ix_four c0 c1 R4
  obtain ⟨v, R5, v1, hv, h5⟩ := h4.by hb 4 (by omega)
  have ht : call "_law_by" [.ref q, .int 4] R = .ok (.int (t : Int)) R1 := ht
  have hkd : call "_law_by" [.ref q, .int 12] R1 = .ok (.int (kd : Int)) R2 := hkd
  have hlk : call "_law_by" [.ref q, .int 3] R2 = .ok (.int (l : Int)) R3 := hlk
  have hce : call "_law_by" [.ref q, .int 4] R3 = .ok (.int (c0 : Int)) R4 := hce
  have hv : call "_law_by" [.ref q, .int 4] R4 = .ok (.int (v : Int)) R5 := hv
  have hin : inD false (.int (t : Int)) (.ref j) R4 = some (.bl (decide (t ∈ st.g)), R4) := by
    rw [in_ref h4.gg rfl (pure_ns st.g) rfl (by show eqOks 11 _ = true; exact eqOk_ns 11 st.g), show decide (D.int (t : Int) ∈ st.g.map encN1) = decide (t ∈ st.g) from decide_eq_decide.mpr mem_ns]; simp
  simp only [m__law_history_b1]
  by_cases hg : t ∈ st.g
  · rw [decide_eq_true hg] at hin
    simp -implicitDefEqProofs [ht, hkd, hlk, hce, hc, hin]
    exact ⟨es, ⟨st, h4⟩, by omega⟩
  · rw [decide_eq_false hg] at hin
    have j4 := isT_lst h4.fl
    have hll : (es.map encE).length < LINE := by rw [List.length_map, line_eq]; omega
    by_cases k4 : kd < 4
    · have k4' : (kd : Int) < 4 := by omega
      have ha := app_ref (x := encE (Evt.mk WR [t, c, v * 33])) h5.fl hll
      rw [show es.map encE ++ [encE (Evt.mk WR [t, c, v * 33])] = (es ++ [Evt.mk WR [t, c, v * 33]]).map encE by rw [List.map_append]; rfl] at ha
      have hp := h5.push (ok_wr (t := t) (c := c) (v := v * 33) (by omega) c2 (by omega)) (cp_wr hg)
      have hm := mul33 v v1 R5
      simp only [encE, List.map_cons, List.map_nil, encN1] at ha
      rw [show ((v * 33 : Nat) : Int) = (v : Int) * 33 by omega] at ha
      generalize R5.set fo _ = R6 at ha hp
      simp -implicitDefEqProofs [ht, hkd, hlk, hce, hc, hin, k4', j4, hv, hm, ha]
      exact ⟨es ++ [Evt.mk WR [t, c, v * 33]], ⟨st, hp⟩, by simp⟩
    · have k4' : ¬ (kd : Int) < 4 := by omega
      by_cases k8 : kd < 8
      · have k8' : (kd : Int) < 8 := by omega
        have ha := app_ref (x := encE (Evt.mk RE [t, c, v * 33])) h5.fl hll
        rw [show es.map encE ++ [encE (Evt.mk RE [t, c, v * 33])] = (es ++ [Evt.mk RE [t, c, v * 33]]).map encE by rw [List.map_append]; rfl] at ha
        have hp := h5.push (ok_re (t := t) (c := c) (v := v * 33) (by omega) c2 (by omega)) (cp_re hg)
        have hm := mul33 v v1 R5
        simp only [encE, List.map_cons, List.map_nil, encN1] at ha
        rw [show ((v * 33 : Nat) : Int) = (v : Int) * 33 by omega] at ha
        generalize R5.set fo _ = R6 at ha hp
        simp -implicitDefEqProofs [ht, hkd, hlk, hce, hc, hin, k4', k8', j4, hv, hm, ha]
        exact ⟨es ++ [Evt.mk RE [t, c, v * 33]], ⟨st, hp⟩, by simp⟩
      · have k8' : ¬ (kd : Int) < 8 := by omega
        by_cases kk : kd = 8 ∧ (n : Int) % 3 = 0
        · have kk2 : (n : Int) % 3 = 0 := kk.2
          have kk1 : kd = 8 := kk.1
          subst kk1
          have hkd : call "_law_by" [.ref q, .int 12] R1 = .ok (.int 8) R2 := hkd
          have hmod := p_mod (R := R4) (i := (n : Int)) (j := 3) (by omega)
          have ha := app_ref (x := encE (Evt.mk GN [t])) h4.fl hll
          rw [show es.map encE ++ [encE (Evt.mk GN [t])] = (es ++ [Evt.mk GN [t]]).map encE by rw [List.map_append]; rfl] at ha
          have hcp := cp_gn hg
          obtain ⟨ys, d1, d2⟩ := h4.dr
          obtain ⟨g1, g2, g3⟩ := h4.ge
          have hq := h4.q0
          generalize hR5 : R4.set fo (.lst ((es ++ [Evt.mk GN [t]]).map encE)) = R6 at ha
          have L6g : R6[j]? = some (.lst (st.g.map encN1)) := by rw [← hR5, nth_set h4.ne]; exact h4.gg
          have ha2 := app_ref (x := .int (t : Int)) L6g (by rw [List.length_map, line_eq]; have := hk.lg; omega)
          rw [show st.g.map encN1 ++ [D.int (t : Int)] = (st.g ++ [t]).map encN1 by rw [List.map_append]; rfl] at ha2
          generalize hR7 : R6.set j (.lst ((st.g ++ [t]).map encN1)) = R7 at ha2
          have L7h : R7[i]? = some (.dct (dctN encN1 st.h)) := by rw [← hR7, nth_set h4.ij.symm, ← hR5, nth_set h4.fi]; exact h4.hh
          have L7g : R7[j]? = some (.lst ((st.g ++ [t]).map encN1)) := by rw [← hR7]; exact nth_self L6g
          have L7f : R7[fo]? = some (.lst ((es ++ [Evt.mk GN [t]]).map encE)) := by rw [← hR7, nth_set h4.ne.symm, ← hR5]; exact nth_self h4.fl
          have L7q : R7[q]? = some (.lst (ys.map .int)) := by rw [← hR7, nth_set (by omega), ← hR5, nth_set (by omega)]; exact d1
          have L7t : R7.take R0.length = R0.set q (.lst (ys.map .int)) := by rw [← hR7, List.take_set_of_le g3, ← hR5, List.take_set_of_le g1]; exact d2
          have L7l : R0.length ≤ R7.length := by rw [← hR7, List.length_set, ← hR5, List.length_set]; exact h4.le
          have j6 := isT_lst L6g
          have hcg := comp_gone (t1 := m__law_history_t1 call) (e1 := m__law_history_e1 call) (cv := cVar 4) (vs := [10]) (g := gVar 10) st.h hk.nd hk.lh t i [.ref q, x1, .int (n : Int), .ref fo, .ref i, .ref j, .int (t : Int), .int 8, .int (l : Int), .int (c : Int), x10] R7 (by simp -implicitDefEqProofs) L7h (fun p hp R2 hR2 => ⟨[.ref q, x1, .int (n : Int), .ref fo, .ref i, .ref j, .int (t : Int), .int 8, .int (l : Int), .int (c : Int), .int (p.1 : Int)], rfl, by
            have hx := ixd_refL (f := encN1) hR2 (lookN_mem hk.nd hp)
            simp only [encN1] at hx
            simp only [m__law_history_t1]
            simp -implicitDefEqProofs [hx]
            by_cases h : p.2 = t
            · rw [h]; simp
            · have : ¬ (p.2 : Int) = t := by omega
              simp [h, this], fun _ => by
            have hx := ixd_refL (f := encN1) hR2 (lookN_mem hk.nd hp)
            simp only [encN1] at hx
            simp only [m__law_history_e1, encN1]
            simp -implicitDefEqProofs [hx]⟩) (fun R2 hR2 => by simp -implicitDefEqProofs)
          simp only [encE, List.map_cons, List.map_nil, encN1] at ha
          generalize hZ : cOpN (dictD true) (cCons (cLock (cVar 4) (cComp (iAny (cVar 4)) (gVar 10) (m__law_history_t1 call) (m__law_history_e1 call) [10] false)) cNil) = Z at hcg
          simp -implicitDefEqProofs [ht, hkd, hlk, hce, hc, hin, kk2, hmod, j4, ha, j6, ha2, hcg]
          refine ⟨es ++ [Evt.mk GN [t]], ⟨⟨goneH st.h t, st.g ++ [t]⟩, ⟨⟨ys, nth_app L7q, ?_⟩, nth_app L7f, at_end, nth_app L7g, hq, ⟨g1, L7l, g3⟩, h4.ne, by rw [List.length_append]; omega, by rw [runP_snoc, h4.run]; exact hcp, fun x hx => ?_⟩⟩, by simp⟩
          · rw [List.take_append_of_le_length L7l]; exact L7t
          · rcases List.mem_append.mp hx with hx | hx
            · exact h4.ok x hx
            · rw [List.mem_singleton] at hx; subst hx; exact ok_gn (by omega)
        · have hmod := p_mod (R := R4) (i := (n : Int)) (j := 3) (by omega)
          have hcond : ∀ s, s = [.ref q, x1, .int (n : Int), .ref fo, .ref i, .ref j, .int (t : Int), .int (kd : Int), .int (l : Int), .int (c : Int), x10] → bAnd (bOf (cOp2 (eqX false (eqF call scl.eqs)) (cVar 7) (cCon (.int 8)))) (bOf (cOp2 (eqX false (eqF call scl.eqs)) (cOp2 modD (cVar 2) (cCon (.int 3))) (cCon (.int 0)))) s R4 = .ok false R4 := by
            rintro s rfl
            by_cases k1 : kd = 8
            · have k2 : ¬ (n : Int) % 3 = 0 := fun z => kk ⟨k1, z⟩
              have k1' : (kd : Int) = 8 := by omega
              simp -implicitDefEqProofs [k1', hmod, k2]
            · have k1' : ¬ (kd : Int) = 8 := by omega
              simp -implicitDefEqProofs [k1']
          have hcond := hcond _ rfl
          generalize hB : bAnd (bOf (cOp2 (eqX false (eqF call scl.eqs)) (cVar 7) (cCon (.int 8)))) (bOf (cOp2 (eqX false (eqF call scl.eqs)) (cOp2 modD (cVar 2) (cCon (.int 3))) (cCon (.int 0)))) = B at hcond ⊢
          have hni : inD true (.int (l : Int)) (.ref i) R4 = some (.bl (!(lookN st.h l).isSome), R4) := by
            rw [ind_ref h4.hh]; simp
          cases hl2 : lookN st.h l with
          | none =>
            rw [hl2] at hni
            have hni : inD true (.int (l : Int)) (.ref i) R4 = some (.bl true, R4) := hni
            have ha := app_ref (x := encE (Evt.mk TK [t, l])) h4.fl hll
            rw [show es.map encE ++ [encE (Evt.mk TK [t, l])] = (es ++ [Evt.mk TK [t, l]]).map encE by rw [List.map_append]; rfl] at ha
            have hp := h4.pushH (ok_tk (t := t) (l := l) (by omega) (by omega)) (cp_tk hg hl2)
            have L6h : (R4.set fo (.lst ((es ++ [Evt.mk TK [t, l]]).map encE)))[i]? = some (.dct (dctN encN1 st.h)) := by rw [nth_set h4.fi]; exact h4.hh
            have hs := setd_ref (f := encN1) (p := l) (t := t) L6h (by have := hk.lh; rw [line_eq]; omega)
            simp only [encE, List.map_cons, List.map_nil, encN1] at ha
            generalize R4.set fo _ = R6 at ha hp hs L6h
            simp only [encN1] at hs
            have hgo : ∀ s, s = [.ref q, x1, .int (n : Int), .ref fo, .ref i, .ref j, .int (t : Int), .int (kd : Int), .int (l : Int), .int (c : Int), x10] → sGo (gIx (cVar 4) (cVar 8)) (.int (t : Int)) s R6 = .nx s (R6.set i (.dct (dctN encN1 (putN st.h l t)))) := by
              rintro s rfl
              exact go_ix (R1 := R6) (R2 := R6) (y := .ref i) (i := .int (l : Int)) (by simp -implicitDefEqProofs) (by simp -implicitDefEqProofs) hs
            have hgo := hgo _ rfl
            simp -implicitDefEqProofs [ht, hkd, hlk, hce, hc, hin, k4', k8', hcond, hni, j4, ha, hgo]
            exact ⟨es ++ [Evt.mk TK [t, l]], ⟨_, hp⟩, by simp⟩
          | some w =>
            rw [hl2] at hni
            have hni : inD true (.int (l : Int)) (.ref i) R4 = some (.bl false, R4) := hni
            have hix := ixd_ref (f := encN1) h4.hh hl2
            simp only [encN1] at hix
            by_cases hw : w = t
            · subst hw
              have ha := app_ref (x := encE (Evt.mk FR [w, l])) h4.fl hll
              rw [show es.map encE ++ [encE (Evt.mk FR [w, l])] = (es ++ [Evt.mk FR [w, l]]).map encE by rw [List.map_append]; rfl] at ha
              have hp := h4.pushH (ok_fr (t := w) (l := l) (by omega) (by omega)) (cp_fr hg hl2)
              have L6h : (R4.set fo (.lst ((es ++ [Evt.mk FR [w, l]]).map encE)))[i]? = some (.dct (dctN encN1 st.h)) := by rw [nth_set h4.fi]; exact h4.hh
              simp only [encE, List.map_cons, List.map_nil, encN1] at ha
              generalize R4.set fo _ = R6 at ha hp L6h
              have hpop := dpop_ref (f := encN1) L6h hl2
              have i1 := isT1_ref L6h
              have i0 := isT0_dct L6h
              simp only [encN1] at hpop
              simp -implicitDefEqProofs [ht, hkd, hlk, hce, hc, hin, k4', k8', hcond, hni, hix, j4, ha, i1, i0, hpop]
              exact ⟨es ++ [Evt.mk FR [w, l]], ⟨_, hp⟩, by simp⟩
            · have hw' : ¬ (w : Int) = t := by omega
              simp -implicitDefEqProofs [ht, hkd, hlk, hce, hc, hin, k4', k8', hcond, hni, hix, hw']
              exact ⟨es, ⟨st, h4⟩, by omega⟩
end Lw
namespace Lw
open PySem PySem.Spec PyProof.Rows L2 RZ Om
theorem pf_history (call : Str → SF) (hb : By call) (R : Rg) (q : Nat) (xs : List Int) (hq : R[q]? = some (.lst (xs.map .int))) : wpR (fin false R (m__law_history call ([.ref q, .int 14] ++ List.replicate 9 .undef) R)) (fun d R1 => ∃ (es : List Evt) (ys : List Int) (st : Lk), d = .lst (es.map encE) ∧ R1 = R.set q (.lst (ys.map .int)) ∧ runP es = some st ∧ (∀ e ∈ es, okE e = true) ∧ es.length ≤ 14) noE := by
  have hql := (List.getElem?_eq_some_iff.mp hq).1
  refine wp_fin2 ?_
  simp only [m__law_history]
  generalize hbd : m__law_history_b1 call = body
  simp -implicitDefEqProofs [mkK_new (show ([] : List (D × D)).length ≤ LINE by simp)]
  refine ws_for (enc := fun i : Nat => D.int (i : Int)) (R1 := R ++ [.lst [], .dct [], .lst []]) (List.range 14) (it_rng1 (n := 14) (by simp -implicitDefEqProofs) (by decide)) (by decide)
    (fun done s R1 => ∃ es st i y2 y6 y7 y8 y9, s = [.ref q, .int 14, y2, .ref R.length, .ref i, .ref (R.length + 2), y6, y7, y8, y9, .undef] ∧ HsAt R R1 q R.length i (R.length + 2) es st ∧ es.length ≤ done.length) ?_ ?_ ?_
  · refine ⟨[], st0, R.length + 1, _, _, _, _, _, rfl, ⟨⟨xs, nth_app hq, by simp [set_same hq]⟩, by simp, by simp [dctN, st0], by simp [st0], hql, ⟨by omega, by omega, by omega⟩, by omega, by simp, rfl, fun _ h => by cases h⟩, Nat.le_refl _⟩
  · rintro done n rest e _ R1 ⟨es, st, i, y2, y6, y7, y8, y9, rfl, hL, hl⟩
    have hd : done.length < 14 := by
      have := congrArg List.length e
      rw [List.length_append, List.length_cons, List.length_range] at this
      omega
    have hb2 := hist_body call hb (.int 14) y6 y7 y8 y9 .undef n R R1 q R.length i (R.length + 2) es st hL ((run_ok _ hL.run).mono (by omega)) (by omega)
    rw [hbd] at hb2
    simp -implicitDefEqProofs
    have nxt : ∀ (s : List D) (R2 : Rg), (∃ (es' : List Evt) (st' : Lk) (i' : Nat) (z6 z7 z8 z9 : D), s = [.ref q, .int 14, .int (n : Int), .ref R.length, .ref i', .ref (R.length + 2), z6, z7, z8, z9, .undef] ∧ HsAt R R2 q R.length i' (R.length + 2) es' st' ∧ es'.length ≤ es.length + 1) → ∃ (es : List Evt) (st : Lk) (i : Nat) (y2 y6 y7 y8 y9 : D), s = [.ref q, .int 14, y2, .ref R.length, .ref i, .ref (R.length + 2), y6, y7, y8, y9, .undef] ∧ HsAt R R2 q R.length i (R.length + 2) es st ∧ es.length ≤ (done ++ [n]).length := by
      rintro _ R2 ⟨es', st', i', z6, z7, z8, z9, rfl, h1, h2⟩
      exact ⟨es', st', i', _, _, _, _, _, rfl, h1, by rw [List.length_append]; simp; omega⟩
    refine wpS_mono hb2 ?_ (fun _ _ h => h.elim) (fun _ _ h => h.elim) ?_ (fun _ _ _ _ h => h.elim)
    · intro s R2 h
      have := nxt s R2 h
      simpa -implicitDefEqProofs using this
    · intro s R2 h
      have := nxt s R2 h
      simpa -implicitDefEqProofs using this
  · rintro _ R1 ⟨es, st, i, y2, y6, y7, y8, y9, rfl, hL, hl⟩
    obtain ⟨ys, h1, h2⟩ := hL.dr
    simp -implicitDefEqProofs
    refine ⟨_, frz_lst (Nat.le_refl _) (by have := (List.getElem?_eq_some_iff.mp hL.fl).1; omega) hL.fl (pure_evts es), ⟨hL.le, fun k o hk e => ?_⟩, es, rfl, ⟨ys, h2⟩, ⟨st, hL.run⟩, hL.ok, by simpa using hl⟩
    have e2 : (R.set q (.lst (ys.map .int)))[k]? = some o := by rw [← h2, List.getElem?_take, if_pos hk]; exact e
    by_cases hkq : q = k
    · subst hkq
      rw [nth_self hq] at e2
      cases e2
      exact .inr (pure_ints ys)
    · rw [nth_set hkq] at e2
      exact .inl e2
theorem q_history (k : Nat) (R : Rg) (q : Nat) (xs : List Int) (hq : R[q]? = some (.lst (xs.map .int))) : wpR (callF glob scl T (k + 4) "_law_history" [.ref q, .int 14] R) (fun d R1 => ∃ (es : List Evt) (ys : List Int) (st : Lk), d = .lst (es.map encE) ∧ R1 = R.set q (.lst (ys.map .int)) ∧ runP es = some st ∧ (∀ e ∈ es, okE e = true) ∧ es.length ≤ 14) noE := by
  rw [c__law_history (k + 1) _ R rfl, finM_f]
  refine pf_history _ (fun r xs many R hm h => ?_) R q xs hq
  rw [w__law_by]
  exact q_law_by k r xs many hm R h
theorem q_check (k : Nat) (es : List Evt) (st : Lk) (he : ∀ e ∈ es, okE e = true) (hr : runP es = some st) (hl : es.length ≤ 200) (R : Rg) : callF glob scl T (k + 5) "check_history" [.lst (es.map encE), .int 200] R = .ok .non R := by
  rw [c_check_history (k + 2) _ R rfl, finM_f]
  refine eq_of_wp (wp_fin ?_)
  simp only [m_check_history]
  have hmk : cMake 4 (callW glob scl T (k + 4) "Locks.__init__") [] cNil [.lst (es.map encE), .int 200, .undef, .undef, .undef] R = .ok (.ref R.length) (R ++ [.ins 4 [(3, .ref (R.length + 1)), (4, .ref (R.length + 2))], .dct [], .dct []]) := by
    unfold cMake
    rw [a_nil, Res.bind_ok]
    simp only [List.nil_append, List.append_nil]
    rw [w_Locks___init__ (k + 3), q_init k R, Res.bind_ok]
    rfl
  have hco : ∀ (e : Evt) (R : Rg) (r a b : Nat) (st : Lk), okE e = true → LkAt R r a b st → LkOk st 300 → wpR (callW glob scl T (k + 4) "Locks.comes" [.ref r, encE e] R) (fun d R1 => match comesP st e with
      | none => d = .bl false ∧ R1 = R
      | some st' => d = .bl true ∧ ∃ a', LkAt R1 r a' b st' ∧ FrL R R1 r a b a') noE := fun e R r a b st h1 h2 h3 => by
    rw [w_Locks_comes]
    exact q_comes (k + 1) e h1 R r a b st h2 h3
  have hev : ∀ (e : Evt) (R : Rg), okE e = true → callW glob scl T (k + 4) "is_event" [encE e] R = .ok (.bl true) R := fun e R h => by
    rw [w_is_event, q_is_event k e (comes_code h) R, h]
  generalize callW glob scl T (k + 4) = call at hmk hco hev
  generalize hb : m_check_history_b1 call = body
  simp -implicitDefEqProofs [hmk]
  refine ws_for (enc := fun z : Evt × Nat => D.tup [.int (z.2 : Int), encE z.1]) (R1 := R ++ [.ins 4 [(3, .ref (R.length + 1)), (4, .ref (R.length + 2))], .dct [], .dct []]) es.zipIdx (it_enumM (f := encE) (a := cVar 0) (by simp -implicitDefEqProofs)) (by rw [List.length_zipIdx]; have := line_fuel; rw [line_eq] at this; omega)
    (fun done s R1 => ∃ st a y3 y4, runP (done.map (·.1)) = some st ∧ s = [.lst (es.map encE), .int 200, .ref R.length, y3, y4] ∧ LkAt R1 R.length a (R.length + 2) st ∧ R.length ≤ a ∧ R1.take R.length = R ∧ R.length ≤ R1.length) ?_ ?_ ?_
  · exact ⟨st0, R.length + 1, _, _, rfl, rfl, init_at R, by omega, by simp, by simp⟩
  · rintro done z rest e0 _ R1 ⟨s1, a, y3, y4, h1, rfl, h2, h3, h4, h5⟩
    obtain ⟨e1, e2⟩ := idx_split e0
    obtain ⟨e, n⟩ := z
    simp only at e1 e2
    subst e1
    have hem : e ∈ es := List.mem_of_getElem? e2
    have hdl : done.length < es.length := (List.getElem?_eq_some_iff.mp e2).1
    have hc := hco e R1 R.length a (R.length + 2) s1 (he e hem) h2 ((run_ok _ h1).mono (by rw [List.length_map]; omega))
    have hrun := runP_snoc (done.map (·.1)) e
    rw [h1] at hrun
    cases hcp : comesP s1 e with
    | none =>
      have e3 : es = (done.map (·.1) ++ [e]) ++ rest.map (·.1) := by
        have := congrArg (List.map (·.1)) e0
        rw [List.zipIdx_map_fst] at this
        rw [this]
        simp
      rw [e3, runP_app, hrun, show runO (some s1) e = none from hcp, runO_none] at hr
      cases hr
    | some s2 =>
      rw [hcp] at hc
      obtain ⟨d, R2, hc, rfl, a', g1, g2⟩ := ex_of_wp hc
      have hm := a_meto (a := cVar 2) (s := [.lst (es.map encE), .int 200, .ref R.length, .int (done.length : Int), encE e]) (R := R1) (R1 := R1) (mm := "comes") (es := cCons (cVar 4) cNil) (l := [(4, call "Locks.comes", [])]) (by simp -implicitDefEqProofs) h2.i rfl (nofld_comes _ _)
      have hve := hev e R1 (he e hem)
      have hu : isU (encE e) = false := rfl
      have h200 : ¬ (200 : Int) ≤ (done.length : Int) := by omega
      have hbd : m_check_history_b1 call [.lst (es.map encE), .int 200, .ref R.length, .int (done.length : Int), encE e] R1 = .nx [.lst (es.map encE), .int 200, .ref R.length, .int (done.length : Int), encE e] R2 := by
        simp only [m_check_history_b1]
        simp -implicitDefEqProofs [a_seq, a_sif, h200, hu, hve, hm, hc]
      rw [hb] at hbd
      rw [a_gt2]
      simp -implicitDefEqProofs
      rw [hbd]
      simp -implicitDefEqProofs
      refine ⟨s2, by rw [hrun]; exact hcp, a', g1, ?_, ?_, Nat.le_trans h5 g2.le⟩
      · rcases g2.new with z | z
        · rw [z]; exact h3
        · omega
      · rw [frame_take fun i hi => g2.at_ i (by omega) (by omega) (by omega) (by omega)]
        exact h4
  · rintro _ R1 ⟨s1, a, y3, y4, h1, rfl, h2, h3, h4, h5⟩
    first | exact h4 | exact ⟨_, frz_pure rfl, h4⟩ | trace_state
theorem range_split {n i : Nat} {done rest : List Nat} (e : List.range n = done ++ i :: rest) : i = done.length ∧ i < n := by
  have h : (List.range n)[done.length]? = some i := by rw [e]; simp
  have hl := (List.getElem?_eq_some_iff.mp h).1
  rw [List.length_range] at hl
  rw [List.getElem?_range hl] at h
  cases h
  exact ⟨rfl, hl⟩
end Lw
namespace Lw
open PySem PySem.Spec PyProof.Rows L2 RZ Om
/-! ### bytes, plain -/
def WDS : List (List Nat) := [WR, RE, TK, FR, GN]
def bds (i : Nat) : List Nat := if i ≤ 1 then [15, 99] else if i ≤ 3 then [2] else []
/-- what stands behind a first byte -/
def argsAt (bs : List Nat) : Nat → List Nat → Sum Nat (List Nat)
  | _, [] => .inr []
  | p, b :: r => match bs[p]? with
    | none => .inl bs.length
    | some v => if b < v then .inl p else match argsAt bs (p + 1) r with
      | .inl a => .inl a
      | .inr vs => .inr (v :: vs)
def evAt (bs : List Nat) (p : Nat) : Sum Nat (Evt × Nat) := match bs[p]? with
  | none => .inl bs.length
  | some b => if 4 < b / 8 ∨ 5 < b % 8 then .inl p else match argsAt bs (p + 1) (bds (b / 8)) with
    | .inl a => .inl a
    | .inr vs => .inr (⟨WDS.getD (b / 8) [], b % 8 :: vs⟩, p + 1 + (bds (b / 8)).length)
def runB (bs : List Nat) : Nat → Nat → Lk → List Evt → Sum Nat (List Evt)
  | 0, _, _, f => .inr f
  | n + 1, p, st, f => if p < bs.length then match evAt bs p with
      | .inl a => .inl a
      | .inr (e, nx) => if 200 ≤ f.length then .inl p else match comesP st e with
        | none => .inl p
        | some st' => runB bs n nx st' (f ++ [e])
    else .inr f
def dueB (bs : List Nat) : Sum Nat (List Evt) := runB bs (bs.length + 1) 0 st0 []
theorem args_len {bs : List Nat} : ∀ {r : List Nat} {p : Nat} {vs : List Nat}, argsAt bs p r = .inr vs → vs.length = r.length ∧ p + r.length ≤ max p bs.length ∧ leAll vs r = true
  | [], p, vs, h => by cases h; exact ⟨rfl, by simp; omega, rfl⟩
  | b :: r, p, vs, h => by
    unfold argsAt at h
    cases e : bs[p]? with
    | none => simp only [e] at h; cases h
    | some v =>
      simp only [e] at h
      have hp := (List.getElem?_eq_some_iff.mp e).1
      split at h
      · cases h
      · rename_i hb
        cases e2 : argsAt bs (p + 1) r with
        | inl a => simp only [e2] at h; cases h
        | inr us =>
          simp only [e2] at h
          cases h
          obtain ⟨h1, h2, h3⟩ := args_len e2
          refine ⟨by simp [h1], by simp only [List.length_cons]; omega, ?_⟩
          show (decide (v ≤ b) && leAll us r) = true
          rw [h3, decide_eq_true (by omega)]
          rfl
theorem evAt_ok {bs : List Nat} {p nx : Nat} {e : Evt} (h : evAt bs p = .inr (e, nx)) : okE e = true ∧ p < nx ∧ nx ≤ bs.length := by
  unfold evAt at h
  cases e1 : bs[p]? with
  | none => simp only [e1] at h; cases h
  | some b =>
    simp only [e1] at h
    have hp := (List.getElem?_eq_some_iff.mp e1).1
    split at h
    · cases h
    · rename_i hb
      cases e2 : argsAt bs (p + 1) (bds (b / 8)) with
      | inl a => simp only [e2] at h; cases h
      | inr vs =>
        simp only [e2] at h
        obtain ⟨h1, h2, h3⟩ := args_len e2
        have h9 := Sum.inr.inj h
        have hE := (Prod.mk.inj h9).1
        have hN := (Prod.mk.inj h9).2
        subst hE
        subst hN
        refine ⟨?_, by omega, by omega⟩
        have hlt : b / 8 ≤ 4 := by omega
        have ht : b % 8 ≤ 5 := by omega
        generalize hi : b / 8 = i at hlt h3 ⊢
        match i, hlt with
        | 0, _ => show (decide (b % 8 ≤ 5) && leAll vs [15, 99]) = true; rw [decide_eq_true ht]; exact h3
        | 1, _ => show (decide (b % 8 ≤ 5) && leAll vs [15, 99]) = true; rw [decide_eq_true ht]; exact h3
        | 2, _ => show (decide (b % 8 ≤ 5) && leAll vs [2]) = true; rw [decide_eq_true ht]; exact h3
        | 3, _ => show (decide (b % 8 ≤ 5) && leAll vs [2]) = true; rw [decide_eq_true ht]; exact h3
        | 4, _ => show (decide (b % 8 ≤ 5) && leAll vs []) = true; rw [decide_eq_true ht]; exact h3
/-- numbers of events -/
def widx (w : List Nat) : Nat := (idxZ WDS w).getD 0
def numE (e : Evt) : List Nat := (8 * widx e.w + e.t) :: e.ns.drop 1
def numsE (es : List Evt) : List Nat := es.flatMap numE
theorem args_back (bs : List Nat) : ∀ (vs r : List Nat) (p : Nat), leAll vs r = true → (∀ j, j < vs.length → bs[p + j]? = vs[j]?) → argsAt bs p r = .inr vs
  | [], [], p, _, _ => rfl
  | [], b :: r, p, h, _ => by cases h
  | v :: vs, [], p, h, _ => by cases h
  | v :: vs, b :: r, p, h, hb => by
    have h' : v ≤ b ∧ leAll vs r = true := by simpa [leAll] using h
    have h0 := hb 0 (by simp)
    rw [Nat.add_zero] at h0
    unfold argsAt
    rw [h0]
    show (if b < v then Sum.inl p else match argsAt bs (p + 1) r with
      | .inl a => .inl a
      | .inr vs => .inr (v :: vs)) = _
    rw [if_neg (by omega), args_back bs vs r (p + 1) h'.2 fun j hj => by
      have := hb (j + 1) (by simp; omega)
      rw [show p + 1 + j = p + (j + 1) by omega, this]
      rfl]
theorem numE_shape {e : Evt} (h : okE e = true) : ∃ i vs, i ≤ 4 ∧ e.t ≤ 5 ∧ e = ⟨WDS.getD i [], e.t :: vs⟩ ∧ leAll vs (bds i) = true ∧ numE e = (8 * i + e.t) :: vs ∧ vs.length = (bds i).length := by
  rcases okE_shape h with ⟨t, c, v, rfl, h1, h2, h3⟩ | ⟨t, c, v, rfl, h1, h2, h3⟩ | ⟨t, l, rfl, h1, h2⟩ | ⟨t, l, rfl, h1, h2⟩ | ⟨t, rfl, h1⟩
  · exact ⟨0, [c, v], by omega, h1, rfl, by simp [bds, leAll, h2, h3], rfl, rfl⟩
  · exact ⟨1, [c, v], by omega, h1, rfl, by simp [bds, leAll, h2, h3], rfl, rfl⟩
  · exact ⟨2, [l], by omega, h1, rfl, by simp [bds, leAll, h2], rfl, rfl⟩
  · exact ⟨3, [l], by omega, h1, rfl, by simp [bds, leAll, h2], rfl, rfl⟩
  · exact ⟨4, [], by omega, h1, rfl, rfl, rfl, rfl⟩
theorem evAt_back {bs : List Nat} {p : Nat} {e : Evt} {rest : List Nat} (h : okE e = true) (hb : bs.drop p = numE e ++ rest) : evAt bs p = .inr (e, p + (numE e).length) := by
  obtain ⟨i, vs, hi, ht, he, hl, hn, hlen⟩ := numE_shape h
  have at_ : ∀ j, j < (numE e).length → bs[p + j]? = (numE e)[j]? := fun j hj => by
    rw [← List.getElem?_drop, hb, List.getElem?_append_left hj]
  have h0 := at_ 0 (by rw [hn]; simp)
  rw [Nat.add_zero, hn] at h0
  have d8 : (8 * i + e.t) / 8 = i := by omega
  have m8 : (8 * i + e.t) % 8 = e.t := by omega
  unfold evAt
  rw [h0]
  show (if 4 < (8 * i + e.t) / 8 ∨ 5 < (8 * i + e.t) % 8 then Sum.inl p else match argsAt bs (p + 1) (bds ((8 * i + e.t) / 8)) with
    | .inl a => .inl a
    | .inr vs => .inr (Evt.mk (WDS.getD ((8 * i + e.t) / 8) []) ((8 * i + e.t) % 8 :: vs), p + 1 + (bds ((8 * i + e.t) / 8)).length)) = _
  rw [d8, m8, if_neg (by omega), args_back bs vs (bds i) (p + 1) hl fun j hj => by
    have := at_ (j + 1) (by rw [hn]; simp; omega)
    rw [show p + 1 + j = p + (j + 1) by omega, this, hn]
    rfl]
  show Sum.inr ((⟨WDS.getD i [], e.t :: vs⟩ : Evt), p + 1 + (bds i).length) = _
  rw [← he, hn, List.length_cons, hlen]
  congr 2
  omega
theorem run_backB (bs : List Nat) : ∀ (es : List Evt) (n p : Nat) (st st' : Lk) (f : List Evt), (∀ e ∈ es, okE e = true) → es.foldl runO (some st) = some st' → bs.drop p = numsE es → p ≤ bs.length → es.length < n → f.length + es.length ≤ 200 → runB bs n p st f = .inr (f ++ es)
  | [], n, p, st, st', f, _, _, hb, hp, hn, _ => by
    match n, hn with
    | n + 1, _ =>
      have : ¬ p < bs.length := by
        have := congrArg List.length hb
        rw [List.length_drop] at this
        simp [numsE] at this
        omega
      rw [runB, if_neg this, List.append_nil]
  | e :: es, n, p, st, st', f, hk, hr, hb, hp, hn, hl => by
    match n, hn with
    | n + 1, hn =>
      have hke := hk e List.mem_cons_self
      have hb' : bs.drop p = numE e ++ numsE es := by rw [hb]; simp [numsE]
      have hpl : p < bs.length := by
        obtain ⟨i, vs, _, _, _, _, h5, _⟩ := numE_shape hke
        have := congrArg List.length hb'
        rw [List.length_drop, List.length_append, h5] at this
        simp at this
        omega
      rw [List.foldl_cons] at hr
      cases hc : comesP st e with
      | none => rw [show runO (some st) e = none from hc, runO_none] at hr; cases hr
      | some s1 =>
        rw [show runO (some st) e = some s1 from hc] at hr
        rw [List.length_cons] at hl hn
        have hnx : p + (numE e).length ≤ bs.length := by
          have := congrArg List.length hb'
          rw [List.length_drop, List.length_append] at this
          omega
        rw [runB, if_pos hpl, evAt_back hke hb']
        show (if 200 ≤ f.length then Sum.inl p else match comesP st e with
          | none => .inl p
          | some st' => runB bs n (p + (numE e).length) st' (f ++ [e])) = _
        rw [if_neg (by omega), hc]
        show runB bs n (p + (numE e).length) s1 (f ++ [e]) = _
        rw [run_backB bs es n (p + (numE e).length) s1 st' (f ++ [e]) (fun x hx => hk x (List.mem_cons_of_mem _ hx)) hr (by rw [← List.drop_drop, hb', List.drop_left]) hnx (by omega) (by rw [List.length_append]; simp; omega)]
        simp
theorem nums_len {es : List Evt} (h : ∀ e ∈ es, okE e = true) : es.length ≤ (numsE es).length ∧ (numsE es).length ≤ 3 * es.length := by
  induction es with
  | nil => simp [numsE]
  | cons e es ih =>
    have := ih fun x hx => h x (List.mem_cons_of_mem _ hx)
    obtain ⟨i, vs, hi, _, _, _, h5, h6⟩ := numE_shape (h e List.mem_cons_self)
    have hb : (bds i).length ≤ 2 := by
      unfold bds
      split
      · simp
      · split <;> simp
    have e1 : (numsE (e :: es)).length = (numE e).length + (numsE es).length := by simp [numsE]
    rw [e1, h5, List.length_cons, List.length_cons]
    omega
theorem due_backB {es : List Evt} {st : Lk} (h : ∀ e ∈ es, okE e = true) (hr : runP es = some st) (hl : es.length ≤ 200) : dueB (numsE es) = .inr es := by
  have := run_backB (numsE es) es ((numsE es).length + 1) 0 st0 st [] h hr (by simp) (Nat.zero_le _) (by have := (nums_len h).1; omega) (by simpa using hl)
  rw [List.nil_append] at this
  exact this
/-- bytes -/
def Byts (bs : List Nat) : Prop := ∀ b ∈ bs, b < 256
theorem nums_byts {es : List Evt} (h : ∀ e ∈ es, okE e = true) : Byts (numsE es) := fun b hb => by
  obtain ⟨e, he, hbe⟩ := List.mem_flatMap.mp hb
  rcases okE_shape (h e he) with ⟨t, c, v, rfl, h1, h2, h3⟩ | ⟨t, c, v, rfl, h1, h2, h3⟩ | ⟨t, l, rfl, h1, h2⟩ | ⟨t, l, rfl, h1, h2⟩ | ⟨t, rfl, h1⟩
  · have : b ∈ [8 * 0 + t, c, v] := hbe
    simp at this
    omega
  · have : b ∈ [8 * 1 + t, c, v] := hbe
    simp at this
    omega
  · have : b ∈ [8 * 2 + t, l] := hbe
    simp at this
    omega
  · have : b ∈ [8 * 3 + t, l] := hbe
    simp at this
    omega
  · have : b ∈ [8 * 4 + t] := hbe
    simp at this
    omega
def byU (bs : List Nat) : List UInt8 := bs.map fun b => b.toUInt8
theorem byU_get {bs : List Nat} (h : Byts bs) {p b : Nat} (e : bs[p]? = some b) : (((byU bs).getD p 0).toNat : Nat) = b := by
  unfold byU
  rw [List.getD_eq_getElem?_getD, List.getElem?_map, e]
  have := h b (List.mem_of_getElem? e)
  simp
  omega
/-! ### hex -/
def hx (d : Nat) : Nat := if d < 10 then 48 + d else 87 + d
def hexT (bs : List Nat) : List Nat := bs.flatMap fun b => [hx (b / 16), hx (b % 16)]
theorem hx_facts : ∀ d, d < 16 → hx d ∈ HEXS ∧ hv (hx d) = d := by decide
theorem hexT_ok : ∀ {bs : List Nat}, Byts bs → hexOk (hexT bs) = true ∧ hexB (hexT bs) = byU bs
  | [], _ => ⟨rfl, rfl⟩
  | b :: bs, h => by
    have hb := h b List.mem_cons_self
    obtain ⟨h1, h2⟩ := hexT_ok (bs := bs) fun x hx => h x (List.mem_cons_of_mem _ hx)
    obtain ⟨g1, g2⟩ := hx_facts (b / 16) (by omega)
    obtain ⟨g3, g4⟩ := hx_facts (b % 16) (by omega)
    have e : hexT (b :: bs) = hx (b / 16) :: hx (b % 16) :: hexT bs := rfl
    rw [e]
    refine ⟨?_, ?_⟩
    · show (decide (hx (b / 16) ∈ HEXS) && decide (hx (b % 16) ∈ HEXS) && hexOk (hexT bs)) = true
      rw [h1, decide_eq_true g1, decide_eq_true g3]
      rfl
    · show (hv (hx (b / 16)) * 16 + hv (hx (b % 16))).toUInt8 :: hexB (hexT bs) = _
      rw [g2, g4, h2, show b / 16 * 16 + b % 16 = b by omega]
      rfl
theorem hexT_len : ∀ bs : List Nat, (hexT bs).length = 2 * bs.length
  | [] => rfl
  | b :: bs => by
    have := hexT_len bs
    show (hx (b / 16) :: hx (b % 16) :: hexT bs).length = _
    simp [this]
    omega
theorem hex_sub : ∀ {t : List Nat}, hexOk t = true → ∀ c ∈ t, c ∈ HEXS
  | [], _, c, h => by cases h
  | [c], h, _, _ => by cases h
  | c :: d :: r, h, x, hx => by
    have h' : (c ∈ HEXS ∧ d ∈ HEXS) ∧ hexOk r = true := by simpa [hexOk] using h
    rcases List.mem_cons.mp hx with e | hx
    · rw [e]; exact h'.1.1
    · rcases List.mem_cons.mp hx with e | hx
      · rw [e]; exact h'.1.2
      · exact hex_sub h'.2 x hx
theorem digit_facts : ∀ d, d < 16 → Builtin.Bytes.hexDigit d = hx d := by decide
end Lw
namespace Lw
open PySem PySem.Spec PyProof.Rows L2 RZ Om
/-! ### bytes, taken one by one -/
theorem eq_of_wpx {A : Type} {r : Res A} {c : Nat} {f : D} {R' : Rg} (h : wpR r (fun _ _ => False) (fun c1 f1 R1 => c1 = c ∧ f1 = f ∧ R1 = R')) : r = .exc c f R' := by
  cases r with
  | ok a R => exact h.run.elim
  | exc c f R => obtain ⟨e1, e2, e3⟩ := h.run; rw [e1, e2, e3]
  | err => exact h.run.elim
def bObj (bs : List Nat) (p : Nat) : O := .ins 14 [(33, .byt (byU bs)), (34, .int (p : Int))]
theorem by33 {R : Rg} {r p : Nat} {bs : List Nat} (h : R[r]? = some (bObj bs p)) : fldD scl.ca 33 (.ref r) R = some (.byt (byU bs), R) := fld_of (ins_ref h) (by decide +kernel) rfl
theorem by34 {R : Rg} {r p : Nat} {bs : List Nat} (h : R[r]? = some (bObj bs p)) : fldD scl.ca 34 (.ref r) R = some (.int (p : Int), R) := fld_of (ins_ref h) (by decide +kernel) rfl
theorem len_by {bs : List Nat} (hl : bs.length ≤ 1000000) (R : Rg) : lenD [.byt (byU bs)] R = some (.int (bs.length : Int), R) := by
  have e : (byU bs).length = bs.length := by unfold byU; rw [List.length_map]
  show (if (byU bs).length ≤ LINE then some (D.int ((byU bs).length : Int), R) else none) = _
  rw [e, if_pos (by rw [line_eq]; omega)]
theorem ix_by {bs : List Nat} (hb : Byts bs) (hl : bs.length ≤ 1000000) {p b : Nat} (e : bs[p]? = some b) (R : Rg) : ixD (.byt (byU bs)) (.int (p : Int)) R = some (.int (b : Int), R) := by
  have e1 : (byU bs).length = bs.length := by unfold byU; rw [List.length_map]
  have hp := (List.getElem?_eq_some_iff.mp e).1
  have hc : (byU bs).length ≤ LINE ∧ 0 ≤ (p : Int) ∧ (p : Int) < (byU bs).length := ⟨by rw [e1, line_eq]; omega, by omega, by rw [e1]; omega⟩
  show (if (byU bs).length ≤ LINE ∧ 0 ≤ (p : Int) ∧ (p : Int) < (byU bs).length then some (D.int ((((byU bs).getD (p : Int).toNat 0).toNat : Nat) : Int), R) else none) = _
  rw [if_pos hc, show (p : Int).toNat = p by simp, byU_get hb e]
theorem a_faug {s : List D} {R : Rg} {r p : Nat} {bs : List Nat} {a : SE} (h : R[r]? = some (bObj bs p)) (ha : a s R = .ok (.ref r) R) : sFAug scl.ca 34 addI a (cCon (.int 1)) s R = .nx s (R.set r (bObj bs (p + 1))) := by
  unfold sFAug
  rw [ha, a_bind_ok, by34 h]
  show sBind (Res.ok (D.int 1) R) s _ = _
  rw [a_bind_ok]
  show (if (insOf R (.ref r)).map (fun q => q.1) = (insOf R (.ref r)).map (fun q => q.1) then (match setF scl.ca 34 (.ref r) (.int ((p : Int) + 1)) R with
    | some R4 => Out.nx s R4
    | none => .err) else .err) = _
  rw [if_pos rfl, setF_ref (c := 14) (fs := [(33, .byt (byU bs)), (34, .int (p : Int))]) h (by decide +kernel) (by simp)]
  show Out.nx s (R.set r (.ins 14 (putFD [(33, .byt (byU bs)), (34, .int (p : Int))] 34 (.int ((p : Int) + 1))))) = _
  rw [show putFD [(33, D.byt (byU bs)), (34, .int (p : Int))] 34 (.int ((p : Int) + 1)) = [(33, .byt (byU bs)), (34, .int ((p : Int) + 1))] from rfl]
  unfold bObj
  simp
section
variable {bs : List Nat} (hb : Byts bs) (hl : bs.length ≤ 1000000) (k : Nat) {R : Rg} {r p many : Nat} (h : R[r]? = some (bObj bs p))
include hb hl h
theorem q_take {b : Nat} (e : bs[p]? = some b) (hm : b < many) : callF glob scl T (k + 3) "Bytes.take" [.ref r, .int (many : Int)] R = .ok (.int (b : Int)) (R.set r (bObj bs (p + 1))) := by
  rw [c_Bytes_take k _ R rfl, finM_t]
  refine eq_of_wp (wp_finA ?_)
  simp only [m_Bytes_take]
  have hp := (List.getElem?_eq_some_iff.mp e).1
  have h1 : ¬ (bs.length : Int) ≤ p := by omega
  have h2 : ¬ (many : Int) ≤ b := by omega
  have hn := nth_self (o := bObj bs (p + 1)) h
  have hf : ∀ s, s = [D.ref r, .int (many : Int)] → sFAug scl.ca 34 addI (cVar 0) (cCon (.int 1)) s R = .nx s (R.set r (bObj bs (p + 1))) := fun s es => a_faug h (by rw [es]; exact v_ref rfl)
  have hf := hf _ rfl
  have h3 := by33 hn
  have h4 := by34 hn
  have h5 := ix_by hb hl e (R.set r (bObj bs (p + 1)))
  generalize R.set r (bObj bs (p + 1)) = R2 at hf h3 h4 h5 ⊢
  have e5 : ((p + 1 : Nat) : Int) - 1 = p := by omega
  have e6 : ((p + 1 : Nat) : Int) = (p : Int) + 1 := by omega
  rw [e6] at h4
  have e7 : ((p : Int) + 1 - 1) = p := by omega
  simp -implicitDefEqProofs [by34 h, by33 h, len_by hl, h1, ix_by hb hl e, h2, hf, h3, h4, e7, h5]
theorem q_takeX (e : bs[p]? = none ∨ ∃ b, bs[p]? = some b ∧ many ≤ b) : callF glob scl T (k + 3) "Bytes.take" [.ref r, .int (many : Int)] R = .exc 18 (.int (p : Int)) R := by
  rw [c_Bytes_take k _ R rfl, finM_t]
  refine eq_of_wpx (wp_finA ?_)
  simp only [m_Bytes_take]
  rcases e with e | ⟨b, e, hm⟩
  · have hp := List.getElem?_eq_none_iff.mp e
    have h1 : (bs.length : Int) ≤ p := by omega
    simp -implicitDefEqProofs [by34 h, by33 h, len_by hl, h1]
  · have hp := (List.getElem?_eq_some_iff.mp e).1
    have h1 : ¬ (bs.length : Int) ≤ p := by omega
    have h2 : (many : Int) ≤ b := by omega
    simp -implicitDefEqProofs [by34 h, by33 h, len_by hl, h1, ix_by hb hl e, h2]
end
structure Tk (bs : List Nat) (call : Str → SF) : Prop where
  ok : ∀ (R : Rg) (r p many b : Nat), R[r]? = some (bObj bs p) → bs[p]? = some b → b < many → call "Bytes.take" [.ref r, .int (many : Int)] R = .ok (.int (b : Int)) (R.set r (bObj bs (p + 1)))
  ex : ∀ (R : Rg) (r p many : Nat), R[r]? = some (bObj bs p) → (bs[p]? = none ∨ ∃ b, bs[p]? = some b ∧ many ≤ b) → call "Bytes.take" [.ref r, .int (many : Int)] R = .exc 18 (.int (p : Int)) R
theorem nofld_take (x y : D) : noFld "take" [(33, x), (34, y)] = true := by
  show ((!decide (atN 33 = ("take" : Str))) && ((!decide (atN 34 = ("take" : Str))) && true)) = true
  decide +kernel
theorem m_take {call : Str → SF} {R : Rg} {r p : Nat} {bs : List Nat} {s : List D} {es : SA} (h : R[r]? = some (bObj bs p)) (hs : s[0]? = some (.ref r)) : eMetO [(14, call "Bytes.take", [])] "take" (cVar 0) es s R = (es s R).bind fun ds R2 => call "Bytes.take" (.ref r :: (ds ++ [])) R2 :=
  a_meto (v_ref hs) h rfl (nofld_take _ _)
theorem szs : ∀ i, i ≤ 4 → ixT t_SIZES (.str (WDS.getD i [])) [] = some (.int ((2 + (bds i).length : Nat) : Int), []) := by decide +kernel
theorem szs' (i : Nat) (hi : i ≤ 4) (R : Rg) : ixT t_SIZES (.str (WDS.getD i [])) R = some (.int ((2 + (bds i).length : Nat) : Int), R) := by
  match i, hi with
  | 0, _ => rfl
  | 1, _ => rfl
  | 2, _ => rfl
  | 3, _ => rfl
  | 4, _ => rfl
theorem wds_ix (i : Nat) (hi : i ≤ 4) (R : Rg) : ixD (.tup (u_WORDS.map .str)) (.int (i : Int)) R = some (.str (WDS.getD i []), R) := by
  match i, hi with
  | 0, _ => exact ix_tup rfl
  | 1, _ => exact ix_tup rfl
  | 2, _ => exact ix_tup rfl
  | 3, _ => exact ix_tup rfl
  | 4, _ => exact ix_tup rfl
theorem pf_taken (call : Str → SF) {bs : List Nat} (Z : Tk bs call) (R : Rg) (r p : Nat) (h : R[r]? = some (bObj bs p)) (hp : p < bs.length) :
    wpR (finA (m_Bytes_event_taken call [.ref r, .undef, .undef, .undef, .undef] R)) (fun d R1 => ∃ e nx, evAt bs p = .inr (e, nx) ∧ d = encE e ∧ R1 = R.set r (bObj bs nx)) (fun c f R1 => c = 18 ∧ ∃ (a : Nat) (x : O), evAt bs p = .inl a ∧ f = .int (a : Int) ∧ R1 = R.set r x) := by
  refine wp_finA ?_
  simp only [m_Bytes_event_taken]
  have hlen : (u_WORDS.length : Int) = 5 := rfl
  have h40 : (8 : Int) * 5 = 40 := rfl
  have h85 : mulD false (.int 8) (.int 5) R = some (.int 40, R) := p_mul (by decide +kernel)
  obtain ⟨b, e⟩ : ∃ b, bs[p]? = some b := ⟨bs[p], List.getElem?_eq_getElem hp⟩
  have hm : ∀ es, eMetO [(14, call "Bytes.take", [])] "take" (cVar 0) es [.ref r, .undef, .undef, .undef, .undef] R = (es [.ref r, .undef, .undef, .undef, .undef] R).bind fun ds R2 => call "Bytes.take" (.ref r :: (ds ++ [])) R2 := fun es => m_take h rfl
  have harg : ∀ s, (cCons (cOp2 (mulX false) (cCon (.int (8))) (cOpN lenD (cCons (cCon (.tup (u_WORDS.map .str))) cNil))) cNil) s R = .ok [.int 40] R := fun s => by rfl
  generalize hA : (cCons (cOp2 (mulX false) (cCon (.int (8))) (cOpN lenD (cCons (cCon (.tup (u_WORDS.map .str))) cNil))) cNil) = ar at harg
  by_cases hb : b < 40
  · have ht : call "Bytes.take" [.ref r, .int 40] R = .ok (.int (b : Int)) (R.set r (bObj bs (p + 1))) := Z.ok R r p 40 b h e hb
    have h1 := nth_self (o := bObj bs (p + 1)) h
    have hs1 : eMetO [(14, call "Bytes.take", [])] "take" (cVar 0) ar [.ref r, .undef, .undef, .undef, .undef] R = .ok (.int (b : Int)) (R.set r (bObj bs (p + 1))) := by rw [hm, harg]; exact ht
    have hset : ∀ o, (R.set r (bObj bs (p + 1))).set r o = R.set r o := fun o => List.set_set ..
    generalize hR1 : R.set r (bObj bs (p + 1)) = R1 at ht h1 hset hs1
    have hi : b / 8 ≤ 4 := by omega
    have hd : fdivD (.int (b : Int)) (.int 8) R1 = some (.int ((b / 8 : Nat) : Int), R1) := by rw [p_fdiv (by decide +kernel)]; simp
    have hw := wds_ix (b / 8) hi R1
    have hmu : mulD false (.int ((b / 8 : Nat) : Int)) (.int 8) R1 = some (.int (((b / 8 : Nat) : Int) * 8), R1) := p_mul (by unfold mulOk smallI; simp)
    have hth : (b : Int) - ((b / 8 : Nat) : Int) * 8 = ((b % 8 : Nat) : Int) := by omega
    have hsz := szs' (b / 8) hi R1
    have ha34 := by34 h1
    by_cases ht6 : 5 < b % 8
    · have hev : evAt bs p = .inl p := by
        unfold evAt
        rw [e]
        exact if_pos (.inr ht6)
      have ht6' : (6 : Int) ≤ ((b % 8 : Nat) : Int) := by omega
      have e34 : ((p + 1 : Nat) : Int) - 1 = p := by omega
      generalize ((b / 8 : Nat) : Int) = bi at hd hw hmu hth
      generalize ((b % 8 : Nat) : Int) = bm at hth ht6'
      generalize ((p + 1 : Nat) : Int) = p1 at ha34 e34
      simp -implicitDefEqProofs [hs1, hd, hw, hmu, hth, ht6', ha34, e34]
      exact ⟨p, hev, rfl, _, hR1.symm⟩
    · have hev : evAt bs p = match argsAt bs (p + 1) (bds (b / 8)) with
          | .inl a => .inl a
          | .inr vs => .inr (Evt.mk (WDS.getD (b / 8) []) (b % 8 :: vs), p + 1 + (bds (b / 8)).length) := by
        unfold evAt
        rw [e]
        exact if_neg (by omega)
      have ht6' : ¬ (6 : Int) ≤ ((b % 8 : Nat) : Int) := by omega
      have hm1 : ∀ x1 x2 x3 x4 es, eMetO [(14, call "Bytes.take", [])] "take" (cVar 0) es [.ref r, x1, x2, x3, x4] R1 = (es [.ref r, x1, x2, x3, x4] R1).bind fun ds R2 => call "Bytes.take" (.ref r :: (ds ++ [])) R2 := fun x1 x2 x3 x4 es => m_take h1 rfl
      have hbd : (bds (b / 8) = [15, 99] ∧ b / 8 ≤ 1) ∨ (bds (b / 8) = [2] ∧ 2 ≤ b / 8) ∨ (bds (b / 8) = [] ∧ 2 ≤ b / 8) := by
        unfold bds
        by_cases q1 : b / 8 ≤ 1
        · rw [if_pos q1]; exact .inl ⟨rfl, q1⟩
        · rw [if_neg q1]
          by_cases q2 : b / 8 ≤ 3
          · rw [if_pos q2]; exact .inr (.inl ⟨rfl, by omega⟩)
          · rw [if_neg q2]; exact .inr (.inr ⟨rfl, by omega⟩)
      generalize hW : WDS.getD (b / 8) [] = w at hw hsz hev
      generalize hT : b % 8 = t at hth ht6' hev
      rcases hbd with ⟨hbd, _⟩ | ⟨hbd, _⟩ | ⟨hbd, _⟩
      · rw [hbd] at hev hsz
        have hsz : ixT t_SIZES (.str w) R1 = some (.int 4, R1) := hsz
        generalize ((b / 8 : Nat) : Int) = bi at hd hw hmu hth
        cases e1 : bs[p + 1]? with
        | none =>
          have hx : call "Bytes.take" [.ref r, .int 16] R1 = .exc 18 (.int ((p + 1 : Nat) : Int)) R1 := Z.ex R1 r (p + 1) 16 h1 (.inl e1)
          have hev : evAt bs p = .inl (p + 1) := by
            rw [hev]
            have hh : argsAt bs (p + 1) [15, 99] = .inl bs.length := by simp only [argsAt, e1]
            rw [hh]
            have := List.getElem?_eq_none_iff.mp e1
            show Sum.inl bs.length = _
            congr 1
            omega
          simp -implicitDefEqProofs [hm1, hs1, hd, hw, hmu, hth, ht6', hsz, hx]
          exact ⟨p + 1, hev, by simp, _, hR1.symm⟩
        | some c =>
          by_cases hc : c < 16
          · have hx : call "Bytes.take" [.ref r, .int 16] R1 = .ok (.int (c : Int)) (R1.set r (bObj bs (p + 1 + 1))) := Z.ok R1 r (p + 1) 16 c h1 e1 hc
            rw [hset] at hx
            have h2 := nth_self (o := bObj bs (p + 1 + 1)) h
            have hset2 : ∀ o, (R.set r (bObj bs (p + 1 + 1))).set r o = R.set r o := fun o => List.set_set ..
            generalize hR2 : R.set r (bObj bs (p + 1 + 1)) = R2 at hx h2 hset2
            have hm2 : ∀ x1 x2 x3 x4 es, eMetO [(14, call "Bytes.take", [])] "take" (cVar 0) es [.ref r, x1, x2, x3, x4] R2 = (es [.ref r, x1, x2, x3, x4] R2).bind fun ds R2 => call "Bytes.take" (.ref r :: (ds ++ [])) R2 := fun x1 x2 x3 x4 es => m_take h2 rfl
            cases e2 : bs[p + 1 + 1]? with
            | none =>
              have hx2 : call "Bytes.take" [.ref r, .int 100] R2 = .exc 18 (.int ((p + 1 + 1 : Nat) : Int)) R2 := Z.ex R2 r (p + 1 + 1) 100 h2 (.inl e2)
              have hev : evAt bs p = .inl (p + 1 + 1) := by
                rw [hev]
                have hh : argsAt bs (p + 1) [15, 99] = .inl bs.length := by
                  simp only [argsAt, e1, e2]
                  rw [if_neg (by omega)]
                rw [hh]
                have := List.getElem?_eq_none_iff.mp e2
                have := (List.getElem?_eq_some_iff.mp e1).1
                show Sum.inl bs.length = _
                congr 1
                omega
              simp -implicitDefEqProofs [hm1, hm2, hs1, hd, hw, hmu, hth, ht6', hsz, hx, hx2]
              exact ⟨p + 1 + 1, hev, by simp, _, hR2.symm⟩
            | some v =>
              by_cases hv : v < 100
              · have hx2 : call "Bytes.take" [.ref r, .int 100] R2 = .ok (.int (v : Int)) (R2.set r (bObj bs (p + 1 + 1 + 1))) := Z.ok R2 r (p + 1 + 1) 100 v h2 e2 hv
                rw [hset2] at hx2
                have hev : evAt bs p = .inr (⟨w, [t, c, v]⟩, p + 1 + 1 + 1) := by
                  rw [hev]
                  have hh : argsAt bs (p + 1) [15, 99] = .inr [c, v] := by
                    simp only [argsAt, e1, e2]
                    rw [if_neg (by omega), if_neg (by omega)]
                  rw [hh]
                  try rfl
                simp -implicitDefEqProofs [hm1, hm2, hs1, hd, hw, hmu, hth, ht6', hsz, hx, hx2]
                exact ⟨_, _, hev, rfl, rfl⟩
              · have hx2 : call "Bytes.take" [.ref r, .int 100] R2 = .exc 18 (.int ((p + 1 + 1 : Nat) : Int)) R2 := Z.ex R2 r (p + 1 + 1) 100 h2 (.inr ⟨v, e2, by omega⟩)
                have hev : evAt bs p = .inl (p + 1 + 1) := by
                  rw [hev]
                  have hh : argsAt bs (p + 1) [15, 99] = .inl (p + 1 + 1) := by
                    simp only [argsAt, e1, e2]
                    rw [if_neg (by omega), if_pos (by omega)]
                  rw [hh]
                simp -implicitDefEqProofs [hm1, hm2, hs1, hd, hw, hmu, hth, ht6', hsz, hx, hx2]
                exact ⟨p + 1 + 1, hev, by simp, _, hR2.symm⟩
          · have hx : call "Bytes.take" [.ref r, .int 16] R1 = .exc 18 (.int ((p + 1 : Nat) : Int)) R1 := Z.ex R1 r (p + 1) 16 h1 (.inr ⟨c, e1, by omega⟩)
            have hev : evAt bs p = .inl (p + 1) := by
              rw [hev]
              have hh : argsAt bs (p + 1) [15, 99] = .inl (p + 1) := by
                simp only [argsAt, e1]
                rw [if_pos (by omega)]
              rw [hh]
            simp -implicitDefEqProofs [hm1, hs1, hd, hw, hmu, hth, ht6', hsz, hx]
            exact ⟨p + 1, hev, by simp, _, hR1.symm⟩
      · rw [hbd] at hev hsz
        have hsz : ixT t_SIZES (.str w) R1 = some (.int 3, R1) := hsz
        generalize ((b / 8 : Nat) : Int) = bi at hd hw hmu hth
        cases e1 : bs[p + 1]? with
        | none =>
          have hx : call "Bytes.take" [.ref r, .int 3] R1 = .exc 18 (.int ((p + 1 : Nat) : Int)) R1 := Z.ex R1 r (p + 1) 3 h1 (.inl e1)
          have hev : evAt bs p = .inl (p + 1) := by
            rw [hev]
            have hh : argsAt bs (p + 1) [2] = .inl bs.length := by simp only [argsAt, e1]
            rw [hh]
            have := List.getElem?_eq_none_iff.mp e1
            show Sum.inl bs.length = _
            congr 1
            omega
          simp -implicitDefEqProofs [hm1, hs1, hd, hw, hmu, hth, ht6', hsz, hx]
          exact ⟨p + 1, hev, by simp, _, hR1.symm⟩
        | some c =>
          by_cases hc : c < 3
          · have hx : call "Bytes.take" [.ref r, .int 3] R1 = .ok (.int (c : Int)) (R1.set r (bObj bs (p + 1 + 1))) := Z.ok R1 r (p + 1) 3 c h1 e1 hc
            rw [hset] at hx
            have hev : evAt bs p = .inr (⟨w, [t, c]⟩, p + 1 + 1) := by
              rw [hev]
              have hh : argsAt bs (p + 1) [2] = .inr [c] := by
                simp only [argsAt, e1]
                rw [if_neg (by omega)]
              rw [hh]
              try rfl
            simp -implicitDefEqProofs [hm1, hs1, hd, hw, hmu, hth, ht6', hsz, hx]
            exact ⟨_, _, hev, rfl, rfl⟩
          · have hx : call "Bytes.take" [.ref r, .int 3] R1 = .exc 18 (.int ((p + 1 : Nat) : Int)) R1 := Z.ex R1 r (p + 1) 3 h1 (.inr ⟨c, e1, by omega⟩)
            have hev : evAt bs p = .inl (p + 1) := by
              rw [hev]
              have hh : argsAt bs (p + 1) [2] = .inl (p + 1) := by
                simp only [argsAt, e1]
                rw [if_pos (by omega)]
              rw [hh]
            simp -implicitDefEqProofs [hm1, hs1, hd, hw, hmu, hth, ht6', hsz, hx]
            exact ⟨p + 1, hev, by simp, _, hR1.symm⟩
      · rw [hbd] at hev hsz
        have hsz : ixT t_SIZES (.str w) R1 = some (.int 2, R1) := hsz
        generalize ((b / 8 : Nat) : Int) = bi at hd hw hmu hth
        have hev : evAt bs p = .inr (⟨w, [t]⟩, p + 1) := by
          rw [hev]
          try rfl
        simp -implicitDefEqProofs [hm1, hs1, hd, hw, hmu, hth, ht6', hsz]
        exact ⟨_, _, hev, rfl, hR1.symm⟩
  · have hx : call "Bytes.take" [.ref r, .int 40] R = .exc 18 (.int (p : Int)) R := Z.ex R r p 40 h (.inr ⟨b, e, by omega⟩)
    have hs1 : eMetO [(14, call "Bytes.take", [])] "take" (cVar 0) ar [.ref r, .undef, .undef, .undef, .undef] R = .exc 18 (.int (p : Int)) R := by rw [hm, harg]; exact hx
    have hev : evAt bs p = .inl p := by
      unfold evAt
      rw [e]
      exact if_pos (.inl (by omega))
    simp -implicitDefEqProofs [hs1]
    exact ⟨p, hev, rfl, _, (set_same h).symm⟩
end Lw
namespace Lw
open PySem PySem.Spec PyProof.Rows L2 RZ Om
structure RdAt (R0 R : Rg) (r a b fo : Nat) (st : Lk) (f : List Evt) : Prop where
  lk : LkAt R r a b st
  fl : R[fo]? = some (.lst (f.map encE))
  ge : R0.length ≤ r ∧ R0.length ≤ a ∧ R0.length ≤ b ∧ R0.length ≤ fo
  ne : fo ≠ a
  tk : R.take R0.length = R0
  le : R0.length ≤ R.length
theorem RdAt.fr {R0 R : Rg} {r a b fo : Nat} {st : Lk} {f : List Evt} (h : RdAt R0 R r a b fo st f) : fo ≠ r ∧ fo ≠ b := by
  constructor
  · intro z; have := h.fl; rw [z, h.lk.i] at this; cases this
  · intro z; have := h.fl; rw [z, h.lk.g] at this; cases this
theorem RdAt.come {R0 R R1 : Rg} {r a b fo a' : Nat} {st st' : Lk} {f : List Evt} (h : RdAt R0 R r a b fo st f) (hl : LkAt R1 r a' b st') (hf : FrL R R1 r a b a') : RdAt R0 R1 r a' b fo st' f := by
  obtain ⟨h1, h2⟩ := h.fr
  have hfo : fo < R.length := (List.getElem?_eq_some_iff.mp h.fl).1
  obtain ⟨g1, g2, g3, g4⟩ := h.ge
  refine ⟨hl, by rw [hf.at_ fo hfo h1 h.ne h2]; exact h.fl, ⟨g1, ?_, g3, g4⟩, ?_, ?_, Nat.le_trans h.le hf.le⟩
  · rcases hf.new with e | e
    · rw [e]; exact g2
    · exact Nat.le_trans h.le e
  · rcases hf.new with e | e
    · rw [e]; exact h.ne
    · omega
  · rw [frame_take fun i hi => hf.at_ i (by have := h.le; omega) (by omega) (by omega) (by omega)]
    exact h.tk
theorem RdAt.push {R0 R : Rg} {r a b fo : Nat} {st : Lk} {f : List Evt} (h : RdAt R0 R r a b fo st f) (e : Evt) : RdAt R0 (R.set fo (.lst ((f ++ [e]).map encE))) r a b fo st (f ++ [e]) := by
  obtain ⟨h1, h2⟩ := h.fr
  obtain ⟨g1, g2, g3, g4⟩ := h.ge
  exact ⟨⟨by rw [nth_set h1]; exact h.lk.i, by rw [nth_set h.ne]; exact h.lk.h, by rw [nth_set h2]; exact h.lk.g, h.lk.ab⟩, nth_self h.fl, h.ge, h.ne, take_setN g4 h.tk, by rw [List.length_set]; exact h.le⟩
theorem RdAt.oth {R0 R : Rg} {r a b fo n : Nat} {st : Lk} {f : List Evt} {u o : O} (h : RdAt R0 R r a b fo st f) (hn : R0.length ≤ n) (hu : R[n]? = some u) (h14 : ∃ x, u = .ins 14 x) : RdAt R0 (R.set n o) r a b fo st f := by
  obtain ⟨x, rfl⟩ := h14
  have n1 : n ≠ r := fun z => by rw [z, h.lk.i] at hu; cases hu
  have n2 : n ≠ a := fun z => by rw [z, h.lk.h] at hu; cases hu
  have n3 : n ≠ b := fun z => by rw [z, h.lk.g] at hu; cases hu
  have n4 : n ≠ fo := fun z => by rw [z, h.fl] at hu; cases hu
  exact ⟨⟨by rw [nth_set n1]; exact h.lk.i, by rw [nth_set n2]; exact h.lk.h, by rw [nth_set n3]; exact h.lk.g, h.lk.ab⟩, by rw [nth_set n4]; exact h.fl, h.ge, h.ne, take_setN hn h.tk, by rw [List.length_set]; exact h.le⟩
theorem isi_bb (x : List UInt8) (R : Rg) : isiD [.byt x, .ty "bytes"] R = some (.bl true, R) := isi_of (t := "bytes") rfl (by decide +kernel)
theorem nofld_et (x y : D) : noFld "event_taken" [(33, x), (34, y)] = true := by
  show ((!decide (atN 33 = ("event_taken" : Str))) && ((!decide (atN 34 = ("event_taken" : Str))) && true)) = true
  decide +kernel
structure Un (bs : List Nat) (call : Str → SF) : Prop where
  bi : ∀ R : Rg, call "Bytes.__init__" [.ref R.length, .byt (byU bs)] (R ++ [.ins 14 []]) = .ok .non (R ++ [bObj bs 0])
  et : ∀ (R : Rg) (r p : Nat), R[r]? = some (bObj bs p) → p < bs.length → wpR (call "Bytes.event_taken" [.ref r] R) (fun d R1 => ∃ e nx, evAt bs p = .inr (e, nx) ∧ d = encE e ∧ R1 = R.set r (bObj bs nx)) (fun c f R1 => c = 18 ∧ ∃ (a : Nat) (x : O), evAt bs p = .inl a ∧ f = .int (a : Int) ∧ R1 = R.set r x)
  li : ∀ R : Rg, call "Locks.__init__" [.ref R.length] (R ++ [.ins 4 []]) = .ok .non (R ++ [.ins 4 [(3, .ref (R.length + 1)), (4, .ref (R.length + 2))], .dct [], .dct []])
  co : ∀ (e : Evt) (R : Rg) (r a b : Nat) (st : Lk), okE e = true → LkAt R r a b st → LkOk st 300 → wpR (call "Locks.comes" [.ref r, encE e] R) (fun d R1 => match comesP st e with
      | none => d = .bl false ∧ R1 = R
      | some st' => d = .bl true ∧ ∃ a', LkAt R1 r a' b st' ∧ FrL R R1 r a b a') noE
structure UnI (bs : List Nat) (R R1 : Rg) (n p : Nat) (st : Lk) (f : List Evt) (a : Nat) : Prop where
  by_ : R1[R.length]? = some (bObj bs p)
  rd : RdAt R R1 (R.length + 1) a (R.length + 3) (R.length + 4) st f
  run : runB bs n p st f = dueB bs
  fu : bs.length + 1 ≤ n + p
  pl : p ≤ bs.length
  rp : runP f = some st
  le : f.length ≤ 200
  ok : ∀ e ∈ f, okE e = true
theorem un_body (call : Str → SF) {bs : List Nat} (U : Un bs call) (hl : bs.length ≤ 1000000) (R R1 : Rg) (n p : Nat) (st : Lk) (f : List Evt) (a : Nat) (I : UnI bs R R1 n p st f a) (hp : p < bs.length) (x0 y4 y5 : D) :
    wpS (m_unpacked_b1 call [x0, .ref R.length, .ref (R.length + 1), .ref (R.length + 4), y4, y5] R1) (fun s R2 => ∃ n' p' st' f' a' z4 z5, n' < n ∧ s = [x0, .ref R.length, .ref (R.length + 1), .ref (R.length + 4), z4, z5] ∧ UnI bs R R2 n' p' st' f' a')
      (.mk (fun _ _ => False) (fun _ _ => False) (fun _ _ => False) (fun c x s R2 => c = 18 ∧ R2.take R.length = R ∧ ∃ k : Nat, dueB bs = .inl k ∧ x = .int (k : Int))) := by
  simp only [m_unpacked_b1]
  obtain ⟨n, rfl⟩ : ∃ m, n = m + 1 := ⟨n - 1, by have := I.fu; omega⟩
  have hrun := I.run
  rw [runB, if_pos hp] at hrun
  have h34 := by34 I.by_
  have het : ∀ x4, eMetO [(14, call "Bytes.event_taken", [])] "event_taken" (cVar 1) cNil [x0, .ref R.length, .ref (R.length + 1), .ref (R.length + 4), x4, y5] R1 = call "Bytes.event_taken" [.ref R.length] R1 := fun x4 => by
    rw [a_meto (v_ref rfl) I.by_ rfl (nofld_et _ _)]
    rfl
  have hE := U.et R1 R.length p I.by_ hp
  cases e : call "Bytes.event_taken" [.ref R.length] R1 with
  | err => rw [e] at hE; exact hE.run.elim
  | exc c x R2 =>
    rw [e] at hE
    obtain ⟨rfl, k, o, h1, rfl, rfl⟩ := hE.run
    rw [h1] at hrun
    have hrun : Sum.inl k = dueB bs := hrun
    simp -implicitDefEqProofs [h34, het, e]
    exact ⟨take_setN (Nat.le_refl _) I.rd.tk, k, hrun.symm, rfl⟩
  | ok d R2 =>
    rw [e] at hE
    obtain ⟨ev, nx, h1, rfl, rfl⟩ := hE.run
    rw [h1] at hrun
    obtain ⟨g1, g2, g3⟩ := evAt_ok h1
    have hrun : (if 200 ≤ f.length then Sum.inl p else match comesP st ev with
        | none => .inl p
        | some st' => runB bs n nx st' (f ++ [ev])) = dueB bs := hrun
    have rd2 : RdAt R (R1.set R.length (bObj bs nx)) (R.length + 1) a (R.length + 3) (R.length + 4) st f := I.rd.oth (Nat.le_refl _) I.by_ ⟨_, rfl⟩
    have by2 : (R1.set R.length (bObj bs nx))[R.length]? = some (bObj bs nx) := nth_self I.by_
    generalize R1.set R.length (bObj bs nx) = R2 at e rd2 by2
    have hlen := len_ref rd2.fl
    rw [List.length_map] at hlen
    have hu : isU (encE ev) = false := rfl
    have j0 := isT_lst rd2.fl
    by_cases h2 : 200 ≤ f.length
    · rw [if_pos h2] at hrun
      have h2' : (200 : Int) ≤ (f.length : Int) := by omega
      simp -implicitDefEqProofs [h34, het, e, hu, hlen, h2']
      exact ⟨rd2.tk, p, hrun.symm, rfl⟩
    · rw [if_neg h2] at hrun
      have h2' : ¬ (200 : Int) ≤ (f.length : Int) := by omega
      have hc := U.co ev R2 (R.length + 1) a (R.length + 3) st g1 rd2.lk ((run_ok _ I.rp).mono (by have := I.le; omega))
      have hm : eMetO [(4, call "Locks.comes", [])] "comes" (cVar 2) (cCons (cVar 5) cNil) [x0, .ref R.length, .ref (R.length + 1), .ref (R.length + 4), .int (p : Int), encE ev] R2 = call "Locks.comes" [.ref (R.length + 1), encE ev] R2 := by
        rw [a_meto (v_ref rfl) rd2.lk.i rfl (nofld_comes _ _), a_cons, a_var (x := encE ev) rfl (by unfold encE; simp)]
        rfl
      cases hcp : comesP st ev with
      | none =>
        rw [hcp] at hc hrun
        have hrun : Sum.inl p = dueB bs := hrun
        have hc := eq_of_wp hc
        simp -implicitDefEqProofs [h34, het, e, hu, hlen, h2', hm, hc]
        exact ⟨rd2.tk, p, hrun.symm, rfl⟩
      | some st' =>
        rw [hcp] at hc hrun
        have hrun : runB bs n nx st' (f ++ [ev]) = dueB bs := hrun
        obtain ⟨d, R3, hc, rfl, a', h3, h4⟩ := ex_of_wp hc
        have rd3 := rd2.come h3 h4
        have n2 : R.length ≠ a := fun z => by have := rd2.lk.h; rw [← z, by2] at this; cases this
        have by3 : R3[R.length]? = some (bObj bs nx) := by rw [h4.at_ R.length (List.getElem?_eq_some_iff.mp by2).1 (by omega) n2 (by omega)]; exact by2
        have ha := app_ref (x := encE ev) rd3.fl (by rw [List.length_map, line_eq]; omega)
        have j3 := isT_lst rd3.fl
        have rd4 := rd3.push ev
        have by4 : (R3.set (R.length + 4) (.lst ((f ++ [ev]).map encE)))[R.length]? = some (bObj bs nx) := by rw [nth_set (by omega)]; exact by3
        rw [show f.map encE ++ [encE ev] = (f ++ [ev]).map encE by rw [List.map_append]; rfl] at ha
        generalize R3.set (R.length + 4) (.lst ((f ++ [ev]).map encE)) = R4 at ha rd4 by4
        simp -implicitDefEqProofs [h34, het, e, hu, hlen, h2', hm, hc, ha, j3]
        have hI : UnI bs R R4 n nx st' (f ++ [ev]) a' := ⟨by4, rd4, hrun, by have := I.fu; omega, g3, by rw [runP_snoc, I.rp]; exact hcp, by rw [List.length_append]; simp; omega, fun x hx => by
          rcases List.mem_append.mp hx with hx | hx
          · exact I.ok x hx
          · rw [List.mem_singleton] at hx; subst hx; exact g1⟩
        first
          | exact ⟨n, by omega, nx, st', f ++ [ev], a', hI⟩
          | exact ⟨n, nx, st', f ++ [ev], a', by omega, hI⟩
          | exact ⟨n, ⟨by omega, nx, st', f ++ [ev], a', hI⟩⟩
          | trace_state
theorem pf_unpacked (call : Str → SF) {bs : List Nat} (U : Un bs call) (hb : Byts bs) (hl : bs.length ≤ 1000000) (R : Rg) :
    wpR (fin false R (m_unpacked call [.byt (byU bs), .undef, .undef, .undef, .undef, .undef] R)) (fun d R1 => R1 = R ∧ ∃ f, dueB bs = .inr f ∧ d = .lst (f.map encE) ∧ ∀ e ∈ f, okE e = true) (fun c x R1 => c = 18 ∧ R1 = R ∧ ∃ k : Nat, dueB bs = .inl k ∧ x = .int (k : Int)) := by
  refine wp_finX ?_
  simp only [m_unpacked]
  have hmk1 : ∀ s, s = [.byt (byU bs), .undef, .undef, .undef, .undef, .undef] → cMake 14 (call "Bytes.__init__") [] (cCons (cVar 0) cNil) s R = .ok (.ref R.length) (R ++ [bObj bs 0]) := fun s es => by
    unfold cMake
    rw [a_cons, es, a_var (x := .byt (byU bs)) rfl (by simp), Res.bind_ok, a_nil, Res.bind_ok, Res.bind_ok]
    show (call "Bytes.__init__" [.ref R.length, .byt (byU bs)] (R ++ [.ins 14 []])).bind _ = _
    rw [U.bi R, Res.bind_ok]
    rfl
  have hmk1 := hmk1 _ rfl
  have hmk2 : ∀ s, cMake 4 (call "Locks.__init__") [] cNil s (R ++ [bObj bs 0]) = .ok (.ref (R.length + 1)) (R ++ [bObj bs 0] ++ [.ins 4 [(3, .ref (R.length + 2)), (4, .ref (R.length + 3))], .dct [], .dct []]) := fun s => by
    unfold cMake
    rw [a_nil, Res.bind_ok]
    simp only [List.nil_append, List.append_nil]
    rw [U.li (R ++ [bObj bs 0]), Res.bind_ok]
    have e : (R ++ [bObj bs 0]).length = R.length + 1 := by simp
    rw [e]
    rfl
  generalize hbd : m_unpacked_b1 call = body
  have e5 : (R ++ [bObj bs 0] ++ [O.ins 4 [(3, .ref (R.length + 2)), (4, .ref (R.length + 3))], .dct [], .dct []]) = R ++ [bObj bs 0, O.ins 4 [(3, .ref (R.length + 2)), (4, .ref (R.length + 3))], .dct [], .dct []] := by simp
  rw [e5] at hmk2
  generalize hc1 : m_unpacked_c1 call = cnd
  have hib := isi_bb (byU bs) R
  have a3 : ∀ es s R, sPar3 1 2 3 es s R = sBind (es s R) s fun ds R1 => match ds with
    | [x, y, z] => .nx (((s.set 1 x).set 2 y).set 3 z) R1
    | _ => .err := fun es s R => rfl
  generalize ho : bObj bs 0 = o0 at hmk1 hmk2
  simp -implicitDefEqProofs [hib, a3, hmk1, hmk2]
  have hfl : bs.length + 1 < FUEL := by have := line_fuel; rw [line_eq] at this; omega
  refine ws_while (fun n s R1 => ∃ p st f a y4 y5, s = [.byt (byU bs), .ref R.length, .ref (R.length + 1), .ref (R.length + 4), y4, y5] ∧ UnI bs R R1 n p st f a) (bs.length + 1) hfl ?_ ?_
  · refine ⟨0, st0, [], R.length + 2, _, _, rfl, ⟨by rw [← ho]; simp, ⟨⟨by simp, by simp [dctN, st0], by simp [dctN, lostN, st0], by omega⟩, by simp, ⟨by omega, by omega, by omega, by omega⟩, by omega, by simp, by simp⟩, rfl, by omega, Nat.zero_le _, rfl, by simp, fun _ h => by cases h⟩⟩
  · rintro n _ R1 ⟨p, st, f, a, y4, y5, rfl, I⟩
    have hcnd : cnd [.byt (byU bs), .ref R.length, .ref (R.length + 1), .ref (R.length + 4), y4, y5] R1 = .ok (decide (p < bs.length)) R1 := by
      rw [← hc1]
      simp only [m_unpacked_c1]
      simp -implicitDefEqProofs [by34 I.by_, len_by hl]
    rw [hcnd]
    by_cases hp : p < bs.length
    · have hb2 := un_body call U hl R R1 n p st f a I hp (.byt (byU bs)) y4 y5
      rw [hbd] at hb2
      rw [decide_eq_true hp]
      simp -implicitDefEqProofs
      refine wpS_mono hb2 ?_ (fun _ _ h => h.elim) (fun _ _ h => h.elim) (fun _ _ h => h.elim) ?_
      · rintro s R2 ⟨n', p', st', f', a', z4, z5, h1, rfl, h2⟩
        exact ⟨n', h1, ⟨_, _, rfl⟩, p', st', f', a', h2⟩
      · rintro c x s R2 ⟨rfl, h1, k, h2, rfl⟩
        exact ⟨by simp, rfl, h1, rfl, k, h2, rfl⟩
    · have hrun := I.run
      obtain ⟨m, rfl⟩ : ∃ m, n = m + 1 := ⟨n - 1, by have := I.fu; have := I.pl; omega⟩
      rw [runB, if_neg hp] at hrun
      rw [decide_eq_false hp]
      simp -implicitDefEqProofs
      exact ⟨_, frz_lst (by omega) (by have := (List.getElem?_eq_some_iff.mp I.rd.fl).1; omega) I.rd.fl (pure_evts f), I.rd.tk, f, hrun.symm, rfl, I.ok⟩
theorem q_unpacked (k : Nat) {bs : List Nat} (hb : Byts bs) (hl : bs.length ≤ 1000000) (R : Rg) :
    wpR (callF glob scl T (k + 5) "unpacked" [.byt (byU bs)] R) (fun d R1 => R1 = R ∧ ∃ f, dueB bs = .inr f ∧ d = .lst (f.map encE) ∧ ∀ e ∈ f, okE e = true) (fun c x R1 => c = 18 ∧ R1 = R ∧ ∃ k : Nat, dueB bs = .inl k ∧ x = .int (k : Int)) := by
  rw [c_unpacked (k + 2) _ R rfl, finM_f]
  refine pf_unpacked _ ⟨fun R => ?_, fun R r p h hp => ?_, fun R => ?_, fun e R r a b st he hL hk => ?_⟩ hb hl R
  · rw [w_Bytes___init__ (k + 3), c_Bytes___init__ k _ _ rfl, finM_t]
    refine eq_of_wp (wp_finA ?_)
    simp only [m_Bytes___init__]
    have h1 := setF_ref (ca := scl.ca) (n := 33) (x := .byt (byU bs)) (R := R ++ [.ins 14 []]) (r := R.length) (c := 14) (fs := []) (by simp) (by decide +kernel) (by simp)
    have h2 := setF_ref (ca := scl.ca) (n := 34) (x := .int 0) (R := R ++ [.ins 14 [(33, .byt (byU bs))]]) (r := R.length) (c := 14) (fs := [(33, .byt (byU bs))]) (by simp) (by decide +kernel) (by simp)
    have e1 : putFD [] 33 (D.byt (byU bs)) = [(33, .byt (byU bs))] := rfl
    have e2 : putFD [(33, D.byt (byU bs))] 34 (D.int 0) = [(33, .byt (byU bs)), (34, .int 0)] := rfl
    simp -implicitDefEqProofs [h1, h2, e1, e2, bObj]
  · rw [w_Bytes_event_taken, c_Bytes_event_taken (k + 1) _ R rfl, finM_t]
    refine pf_taken _ ⟨fun R r p many b h e hm => ?_, fun R r p many h e => ?_⟩ R r p h hp
    · rw [w_Bytes_take]
      exact q_take hb hl k h e hm
    · rw [w_Bytes_take]
      exact q_takeX hb hl k h e
  · rw [w_Locks___init__ (k + 3)]
    exact q_init k R
  · rw [w_Locks_comes]
    exact q_comes (k + 1) e he R r a b st hL hk
end Lw
namespace Lw
open PySem PySem.Spec PyProof.Rows L2 RZ Om
/-! ### bytes, the law's way -/
theorem args_take {bs : List Nat} : ∀ {r : List Nat} {p : Nat} {vs : List Nat}, argsAt bs p r = .inr vs → vs = (bs.drop p).take r.length
  | [], p, vs, h => by cases h; simp
  | b :: r, p, vs, h => by
    unfold argsAt at h
    cases e : bs[p]? with
    | none => simp only [e] at h; cases h
    | some v =>
      simp only [e] at h
      split at h
      · cases h
      · cases e2 : argsAt bs (p + 1) r with
        | inl a => simp only [e2] at h; cases h
        | inr us =>
          simp only [e2] at h
          cases h
          have hp := (List.getElem?_eq_some_iff.mp e).1
          rw [List.drop_eq_getElem_cons hp, args_take e2, List.length_cons, List.take_succ_cons]
          congr 1
          have := (List.getElem?_eq_some_iff.mp e).2
          exact this.symm
theorem nix {bs : List Nat} {q v : Nat} (e : bs[q]? = some v) (R : Rg) : ixD (.lst (bs.map encN1)) (.int (q : Int)) R = some (.int (v : Int), R) := ix_lst (by rw [List.getElem?_map, e]; rfl)
theorem due_step (call : Str → SF) (bs : List Nat) (p j b : Nat) (x1 x3 x4 x5 : D) (R : Rg) :
    m__law_due_b1 call [.lst (bs.map encN1), x1, .int (p : Int), x3, x4, x5, .int (j : Int), .int (b : Int)] R = match bs[p + 1 + j]? with
      | none => .rt (.int (bs.length : Int)) R
      | some v => if b < v then .rt (.int ((p + 1 + j : Nat) : Int)) R else .nx [.lst (bs.map encN1), x1, .int (p : Int), x3, x4, x5, .int (j : Int), .int (b : Int)] R := by
  have e0 : ((p + 1 + j : Nat) : Int) = (p : Int) + 1 + j := by omega
  simp only [m__law_due_b1]
  cases e : bs[p + 1 + j]? with
  | none =>
    have := List.getElem?_eq_none_iff.mp e
    have h1 : (bs.length : Int) ≤ (p : Int) + 1 + j := by omega
    simp -implicitDefEqProofs [a_seq, a_sif, h1]
  | some v =>
    have := (List.getElem?_eq_some_iff.mp e).1
    have h1 : ¬ (bs.length : Int) ≤ (p : Int) + 1 + j := by omega
    have hi := nix e R
    rw [e0] at hi
    by_cases hb : b < v
    · have hb' : (b : Int) < v := by omega
      simp -implicitDefEqProofs [a_seq, a_sif, h1, hi, hb, hb', e0]
    · have hb' : ¬ (b : Int) < v := by omega
      simp -implicitDefEqProofs [a_seq, a_sif, h1, hi, hb, hb', e0]
theorem due_loop (call : Str → SF) (bs : List Nat) (p : Nat) (x1 x3 x4 x5 : D) (R : Rg) : ∀ (r : List Nat) (j : Nat) (y6 y7 : D), ∃ z6 z7, goL (gT 2 (gC (gVar 6) (gC (gVar 7) gN))) (m__law_due_b1 call) (enumL j (r.map encN1)) [.lst (bs.map encN1), x1, .int (p : Int), x3, x4, x5, y6, y7] R = match argsAt bs (p + 1 + j) r with
      | .inl a => .rt (.int (a : Int)) R
      | .inr _ => .nx [.lst (bs.map encN1), x1, .int (p : Int), x3, x4, x5, z6, z7] R
  | [], j, y6, y7 => ⟨y6, y7, rfl⟩
  | b :: r, j, y6, y7 => by
    have e1 : enumL j ((b :: r).map encN1) = .tup [.int (j : Int), .int (b : Int)] :: enumL (j + 1) (r.map encN1) := rfl
    have hs := due_step call bs p j b x1 x3 x4 x5 R
    have e2 : (([.lst (bs.map encN1), x1, .int (p : Int), x3, x4, x5, y6, y7] : List D).set 6 (.int (j : Int))).set 7 (.int (b : Int)) = [.lst (bs.map encN1), x1, .int (p : Int), x3, x4, x5, .int (j : Int), .int (b : Int)] := rfl
    rw [e1]
    simp only [goL_t2]
    rw [e2, hs]
    unfold argsAt
    cases e : bs[p + 1 + j]? with
    | none => exact ⟨y6, y7, rfl⟩
    | some v =>
      by_cases hb : b < v
      · refine ⟨y6, y7, ?_⟩
        simp only [if_pos hb]
        rfl
      · obtain ⟨z6, z7, ih⟩ := due_loop call bs p x1 x3 x4 x5 R r (j + 1) (.int (j : Int)) (.int (b : Int))
        refine ⟨z6, z7, ?_⟩
        simp only [if_neg hb]
        show goL _ _ (enumL (j + 1) (r.map encN1)) _ R = _
        rw [ih, show p + 1 + (j + 1) = p + 1 + j + 1 by omega]
        cases argsAt bs (p + 1 + j + 1) r <;> rfl
def TB2 : List (D × D) := [(.str WR, .lst ([15, 99].map encN1)), (.str RE, .lst ([15, 99].map encN1)), (.str TK, .lst ([2].map encN1)), (.str FR, .lst ([2].map encN1)), (.str GN, .lst ([].map encN1))]
theorem tb2_ix (i : Nat) (hi : i ≤ 4) (R : Rg) : ixD (.dct TB2) (.str (WDS.getD i [])) R = some (.lst ((bds i).map encN1), R) := by
  have go : ∀ d, lookD TB2 (.str (WDS.getD i [])) = some d → ixD (.dct TB2) (.str (WDS.getD i [])) R = some (d, R) := fun d h => by
    show (if keyOk (.str (WDS.getD i [])) = true then (lookD TB2 (.str (WDS.getD i []))).map fun d => (d, R) else none) = _
    rw [if_pos (show keyOk (.str (WDS.getD i [])) = true from rfl), h]
    rfl
  apply go
  unfold TB2
  simp only [lookD]
  match i, hi with
  | 0, _ => simp [WDS]; rfl
  | 1, _ => simp [WDS]; rfl
  | 2, _ => simp [WDS]; rfl
  | 3, _ => simp [WDS]; rfl
  | 4, _ => simp [WDS]; rfl
theorem wds_lst (i : Nat) (hi : i ≤ 4) (R : Rg) : ixD (.lst [.str [119, 114, 105, 116, 101], .str [114, 101, 97, 100], .str [116, 97, 107, 101], .str [102, 114, 101, 101], .str [103, 111, 110, 101]]) (.int (i : Int)) R = some (.str (WDS.getD i []), R) := by
  match i, hi with
  | 0, _ => exact ix_lst rfl
  | 1, _ => exact ix_lst rfl
  | 2, _ => exact ix_lst rfl
  | 3, _ => exact ix_lst rfl
  | 4, _ => exact ix_lst rfl
structure DuI (bs : List Nat) (n p : Nat) (st : Lk) (f : List Evt) : Prop where
  run : runB bs n p st f = dueB bs
  fu : bs.length + 1 ≤ n + p
  pl : p ≤ bs.length
  rp : runP f = some st
  le : f.length ≤ 200
  ok : ∀ e ∈ f, okE e = true
theorem due_body (call : Str → SF) (hcb : ∀ (es : List Evt) (R : Rg), (∀ e ∈ es, okE e = true) → es.length ≤ 300 → wpR (call "_law_can_be" [.lst (es.map encE)] R) (fun d R1 => R1 = R ∧ ((runP es).isSome = true ∧ d = .non ∨ runP es = none ∧ ∃ n : Nat, d = .int (n : Int))) noE)
    {bs : List Nat} (hl : bs.length ≤ 1000000) (n p : Nat) (st : Lk) (f : List Evt) (I : DuI bs n p st f) (hp : p < bs.length) (y3 y4 y5 y6 y7 : D) (R : Rg) :
    wpS (m__law_due_b2 call [.lst (bs.map encN1), .lst (f.map encE), .int (p : Int), y3, y4, y5, y6, y7] R) (fun s R1 => R1 = R ∧ ∃ (n' p' : Nat) (st' : Lk) (f' : List Evt) (z3 z4 z5 z6 z7 : D), n' < n ∧ s = [.lst (bs.map encN1), .lst (f'.map encE), .int (p' : Int), z3, z4, z5, z6, z7] ∧ DuI bs n' p' st' f')
      (.mk (fun d R1 => R1 = R ∧ ∃ k : Nat, d = .int (k : Int) ∧ dueB bs = .inl k) (fun _ _ => False) (fun _ _ => False) (fun _ _ _ _ => False)) := by
  simp only [m__law_due_b2]
  obtain ⟨n, rfl⟩ : ∃ m, n = m + 1 := ⟨n - 1, by have := I.fu; omega⟩
  have hrun := I.run
  rw [runB, if_pos hp] at hrun
  obtain ⟨b, e⟩ : ∃ b, bs[p]? = some b := ⟨bs[p], List.getElem?_eq_getElem hp⟩
  have hi0 := nix e R
  have hd : fdivD (.int (b : Int)) (.int 8) R = some (.int ((b / 8 : Nat) : Int), R) := by rw [p_fdiv (by decide +kernel)]; simp
  have hm : modD (.int (b : Int)) (.int 8) R = some (.int ((b % 8 : Nat) : Int), R) := by rw [p_mod (by omega)]; simp
  have hev0 : evAt bs p = if 4 < b / 8 ∨ 5 < b % 8 then .inl p else match argsAt bs (p + 1) (bds (b / 8)) with
    | .inl a => .inl a
    | .inr vs => .inr (Evt.mk (WDS.getD (b / 8) []) (b % 8 :: vs), p + 1 + (bds (b / 8)).length) := by
    unfold evAt
    rw [e]
    try rfl
  by_cases c1 : 4 < b / 8 ∨ 5 < b % 8
  · rw [if_pos c1] at hev0
    rw [hev0] at hrun
    have hrun : Sum.inl p = dueB bs := hrun
    by_cases c2 : 4 < b / 8
    · have c2' : (4 : Int) < ((b / 8 : Nat) : Int) := by omega
      generalize ((b / 8 : Nat) : Int) = bi at hd c2'
      simp -implicitDefEqProofs [hi0, hd, c2']
      exact ⟨p, rfl, hrun.symm⟩
    · have c2' : ¬ (4 : Int) < ((b / 8 : Nat) : Int) := by omega
      have c3' : (5 : Int) < ((b % 8 : Nat) : Int) := by omega
      generalize ((b / 8 : Nat) : Int) = bi at hd c2'
      generalize ((b % 8 : Nat) : Int) = bm at hm c3'
      simp -implicitDefEqProofs [hi0, hd, c2', hm, c3']
      exact ⟨p, rfl, hrun.symm⟩
  · rw [if_neg c1] at hev0
    have c2' : ¬ (4 : Int) < ((b / 8 : Nat) : Int) := by omega
    have c3' : ¬ (5 : Int) < ((b % 8 : Nat) : Int) := by omega
    have hi : b / 8 ≤ 4 := by omega
    have hw := wds_lst (b / 8) hi R
    have htb := tb2_ix (b / 8) hi R
    have ed : ∀ s, cDisp false [((cCon (.str [119, 114, 105, 116, 101])), (cLst false (cCons (cCon (.int 15)) (cCons (cCon (.int 99)) cNil)))), ((cCon (.str [114, 101, 97, 100])), (cLst false (cCons (cCon (.int 15)) (cCons (cCon (.int 99)) cNil)))), ((cCon (.str [116, 97, 107, 101])), (cLst false (cCons (cCon (.int 2)) cNil))), ((cCon (.str [102, 114, 101, 101])), (cLst false (cCons (cCon (.int 2)) cNil))), ((cCon (.str [103, 111, 110, 101])), (cLst false cNil))] s R = .ok (.dct TB2) R := fun s => by
      unfold cDisp
      simp -implicitDefEqProofs [cPairs]
      rw [if_pos ⟨rfl, rfl, rfl, rfl, rfl⟩]
      have em : mergeD [] [(D.str [119, 114, 105, 116, 101], D.lst [D.int 15, D.int 99]), (D.str [114, 101, 97, 100], D.lst [D.int 15, D.int 99]), (D.str [116, 97, 107, 101], D.lst [D.int 2]), (D.str [102, 114, 101, 101], D.lst [D.int 2]), (D.str [103, 111, 110, 101], D.lst [])] = TB2 := by
        unfold mergeD TB2
        simp [setK]
        exact ⟨⟨rfl, rfl⟩, rfl⟩
      rw [em]
      rfl
    obtain ⟨z6, z7, hloop⟩ := due_loop call bs p (.lst (f.map encE)) (.str (WDS.getD (b / 8) [])) (.lst ((bds (b / 8)).map encN1)) y5 R (bds (b / 8)) 0 y6 y7
    rw [Nat.add_zero] at hloop
    have hfor : ∀ s, s = [.lst (bs.map encN1), .lst (f.map encE), .int (p : Int), .str (WDS.getD (b / 8) []), .lst ((bds (b / 8)).map encN1), y5, y6, y7] → sFor (iArgs enum1 (cCons (cVar 4) cNil)) (gT 2 (gC (gVar 6) (gC (gVar 7) gN))) (m__law_due_b1 call) s R = match argsAt bs (p + 1) (bds (b / 8)) with
        | .inl a => .rt (.int (a : Int)) R
        | .inr _ => .nx [.lst (bs.map encN1), .lst (f.map encE), .int (p : Int), .str (WDS.getD (b / 8) []), .lst ((bds (b / 8)).map encN1), y5, z6, z7] R := fun s es => by
      rw [for_fix (xs := enumL 0 ((bds (b / 8)).map encN1)) (R1 := R) ?_ ?_, es, hloop]
      · rw [es]
        unfold iArgs
        rw [a_cons, v_lst (xs := (bds (b / 8)).map encN1) rfl, Res.bind_ok, a_nil, Res.bind_ok, Res.bind_ok]
        show (Res.ok (enuS (fixS ((bds (b / 8)).map encN1))) R : Res Src) = _
        rw [enu_fix]
      · have : ∀ (xs : List D) (k : Nat), (enumL k xs).length = xs.length := by
          intro xs
          induction xs with
          | nil => intro k; rfl
          | cons x xs ih => intro k; show (enumL (k + 1) xs).length + 1 = _; rw [ih, List.length_cons]
        rw [this, List.length_map]
        have hb2 : (bds (b / 8)).length ≤ 2 := by
          unfold bds
          split
          · simp
          · split <;> simp
        have := line_fuel
        rw [line_eq] at this
        omega
    have hfor := hfor _ rfl
    generalize hF : sFor (iArgs enum1 (cCons (cVar 4) cNil)) (gT 2 (gC (gVar 6) (gC (gVar 7) gN))) (m__law_due_b1 call) = F at hfor
    generalize hD : cDisp false [((cCon (.str [119, 114, 105, 116, 101])), (cLst false (cCons (cCon (.int 15)) (cCons (cCon (.int 99)) cNil)))), ((cCon (.str [114, 101, 97, 100])), (cLst false (cCons (cCon (.int 15)) (cCons (cCon (.int 99)) cNil)))), ((cCon (.str [116, 97, 107, 101])), (cLst false (cCons (cCon (.int 2)) cNil))), ((cCon (.str [102, 114, 101, 101])), (cLst false (cCons (cCon (.int 2)) cNil))), ((cCon (.str [103, 111, 110, 101])), (cLst false cNil))] = DD at ed
    generalize TB2 = TB at ed htb
    have hb2 : (bds (b / 8)).length ≤ 2 := by
      unfold bds
      split
      · simp
      · split <;> simp
    generalize hW : WDS.getD (b / 8) [] = w at hw htb hfor hev0
    generalize hB : bds (b / 8) = bd at htb hfor hev0 hb2
    generalize hBI : ((b / 8 : Nat) : Int) = bi at hd c2' hw
    cases ea : argsAt bs (p + 1) bd with
    | inl a =>
      rw [ea] at hfor hev0
      have hev0 : evAt bs p = .inl a := hev0
      have hfor : F _ R = .rt (.int (a : Int)) R := hfor
      rw [hev0] at hrun
      have hrun : Sum.inl a = dueB bs := hrun
      generalize ((b % 8 : Nat) : Int) = bm at hm c3'
      simp -implicitDefEqProofs [hi0, hd, c2', hm, c3', hw, ed, htb, hfor]
      exact ⟨a, rfl, hrun.symm⟩
    | inr vs =>
      rw [ea] at hfor hev0
      have hev0 : evAt bs p = .inr (⟨w, b % 8 :: vs⟩, p + 1 + bd.length) := hev0
      have hfor : F _ R = .nx [.lst (bs.map encN1), .lst (f.map encE), .int (p : Int), .str w, .lst (bd.map encN1), y5, z6, z7] R := hfor
      have hok := evAt_ok hev0
      rw [hev0] at hrun
      obtain ⟨hlen, hmx, hle⟩ := args_len ea
      have hpl : p + 1 + bd.length ≤ bs.length := hok.2.2
      have hcut : Om.cutD (bs.map encN1) (some ((p : Int) + 1)) (some ((p : Int) + 1 + bd.length)) = vs.map encN1 := by
        unfold Om.cutD
        rw [show (p : Int) + 1 = ((p + 1 : Nat) : Int) by omega, show ((p + 1 : Nat) : Int) + bd.length = ((p + 1 + bd.length : Nat) : Int) by omega, HT.sIx_nat, HT.sIx_nat, List.length_map, Nat.min_eq_left (by omega), Nat.min_eq_left (by omega), show p + 1 + bd.length - (p + 1) = bd.length by omega, args_take ea, List.map_take, List.map_drop]
      have hsl : ∀ s, s = [.lst (bs.map encN1), .lst (f.map encE), .int (p : Int), .str w, .lst (bd.map encN1), y5, z6, z7] → cSl false (cVar 0) (some (cOp2 (addD false) (cVar 2) (cCon (.int 1)))) (some (cOp2 (addD false) (cOp2 (addD false) (cVar 2) (cCon (.int 1))) (cOpN lenD (cCons (cVar 4) cNil)))) s R = .ok (.lst (vs.map encN1)) R := fun s es => by
        unfold cSl
        rw [es, v_lst (xs := bs.map encN1) rfl, Res.bind_ok]
        have q1 : cPart (some (cOp2 (addD false) (cVar 2) (cCon (.int 1)))) [.lst (bs.map encN1), .lst (f.map encE), .int (p : Int), .str w, .lst (bd.map encN1), y5, z6, z7] R = .ok (some ((p : Int) + 1)) R := rfl
        have q2 : cPart (some (cOp2 (addD false) (cOp2 (addD false) (cVar 2) (cCon (.int 1))) (cOpN lenD (cCons (cVar 4) cNil)))) [.lst (bs.map encN1), .lst (f.map encE), .int (p : Int), .str w, .lst (bd.map encN1), y5, z6, z7] R = .ok (some ((p : Int) + 1 + ((bd.map encN1).length : Nat))) R := rfl
        rw [q1, Res.bind_ok, q2, Res.bind_ok, List.length_map]
        show lift (mkL false (Om.cutD (bs.map encN1) (some ((p : Int) + 1)) (some ((p : Int) + 1 + bd.length))) R) = _
        rw [hcut, mkL_old (by rw [List.length_map, line_eq]; omega)]
        rfl
      have hsl := hsl _ rfl
      generalize hS : cSl false (cVar 0) (some (cOp2 (addD false) (cVar 2) (cCon (.int 1)))) (some (cOp2 (addD false) (cOp2 (addD false) (cVar 2) (cCon (.int 1))) (cOpN lenD (cCons (cVar 4) cNil)))) = SL at hsl
      have hadd := add_lst (t := false) (R := R) (x := .lst [.str w, .int ((b % 8 : Nat) : Int)]) (y := .lst (vs.map encN1)) rfl rfl
      rw [mkL_old (by rw [List.length_append, List.length_map, line_eq]; simp; omega)] at hadd
      have hE : D.tup ([D.str w, .int ((b % 8 : Nat) : Int)] ++ vs.map encN1) = encE ⟨w, b % 8 :: vs⟩ := rfl
      generalize hev : (⟨w, b % 8 :: vs⟩ : Evt) = ev at hev0 hE hok hrun
      have hrun : (if 200 ≤ f.length then Sum.inl p else match comesP st ev with
        | none => .inl p
        | some st' => runB bs n (p + 1 + bd.length) st' (f ++ [ev])) = dueB bs := hrun
      have hu : isU (encE ev) = false := rfl
      generalize hEL : [D.str w, .int ((b % 8 : Nat) : Int)] ++ vs.map encN1 = el at hadd hE
      generalize ((b % 8 : Nat) : Int) = bm at hm c3' hadd
      by_cases h2 : 200 ≤ f.length
      · rw [if_pos h2] at hrun
        have h2' : (200 : Int) ≤ (f.length : Int) := by omega
        simp -implicitDefEqProofs [hi0, hd, c2', hm, c3', hw, ed, htb, hfor, hsl, hadd, hE, hu, h2']
        exact ⟨p, rfl, hrun.symm⟩
      · rw [if_neg h2] at hrun
        have h2' : ¬ (200 : Int) ≤ (f.length : Int) := by omega
        have ea2 := add_lst (t := false) (R := R) (x := .lst (f.map encE)) (y := .lst [encE ev]) rfl rfl
        rw [mkL_old (by rw [List.length_append, List.length_map, line_eq]; simp; omega), show f.map encE ++ [encE ev] = (f ++ [ev]).map encE by rw [List.map_append]; rfl] at ea2
        obtain ⟨d, R1, hcc, e1, g3⟩ := ex_of_wp (hcb (f ++ [ev]) R (fun x hx => by
          rcases List.mem_append.mp hx with hx | hx
          · exact I.ok x hx
          · rw [List.mem_singleton] at hx; subst hx; exact hok.1) (by rw [List.length_append]; simp; omega))
        have e1 : R1 = R := e1
        subst e1
        rw [runP_snoc, I.rp] at g3
        have g4 : (comesP st ev).isSome = true ∧ d = .non ∨ comesP st ev = none ∧ ∃ n : Nat, d = .int (n : Int) := g3
        clear g3 e1
        generalize hN : (f ++ [ev]).map encE = fl at ea2 hcc
        generalize hFL : f.map encE = f0 at ea2 hfor hsl
        rcases g4 with ⟨h3, rfl⟩ | ⟨h3, m, rfl⟩
        · obtain ⟨st', hcp⟩ := Option.isSome_iff_exists.mp h3
          rw [hcp] at hrun
          have hrun : runB bs n (p + 1 + bd.length) st' (f ++ [ev]) = dueB bs := hrun
          have hlf : f0.length = f.length := by rw [← hFL, List.length_map]
          simp -implicitDefEqProofs [hi0, hd, c2', hm, c3', hw, ed, htb, hfor, hsl, hadd, hE, hu, hlf, h2', ea2, hcc]
          exact ⟨n, by omega, p + 1 + bd.length, st', f ++ [ev], ⟨hN.symm, by omega⟩, ⟨hrun, by have := I.fu; omega, hpl, by rw [runP_snoc, I.rp]; exact hcp, by rw [List.length_append]; simp; omega, fun x hx => by
            rcases List.mem_append.mp hx with hx | hx
            · exact I.ok x hx
            · rw [List.mem_singleton] at hx; subst hx; exact hok.1⟩⟩
        · rw [h3] at hrun
          have hrun : Sum.inl p = dueB bs := hrun
          have hlf : f0.length = f.length := by rw [← hFL, List.length_map]
          simp -implicitDefEqProofs [hi0, hd, c2', hm, c3', hw, ed, htb, hfor, hsl, hadd, hE, hu, hlf, h2', ea2, hcc]
          exact ⟨p, rfl, hrun.symm⟩
end Lw
namespace Lw
open PySem PySem.Spec PyProof.Rows L2 RZ Om
theorem pf_due (call : Str → SF) (hcb : ∀ (es : List Evt) (R : Rg), (∀ e ∈ es, okE e = true) → es.length ≤ 300 → wpR (call "_law_can_be" [.lst (es.map encE)] R) (fun d R1 => R1 = R ∧ ((runP es).isSome = true ∧ d = .non ∨ runP es = none ∧ ∃ n : Nat, d = .int (n : Int))) noE)
    {bs : List Nat} (hl : bs.length ≤ 1000000) (R : Rg) : wpR (fin false R (m__law_due call [.lst (bs.map encN1), .undef, .undef, .undef, .undef, .undef, .undef, .undef] R)) (fun d R1 => R1 = R ∧ match dueB bs with
      | .inr f => d = .lst (f.map encE)
      | .inl a => d = .int (a : Int)) noE := by
  refine wp_fin ?_
  simp only [m__law_due]
  generalize hbd : m__law_due_b2 call = body
  generalize hc1 : m__law_due_c1 call = cnd
  simp -implicitDefEqProofs
  have hfl : bs.length + 1 < FUEL := by have := line_fuel; rw [line_eq] at this; omega
  refine ws_while (fun n s R1 => R1 = R ∧ ∃ (p : Nat) (st : Lk) (f : List Evt) (y3 y4 y5 y6 y7 : D), s = [.lst (bs.map encN1), .lst (f.map encE), .int (p : Int), y3, y4, y5, y6, y7] ∧ DuI bs n p st f) (bs.length + 1) hfl ?_ ?_
  · exact ⟨rfl, 0, st0, [], _, _, _, _, _, rfl, ⟨rfl, by omega, Nat.zero_le _, rfl, by simp, fun _ h => by cases h⟩⟩
  · rintro n _ _ ⟨rfl, p, st, f, y3, y4, y5, y6, y7, rfl, I⟩
    have hcnd : ∀ R, cnd [.lst (bs.map encN1), .lst (f.map encE), .int (p : Int), y3, y4, y5, y6, y7] R = .ok (decide (p < bs.length)) R := fun R => by
      rw [← hc1]
      simp only [m__law_due_c1]
      simp -implicitDefEqProofs
    rw [hcnd]
    by_cases hp : p < bs.length
    · rename_i R0
      have hb2 := due_body call hcb hl n p st f I hp y3 y4 y5 y6 y7 R0
      rw [hbd] at hb2
      rw [decide_eq_true hp]
      simp -implicitDefEqProofs
      refine wpS_mono hb2 ?_ ?_ (fun _ _ h => h.elim) (fun _ _ h => h.elim) (fun _ _ _ _ h => h.elim)
      · rintro s R2 ⟨rfl, n', p', st', f', z3, z4, z5, z6, z7, h1, rfl, h2⟩
        exact ⟨n', h1, rfl, p', st', f', ⟨_, _, _, _, _, rfl⟩, h2⟩
      · rintro d R2 ⟨rfl, k, rfl, h1⟩
        refine ⟨_, frz_pure rfl, by simp, ?_⟩
        rw [h1]
    · have hrun := I.run
      obtain ⟨m, rfl⟩ : ∃ m, n = m + 1 := ⟨n - 1, by have := I.fu; have := I.pl; omega⟩
      rw [runB, if_neg hp] at hrun
      rw [decide_eq_false hp]
      simp -implicitDefEqProofs
      refine ⟨_, frz_pure (by rw [pure_lst]; exact pure_evts f), ?_⟩
      rw [← hrun]
theorem q_due (k : Nat) {bs : List Nat} (hl : bs.length ≤ 1000000) (R : Rg) : wpR (callF glob scl T (k + 4) "_law_due" [.lst (bs.map encN1)] R) (fun d R1 => R1 = R ∧ match dueB bs with
      | .inr f => d = .lst (f.map encE)
      | .inl a => d = .int (a : Int)) noE := by
  rw [c__law_due (k + 1) _ R rfl, finM_f]
  refine pf_due _ (fun es R h h2 => ?_) hl R
  rw [w__law_can_be]
  exact q_can_be k es h h2 R
/-! ### hex -/
abbrev HX : List Nat := [48, 49, 50, 51, 52, 53, 54, 55, 56, 57, 97, 98, 99, 100, 101, 102]
theorem hx_ix : ∀ (d : Nat), d < 16 → atI HX (d : Int) = some (hx d) := by decide
theorem hx_ixD (d : Nat) (hd : d < 16) (R : Rg) : ixD (.str HX) (.int (d : Int)) R = some (.str [hx d], R) := by
  show (match (if HX.length ≤ LINE then atI HX (d : Int) else none) with
    | some c => some (D.str [c], R)
    | none => none) = _
  rw [if_pos (by decide), hx_ix d hd]
theorem hexT_join : ∀ bs : List Nat, TL.joinL [] (bs.map fun b => [hx (b / 16), hx (b % 16)]) = hexT bs := fun bs => by
  have : ∀ ys : List (List Nat), TL.joinL [] ys = ys.flatten := by
    intro ys
    induction ys with
    | nil => rfl
    | cons y ys ih =>
      cases ys with
      | nil => simp [TL.joinL]
      | cons z ys => rw [TL.joinL, ih]; simp
  rw [this]
  unfold hexT
  rw [List.flatMap_def]
theorem q_law_hexed (k : Nat) {bs : List Nat} (hb : Byts bs) (hl : bs.length ≤ 1000000) (R : Rg) : callF glob scl T (k + 3) "_law_hexed" [.lst (bs.map encN1)] R = .ok (.str (hexT bs)) R := by
  rw [c__law_hexed k _ R rfl, finM_f]
  refine eq_of_wp (wp_fin ?_)
  simp only [m__law_hexed]
  have hcall : [D.lst (bs.map encN1)] ++ List.replicate 1 D.undef = [.lst (bs.map encN1), .undef] := rfl
  rw [hcall]
  have ec := comp_src (s := [.lst (bs.map encN1), .undef]) (R := R) (it := iAny (cVar 0)) (g := gVar 1) (t := fun _ R => .ok true R) (e := m__law_hexed_e1 (callW glob scl T (k + 2))) (vs := [1]) (as := bs) (f := encN1) (w := fun b => D.str [hx (b / 16), hx (b % 16)]) (p := fun _ => true) (by simp -implicitDefEqProofs) (by rw [line_eq]; omega) fun b hbm => ⟨[.lst (bs.map encN1), encN1 b], rfl, rfl, fun _ => by
    have h256 := hb b hbm
    have hd : fdivD (.int (b : Int)) (.int 16) R = some (.int ((b / 16 : Nat) : Int), R) := by rw [p_fdiv (by decide +kernel)]; simp
    have hm : modD (.int (b : Int)) (.int 16) R = some (.int ((b % 16 : Nat) : Int), R) := by rw [p_mod (by omega)]; simp
    have h1 := hx_ixD (b / 16) (by omega) R
    have h2 := hx_ixD (b % 16) (by omega) R
    have ha := p_add_str (m := false) (R := R) (t := [hx (b / 16)]) (u := [hx (b % 16)]) (by rw [line_eq]; simp)
    generalize ((b / 16 : Nat) : Int) = x at hd h1
    generalize ((b % 16 : Nat) : Int) = y at hm h2
    generalize hx (b / 16) = c1 at h1 ha ⊢
    generalize hx (b % 16) = c2 at h2 ha ⊢
    simp only [m__law_hexed_e1, encN1]
    simp -implicitDefEqProofs [hd, hm, h1, h2, ha]⟩
  rw [List.filter_eq_self.mpr fun _ _ => rfl] at ec
  have hsum : ((bs.map fun b => [hx (b / 16), hx (b % 16)]).map fun z : List Nat => z.length).sum + (bs.map fun b => [hx (b / 16), hx (b % 16)]).length * ([] : List Nat).length ≤ 16777216 := by
    have : ∀ bs : List Nat, ((bs.map fun b => [hx (b / 16), hx (b % 16)]).map fun z : List Nat => z.length).sum = 2 * bs.length := by
      intro bs
      induction bs with
      | nil => rfl
      | cons b bs ih => simp only [List.map_cons, List.sum_cons, List.length_cons, ih]; simp; omega
    rw [this]
    simp only [List.length_nil]
    omega
  have ej := join_lst (R := R) (t := []) hsum
  rw [hexT_join, List.map_map, show (D.str ∘ fun b => [hx (b / 16), hx (b % 16)]) = fun b => D.str [hx (b / 16), hx (b % 16)] from rfl] at ej
  generalize (bs.map fun b => D.str [hx (b / 16), hx (b % 16)]) = us at ec ej
  generalize bs.map encN1 = vs at ec ⊢
  simp -implicitDefEqProofs [ec, ej]
  exact frz_pure rfl
def isHx (c : Nat) : Bool := decide (c ∈ HX)
theorem of_hex_comp (call : Str → SF) (t : List Nat) (hl : t.length ≤ LINE) (R : Rg) : cComp (iAny (cVar 0)) (gVar 1) (fun _ R => .ok true R) (m_of_hex_e1 call) [1] false [.str t, .undef] R = .ok (.lst (t.map fun c => D.bl (isHx c))) R := by
  have e := comp_src (s := [.str t, .undef]) (R := R) (it := iAny (cVar 0)) (g := gVar 1) (t := fun _ R => .ok true R) (e := m_of_hex_e1 call) (vs := [1]) (as := t) (f := fun c => D.str [c]) (w := fun c => D.bl (isHx c)) (p := fun _ => true) (by simp -implicitDefEqProofs) hl fun c hc => ⟨[.str t, .str [c]], rfl, rfl, fun _ => by simp only [m_of_hex_e1]; simp -implicitDefEqProofs [isHx]⟩
  rw [e, List.filter_eq_self.mpr fun _ _ => rfl]
theorem q_of_hex (k : Nat) {bs : List Nat} (hb : Byts bs) (hl : bs.length ≤ 1000000) (R : Rg) :
    wpR (callF glob scl T (k + 6) "of_hex" [.str (hexT bs)] R) (fun d R1 => R1 = R ∧ ∃ f, dueB bs = .inr f ∧ d = .lst (f.map encE) ∧ ∀ e ∈ f, okE e = true) (fun c x R1 => c = 18 ∧ R1 = R ∧ ∃ k : Nat, dueB bs = .inl k ∧ x = .int (k : Int)) := by
  rw [c_of_hex (k + 3) _ R rfl, finM_f]
  refine wp_finX ?_
  simp only [m_of_hex]
  have hcall : [D.str (hexT bs)] ++ List.replicate 1 D.undef = [.str (hexT bs), .undef] := rfl
  rw [hcall]
  obtain ⟨h1, h2⟩ := hexT_ok hb
  have hlen := hexT_len bs
  have hll : (hexT bs).length ≤ LINE := by rw [hlen, line_eq]; omega
  have ec := of_hex_comp (callW glob scl T (k + 5)) (hexT bs) hll R
  have ea := p_all (R := R) isHx (hexT bs)
  have hall : (hexT bs).all isHx = true := List.all_eq_true.mpr fun c hc => decide_eq_true (hex_sub h1 c hc)
  rw [hall] at ea
  have hm : modD (.int ((hexT bs).length : Int)) (.int 2) R = some (.int 0, R) := by
    rw [p_mod (by omega), hlen]
    congr 3
    omega
  have hu := q_unpacked k hb hl R
  rw [← w_unpacked] at hu
  have hf : ∀ s, s = [.str (hexT bs), .undef] → eFh (cCon (.ty "bytes")) (cCons (cVar 0) cNil) s R = .ok (.byt (byU bs)) R := fun s es => by
    unfold eFh
    rw [es, a_con, Res.bind_ok]
    rw [if_pos (show isBy (.ty "bytes") = true from rfl), a_cons, v_str (t := hexT bs) rfl, Res.bind_ok, a_nil, Res.bind_ok, Res.bind_ok]
    show lift (if hexOk (hexT bs) = true ∧ (hexT bs).length ≤ LINE then some (D.byt (hexB (hexT bs)), R) else none) = _
    rw [if_pos ⟨h1, hll⟩, h2]
    rfl
  have hf := hf _ rfl
  generalize hF : eFh (cCon (.ty "bytes")) (cCons (cVar 0) cNil) = FH at hf
  generalize callW glob scl T (k + 5) = call at ec hu
  have hs := isi_ss (t := hexT bs) (R := R)
  have hln := p_len_str (R := R) hll
  generalize hexT bs = t at hs hln hf ec hm ea
  generalize (t.map fun c => D.bl (isHx c)) = us at ec ea
  cases e : call "unpacked" [.byt (byU bs)] R with
  | err => rw [e] at hu; exact hu.run.elim
  | ok d R1 =>
    rw [e] at hu
    obtain ⟨rfl, f, g1, rfl, g2⟩ := hu.run
    simp -implicitDefEqProofs [hs, hln, hm, ec, ea, hf, e]
    exact ⟨_, frz_pure (by rw [pure_lst]; exact pure_evts f), f, g1, rfl, g2⟩
  | exc c x R1 =>
    rw [e] at hu
    obtain ⟨rfl, rfl, a, g1, rfl⟩ := hu.run
    simp -implicitDefEqProofs [hs, hln, hm, ec, ea, hf, e]
    exact ⟨rfl, a, g1, rfl⟩
end Lw
namespace Lw
open PySem PySem.Spec PyProof.Rows L2 RZ Om
/-! ### judged -/
theorem pf_judged (call : Str → SF) {bs : List Nat} (hh : ∀ R, call "_law_hexed" [.lst (bs.map encN1)] R = .ok (.str (hexT bs)) R) (hrd : ∀ R, wpR (call "of_hex" [.str (hexT bs)] R) (fun d R1 => R1 = R ∧ ∃ f, dueB bs = .inr f ∧ d = .lst (f.map encE) ∧ ∀ e ∈ f, okE e = true) (fun c x R1 => c = 18 ∧ R1 = R ∧ ∃ k : Nat, dueB bs = .inl k ∧ x = .int (k : Int)))
    (hdu : ∀ R, wpR (call "_law_due" [.lst (bs.map encN1)] R) (fun d R1 => R1 = R ∧ match dueB bs with
      | .inr f => d = .lst (f.map encE)
      | .inl a => d = .int (a : Int)) noE) (R : Rg) : fin false R (m__law_judged call [.lst (bs.map encN1), .undef, .undef] R) = .ok (.bl true) R := by
  refine eq_of_wp (wp_fin ?_)
  simp only [m__law_judged]
  obtain ⟨d, R1, hd, e1, h1⟩ := ex_of_wp (hdu R)
  have e1 : R1 = R := e1
  subst e1
  have hr := hrd R1
  have hx := hh R1
  generalize bs.map encN1 = vs at hd hx ⊢
  generalize hexT bs = t at hr hx
  cases e : call "of_hex" [.str t] R1 with
  | err => rw [e] at hr; exact hr.run.elim
  | ok d2 R2 =>
    rw [e] at hr
    obtain ⟨rfl, f, h2, rfl, h3⟩ := hr.run
    rw [h2] at h1
    simp only at h1
    subst h1
    have hq := p_eq (neg := false) (R := R2) (x := .lst (f.map encE)) (y := .lst (f.map encE)) (by rw [pure_lst]; exact pure_evts f) (by rw [pure_lst]; exact pure_evts f) (by show eqOks 11 _ = true; exact eqOk_evts 10 h3) (by show eqOks 11 _ = true; exact eqOk_evts 10 h3)
    have hb : m__law_judged_y1 call [.lst vs, .lst (f.map encE), .undef] R2 = .rt (.bl true) R2 := by
      simp only [m__law_judged_y1]
      simp -implicitDefEqProofs [a_seq, e, hx, hq]
    have ht : sTryA (m__law_judged_y1 call) (hitR scl.xk.hits 18) 2 (fun c f => (sErrF (ownR scl.xk.rows) true "at" c f (sSeq (sRet (cOp2 (eqX false (eqF call Sc.none.eqs)) (cCon f) (cVar 1))) sPass) (sSeq (sRet (cOp2 (eqX false (eqF call Sc.none.eqs)) (cOp1 (fldD Sc.none.ca 34) (cVar 2)) (cVar 1))) sPass))) [.lst vs, .lst (f.map encE), .undef] R2 = .rt (.bl true) R2 := by
      unfold sTryA
      rw [hb]
    simp -implicitDefEqProofs [hd, ht]
    exact frz_pure rfl
  | exc c x R2 =>
    rw [e] at hr
    obtain ⟨rfl, rfl, a, h2, rfl⟩ := hr.run
    rw [h2] at h1
    simp only at h1
    subst h1
    have hb : m__law_judged_y1 call [.lst vs, .int (a : Int), .undef] R2 = .exc 18 (.int (a : Int)) [.lst vs, .int (a : Int), .undef] R2 := by
      simp only [m__law_judged_y1]
      simp -implicitDefEqProofs [a_seq, e, hx]
    have ht : sTryA (m__law_judged_y1 call) (hitR scl.xk.hits 18) 2 (fun c f => (sErrF (ownR scl.xk.rows) true "at" c f (sSeq (sRet (cOp2 (eqX false (eqF call Sc.none.eqs)) (cCon f) (cVar 1))) sPass) (sSeq (sRet (cOp2 (eqX false (eqF call Sc.none.eqs)) (cOp1 (fldD Sc.none.ca 34) (cVar 2)) (cVar 1))) sPass))) [.lst vs, .int (a : Int), .undef] R2 = .rt (.bl true) R2 := by
      unfold sTryA
      rw [hb]
      have h1 : hitR scl.xk.hits 18 18 = some true := by decide +kernel
      simp only [h1]
      rw [if_pos (by simp)]
      have h2 : exFld 18 = ("at" : Str) ∧ ownR scl.xk.rows 18 = true ∧ D.int (a : Int) ≠ .undef ∧ true = true := ⟨by decide +kernel, by decide +kernel, by simp, rfl⟩
      unfold sErrF
      rw [if_pos h2]
      simp -implicitDefEqProofs [a_seq, noExc, unbind]
    simp -implicitDefEqProofs [hd, ht]
    exact frz_pure rfl
theorem q_judged (k : Nat) {bs : List Nat} (hb : Byts bs) (hl : bs.length ≤ 1000000) (R : Rg) : callF glob scl T (k + 7) "_law_judged" [.lst (bs.map encN1)] R = .ok (.bl true) R := by
  rw [c__law_judged (k + 4) _ R rfl, finM_f]
  refine pf_judged _ (fun R => ?_) (fun R => ?_) (fun R => ?_) R
  · rw [w__law_hexed]
    exact q_law_hexed (k + 3) hb hl R
  · rw [w_of_hex]
    exact q_of_hex k hb hl R
  · rw [w__law_due]
    exact q_due (k + 2) hl R
/-! ### what is no text of bytes -/
theorem q_of_hexX (k : Nat) (x : D) (R : Rg) (hx : x = .str [48] ∨ x = .str [48, 71] ∨ x = .str [65, 66] ∨ x = .non ∨ x = .int 5 ∨ x = .str [32, 48]) : callF glob scl T (k + 3) "of_hex" [x] R = .exc 18 .non R := by
  rw [c_of_hex k _ R rfl, finM_f]
  refine eq_of_wpx (wp_finX ?_)
  simp only [m_of_hex]
  have two : ∀ a b : Nat, isHx b = false ∨ isHx a = false → wpS (sIf (bOr (bNot (bVal (cOpN (isiX scl.cls scl.kit) (cCons (cVar 0) (cCons (cCon (.ty "str")) cNil))))) (bOr (bOf (cOp2 (eqX true (eqF (callW glob scl T (k + 2)) scl.eqs)) (cOp2 modD (cOpN lenD (cCons (cVar 0) cNil)) (cCon (.int 2))) (cCon (.int 0)))) (bNot (bVal (cOpN allD (cCons (cComp (iAny (cVar 0)) (gVar 1) (fun _ R => .ok true R) (m_of_hex_e1 (callW glob scl T (k + 2))) [1] false) cNil)))))) (sSeq (sRaise1 18 (cCon .non)) sPass) sPass [.str [a, b], .undef] R) (fun _ _ => False) (.mk (fun _ _ => False) (fun _ _ => False) (fun _ _ => False) (fun c f _ R1 => c = 18 ∧ f = .non ∧ R1 = R)) := fun a b hab => by
    have ec := of_hex_comp (callW glob scl T (k + 2)) [a, b] (by rw [line_eq]; simp) R
    have ea := p_all (R := R) isHx [a, b]
    have hall : [a, b].all isHx = false := by
      rcases hab with h | h <;> simp [h]
    rw [hall] at ea
    have hm : modD (.int (2 : Int)) (.int 2) R = some (.int 0, R) := p_mod (by omega)
    have hln : lenD [.str [a, b]] R = some (.int 2, R) := p_len_str (by rw [line_eq]; simp)
    have hs := isi_ss (t := [a, b]) (R := R)
    generalize ([a, b].map fun c => D.bl (isHx c)) = us at ec ea
    generalize [a, b] = t at ec hs hln
    simp -implicitDefEqProofs [hs, hln, hm, ec, ea]
  rcases hx with rfl | rfl | rfl | rfl | rfl | rfl
  · have hm : modD (.int (1 : Int)) (.int 2) R = some (.int 1, R) := p_mod (by omega)
    have hln : lenD [.str [48]] R = some (.int 1, R) := p_len_str (by rw [line_eq]; simp)
    simp -implicitDefEqProofs [hln, hm]
    rfl
  · rw [ws_seq]
    exact wpS_mono (two 48 71 (.inl (by decide))) (fun _ _ h => h.elim) (fun _ _ h => h.elim) (fun _ _ h => h.elim) (fun _ _ h => h.elim) (fun c f s R1 ⟨h1, h2, h3⟩ => ⟨by rw [h2]; simp, by rw [h2]; rfl, by rw [h3]; simp, h1, h2, trivial⟩)
  · rw [ws_seq]
    exact wpS_mono (two 65 66 (.inl (by decide))) (fun _ _ h => h.elim) (fun _ _ h => h.elim) (fun _ _ h => h.elim) (fun _ _ h => h.elim) (fun c f s R1 ⟨h1, h2, h3⟩ => ⟨by rw [h2]; simp, by rw [h2]; rfl, by rw [h3]; simp, h1, h2, trivial⟩)
  · have hs : isiD [.non, .ty "str"] R = some (.bl false, R) := isi_of (t := "NoneType") rfl (by decide +kernel)
    simp -implicitDefEqProofs [hs]
    rfl
  · have hs : isiD [.int 5, .ty "str"] R = some (.bl false, R) := isi_of (t := "int") rfl (by decide +kernel)
    simp -implicitDefEqProofs [hs]
    rfl
  · rw [ws_seq]
    exact wpS_mono (two 32 48 (.inr (by decide))) (fun _ _ h => h.elim) (fun _ _ h => h.elim) (fun _ _ h => h.elim) (fun _ _ h => h.elim) (fun c f s R1 ⟨h1, h2, h3⟩ => ⟨by rw [h2]; simp, by rw [h2]; rfl, by rw [h3]; simp, h1, h2, trivial⟩)
/-! ### packed -/
theorem hexL_by : ∀ {bs : List Nat}, Byts bs → hexL (byU bs) = hexT bs
  | [], _ => rfl
  | b :: bs, h => by
    have hb := h b List.mem_cons_self
    have ih := hexL_by (bs := bs) fun x hx => h x (List.mem_cons_of_mem _ hx)
    have e1 : hexL (byU (b :: bs)) = Builtin.Bytes.hexDigit ((((b.toUInt8).toNat : Nat) : Int).toNat / 16) :: Builtin.Bytes.hexDigit ((((b.toUInt8).toNat : Nat) : Int).toNat % 16) :: hexL (byU bs) := by
      unfold hexL byU
      rfl
    have e2 : (((b.toUInt8).toNat : Nat) : Int).toNat = b := by simp; omega
    rw [e1, e2, ih, digit_facts (b / 16) (by omega), digit_facts (b % 16) (by omega)]
    rfl
theorem wds_idx (i : Nat) (hi : i ≤ 4) (R : Rg) : idxK u_WORDS [.str (WDS.getD i [])] R = some (.int (i : Int), R) := by
  match i, hi with
  | 0, _ => rfl
  | 1, _ => rfl
  | 2, _ => rfl
  | 3, _ => rfl
  | 4, _ => rfl
theorem lst_idx (i : Nat) (hi : i ≤ 4) (R : Rg) : indexD (.lst [.str [119, 114, 105, 116, 101], .str [114, 101, 97, 100], .str [116, 97, 107, 101], .str [102, 114, 101, 101], .str [103, 111, 110, 101]]) [.str (WDS.getD i [])] R = some (.int (i : Int), R) := by
  have go : ∀ j : Nat, idxL [D.str [119, 114, 105, 116, 101], .str [114, 101, 97, 100], .str [116, 97, 107, 101], .str [102, 114, 101, 101], .str [103, 111, 110, 101]] (.str (WDS.getD i [])) = some j → ((WDS.getD i []).all fun c => decide (c < 1114112)) = true → indexD (.lst [.str [119, 114, 105, 116, 101], .str [114, 101, 97, 100], .str [116, 97, 107, 101], .str [102, 114, 101, 101], .str [103, 111, 110, 101]]) [.str (WDS.getD i [])] R = some (.int (j : Int), R) := fun j h hc => by
    show (match snapD R (.lst [D.str [119, 114, 105, 116, 101], .str [114, 101, 97, 100], .str [116, 97, 107, 101], .str [102, 114, 101, 101], .str [103, 111, 110, 101]]), snapD R (.str (WDS.getD i [])) with
      | some (.lst xs), some b => if eqOks 11 xs = true ∧ eqOk 12 b = true then (idxL xs b).map fun j => (D.int (j : Nat), R) else none
      | _, _ => none) = _
    rw [snap_pure (show pureD (.lst [D.str [119, 114, 105, 116, 101], .str [114, 101, 97, 100], .str [116, 97, 107, 101], .str [102, 114, 101, 101], .str [103, 111, 110, 101]]) = true from rfl), snap_pure (show pureD (.str (WDS.getD i [])) = true from rfl)]
    have h1 : eqOks 11 [D.str [119, 114, 105, 116, 101], .str [114, 101, 97, 100], .str [116, 97, 107, 101], .str [102, 114, 101, 101], .str [103, 111, 110, 101]] = true ∧ eqOk 12 (.str (WDS.getD i [])) = true := ⟨by simp [eqOk, eqOks], ok_str hc⟩
    simp only [if_pos h1, h]
    rfl
  match i, hi with
  | 0, _ => exact go 0 (by simp [idxL, WDS]) (by decide)
  | 1, _ => exact go 1 (by simp [idxL, WDS]) (by decide)
  | 2, _ => exact go 2 (by simp [idxL, WDS]) (by decide)
  | 3, _ => exact go 3 (by simp [idxL, WDS]) (by decide)
  | 4, _ => exact go 4 (by simp [idxL, WDS]) (by decide)
theorem mul8 (i : Nat) (R : Rg) : mulD false (.int 8) (.int (i : Int)) R = some (.int (8 * (i : Int)), R) := p_mul (by unfold mulOk smallI; simp)
theorem sl_two {a : SE} {s : List D} {R : Rg} {x y : D} {xs : List D} (h : a s R = .ok (.tup (x :: y :: xs)) R) : cSl false a (some (cCon (.int 2))) none s R = .ok (.tup xs) R := by
  unfold cSl
  rw [h]
  show lift (some (D.tup (Om.cutD (x :: y :: xs) (some 2) none), R)) = _
  rw [show (2 : Int) = ((2 : Nat) : Int) from rfl, cut_from]
  rfl
theorem nums_snoc (es : List Evt) (e : Evt) : numsE (es ++ [e]) = numsE es ++ numE e := by simp [numsE]
theorem ints_e (bs : List Nat) : intsOf (bs.map encN1) = some (bs.map fun b : Nat => (b : Int)) := ints_map (fun b : Nat => (b : Int)) bs
theorem bytesD_ref {R : Rg} {r : Nat} {bs : List Nat} (h : R[r]? = some (.lst (bs.map encN1))) (hb : Byts bs) : bytesD [.ref r] R = some (.byt (byU bs), R) := by
  have e1 : (lstOf R (.ref r)).bind intsOf = some (bs.map fun b : Nat => (b : Int)) := by rw [lst_ref h, Option.bind_some, ints_e]
  show (match (lstOf R (.ref r)).bind intsOf with
    | some ns => if okB ns = true then some (D.byt (bytL ns), R) else none
    | none => none) = _
  rw [e1]
  have hok : okB (bs.map fun b : Nat => (b : Int)) = true := List.all_eq_true.mpr fun n hn => by
    obtain ⟨b, hbm, rfl⟩ := List.mem_map.mp hn
    have := hb b hbm
    exact decide_eq_true ⟨by omega, by omega⟩
  show (if okB (bs.map fun b : Nat => (b : Int)) = true then some (D.byt (bytL (bs.map fun b : Nat => (b : Int))), R) else none) = _
  rw [if_pos hok]
  unfold bytL byU
  rw [List.map_map]
  rfl
theorem ext_ref {R : Rg} {i j : Nat} {xs ys : List D} (h1 : R[i]? = some (.lst xs)) (h2 : R[j]? = some (.lst ys)) (hl : xs.length + ys.length ≤ LINE) : extendD (.ref i) [.ref j] R = some (.non, R.set i (.lst (xs ++ ys))) := by
  show (match R[i]?, R[j]? with
    | some (.lst xs), some (.lst ys) => if xs.length + ys.length ≤ LINE then some (D.non, R.set i (.lst (xs ++ ys))) else none
    | _, _ => none) = _
  rw [h1, h2]
  exact if_pos hl
theorem q_packed (k : Nat) (es : List Evt) (st : Lk) (he : ∀ e ∈ es, okE e = true) (hr : runP es = some st) (hl : es.length ≤ 200) (R : Rg) : callF glob scl T (k + 6) "packed" [.lst (es.map encE)] R = .ok (.byt (byU (numsE es))) R := by
  rw [c_packed (k + 3) _ R rfl, finM_f]
  refine eq_of_wp (wp_fin ?_)
  simp only [m_packed]
  have hck : callW glob scl T (k + 5) "check_history" [.lst (es.map encE), .int 200] R = .ok .non R := by
    rw [w_check_history]
    exact q_check k es st he hr hl R
  generalize callW glob scl T (k + 5) = call at hck
  generalize hb : m_packed_b1 call = body
  simp -implicitDefEqProofs [hck]
  refine ws_for (enc := encE) (R1 := R ++ [.lst []]) es (by simp -implicitDefEqProofs) (by have := line_fuel; rw [line_eq] at this; omega)
    (fun done s R1 => ∃ y2, s = [.lst (es.map encE), .ref R.length, y2] ∧ R1[R.length]? = some (.lst ((numsE done).map encN1)) ∧ R1.take R.length = R ∧ R.length ≤ R1.length) ?_ ?_ ?_
  · exact ⟨_, rfl, by simp [numsE], by simp, by simp⟩
  · rintro done e rest e0 _ R1 ⟨y2, rfl, h1, h2, h3⟩
    have hem : e ∈ es := by rw [e0]; simp
    have hke := he e hem
    obtain ⟨i, vs, hi, ht, hee, hle, hn, hvl⟩ := numE_shape hke
    have hdl : done.length ≤ 200 := by
      have := congrArg List.length e0
      rw [List.length_append] at this
      omega
    have hdn := (nums_len (es := done) fun x hx => he x (by rw [e0]; exact List.mem_append_left _ hx)).2
    have hb2 : (bds i).length ≤ 2 := by
      unfold bds
      split
      · simp
      · split <;> simp
    have hvar : encE e = .tup (.str (WDS.getD i []) :: .int (e.t : Int) :: vs.map encN1) := by rw [hee]; rfl
    have hix := wds_idx i hi R1
    have hap := app_ref (x := .int (8 * (i : Int) + (e.t : Int))) h1 (by rw [List.length_map, line_eq]; omega)
    have j0 := isT_lst h1
    have h4 := nth_self (o := .lst ((numsE done).map encN1 ++ [.int (8 * (i : Int) + (e.t : Int))])) h1
    have h5 : (R1.set R.length (.lst ((numsE done).map encN1 ++ [.int (8 * (i : Int) + (e.t : Int))]))).take R.length = R := take_setN (Nat.le_refl _) h2
    have h6 : (R1.set R.length (.lst ((numsE done).map encN1 ++ [.int (8 * (i : Int) + (e.t : Int))]))).length = R1.length := List.length_set ..
    generalize R1.set R.length (.lst ((numsE done).map encN1 ++ [.int (8 * (i : Int) + (e.t : Int))])) = R2 at hap h4 h5 h6
    have j2 := isT_lst h4
    have hsl := sl_two (a := cVar 2) (s := [.lst (es.map encE), .ref R.length, .tup (.str (WDS.getD i []) :: .int (e.t : Int) :: vs.map encN1)]) (R := R2) (x := .str (WDS.getD i [])) (y := .int (e.t : Int)) (xs := vs.map encN1) (v_tup rfl)
    have hlx : listX true [.tup (vs.map encN1)] R2 = some (.ref R2.length, R2 ++ [.lst (vs.map encN1)]) := by
      show mkL true (vs.map encN1) R2 = _
      exact mkL_new (by rw [List.length_map, line_eq]; omega)
    have hex := ext_ref (R := R2 ++ [.lst (vs.map encN1)]) (i := R.length) (j := R2.length) (nth_app h4) at_end (by rw [List.length_append, List.length_map, List.length_map, line_eq]; simp; omega)
    have hfin : (numsE done).map encN1 ++ [D.int (8 * (i : Int) + (e.t : Int))] ++ vs.map encN1 = (numsE (done ++ [e])).map encN1 := by
      rw [nums_snoc, hn, List.map_append, List.append_assoc]
      rfl
    have h7 := nth_self (o := .lst ((numsE done).map encN1 ++ [D.int (8 * (i : Int) + (e.t : Int))] ++ vs.map encN1)) (nth_app (T := [.lst (vs.map encN1)]) h4)
    have h8 : ((R2 ++ [O.lst (vs.map encN1)]).set R.length (.lst ((numsE done).map encN1 ++ [D.int (8 * (i : Int) + (e.t : Int))] ++ vs.map encN1))).take R.length = R := take_setN (Nat.le_refl _) (take_app (by omega) h5)
    have h9 : R.length ≤ ((R2 ++ [O.lst (vs.map encN1)]).set R.length (.lst ((numsE done).map encN1 ++ [D.int (8 * (i : Int) + (e.t : Int))] ++ vs.map encN1))).length := by rw [List.length_set, List.length_append]; omega
    rw [hfin] at h7 h8 h9 hex
    generalize (R2 ++ [O.lst (vs.map encN1)]).set R.length (.lst ((numsE (done ++ [e])).map encN1)) = R3 at h7 h8 h9 hex
    have m8 := mul8 i R1
    generalize hW : WDS.getD i [] = w at hvar hix hsl
    generalize vs.map encN1 = us at hvar hsl hlx hex
    have hbd : m_packed_b1 call [.lst (es.map encE), .ref R.length, encE e] R1 = .nx [.lst (es.map encE), .ref R.length, encE e] R3 := by
      rw [hvar]
      generalize es.map encE = ev at hsl
      simp only [m_packed_b1]
      simp -implicitDefEqProofs [a_seq, j0, hix, m8, hap, j2, hsl, hlx, hex]
    rw [hb] at hbd
    simp -implicitDefEqProofs
    rw [hbd]
    simp -implicitDefEqProofs
    exact ⟨h7, h8, h9⟩
  · rintro _ R1 ⟨y2, rfl, h1, h2, h3⟩
    have hby := bytesD_ref h1 (nums_byts he)
    generalize es.map encE = ev
    simp -implicitDefEqProofs [hby]
    first | exact ⟨frz_pure rfl, h2⟩ | exact ⟨_, frz_pure rfl, rfl, h2⟩ | trace_state
theorem q_hexed (k : Nat) (es : List Evt) (st : Lk) (he : ∀ e ∈ es, okE e = true) (hr : runP es = some st) (hl : es.length ≤ 200) (R : Rg) : callF glob scl T (k + 7) "hexed" [.lst (es.map encE)] R = .ok (.str (hexT (numsE es))) R := by
  rw [c_hexed (k + 4) _ R rfl, finM_f]
  refine eq_of_wp (wp_fin ?_)
  simp only [m_hexed]
  have hp : callW glob scl T (k + 6) "packed" [.lst (es.map encE)] R = .ok (.byt (byU (numsE es))) R := by
    rw [w_packed]
    exact q_packed k es st he hr hl R
  have hlen : (byU (numsE es)).length ≤ 8388608 := by
    unfold byU
    rw [List.length_map]
    have := (nums_len he).2
    omega
  have hx : hexM (.byt (byU (numsE es))) [] R = some (.str (hexT (numsE es)), R) := by
    show (if (byU (numsE es)).length ≤ 8388608 then some (D.str (hexL (byU (numsE es))), R) else none) = _
    rw [if_pos hlen, hexL_by (nums_byts he)]
  have i3 : isT 3 (.byt (byU (numsE es))) R = true := rfl
  generalize callW glob scl T (k + 6) = call at hp
  generalize es.map encE = ev at hp ⊢
  generalize byU (numsE es) = bb at hp hx i3
  simp -implicitDefEqProofs [hp, i3, hx]
  exact frz_pure rfl
theorem q_numbers_of (k : Nat) (es : List Evt) (he : ∀ e ∈ es, okE e = true) (hl : es.length ≤ 200) (R : Rg) : callF glob scl T (k + 3) "_law_numbers_of" [.lst (es.map encE)] R = .ok (.lst ((numsE es).map encN1)) R := by
  rw [c__law_numbers_of k _ R rfl, finM_f]
  refine eq_of_wp (wp_fin ?_)
  simp only [m__law_numbers_of]
  generalize callW glob scl T (k + 2) = call
  generalize hb : m__law_numbers_of_b1 call = body
  simp -implicitDefEqProofs
  refine ws_for (enc := encE) (R1 := R ++ [.lst []]) es (by simp -implicitDefEqProofs) (by have := line_fuel; rw [line_eq] at this; omega)
    (fun done s R1 => ∃ (q : Nat) (y2 : D), s = [.lst (es.map encE), .ref q, y2] ∧ R.length ≤ q ∧ R1[q]? = some (.lst ((numsE done).map encN1)) ∧ R1.take R.length = R ∧ R.length ≤ R1.length) ?_ ?_ ?_
  · exact ⟨R.length, _, rfl, Nat.le_refl _, by simp [numsE], by simp, by simp⟩
  · rintro done e rest e0 _ R1 ⟨q, y2, rfl, hq, h1, h2, h3⟩
    have hem : e ∈ es := by rw [e0]; simp
    have hke := he e hem
    obtain ⟨i, vs, hi, ht, hee, hle, hn, hvl⟩ := numE_shape hke
    have hdl : done.length ≤ 200 := by
      have := congrArg List.length e0
      rw [List.length_append] at this
      omega
    have hdn := (nums_len (es := done) fun x hx => he x (by rw [e0]; exact List.mem_append_left _ hx)).2
    have hb2 : (bds i).length ≤ 2 := by
      unfold bds
      split
      · simp
      · split <;> simp
    have hvar : encE e = .tup (.str (WDS.getD i []) :: .int (e.t : Int) :: vs.map encN1) := by rw [hee]; rfl
    have hix := lst_idx i hi R1
    have hap := app_ref (x := .int (8 * (i : Int) + (e.t : Int))) h1 (by rw [List.length_map, line_eq]; omega)
    have j0 := isT_lst h1
    have h4 := nth_self (o := .lst ((numsE done).map encN1 ++ [.int (8 * (i : Int) + (e.t : Int))])) h1
    have h5 : (R1.set q (.lst ((numsE done).map encN1 ++ [.int (8 * (i : Int) + (e.t : Int))]))).take R.length = R := take_setN hq h2
    have h6 : (R1.set q (.lst ((numsE done).map encN1 ++ [.int (8 * (i : Int) + (e.t : Int))]))).length = R1.length := List.length_set ..
    generalize R1.set q (.lst ((numsE done).map encN1 ++ [.int (8 * (i : Int) + (e.t : Int))])) = R2 at hap h4 h5 h6
    have hsl := sl_two (a := cVar 2) (s := [.lst (es.map encE), .ref q, .tup (.str (WDS.getD i []) :: .int (e.t : Int) :: vs.map encN1)]) (R := R2) (x := .str (WDS.getD i [])) (y := .int (e.t : Int)) (xs := vs.map encN1) (v_tup rfl)
    have hlx : listX false [.tup (vs.map encN1)] R2 = some (.lst (vs.map encN1), R2) := by
      show mkL false (vs.map encN1) R2 = _
      exact mkL_old (by rw [List.length_map, line_eq]; omega)
    have hadd := add_lst (t := true) (R := R2) (x := .ref q) (y := .lst (vs.map encN1)) (lst_ref h4) rfl
    have hfin : (numsE done).map encN1 ++ [D.int (8 * (i : Int) + (e.t : Int))] ++ vs.map encN1 = (numsE (done ++ [e])).map encN1 := by
      rw [nums_snoc, hn, List.map_append, List.append_assoc]
      rfl
    rw [hfin, mkL_new (by rw [List.length_map, nums_snoc, List.length_append, hn, line_eq]; simp; omega)] at hadd
    have m8 := mul8 i R1
    have i0 : ∀ xs, isT 0 (.lst xs) R1 = true := fun xs => rfl
    generalize hW : WDS.getD i [] = w at hvar hix hsl
    generalize hNN : (numsE (done ++ [e])).map encN1 = nn at hadd
    generalize vs.map encN1 = us at hvar hsl hlx hadd
    have hbd : m__law_numbers_of_b1 call [.lst (es.map encE), .ref q, encE e] R1 = .nx [.lst (es.map encE), .ref R2.length, encE e] (R2 ++ [.lst nn]) := by
      rw [hvar]
      generalize es.map encE = ev at hsl
      simp only [m__law_numbers_of_b1]
      simp -implicitDefEqProofs [a_seq, j0, i0, hix, m8, hap, hsl, hlx, hadd]
    rw [hb] at hbd
    simp -implicitDefEqProofs
    rw [hbd]
    simp -implicitDefEqProofs
    exact ⟨by omega, by rw [List.take_append_of_le_length (by omega)]; exact h5, by omega⟩
  · rintro _ R1 ⟨q, y2, rfl, hq, h1, h2, h3⟩
    generalize es.map encE = ev
    simp -implicitDefEqProofs
    first | exact ⟨frz_lst hq (by have := (List.getElem?_eq_some_iff.mp h1).1; omega) h1 (pure_ns _), h2⟩ | exact ⟨_, frz_lst hq (by have := (List.getElem?_eq_some_iff.mp h1).1; omega) h1 (pure_ns _), rfl, h2⟩
end Lw
namespace Lw
open PySem PySem.Spec PyProof.Rows L2 RZ Om
/-! ### bytes bent -/
structure OkN (bs : List Nat) (n : Nat) : Prop where
  l : bs.length ≤ n
  e : Byts bs
theorem okN_app {xs ys : List Nat} {m n : Nat} (h1 : OkN xs m) (h2 : OkN ys n) : OkN (xs ++ ys) (m + n) := ⟨by rw [List.length_append]; exact Nat.add_le_add h1.l h2.l, fun y hy => by
  rcases List.mem_append.mp hy with h | h
  · exact h1.e y h
  · exact h2.e y h⟩
theorem okN_cut {xs : List Nat} {n : Nat} (h : OkN xs n) (i j : Nat) : OkN ((xs.drop i).take j) n := ⟨by rw [List.length_take, List.length_drop]; have := h.l; omega, fun y hy => h.e y (List.mem_of_mem_drop (List.mem_of_mem_take hy))⟩
theorem cut_mapN (ys : List Nat) (lo hi : Option Int) : ∃ i j, Om.cutD (ys.map encN1) lo hi = ((ys.drop i).take j).map encN1 := ⟨_, _, by unfold Om.cutD; rw [List.map_take, List.map_drop]⟩
theorem part_some {m : SE} {s : List D} {R : Rg} {i : Int} (hm : m s R = .ok (.int i) R) : cPart (some m) s R = .ok (some i) R := by
  show ((m s R).bind fun d R1 => match d with
    | .int i => .ok (some i) R1
    | _ => .err) = _
  rw [hm]
  rfl
theorem part_none {s : List D} {R : Rg} : cPart none s R = .ok none R := rfl
theorem sl_anyN {a : SE} {lo hi : Option SE} {s : List D} {R : Rg} {ys : List Nat} {l h : Option Int} {n : Nat} (e : a s R = .ok (.lst (ys.map encN1)) R) (h1 : cPart lo s R = .ok l R) (h2 : cPart hi s R = .ok h R) (hn : OkN ys n) (hl : n ≤ 1000) : ∃ zs, cSl false a lo hi s R = .ok (.lst (zs.map encN1)) R ∧ OkN zs n := by
  obtain ⟨p, q, e2⟩ := cut_mapN ys l h
  refine ⟨_, ?_, okN_cut hn p q⟩
  unfold cSl
  rw [e, Res.bind_ok, h1, Res.bind_ok, h2, Res.bind_ok]
  show lift (mkL false (Om.cutD (ys.map encN1) l h) R) = _
  rw [e2, mkL_old (by rw [List.length_map]; have := (okN_cut hn p q).l; rw [line_eq]; omega)]
  rfl
theorem add_nums {xs ys : List Nat} {m n : Nat} (h1 : OkN xs m) (h2 : OkN ys n) (hl : m + n ≤ 1000) (R : Rg) : addD false (.lst (xs.map encN1)) (.lst (ys.map encN1)) R = some (.lst ((xs ++ ys).map encN1), R) := by
  rw [add_lst (x := .lst (xs.map encN1)) (y := .lst (ys.map encN1)) rfl rfl, ← List.map_append, mkL_old (by rw [List.length_map]; have := (okN_app h1 h2).l; rw [line_eq]; omega)]
theorem six_ix (c i : Int) (R : Rg) : ∃ b : Nat, ixD (.lst [.int (c % 256), .int 40, .int 14, .int 16, .int 0, .int 100]) (.int (i % 6)) R = some (.int (b : Int), R) ∧ OkN [b] 1 := by
  have h0 := Int.emod_nonneg i (show (6 : Int) ≠ 0 by omega)
  have h1 := Int.emod_lt_of_pos i (show (0 : Int) < 6 by omega)
  have c0 := Int.emod_nonneg c (show (256 : Int) ≠ 0 by omega)
  have c1 := Int.emod_lt_of_pos c (show (0 : Int) < 256 by omega)
  obtain ⟨j, hj⟩ : ∃ j : Nat, i % 6 = j := ⟨(i % 6).toNat, by omega⟩
  obtain ⟨b, hb⟩ : ∃ b : Nat, c % 256 = b := ⟨(c % 256).toNat, by omega⟩
  rw [hj, hb]
  have one : ∀ b : Nat, b < 256 → OkN [b] 1 := fun b h => ⟨by simp, fun y hy => by rw [List.mem_singleton] at hy; omega⟩
  have hjl : j < 6 := by omega
  match j, hjl with
  | 0, _ => exact ⟨b, ix_lst (n := 0) rfl, one b (by omega)⟩
  | 1, _ => exact ⟨40, ix_lst (n := 1) rfl, one 40 (by omega)⟩
  | 2, _ => exact ⟨14, ix_lst (n := 2) rfl, one 14 (by omega)⟩
  | 3, _ => exact ⟨16, ix_lst (n := 3) rfl, one 16 (by omega)⟩
  | 4, _ => exact ⟨0, ix_lst (n := 4) rfl, one 0 (by omega)⟩
  | 5, _ => exact ⟨100, ix_lst (n := 5) rfl, one 100 (by omega)⟩
theorem q_law_bent (k : Nat) (cell : Int) (rows : List Nat) (hr : OkN rows 100) (R : Rg) : ∃ ys, callF glob scl T (k + 3) "_law_bent" [.int cell, .lst (rows.map encN1)] R = .ok (.lst (ys.map encN1)) R ∧ OkN ys 1000 := by
  rw [c__law_bent k _ R rfl, finM_f]
  suffices h : wpR (fin false R (m__law_bent (callW glob scl T (k + 2)) ([.int cell, .lst (rows.map encN1)] ++ List.replicate 2 .undef) R)) (fun d R1 => R1 = R ∧ ∃ ys, d = .lst (ys.map encN1) ∧ OkN ys 1000) noE by
    obtain ⟨d, R1, e, h1, ys, rfl, h2⟩ := ex_of_wp h
    have h1 : R1 = R := h1
    subst h1
    exact ⟨ys, e, h2⟩
  refine wp_fin ?_
  simp only [m__law_bent]
  generalize callW glob scl T (k + 2) = call
  have hlen := hr.l
  have d8 := p_fdiv (R := R) (i := cell) (show divOk 8 = true by decide +kernel)
  have d5000 := p_fdiv (R := R) (i := cell) (show divOk 5000 = true by decide +kernel)
  have d700 := p_fdiv (R := R) (i := cell) (show divOk 700 = true by decide +kernel)
  have m1 : modD (.int (cell / 8)) (.int ((rows.length : Int) + 1)) R = some (.int (cell / 8 % ((rows.length : Int) + 1)), R) := p_mod (by omega)
  have m8 := p_mod (R := R) (i := cell) (j := 8) (by omega)
  have m2 := p_mod (R := R) (i := cell) (j := 2) (by omega)
  have m256 := p_mod (R := R) (i := cell / 5000) (j := 256) (by omega)
  have m6 := p_mod (R := R) (i := cell / 700) (j := 6) (by omega)
  obtain ⟨b, ob, okb⟩ := six_ix (cell / 5000) (cell / 700) R
  generalize cell / 8 % ((rows.length : Int) + 1) = a at m1
  have v1 : ∀ x2 x3 : D, cVar 1 [.int cell, .lst (rows.map encN1), x2, x3] R = .ok (.lst (rows.map encN1)) R := fun x2 x3 => v_lst rfl
  have v2 : ∀ x3 : D, cVar 2 [.int cell, .lst (rows.map encN1), .int a, x3] R = .ok (.int a) R := fun x3 => v_int rfl
  have p2 : cOp2 (addD false) (cVar 2) (cOp2 modD (cVar 0) (cCon (.int 2))) [.int cell, .lst (rows.map encN1), .int a, .int (b : Int)] R = .ok (.int (a + cell % 2)) R := by simp -implicitDefEqProofs [m2]
  have p1 : cOp2 (addD false) (cVar 2) (cCon (.int 1)) [.int cell, .lst (rows.map encN1), .int a, .int (b : Int)] R = .ok (.int (a + 1)) R := by simp -implicitDefEqProofs
  have p3 : cOp2 (addD false) (cVar 2) (cCon (.int 2)) [.int cell, .lst (rows.map encN1), .int a, .int (b : Int)] R = .ok (.int (a + 2)) R := by simp -implicitDefEqProofs
  obtain ⟨z1, s1, k1⟩ := sl_anyN (lo := none) (hi := some (cVar 2)) (s := [.int cell, .lst (rows.map encN1), .int a, .int (b : Int)]) (v1 _ _) part_none (part_some (v2 _)) hr (by omega)
  obtain ⟨z2, s2, k2⟩ := sl_anyN (hi := none) (s := [.int cell, .lst (rows.map encN1), .int a, .int (b : Int)]) (v1 _ _) (part_some p2) part_none hr (by omega)
  obtain ⟨z3, s3, k3⟩ := sl_anyN (hi := none) (s := [.int cell, .lst (rows.map encN1), .int a, .int (b : Int)]) (v1 _ _) (part_some p1) part_none hr (by omega)
  obtain ⟨z4, s4, k4⟩ := sl_anyN (s := [.int cell, .lst (rows.map encN1), .int a, .int (b : Int)]) (v1 _ _) (part_some (v2 _)) (part_some p3) hr (by omega)
  obtain ⟨z5, s5, k5⟩ := sl_anyN (hi := none) (s := [.int cell, .lst (rows.map encN1), .int a, .int (b : Int)]) (v1 _ _) (part_some p3) part_none hr (by omega)
  have k4r : OkN z4.reverse 100 := ⟨by rw [List.length_reverse]; exact k4.l, fun y hy => k4.e y (List.mem_reverse.mp hy)⟩
  have a1 := add_nums k1 okb (by omega) R
  have a2 := add_nums (okN_app k1 okb) k2 (by omega) R
  have a3 := add_nums k1 k3 (by omega) R
  have a7 : mkL false (z4.map encN1).reverse R = some (.lst (z4.reverse.map encN1), R) := by
    rw [← List.map_reverse, mkL_old (by rw [List.length_map, List.length_reverse, line_eq]; have := k4.l; omega)]
  have a5 := add_nums k1 k4r (by omega) R
  have a6 := add_nums (okN_app k1 k4r) k5 (by omega) R
  have b1 := okN_app (okN_app k1 okb) k2
  have b2 := okN_app k1 k3
  have b3 := okN_app (okN_app k1 k4r) k5
  have fz : ∀ ys : List Nat, frzN R.length R.length R FZ (.lst (ys.map encN1)) = some (.lst (ys.map encN1)) := fun ys => frz_pure (by rw [pure_lst]; exact pure_ns ys)
  have e1 : ([b].map encN1) = [.int (b : Int)] := rfl
  rw [e1] at a1
  generalize hq1 : (z1 ++ [b]).map encN1 = q1 at a1 a2
  generalize hf1 : (z1 ++ [b] ++ z2).map encN1 = f1 at a2
  generalize hf2 : (z1 ++ z3).map encN1 = f2 at a3
  generalize hf3 : (z1 ++ z4.reverse ++ z5).map encN1 = f3 at a6
  generalize hq5 : (z1 ++ z4.reverse).map encN1 = q5 at a5 a6
  generalize hq4 : z4.reverse.map encN1 = q4 at a7 a5
  by_cases c1 : cell % 8 < 3
  · simp -implicitDefEqProofs [d8, m1, d5000, m256, d700, m6, ob, m8, c1, s1, a1, s2, a2]
    exact ⟨_, by rw [← hf1]; exact fz _, _, rfl, ⟨by have := b1.l; omega, b1.e⟩⟩
  · by_cases c2 : cell % 8 = 3
    · simp -implicitDefEqProofs [d8, m1, d5000, m256, d700, m6, ob, m8, c1, c2, s1, s3, a3]
      exact ⟨_, by rw [← hf2]; exact fz _, _, rfl, ⟨by have := b2.l; omega, b2.e⟩⟩
    · by_cases c3 : cell % 8 = 4
      · simp -implicitDefEqProofs [d8, m1, d5000, m256, d700, m6, ob, m8, c1, c2, c3, s1]
        exact ⟨_, fz _, _, rfl, ⟨by have := k1.l; omega, k1.e⟩⟩
      · simp -implicitDefEqProofs [d8, m1, d5000, m256, d700, m6, ob, m8, c1, c2, c3, s1, s4, a7, a5, s5, a6]
        exact ⟨_, by rw [← hf3]; exact fz _, _, rfl, ⟨by have := b3.l; omega, b3.e⟩⟩
end Lw
namespace Lw
open PySem PySem.Spec PyProof.Rows L2 RZ Om
/-! ### the law -/
structure Cl (ns : List Int) (call : Str → SF) : Prop where
  cell : ∀ (i : Int) (R : Rg), 0 ≤ i → i < 1000 → ∃ n, call "_law_cell_at" [.lst (ns.map .int), .int i] R = .ok (.int n) R
  draws : ∀ (a : Int) (R : Rg), 0 ≤ a → a < 1000 → ∃ ys : List Int, call "_law_draws" [.lst (ns.map .int), .int a, .int 13] R = .ok (.ref R.length) (R ++ [.lst (ys.map .int)])
  hist : ∀ (R : Rg) (xs : List Int), ∃ (es : List Evt) (ys : List Int) (st : Lk), call "_law_history" [.ref R.length, .int 14] (R ++ [.lst (xs.map .int)]) = .ok (.lst (es.map encE)) (R ++ [.lst (ys.map .int)]) ∧ runP es = some st ∧ (∀ e ∈ es, okE e = true) ∧ es.length ≤ 14
  nums : ∀ (es : List Evt) (R : Rg), (∀ e ∈ es, okE e = true) → es.length ≤ 200 → call "_law_numbers_of" [.lst (es.map encE)] R = .ok (.lst ((numsE es).map encN1)) R
  pack : ∀ (es : List Evt) (st : Lk) (R : Rg), (∀ e ∈ es, okE e = true) → runP es = some st → es.length ≤ 200 → call "packed" [.lst (es.map encE)] R = .ok (.byt (byU (numsE es))) R
  hexd : ∀ (es : List Evt) (st : Lk) (R : Rg), (∀ e ∈ es, okE e = true) → runP es = some st → es.length ≤ 200 → call "hexed" [.lst (es.map encE)] R = .ok (.str (hexT (numsE es))) R
  lhex : ∀ (bs : List Nat) (R : Rg), Byts bs → bs.length ≤ 1000000 → call "_law_hexed" [.lst (bs.map encN1)] R = .ok (.str (hexT bs)) R
  unp : ∀ (bs : List Nat) (R : Rg), Byts bs → bs.length ≤ 1000000 → wpR (call "unpacked" [.byt (byU bs)] R) (fun d R1 => R1 = R ∧ ∃ f, dueB bs = .inr f ∧ d = .lst (f.map encE) ∧ ∀ e ∈ f, okE e = true) (fun c x R1 => c = 18 ∧ R1 = R ∧ ∃ k : Nat, dueB bs = .inl k ∧ x = .int (k : Int))
  jud : ∀ (bs : List Nat) (R : Rg), Byts bs → bs.length ≤ 1000000 → call "_law_judged" [.lst (bs.map encN1)] R = .ok (.bl true) R
  bent : ∀ (cell : Int) (rows : List Nat) (R : Rg), OkN rows 100 → ∃ ys, call "_law_bent" [.int cell, .lst (rows.map encN1)] R = .ok (.lst (ys.map encN1)) R ∧ OkN ys 1000
  odd : ∀ (x : D) (R : Rg), (x = .str [48] ∨ x = .str [48, 71] ∨ x = .str [65, 66] ∨ x = .non ∨ x = .int 5 ∨ x = .str [32, 48]) → call "of_hex" [x] R = .exc 18 .non R
theorem turn_body (call : Str → SF) (ns : List Int) (C : Cl ns call) (k n : Nat) (hk : k < 3) (hn : n < 4) (rows : List Nat) (hr : OkN rows 100) (R : Rg) (y2 y3 y4 y7 : D) :
    m__law_all_right_b2 call [.lst (ns.map .int), .int (k : Int), y2, y3, y4, .lst (rows.map encN1), .int (n : Int), y7] R = .nx [.lst (ns.map .int), .int (k : Int), y2, y3, y4, .lst (rows.map encN1), .int (n : Int), y7] R := by
  simp only [m__law_all_right_b2]
  have hmul : mulD false (.int 4) (.int (k : Int)) R = some (.int (4 * (k : Int)), R) := p_mul (by unfold mulOk smallI; simp)
  obtain ⟨cell, hcell⟩ := C.cell (60 + 4 * (k : Int) + n) R (by omega) (by omega)
  obtain ⟨ys, hb, hys⟩ := C.bent cell rows R hr
  have hj := C.jud ys R hys.e (by have := hys.l; omega)
  generalize ys.map encN1 = us at hb hj
  generalize rows.map encN1 = vs at hb ⊢
  simp -implicitDefEqProofs [a_seq, a_sif, hmul, hcell, hb, hj]
theorem list_by {bs : List Nat} (hb : Byts bs) (hl : bs.length ≤ 1000000) (R : Rg) : listX false [.byt (byU bs)] R = some (.lst (bs.map encN1), R) := by
  have e1 : (byU bs).length = bs.length := by unfold byU; rw [List.length_map]
  have e2 : (byU bs).map (fun c => D.int ((c.toNat : Nat) : Int)) = bs.map encN1 := by
    unfold byU
    rw [List.map_map]
    refine List.map_congr_left fun b hbm => ?_
    have := hb b hbm
    show D.int (((b.toUInt8).toNat : Nat) : Int) = D.int (b : Int)
    congr 2
    simp
    omega
  show (if (byU bs).length ≤ LINE then mkL false ((byU bs).map fun c => D.int ((c.toNat : Nat) : Int)) R else none) = _
  rw [if_pos (by rw [e1, line_eq]; omega), e2, mkL_old (by rw [List.length_map, line_eq]; omega)]
theorem hexT_code {bs : List Nat} (h : Byts bs) : ((hexT bs).all fun c => decide (c < 1114112)) = true := List.all_eq_true.mpr fun c hc => decide_eq_true (by
  have := hex_sub (hexT_ok h).1 c hc
  have lo : ∀ y, y ∈ HEXS → y < 128 := by decide
  have := lo c this
  omega)
theorem run_body (call : Str → SF) (ns : List Int) (C : Cl ns call) (k : Nat) (hk : k < 3) (R : Rg) (y2 y3 y4 y5 y6 y7 : D) :
    wpS (m__law_all_right_b3 call [.lst (ns.map .int), .int (k : Int), y2, y3, y4, y5, y6, y7] R) (fun s R1 => ∃ z3 z4 z5 z6 z7, s = [.lst (ns.map .int), .int (k : Int), y2, z3, z4, z5, z6, z7])
      (.mk (fun _ _ => False) (fun _ _ => False) (fun _ _ => False) (fun _ _ _ _ => False)) := by
  simp only [m__law_all_right_b3]
  have hmul : mulD false (.int 14) (.int (k : Int)) R = some (.int (14 * (k : Int)), R) := p_mul (by unfold mulOk smallI; simp)
  obtain ⟨xs, hd⟩ := C.draws (14 * (k : Int)) R (by omega) (by omega)
  obtain ⟨es, ys, st, hh, hrun, hok, hlen⟩ := C.hist R xs
  generalize hR2 : R ++ [O.lst (ys.map .int)] = R2 at hh
  have hby := nums_byts hok
  have hnl := (nums_len hok).2
  have hnum := C.nums es R2 hok (by omega)
  have hpk := C.pack es st R2 hok hrun (by omega)
  have hhx := C.hexd es st R2 hok hrun (by omega)
  have hlx := C.lhex (numsE es) R2 hby (by omega)
  have hjd := C.jud (numsE es) R2 hby (by omega)
  have hls := list_by hby (by omega) R2
  have hun := C.unp (numsE es) R2 hby (by omega)
  have hdue := due_backB hok hrun (by omega)
  have hok100 : OkN (numsE es) 100 := ⟨by omega, hby⟩
  have hunp : call "unpacked" [.byt (byU (numsE es))] R2 = .ok (.lst (es.map encE)) R2 := by
    cases e : call "unpacked" [.byt (byU (numsE es))] R2 with
    | err => rw [e] at hun; exact hun.run.elim
    | ok d R3 =>
      rw [e] at hun
      obtain ⟨rfl, f, h1, rfl, _⟩ := hun.run
      rw [hdue] at h1
      cases h1
      rfl
    | exc c x R3 =>
      rw [e] at hun
      obtain ⟨_, _, a, h1, _⟩ := hun.run
      rw [hdue] at h1
      cases h1
  have hx1 := (x_data (neg := true) (eqs := eqF call scl.eqs) (R := R2) (x := .lst ((numsE es).map encN1)) (y := .lst ((numsE es).map encN1)) rfl rfl).trans (p_eq (neg := true) (R := R2) (by rw [pure_lst]; exact pure_ns _) (by rw [pure_lst]; exact pure_ns _) (by show eqOks 11 _ = true; exact eqOk_ns 11 _) (by show eqOks 11 _ = true; exact eqOk_ns 11 _))
  have hx2 := x_str (R := R2) (neg := true) (eqs := eqF call scl.eqs) (hexT_code hby) (hexT_code hby)
  have hx3 := (x_data (neg := true) (eqs := eqF call scl.eqs) (R := R2) (x := .lst (es.map encE)) (y := .lst (es.map encE)) rfl rfl).trans (p_eq (neg := true) (R := R2) (x := .lst (es.map encE)) (y := .lst (es.map encE)) (by rw [pure_lst]; exact pure_evts es) (by rw [pure_lst]; exact pure_evts es) (by show eqOks 11 _ = true; exact eqOk_evts 10 hok) (by show eqOks 11 _ = true; exact eqOk_evts 10 hok))
  have tb := fun (n : Nat) (hn : n < 4) y7 => turn_body call ns C k n hk hn (numsE es) hok100 R2 y2 (.ref R.length) (.lst (es.map encE)) y7
  generalize hbd : m__law_all_right_b2 call = body at tb
  generalize hM : es.map encE = vs at hh hnum hpk hhx hunp hx3 tb
  generalize hexT (numsE es) = t at hhx hlx hx2
  generalize byU (numsE es) = bb at hpk hls hunp
  generalize (numsE es).map encN1 = us at hnum hlx hjd hls hx1 tb
  simp only [x_lst] at hx1 hx3
  simp -implicitDefEqProofs [hmul, hd, hh, hnum, hpk, hls, hx1, hhx, hlx, hx2, hunp, hx3, hjd]
  refine ws_for (enc := fun i : Nat => D.int (i : Int)) (R1 := R2) (List.range 4) (it_rng1 (n := 4) (by simp -implicitDefEqProofs) (by decide)) (by decide) (fun done s R1 => R1 = R2 ∧ ∃ z6 z7, s = [.lst (ns.map .int), .int (k : Int), y2, .ref R.length, .lst vs, .lst us, z6, z7]) ⟨rfl, _, _, rfl⟩ ?_ ?_
  · rintro done n rest e _ _ ⟨rfl, z6, z7, rfl⟩
    obtain ⟨_, hn⟩ := range_split e
    simp -implicitDefEqProofs
    rw [tb n hn z7]
    simp -implicitDefEqProofs
  · rintro _ R4 ⟨rfl, z6, z7, rfl⟩
    exact ⟨_, _, _, _, _, rfl⟩
theorem odd_body (call : Str → SF) (ns : List Int) (C : Cl ns call) (x : D) (hx : x = .str [48] ∨ x = .str [48, 71] ∨ x = .str [65, 66] ∨ x = .non ∨ x = .int 5 ∨ x = .str [32, 48]) (R : Rg) (y0 y1 y3 y4 y5 y6 y7 : D) :
    m__law_all_right_b1 call [y0, y1, x, y3, y4, y5, y6, y7] R = .nx [y0, y1, x, y3, y4, y5, y6, .undef] R := by
  have ho := C.odd x R hx
  have hu : isU x = false := by rcases hx with rfl | rfl | rfl | rfl | rfl | rfl <;> rfl
  simp only [m__law_all_right_b1]
  have hb : m__law_all_right_y1 call [y0, y1, x, y3, y4, y5, y6, y7] R = .exc 18 .non [y0, y1, x, y3, y4, y5, y6, y7] R := by
    simp only [m__law_all_right_y1]
    simp -implicitDefEqProofs [a_seq, hu, ho]
  rw [a_seq]
  unfold sTryA
  rw [hb]
  have h1 : hitR scl.xk.hits 18 18 = some true := by decide +kernel
  simp only [h1]
  rw [if_pos (by simp)]
  have h2 : exFld 18 = ("at" : Str) ∧ ownR scl.xk.rows 18 = true ∧ D.non ≠ .undef ∧ true = true := ⟨by decide +kernel, by decide +kernel, by simp, rfl⟩
  unfold sErrF
  rw [if_pos h2]
  simp -implicitDefEqProofs [a_seq, a_sif, noExc, unbind]
theorem cl_at (ns : List Int) (hl : ns.length ≤ 63) : Cl ns (callW glob scl T 28) where
  cell := fun i R h1 h2 => by rw [w__law_cell_at]; exact q_law_cell_at 25 ns i R h1 (by omega) hl
  draws := fun a R h1 h2 => by rw [w__law_draws]; exact q_law_draws 24 ns a R h1 h2 hl
  hist := fun R xs => by
    obtain ⟨d, R1, e, es, ys, st, rfl, rfl, h1, h2, h3⟩ := ex_of_wp (q_history 24 (R ++ [.lst (xs.map .int)]) R.length xs at_end)
    rw [set_end] at e
    rw [w__law_history]
    exact ⟨es, ys, st, e, h1, h2, h3⟩
  nums := fun es R h1 h2 => by rw [w__law_numbers_of]; exact q_numbers_of 25 es h1 h2 R
  pack := fun es st R h1 h2 h3 => by rw [w_packed]; exact q_packed 22 es st h1 h2 h3 R
  hexd := fun es st R h1 h2 h3 => by rw [w_hexed]; exact q_hexed 21 es st h1 h2 h3 R
  lhex := fun bs R h1 h2 => by rw [w__law_hexed]; exact q_law_hexed 25 h1 h2 R
  unp := fun bs R h1 h2 => by rw [w_unpacked]; exact q_unpacked 23 h1 h2 R
  jud := fun bs R h1 h2 => by rw [w__law_judged]; exact q_judged 21 h1 h2 R
  bent := fun cell rows R h => by rw [w__law_bent]; exact q_law_bent 25 cell rows h R
  odd := fun x R h => by rw [w_of_hex]; exact q_of_hexX 25 x R h
theorem three_rep (n : Nat) : (List.replicate n ([0, 1, 2] : List Nat)).flatten.length = n * 3 ∧ Byts (List.replicate n ([0, 1, 2] : List Nat)).flatten := by
  refine ⟨by rw [List.length_flatten, List.map_replicate, List.sum_replicate_nat]; rfl, fun b hb => ?_⟩
  obtain ⟨y, hy, hby⟩ := List.mem_flatten.mp hb
  rw [List.eq_of_mem_replicate hy] at hby
  simp at hby
  omega
theorem mul_lst3 (n : Int) (h0 : 0 ≤ n) (h1 : n < 1000) (R : Rg) : mulX false (.lst [.int 0, .int 1, .int 2]) (.int n) R = some (.lst ((List.replicate n.toNat ([0, 1, 2] : List Nat)).flatten.map encN1), R) := by
  have hr : repOk ([.int 0, .int 1, .int 2] : List D).length n = true := by
    unfold repOk
    rw [line_eq]
    simp
    omega
  have e2 : (List.replicate n.toNat ([.int 0, .int 1, .int 2] : List D)).flatten = (List.replicate n.toNat ([0, 1, 2] : List Nat)).flatten.map encN1 := by
    rw [List.map_flatten, List.map_replicate]
    rfl
  have hlen := (three_rep n.toNat).1
  show (if repOk ([.int 0, .int 1, .int 2] : List D).length n = true then mkL false ((List.replicate n.toNat ([.int 0, .int 1, .int 2] : List D)).flatten) R else none) = _
  rw [if_pos hr, e2, mkL_old (by rw [List.length_map, hlen, line_eq]; omega)]
theorem all_right (call : Str → SF) (ns : List Int) (C : Cl ns call) : wpR (fin false [] (m__law_all_right call [.lst (ns.map .int), .undef, .undef, .undef, .undef, .undef, .undef, .undef] [])) (fun d R => d = .bl true ∧ R = []) noE := by
  refine wp_fin2 ?_
  simp only [m__law_all_right]
  generalize hbd : m__law_all_right_b3 call = body
  generalize hb1 : m__law_all_right_b1 call = body1
  rw [ws_seq]
  refine ws_for (enc := fun i : Nat => D.int (i : Int)) (R1 := []) (List.range 3) (it_rng1 (n := 3) (by simp -implicitDefEqProofs) (by decide)) (by decide) (fun done s R1 => ∃ y1 y2 y3 y4 y5 y6 y7, s = [.lst (ns.map .int), y1, y2, y3, y4, y5, y6, y7]) ⟨_, _, _, _, _, _, _, rfl⟩ ?_ ?_
  · rintro done k rest e _ R1 ⟨y1, y2, y3, y4, y5, y6, y7, rfl⟩
    obtain ⟨_, hk⟩ := range_split e
    have hb := run_body call ns C k hk R1 y2 y3 y4 y5 y6 y7
    rw [hbd] at hb
    refine wp_of_eq rfl ?_
    refine wpS_mono hb ?_ (fun _ _ h => h.elim) (fun _ _ h => h.elim) (fun _ _ h => h.elim) (fun _ _ _ _ h => h.elim)
    rintro _ R4 ⟨z3, z4, z5, z6, z7, rfl⟩
    exact ⟨_, _, _, _, _, _, _, rfl⟩
  · rintro _ R1 ⟨y1, y2, y3, y4, y5, y6, y7, rfl⟩
    rw [ws_seq]
    refine ws_for (enc := fun d : D => d) (R1 := R1) [.str [48], .str [48, 71], .str [65, 66], .non, .int 5, .str [32, 48]] (by simp -implicitDefEqProofs) (by decide) (fun done s R2 => R2 = R1 ∧ ∃ y2 y7, s = [.lst (ns.map .int), y1, y2, y3, y4, y5, y6, y7]) ⟨rfl, _, _, rfl⟩ ?_ ?_
    · rintro done x rest e _ R2 ⟨rfl, y2, y7, rfl⟩
      have hx : x ∈ [D.str [48], .str [48, 71], .str [65, 66], .non, .int 5, .str [32, 48]] := by rw [e]; simp
      have hx : x = .str [48] ∨ x = .str [48, 71] ∨ x = .str [65, 66] ∨ x = .non ∨ x = .int 5 ∨ x = .str [32, 48] := by simpa using hx
      have hb := odd_body call ns C x hx R2 (.lst (ns.map .int)) y1 y3 y4 y5 y6 y7
      rw [hb1] at hb
      simp -implicitDefEqProofs
      rw [hb]
      simp -implicitDefEqProofs
    · rintro _ R2 ⟨rfl, y2, y7, rfl⟩
      obtain ⟨c1, h1⟩ := C.cell 80 R2 (by omega) (by omega)
      have m1 := p_mod (R := R2) (i := c1) (j := 3) (by omega)
      have a1 : 0 ≤ c1 % 3 ∧ c1 % 3 < 3 := by omega
      have hm := mul_lst3 (199 + c1 % 3) (by omega) (by omega) R2
      obtain ⟨l1, l2⟩ := three_rep (199 + c1 % 3).toNat
      have j1 := C.jud _ R2 l2 (by rw [l1]; omega)
      have j2 := C.jud [] R2 (fun _ h => by cases h) (by simp)
      have j2 : call "_law_judged" [.lst []] R2 = .ok (.bl true) R2 := j2
      generalize ((List.replicate (199 + c1 % 3).toNat ([0, 1, 2] : List Nat)).flatten.map encN1) = us at hm j1
      simp -implicitDefEqProofs [h1, m1, hm, j1, j2]
      exact ⟨frz_pure rfl, Nat.zero_le _, fun i o h => absurd h (Nat.not_lt_zero i)⟩
theorem law_true (ns : List Int) (hl : ns.length ≤ 63) : ∃ R, callF glob scl T 30 "law" [.lst (ns.map .int)] [] = .ok (.bl true) R := by
  have ha : wpR (callW glob scl T 29 "_law_all_right" [.lst (ns.map .int)] []) (fun d R => d = .bl true ∧ R = []) noE := by
    rw [w__law_all_right, c__law_all_right 26 _ [] rfl, finM_f]
    exact all_right _ ns (cl_at ns hl)
  obtain ⟨d, R, e, rfl, rfl⟩ := ex_of_wp ha
  suffices h : wpR (callF glob scl T 30 "law" [.lst (ns.map .int)] []) (fun d _ => d = .bl true) noE by
    obtain ⟨d, R, e, rfl⟩ := ex_of_wp h
    exact ⟨R, e⟩
  rw [c_law 27 _ [] rfl, finM_f]
  refine wp_fin2 ?_
  simp only [m_law]
  have hb : m_law_y1 (callW glob scl T 29) [.lst (ns.map .int)] [] = .rt (.bl true) [] := by
    simp only [m_law_y1]
    simp -implicitDefEqProofs [a_seq, e]
  generalize callW glob scl T 29 = call at hb
  have ht : sTryO (m_law_y1 call) (hitR scl.xk.hits 0) (fun c f => (sSeq (sRet (cCon (.bl false))) sPass)) ([.lst (ns.map .int)] ++ List.replicate 0 .undef) [] = .rt (.bl true) [] := by
    unfold sTryO
    rw [show [D.lst (ns.map .int)] ++ List.replicate 0 .undef = [.lst (ns.map .int)] from rfl, hb]
  rw [ws_seq, ht]
  simp -implicitDefEqProofs
  exact ⟨frz_pure rfl, kept_refl⟩
end Lw
namespace Lw
open PySem PySem.Spec PyProof.Rows L2 RZ Om
abbrev R : PySem.W.OpenRow := PySem.W.OpenLaw.row PySem.Challenge.rw_onememory_k35_whole_bytes
abbrev φ : PySem.W.Frag → Bool := fun K => factsB K scl.cr scl.eqs scl.kit && (xfactsB K scl.xk && (tabB K (He.ga K "SIZES") t_SIZES && tupB K (He.ga K "WORDS") u_WORDS))
abbrev hk : PySem.W.Hook := hookOT 6 φ fa fn tks
def ob (s : PySem.W.SharedT) : He.AlT := obsOTG 6 φ fa fn tks (HandSHeadRun.getT s)
def loose : List Str := (["LendError", "BadHistory", "BadBytes", "THREADS", "LOCKS", "CELLS", "VALUES", "MOST_EVENTS", "SIZES", "is_number", "is_event", "Locks", "check_history", "WORDS", "EIGHT", "HEX", "packed", "Bytes", "unpacked", "hexed", "of_hex", "_law_cell_at", "_law_numbers", "_law_by", "_law_draws", "_law_history", "_law_can_be", "_law_hexed", "_law_numbers_of", "_law_due"] : List Str) ++ (["_law_judged", "_law_bent", "_law_all_right"] : List Str)
theorem ob_eq (s : PySem.W.SharedT) : ob s = hk.obs s.abs := obsOTG_eq (HandSHeadRun.getT_eq s)
theorem run (w : World) : HandSHeadRun.RunEq R (PySem.W.view R.prog [37]) hk ob 60000 loose w := by
  refine PySem.W.byRow2 "special-get-raises" (fun w => ?_) (fun w => ?_) w
  all_goals (intro os; kernel_rfl)
end Lw
namespace Lw
open PySem PySem.Spec PyProof.Rows L2 RZ Om
theorem facts {P : Program} {w : World} {K : PySem.W.Frag} {h : Heap} {mg : Str → Option Value} {f : Addr} (X : K.In h) (G : h.Ns mainGlobals mg) (hf : mg ("law" : Str) = some (.ref f)) (c : SaysOT φ fa fn tks w K) :
    ∃ fd : FuncData, (∀ (s : Shared) (v : Value), BindsTo s fd ⟨[v], []⟩ [("_law_script", v)]) ∧ ∀ b : Heap, K.In b → b.Ns mainGlobals mg → FnOk P w K mg b (CX P w) 30 f fd ["_law_script"] (spF K 1 (callF glob scl T 30 "law")) := by
  have c0 := c
  obtain ⟨q1, c⟩ := c.o.says
  obtain ⟨q2, q3⟩ := He.ba q1
  obtain ⟨q3, q4⟩ := He.ba q3
  obtain ⟨q4, z_WORDS⟩ := He.ba q4
  have z_SIZES := q4
  have k_SIZES := tabB_ok z_SIZES (c0.tab 0 (t := tks.getD 0 ("", [])) rfl)
  have k_WORDS := tupB_ok z_WORDS
  have FF := facts_ok q2
  have FX := xfacts_ok q3
  obtain ⟨fd, F⟩ := c.def_ 24 (d := d_law) rfl
  have e := hf.symm.trans (He.glo_ok X G (c.fact 19 (f := .glo "law") rfl))
  cases e
  have q := FunD.bindsA (ps := ["_law_script"]) F fun _ _ _ _ _ _ us hl => match us, hl with | [_], _ => rfl
  exact ⟨fd, fun s v => q s [v] rfl, fun b _ _ => fn_ok (fun x g => (g_all X G FF c k_SIZES k_WORDS).look) (ms_all FF c) (x_all X G FX c) 29 "law" f_law (by kernel_rfl) s_law F⟩
end Lw
open PySem PySem.W PySem.Calls PyProof.Rows
theorem PySem.Challenge.cw_onememory_k35_whole_bytes_holds : PySem.Challenge.rw_onememory_k35_whole_bytes.Holds := by
  w_on; o_law
  refine HandSHeadRun.head_any (r := OpenLaw.row PySem.Challenge.rw_onememory_k35_whole_bytes) (q := view (OpenLaw.row PySem.Challenge.rw_onememory_k35_whole_bytes).prog [37]) (H := Lw.hk) (ob := Lw.ob) (M := 60000) (loose := Lw.loose) (d := HandSHeadRun.topDef (OpenLaw.row PySem.Challenge.rw_onememory_k35_whole_bytes).prog 37) (kwd := []) Lw.ob_eq
    (by kernel_rfl) (fun s => by kernel_rfl) Lw.run (by kernel_rfl) (by kernel_rfl) (by kernel_rfl) (by rfl) (by first | assumption | decide +kernel) (by decide +kernel) ⟨rfl, rfl, rfl, rfl, rfl, by decide +kernel⟩ ?hw ?hc
  case hw => w_witness2
  case hc =>
    refine Om.walk_om (l := PySem.Challenge.rw_onememory_k35_whole_bytes) (n := 63) (k := 30) (x := "_law_script") rfl (by decide) (by kernel_rfl) ⟨rfl, by decide, by decide⟩ fun w m f h Y G hm => ?_
    obtain ⟨K, KX, c⟩ := Y
    have hm2 : m ("law" : PySem.Str) = some (.ref f) := by
      have e : (HandSHeadRun.topDef (OpenLaw.row PySem.Challenge.rw_onememory_k35_whole_bytes).prog 37).name = ("law" : PySem.Str) := by kernel_rfl
      rw [← e]
      exact hm
    obtain ⟨fd, hb, hF⟩ := Lw.facts (P := (PySem.Challenge.rw_onememory_k35_whole_bytes).prog) (w := w) KX G hm2 c
    exact ⟨K, fd, _, KX, hb, fun H a ns hl hS => Om.law_sp (Lw.law_true ns hl) hS, hF⟩
