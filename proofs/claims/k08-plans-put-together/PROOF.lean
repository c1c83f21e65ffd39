import PyProof.Rows.All
import Wide.All
import OpenK.AllK
import Wide.FinOn
import HandS.ForMost
import HandS.Exc
import HandS.Walk
import HandS.TupAny
import HandS.IsInst
import HandS.Deep
import HandS.More
import HandS.Replace
import HandS.RaiseMore
import KE.IntTextLaws
import HandS.ExcOwn
import HandS.CallSlots
import HandS.Defaults
import HandS.Style
import HandS.TryOnly
import HandS.Comp
import HandS.Star
import HandS.FStr
import HandS.ClsMeth
import HandS.Conv
import KE.GoesEnum
import HandS.Strs
import HandS.CallLocal
import HandS.Property
import HandS.TupLe
import PyProof.RulesMatch
import HandS.OwnEq
import PyProof.InstNe
import PyProof.CallStr
import PyProof.Rows.Range3
import OpenK.KMeth
import KE.KRevSl
import HandS.WordsExc
import HandS.Head0
import HandS.Head1
import HandS.Head2
import HandS.HeadEnd
import HandS.HeadHook1
import HandS.HeadHook2
import KE.KStateDown
import Lean
import HandS.Base
import HandS.Call
import HandS.Ends
import HandS.Words
import PySem.Challenge.RW_overtaken_k08_plans_put_together
set_option Elab.async false
set_option linter.all false
set_option maxRecDepth 100000
set_option maxHeartbeats 0
/-! EvA: an executable evaluator's data, heap, draws and weakest preconditions; core Lean alone. -/
namespace Ev

/-- a text by its code points -/
abbrev Cs := List Nat

/-- data: tuples are values, what can change stands at an address -/
inductive D where
  | non | bl (b : Bool) | int (i : Int) | str (x : Cs) | tup (xs : List D) | ref (n : Nat) | cls (c : Nat) | ty (t : Nat) | scr

/-- an exception: its class, its fields -/
structure XV where
  c : Nat
  fs : List (Cs × D)

/-- what stands at an address -/
inductive O where
  | lst (xs : List D)
  | dct (kvs : List (D × D))
  | dctL (kvs : List (D × D))
  | ins (c : Nat) (fs : List (Cs × D))
  | deal (q : Nat)
  | dealIn

/-! ### equality -/
mutual
def D.beq : D → D → Bool
  | .non, .non => true
  | .bl a, .bl b => a == b
  | .int a, .int b => a == b
  | .str a, .str b => a == b
  | .tup a, .tup b => D.beqs a b
  | .ref a, .ref b => a == b
  | .cls a, .cls b => a == b
  | .ty a, .ty b => a == b
  | .scr, .scr => true
  | _, _ => false
def D.beqs : List D → List D → Bool
  | [], [] => true
  | a :: as, b :: bs => D.beq a b && D.beqs as bs
  | _, _ => false
end
mutual
theorem D.beq_eq : ∀ a b : D, D.beq a b = true → a = b
  | .non, b, h => by cases b <;> first | rfl | cases h
  | .bl a, b, h => by
    cases b with
    | bl c => rw [D.beq, beq_iff_eq] at h; rw [h]
    | _ => cases h
  | .int a, b, h => by
    cases b with
    | int c => rw [D.beq, beq_iff_eq] at h; rw [h]
    | _ => cases h
  | .str a, b, h => by
    cases b with
    | str c => rw [D.beq, beq_iff_eq] at h; rw [h]
    | _ => cases h
  | .tup a, b, h => by
    cases b with
    | tup c => rw [D.beq] at h; rw [D.beqs_eq a c h]
    | _ => cases h
  | .ref a, b, h => by
    cases b with
    | ref c => rw [D.beq, beq_iff_eq] at h; rw [h]
    | _ => cases h
  | .cls a, b, h => by
    cases b with
    | cls c => rw [D.beq, beq_iff_eq] at h; rw [h]
    | _ => cases h
  | .ty a, b, h => by
    cases b with
    | ty c => rw [D.beq, beq_iff_eq] at h; rw [h]
    | _ => cases h
  | .scr, b, h => by cases b <;> first | rfl | cases h
theorem D.beqs_eq : ∀ a b : List D, D.beqs a b = true → a = b
  | [], [], _ => rfl
  | [], _ :: _, h => by cases h
  | _ :: _, [], h => by cases h
  | a :: as, b :: bs, h => by
    rw [D.beqs, Bool.and_eq_true] at h
    rw [D.beq_eq a b h.1, D.beqs_eq as bs h.2]
end
mutual
theorem D.beq_refl : ∀ a : D, D.beq a a = true
  | .non => rfl
  | .bl a => by rw [D.beq, beq_iff_eq]
  | .int a => by rw [D.beq, beq_iff_eq]
  | .str a => by rw [D.beq, beq_iff_eq]
  | .tup a => by rw [D.beq]; exact D.beqs_refl a
  | .ref a => by rw [D.beq, beq_iff_eq]
  | .cls a => by rw [D.beq, beq_iff_eq]
  | .ty a => by rw [D.beq, beq_iff_eq]
  | .scr => rfl
theorem D.beqs_refl : ∀ a : List D, D.beqs a a = true
  | [] => rfl
  | a :: as => by rw [D.beqs, D.beq_refl a, D.beqs_refl as]; rfl
end
instance : DecidableEq D := fun a b =>
  if h : D.beq a b = true then isTrue (D.beq_eq a b h) else isFalse fun e => h (by rw [e]; exact D.beq_refl b)

/-! ### tables -/
def dfind (kvs : List (D × D)) (k : D) : Option D := match kvs with
  | [] => none
  | p :: r => if p.1 = k then some p.2 else dfind r k
def dput (kvs : List (D × D)) (k v : D) : List (D × D) := match kvs with
  | [] => [(k, v)]
  | p :: r => if p.1 = k then (p.1, v) :: r else p :: dput r k v
/-- no key twice -/
def dnd : List (D × D) → Prop
  | [] => True
  | p :: r => dfind r p.1 = none ∧ dnd r
theorem dfind_dput_same (kvs : List (D × D)) (k v : D) : dfind (dput kvs k v) k = some v := by
  induction kvs with
  | nil => rw [dput, dfind, if_pos rfl]
  | cons p r ih =>
    by_cases e : p.1 = k
    · rw [dput, if_pos e, dfind, if_pos e]
    · rw [dput, if_neg e, dfind, if_neg e, ih]
theorem dfind_dput_ne {kvs : List (D × D)} {k k' v : D} (h : k' ≠ k) : dfind (dput kvs k v) k' = dfind kvs k' := by
  induction kvs with
  | nil =>
    show (if k = k' then some v else none) = none
    rw [if_neg (Ne.symm h)]
  | cons p r ih =>
    by_cases e : p.1 = k
    · rw [dput, if_pos e, dfind, dfind]
      by_cases e2 : p.1 = k'
      · exact absurd (e2.symm.trans e) h
      · rw [if_neg e2, if_neg e2]
    · rw [dput, if_neg e, dfind, dfind, ih]
theorem dnd_dput {kvs : List (D × D)} {k v : D} (h : dnd kvs) : dnd (dput kvs k v) := by
  induction kvs with
  | nil => exact ⟨rfl, trivial⟩
  | cons p r ih =>
    by_cases e : p.1 = k
    · rw [dput, if_pos e]; exact ⟨h.1, h.2⟩
    · rw [dput, if_neg e]
      exact ⟨by rw [dfind_dput_ne e]; exact h.1, ih h.2⟩

/-! ### the heap: a tree by addresses -/
inductive Tr where
  | nil
  | node (o : Option O) (l r : Tr)
def Tr.get : Nat → Tr → Nat → Option O
  | 0, _, _ => none
  | _ + 1, .nil, _ => none
  | f + 1, .node o l r, n => if n = 0 then o else if n % 2 = 1 then Tr.get f l (n / 2) else Tr.get f r (n / 2 - 1)
def Tr.put : Nat → Tr → Nat → O → Tr
  | 0, t, _, _ => t
  | f + 1, .nil, n, x => if n = 0 then .node (some x) .nil .nil else if n % 2 = 1 then .node none (Tr.put f .nil (n / 2) x) .nil else .node none .nil (Tr.put f .nil (n / 2 - 1) x)
  | f + 1, .node o l r, n, x => if n = 0 then .node (some x) l r else if n % 2 = 1 then .node o (Tr.put f l (n / 2) x) r else .node o l (Tr.put f r (n / 2 - 1) x)
theorem Tr.get_nil (f n : Nat) : Tr.get f .nil n = none := by cases f <;> rfl
theorem Tr.get_put_same : ∀ (f g : Nat) (t : Tr) (n : Nat) (x : O), n < f → n < g → Tr.get g (Tr.put f t n x) n = some x
  | 0, _, _, _, _, h, _ => absurd h (Nat.not_lt_zero _)
  | _ + 1, 0, _, _, _, _, h => absurd h (Nat.not_lt_zero _)
  | f + 1, g + 1, t, n, x, h, h' => by
    by_cases h0 : n = 0
    · cases t <;> simp [Tr.put, Tr.get, h0]
    · by_cases h1 : n % 2 = 1
      · cases t <;> simp only [Tr.put, Tr.get, h0, h1, if_true, if_false] <;> exact Tr.get_put_same f g _ _ x (by omega) (by omega)
      · cases t <;> simp only [Tr.put, Tr.get, h0, h1, if_false] <;> exact Tr.get_put_same f g _ _ x (by omega) (by omega)
theorem Tr.get_put_ne : ∀ (f g : Nat) (t : Tr) (n m : Nat) (x : O), n < f → m ≠ n → Tr.get g (Tr.put f t n x) m = Tr.get g t m
  | 0, _, _, _, _, _, h, _ => absurd h (Nat.not_lt_zero _)
  | _ + 1, 0, _, _, _, _, _, _ => rfl
  | f + 1, g + 1, t, n, m, x, hn, h => by
    by_cases h0 : n = 0
    · have hm : m ≠ 0 := by omega
      cases t <;> simp [Tr.put, Tr.get, h0, hm, Tr.get_nil]
    · by_cases h1 : n % 2 = 1
      · by_cases m0 : m = 0
        · cases t <;> simp [Tr.put, Tr.get, h0, h1, m0]
        · by_cases m1 : m % 2 = 1
          · have ih : ∀ l, Tr.get g (Tr.put f l (n / 2) x) (m / 2) = Tr.get g l (m / 2) := fun l => Tr.get_put_ne f g l (n / 2) (m / 2) x (by omega) (by omega)
            cases t <;> simp [Tr.put, Tr.get, h0, h1, m0, m1, ih, Tr.get_nil]
          · cases t <;> simp [Tr.put, Tr.get, h0, h1, m0, m1, Tr.get_nil]
      · by_cases m0 : m = 0
        · cases t <;> simp [Tr.put, Tr.get, h0, h1, m0]
        · by_cases m1 : m % 2 = 1
          · cases t <;> simp [Tr.put, Tr.get, h0, h1, m0, m1, Tr.get_nil]
          · have ih : ∀ l, Tr.get g (Tr.put f l (n / 2 - 1) x) (m / 2 - 1) = Tr.get g l (m / 2 - 1) := fun l => Tr.get_put_ne f g l (n / 2 - 1) (m / 2 - 1) x (by omega) (by omega)
            cases t <;> simp [Tr.put, Tr.get, h0, h1, m0, m1, ih, Tr.get_nil]

/-- the state: the heap and its first free address -/
structure S where
  tr : Tr
  n : Nat
def S.get (s : S) (a : Nat) : Option O := if a < s.n then Tr.get (a + 1) s.tr a else none
def S.set (s : S) (a : Nat) (o : O) : S := ⟨Tr.put (a + 1) s.tr a o, s.n⟩
def S.new (s : S) (o : O) : S := ⟨Tr.put (s.n + 1) s.tr s.n o, s.n + 1⟩
def S.empty : S := ⟨.nil, 0⟩
theorem S.get_lt {s : S} {a : Nat} {o : O} (h : s.get a = some o) : a < s.n := by
  unfold S.get at h
  split at h
  · assumption
  · cases h
theorem S.set_n (s : S) (a : Nat) (o : O) : (s.set a o).n = s.n := rfl
theorem S.new_n (s : S) (o : O) : (s.new o).n = s.n + 1 := rfl
theorem S.get_set_ne {s : S} {a b : Nat} {o : O} (h : b ≠ a) : (s.set a o).get b = s.get b := by
  unfold S.get S.set
  dsimp only
  rw [Tr.get_put_ne _ _ s.tr a b o (Nat.lt_succ_self _) h]
theorem S.get_set_same {s : S} {a : Nat} {o : O} (h : a < s.n) : (s.set a o).get a = some o := by
  unfold S.get S.set
  dsimp only
  rw [if_pos h, Tr.get_put_same _ _ s.tr a o (Nat.lt_succ_self _) (Nat.lt_succ_self _)]
theorem S.get_new_same {s : S} {o : O} : (s.new o).get s.n = some o := by
  unfold S.get S.new
  dsimp only
  rw [if_pos (Nat.lt_succ_self _), Tr.get_put_same _ _ s.tr s.n o (Nat.lt_succ_self _) (Nat.lt_succ_self _)]
theorem S.get_new_lt {s : S} {a : Nat} {o : O} (h : a < s.n) : (s.new o).get a = s.get a := by
  unfold S.get S.new
  dsimp only
  rw [if_pos (Nat.lt_succ_of_lt h), if_pos h, Tr.get_put_ne _ _ s.tr s.n a o (Nat.lt_succ_self _) (Nat.ne_of_lt h)]

/-! ### draws -/
inductive T (α : Type) where
  | ret (a : α)
  | draw (n : Nat) (k : Nat → T α)
def T.bind {α β : Type} : T α → (α → T β) → T β
  | .ret a, f => f a
  | .draw n k, f => .draw n fun i => (k i).bind f
/-- every way ends so -/
def T.All {α : Type} (P : α → Prop) : T α → Prop
  | .ret a => P a
  | .draw n k => ∀ i, i < n → (k i).All P
theorem T.all_bind {α β : Type} {P : β → Prop} (f : α → T β) : ∀ t : T α, (t.bind f).All P ↔ t.All fun a => (f a).All P
  | .ret a => Iff.rfl
  | .draw n k => ⟨fun h i hi => (T.all_bind f (k i)).mp (h i hi), fun h i hi => (T.all_bind f (k i)).mpr (h i hi)⟩
theorem T.All.mono {α : Type} {P Q : α → Prop} (h : ∀ a, P a → Q a) : ∀ {t : T α}, t.All P → t.All Q
  | .ret a, x => h a x
  | .draw _ k, x => fun i hi => T.All.mono h (t := k i) (x i hi)

/-! ### what a piece of a program comes to -/
inductive Out (α : Type) where
  | ok (a : α) (s : S)
  | exc (x : XV) (s : S)
  | fail
abbrev M (α : Type) := S → T (Out α)
def M.pure {α : Type} (a : α) : M α := fun s => .ret (.ok a s)
def M.fail {α : Type} : M α := fun _ => .ret .fail
def M.throw {α : Type} (x : XV) : M α := fun s => .ret (.exc x s)
def M.bind {α β : Type} (m : M α) (f : α → M β) : M β := fun s => (m s).bind fun
  | .ok a s' => f a s'
  | .exc x s' => .ret (.exc x s')
  | .fail => .ret .fail
def M.draw (n : Nat) : M Nat := fun s => .draw n fun i => .ret (.ok i s)
def M.read (a : Nat) : M O := fun s => match s.get a with
  | some o => .ret (.ok o s)
  | none => .ret .fail
/-- a dict that is walked is locked: it is not written -/
def O.isL : O → Bool
  | .dctL _ => true
  | _ => false
def M.write (a : Nat) (o : O) : M Unit := fun s => match s.get a with
  | some u => if u.isL = true then .ret .fail else .ret (.ok () (s.set a o))
  | none => .ret .fail
def M.new (o : O) : M Nat := fun s => .ret (.ok s.n (s.new o))
def M.ofOpt {α : Type} : Option α → M α
  | some a => M.pure a
  | none => M.fail
def M.guard (b : Bool) : M Unit := if b then M.pure () else M.fail
/-- what is wanted of an end -/
def Out.sat {α : Type} (Q : α → S → Prop) (E : XV → S → Prop) : Out α → Prop
  | .ok a s => Q a s
  | .exc x s => E x s
  | .fail => False
/-- the weakest precondition -/
def wp {α : Type} (m : M α) (s : S) (Q : α → S → Prop) (E : XV → S → Prop) : Prop := (m s).All (Out.sat Q E)
section
variable {α β : Type} {s : S} {E : XV → S → Prop}
theorem wp_pure {a : α} {Q : α → S → Prop} : wp (M.pure a) s Q E ↔ Q a s := Iff.rfl
theorem wp_fail {Q : α → S → Prop} : wp (M.fail : M α) s Q E ↔ False := Iff.rfl
theorem wp_throw {x : XV} {Q : α → S → Prop} : wp (M.throw x : M α) s Q E ↔ E x s := Iff.rfl
theorem wp_bind {m : M α} {f : α → M β} {Q : β → S → Prop} : wp (M.bind m f) s Q E ↔ wp m s (fun a s' => wp (f a) s' Q E) E := by
  unfold wp M.bind
  rw [T.all_bind]
  constructor
  · refine T.All.mono fun o h => ?_
    cases o with
    | ok a s' => exact h
    | exc x s' => exact h
    | fail => exact h
  · refine T.All.mono fun o h => ?_
    cases o with
    | ok a s' => exact h
    | exc x s' => exact h
    | fail => exact h
theorem wp_mono {m : M α} {Q Q' : α → S → Prop} {E' : XV → S → Prop} (h : wp m s Q E) (hq : ∀ a s', Q a s' → Q' a s') (he : ∀ x s', E x s' → E' x s') : wp m s Q' E' := by
  unfold wp at h ⊢
  refine T.All.mono (fun o z => ?_) h
  cases o with
  | ok a s' => exact hq a s' z
  | exc x s' => exact he x s' z
  | fail => exact z
theorem wp_draw {n : Nat} {Q : Nat → S → Prop} : wp (M.draw n) s Q E ↔ ∀ i, i < n → Q i s := Iff.rfl
theorem wp_read {a : Nat} {Q : O → S → Prop} : wp (M.read a) s Q E ↔ ∃ o, s.get a = some o ∧ Q o s := by
  unfold wp M.read
  cases h : s.get a with
  | none => exact ⟨fun z => z.elim, fun ⟨o, e, _⟩ => by cases e⟩
  | some o => exact ⟨fun z => ⟨o, rfl, z⟩, fun ⟨o', e, z⟩ => by cases e; exact z⟩
theorem wp_write {a : Nat} {o : O} {Q : Unit → S → Prop} : wp (M.write a o) s Q E ↔ (∃ u, s.get a = some u ∧ u.isL = false) ∧ Q () (s.set a o) := by
  unfold wp M.write
  cases h : s.get a with
  | none => exact ⟨fun z => z.elim, fun ⟨⟨o, e, _⟩, _⟩ => by cases e⟩
  | some u =>
    cases hu : u.isL with
    | true => exact ⟨fun z => by simp [hu] at z; exact z.elim, fun ⟨⟨o, e, f⟩, _⟩ => by cases e; rw [hu] at f; cases f⟩
    | false => exact ⟨fun z => ⟨⟨u, rfl, hu⟩, by simp only [hu, Bool.false_eq_true, if_false] at z; exact z⟩, fun ⟨_, z⟩ => by simp only [hu, Bool.false_eq_true, if_false]; exact z⟩
theorem wp_new {o : O} {Q : Nat → S → Prop} : wp (M.new o) s Q E ↔ Q s.n (s.new o) := Iff.rfl
theorem wp_opt {o : Option α} {Q : α → S → Prop} : wp (M.ofOpt o) s Q E ↔ ∃ a, o = some a ∧ Q a s := by
  cases o with
  | none => exact ⟨fun z => z.elim, fun ⟨a, e, _⟩ => by cases e⟩
  | some a => exact ⟨fun z => ⟨a, rfl, z⟩, fun ⟨b, e, z⟩ => by cases e; exact z⟩
theorem wp_guard {b : Bool} {Q : Unit → S → Prop} : wp (M.guard b) s Q E ↔ b = true ∧ Q () s := by
  cases b with
  | true => exact ⟨fun z => ⟨rfl, z⟩, fun ⟨_, z⟩ => z⟩
  | false => exact ⟨fun z => z.elim, fun ⟨e, _⟩ => by cases e⟩
end
end Ev

/-! EvB: how the evaluator's data and heap stand for those of the hand layer. -/
namespace Ev
open PySem PySem.Spec PyProof.Rows L2

/-- what is fixed for a law's run: the written part, where the classes stand, the exceptions' classes, the script -/
structure Gd where
  K : PySem.W.Frag
  ca : Nat → Addr
  xc : Nat → Value
  ns : List Int
def st (x : Cs) : Str := ⟨x.toArray⟩
theorem st_len (x : Cs) : (st x).length = x.length := by simp [st, Str.length]
theorem st_inj {x y : Cs} (h : st x = st y) : x = y := by
  have e := congrArg (fun z : Str => z.cps.toList) h
  simpa [st] using e
/-- a text that is carried: not too long, ASCII -/
structure TxOk (x : Cs) : Prop where
  len : x.length ≤ 1000000
  asc : ∀ c ∈ x, c < 128
theorem TxOk.line {x : Cs} (h : TxOk x) : (st x).length + 2 ≤ sizeLine := by
  rw [st_len, sizeLine_eq]; have := h.len; omega
theorem TxOk.part {x y : Cs} (h : TxOk x) (hl : y.length ≤ x.length) (hm : ∀ c ∈ y, c ∈ x) : TxOk y := ⟨Nat.le_trans hl h.len, fun c hc => h.asc c (hm c hc)⟩
theorem TxOk.app {x y : Cs} (h : TxOk x) (h' : TxOk y) (hl : (x ++ y).length ≤ 1000000) : TxOk (x ++ y) := ⟨hl, fun c hc => (List.mem_append.mp hc).elim (h.asc c) (h'.asc c)⟩
abbrev Iota := Nat → Option Addr
def Le (ι ι' : Iota) : Prop := ∀ n a, ι n = some a → ι' n = some a
theorem Le.refl (ι : Iota) : Le ι ι := fun _ _ h => h
theorem Le.trans {ι ι' ι'' : Iota} (a : Le ι ι') (b : Le ι' ι'') : Le ι ι'' := fun n x h => b n x (a n x h)

/-- what never changes -/
def Stays : HO → Prop
  | .tup _ => True
  | .frz _ _ => True
  | .xd _ => True
  | _ => False
/-- what never changes, and is read by data -/
def StaysT : HO → Prop
  | .tup _ => True
  | .frz _ (.tup _) => True
  | .frz _ (.lst _) => True
  | .xd _ => True
  | _ => False
theorem StaysT.st : ∀ {o : HO}, StaysT o → Stays o
  | .tup _, _ => trivial
  | .frz _ _, _ => trivial
  | .xd _, _ => trivial
def KeepT (H H' : Hp) : Prop := ∀ b o, H b = some o → StaysT o → H' b = some o
def Keep (H H' : Hp) : Prop := ∀ b o, H b = some o → Stays o → H' b = some o
theorem Keep.refl (H : Hp) : Keep H H := fun _ _ h _ => h
theorem Keep.trans {H H1 H2 : Hp} (a : Keep H H1) (b : Keep H1 H2) : Keep H H2 := fun c o h s => b c o (a c o h s) s
theorem Keep.t {H H' : Hp} (k : Keep H H') : KeepT H H' := fun b o h s => k b o h s.st
theorem Keep.new {H : Hp} {p : Addr} {o : HO} (h : H p = none) : Keep H (upd H p o) := fun b x e _ => by
  rw [upd_ne (ne_of_none e h)]; exact e
theorem Keep.write {H : Hp} {a : Addr} {o u : HO} (h : H a = some u) (hs : ¬ Stays u) : Keep H (upd H a o) := fun b x e s => by
  have : b ≠ a := fun z => by subst z; rw [h] at e; cases e; exact hs s
  rw [upd_ne this]; exact e
theorem KeepT.write {H : Hp} {a : Addr} {o u : HO} (h : H a = some u) (hs : ¬ StaysT u) : KeepT H (upd H a o) := fun b x e s => by
  have : b ≠ a := fun z => by subst z; rw [h] at e; cases e; exact hs s
  rw [upd_ne this]; exact e
theorem Keep.sqT {K : PySem.W.Frag} {H H' : Hp} {a : Addr} {xs : List V} (k : KeepT H H') (h : SqT K H a xs) : SqT K H' a xs := by
  rcases h with (h | ⟨o, h⟩) | h
  · exact .inl (.inl (k _ _ h trivial))
  · exact .inl (.inr ⟨o, k _ _ h trivial⟩)
  · exact .inr h
/-- the script's list, which nothing changes -/
def ScrAt (G : Gd) (H : Hp) (a : Addr) : Prop :=
  (∃ o, H a = some (.frz o (.lst (G.ns.map V.int)))) ∨
    ∃ (o : Obj) (its : Array Value) (n : Nat), G.K.lookup a = some o ∧ o.cls = .type "list" ∧ o.dict = none ∧ o.data = .seq its n ∧ its.size ≤ sizeLine ∧ Vals (G.ns.map V.int) its.toList
theorem ScrAt.sqL {G : Gd} {H : Hp} {a : Addr} (h : ScrAt G H a) : SqL G.K H a (G.ns.map V.int) := by
  rcases h with ⟨o, h⟩ | h
  · exact .inl (.inr ⟨o, h⟩)
  · exact .inr h
theorem ScrAt.keep {G : Gd} {H H' : Hp} {a : Addr} (k : KeepT H H') (h : ScrAt G H a) : ScrAt G H' a := by
  rcases h with ⟨o, h⟩ | h
  · exact .inl ⟨o, k _ _ h trivial⟩
  · exact .inr h

/-- the built-in types that are named -/
def tyN : Nat → String
  | 0 => "int"
  | 1 => "bool"
  | 2 => "str"
  | 3 => "list"
  | 4 => "tuple"
  | 5 => "dict"
  | _ => "object"
mutual
inductive Rp (G : Gd) (ι : Iota) (H : Hp) : D → V → Prop
  | non : Rp G ι H .non .non
  | bl (b : Bool) : Rp G ι H (.bl b) (.bl b)
  | int (i : Int) : Rp G ι H (.int i) (.int i)
  | str (x : Cs) : TxOk x → Rp G ι H (.str x) (.str (st x))
  | tup {ds : List D} {a : Addr} {xs : List V} : SqT G.K H a xs → RpL G ι H ds xs → Rp G ι H (.tup ds) (.ref a)
  | ref {n : Nat} {a : Addr} : ι n = some a → Rp G ι H (.ref n) (.ref a)
  | cls (c : Nat) : Rp G ι H (.cls c) (.ref (G.ca c))
  | ty (t : Nat) : Rp G ι H (.ty t) (.ty (tyN t))
  | scr {a : Addr} : ScrAt G H a → Rp G ι H .scr (.ref a)
inductive RpL (G : Gd) (ι : Iota) (H : Hp) : List D → List V → Prop
  | nil : RpL G ι H [] []
  | cons {d : D} {ds : List D} {v : V} {vs : List V} : Rp G ι H d v → RpL G ι H ds vs → RpL G ι H (d :: ds) (v :: vs)
end
section
variable {G : Gd} {ι ι' : Iota} {H H' : Hp}
mutual
theorem Rp.monoT (l : Le ι ι') (k : KeepT H H') : ∀ {d : D} {v : V}, Rp G ι H d v → Rp G ι' H' d v
  | _, _, .non => .non
  | _, _, .bl b => .bl b
  | _, _, .int i => .int i
  | _, _, .str x h => .str x h
  | _, _, .tup h r => .tup (Keep.sqT k h) (RpL.monoT l k r)
  | _, _, .ref h => .ref (l _ _ h)
  | _, _, .cls c => .cls c
  | _, _, .ty c => .ty c
  | _, _, .scr h => .scr (h.keep k)
theorem RpL.monoT (l : Le ι ι') (k : KeepT H H') : ∀ {d : List D} {v : List V}, RpL G ι H d v → RpL G ι' H' d v
  | _, _, .nil => .nil
  | _, _, .cons r t => .cons (Rp.monoT l k r) (RpL.monoT l k t)
end
theorem Rp.mono (l : Le ι ι') (k : Keep H H') {d : D} {v : V} (r : Rp G ι H d v) : Rp G ι' H' d v := r.monoT l k.t
theorem RpL.mono (l : Le ι ι') (k : Keep H H') {d : List D} {v : List V} (r : RpL G ι H d v) : RpL G ι' H' d v := r.monoT l k.t
theorem RpL.length : ∀ {ds : List D} {vs : List V}, RpL G ι H ds vs → ds.length = vs.length
  | _, _, .nil => rfl
  | _, _, .cons _ t => by rw [List.length_cons, List.length_cons, RpL.length t]
theorem RpL.get : ∀ {ds : List D} {vs : List V} {i : Nat} {d : D}, RpL G ι H ds vs → ds[i]? = some d → ∃ v, vs[i]? = some v ∧ Rp G ι H d v
  | _, _, _, _, .nil, e => by simp at e
  | _, _, 0, _, .cons r _, e => by simp at e; subst e; exact ⟨_, rfl, r⟩
  | _, _, i + 1, d, .cons _ t, e => by
    obtain ⟨v, h1, h2⟩ := RpL.get (i := i) (d := d) t (by simpa using e)
    exact ⟨v, by simpa using h1, h2⟩
theorem RpL.get' : ∀ {ds : List D} {vs : List V} {i : Nat} {v : V}, RpL G ι H ds vs → vs[i]? = some v → ∃ d, ds[i]? = some d ∧ Rp G ι H d v
  | _, _, _, _, .nil, e => by simp at e
  | _, _, 0, _, .cons r _, e => by simp at e; subst e; exact ⟨_, rfl, r⟩
  | _, _, i + 1, v, .cons _ t, e => by
    obtain ⟨d, h1, h2⟩ := RpL.get' (i := i) (v := v) t (by simpa using e)
    exact ⟨d, by simpa using h1, h2⟩
theorem RpL.append : ∀ {ds es : List D} {vs ws : List V}, RpL G ι H ds vs → RpL G ι H es ws → RpL G ι H (ds ++ es) (vs ++ ws)
  | _, _, _, _, .nil, s => s
  | _, _, _, _, .cons r t, s => .cons r (RpL.append t s)
theorem RpL.one {d : D} {v : V} (r : Rp G ι H d v) : RpL G ι H [d] [v] := .cons r .nil
theorem RpL.take : ∀ {ds : List D} {vs : List V} (n : Nat), RpL G ι H ds vs → RpL G ι H (ds.take n) (vs.take n)
  | _, _, 0, _ => .nil
  | _, _, _ + 1, .nil => .nil
  | _, _, n + 1, .cons r t => .cons r (RpL.take n t)
theorem RpL.drop : ∀ {ds : List D} {vs : List V} (n : Nat), RpL G ι H ds vs → RpL G ι H (ds.drop n) (vs.drop n)
  | _, _, 0, r => r
  | _, _, _ + 1, .nil => .nil
  | _, _, n + 1, .cons _ t => RpL.drop n t
theorem RpL.set {d : D} {v : V} (r : Rp G ι H d v) : ∀ {ds : List D} {vs : List V} (i : Nat), RpL G ι H ds vs → RpL G ι H (ds.set i d) (vs.set i v)
  | _, _, _, .nil => .nil
  | _, _, 0, .cons _ t => .cons r t
  | _, _, i + 1, .cons q t => .cons q (RpL.set r i t)
theorem RpL.reverse : ∀ {ds : List D} {vs : List V}, RpL G ι H ds vs → RpL G ι H ds.reverse vs.reverse
  | _, _, .nil => .nil
  | _, _, .cons r t => by rw [List.reverse_cons, List.reverse_cons]; exact (RpL.reverse t).append (.one r)
theorem RpL.eraseIdx : ∀ {ds : List D} {vs : List V} (i : Nat), RpL G ι H ds vs → RpL G ι H (ds.eraseIdx i) (vs.eraseIdx i)
  | _, _, _, .nil => .nil
  | _, _, 0, .cons _ t => t
  | _, _, i + 1, .cons r t => .cons r (RpL.eraseIdx i t)
theorem RpL.ints : ∀ {is : List Int} {vs : List V}, RpL G ι H (is.map D.int) vs → vs = is.map V.int
  | [], _, .nil => rfl
  | _ :: _, _, .cons r t => by cases r; rw [List.map_cons, RpL.ints t]
theorem RpL.bls : ∀ {bs : List Bool} {vs : List V}, RpL G ι H (bs.map D.bl) vs → vs = bs.map V.bl
  | [], _, .nil => rfl
  | _ :: _, _, .cons r t => by cases r; rw [List.map_cons, RpL.bls t]
end

/-- fields, by names -/
def FRel (G : Gd) (ι : Iota) (H : Hp) : List (Cs × D) → List (Str × V) → Prop := Paired fun p q => q.1 = st p.1 ∧ Rp G ι H p.2 q.2
/-- a key of a dict -/
def keyD : D → Option Key
  | .int i => some (.inl i)
  | .str x => some (.inr (st x))
  | _ => none
def KRel (G : Gd) (ι : Iota) (H : Hp) : List (D × D) → List (Key × V) → Prop := Paired fun p q => keyD p.1 = some q.1 ∧ Rp G ι H p.2 q.2
def ORel (G : Gd) (ι : Iota) (H : Hp) (a : Addr) : O → Prop
  | .lst ds => ∃ xs, H a = some (.lst xs) ∧ RpL G ι H ds xs
  | .dct kvs => ∃ qs, H a = some (.dK qs) ∧ KRel G ι H kvs qs ∧ dnd kvs
  | .dctL kvs => ∃ o qs, H a = some (.frz o (.dK qs)) ∧ KRel G ι H kvs qs ∧ dnd kvs
  | .ins c fs => ∃ dx qs, H a = some (.ins (G.ca c) dx qs) ∧ FRel G ι H fs qs
  | .deal q => ∃ b m, H a = some (.lst [.ref b, .int m]) ∧ ι q = some b
  | .dealIn => ∃ is : List Int, H a = some (.lst (is.map V.int)) ∧ is.length ≤ 63
theorem Paired.imp2 {α β : Type} {F F' : α → β → Prop} (h : ∀ a b, F a b → F' a b) : ∀ {xs : List α} {ys : List β}, Paired F xs ys → Paired F' xs ys
  | _, _, .nil => .nil
  | _, _, .cons r t => .cons (h _ _ r) (Paired.imp2 h t)
theorem FRel.monoT {G : Gd} {ι ι' : Iota} {H H' : Hp} (l : Le ι ι') (k : KeepT H H') {fs : List (Cs × D)} {qs : List (Str × V)} (h : FRel G ι H fs qs) : FRel G ι' H' fs qs := Paired.imp2 (fun _ _ z => ⟨z.1, z.2.monoT l k⟩) h
theorem KRel.monoT {G : Gd} {ι ι' : Iota} {H H' : Hp} (l : Le ι ι') (k : KeepT H H') {fs : List (D × D)} {qs : List (Key × V)} (h : KRel G ι H fs qs) : KRel G ι' H' fs qs := Paired.imp2 (fun _ _ z => ⟨z.1, z.2.monoT l k⟩) h
theorem FRel.mono {G : Gd} {ι ι' : Iota} {H H' : Hp} (l : Le ι ι') (k : Keep H H') {fs : List (Cs × D)} {qs : List (Str × V)} (h : FRel G ι H fs qs) : FRel G ι' H' fs qs := FRel.monoT l k.t h
theorem KRel.mono {G : Gd} {ι ι' : Iota} {H H' : Hp} (l : Le ι ι') (k : Keep H H') {fs : List (D × D)} {qs : List (Key × V)} (h : KRel G ι H fs qs) : KRel G ι' H' fs qs := KRel.monoT l k.t h
theorem ORel.atT {G : Gd} {ι : Iota} {H : Hp} {a : Addr} {o : O} (h : ORel G ι H a o) : ∃ u, H a = some u ∧ ¬ StaysT u := by
  cases o with
  | lst ds => obtain ⟨xs, e, _⟩ := h; exact ⟨_, e, fun z => z⟩
  | dct ds => obtain ⟨xs, e, _⟩ := h; exact ⟨_, e, fun z => z⟩
  | dctL ds => obtain ⟨ob, xs, e, _⟩ := h; exact ⟨_, e, fun z => z⟩
  | ins c fs => obtain ⟨_, _, e, _⟩ := h; exact ⟨_, e, fun z => z⟩
  | deal q => obtain ⟨_, _, e, _⟩ := h; exact ⟨_, e, fun z => z⟩
  | dealIn => obtain ⟨_, e, _⟩ := h; exact ⟨_, e, fun z => z⟩
theorem ORel.at {G : Gd} {ι : Iota} {H : Hp} {a : Addr} {o : O} (h : ORel G ι H a o) (hl : o.isL = false) : ∃ u, H a = some u ∧ ¬ Stays u := by
  cases o with
  | lst ds => obtain ⟨xs, e, _⟩ := h; exact ⟨_, e, fun z => z⟩
  | dct ds => obtain ⟨xs, e, _⟩ := h; exact ⟨_, e, fun z => z⟩
  | dctL ds => cases hl
  | ins c fs => obtain ⟨_, _, e, _⟩ := h; exact ⟨_, e, fun z => z⟩
  | deal q => obtain ⟨_, _, e, _⟩ := h; exact ⟨_, e, fun z => z⟩
  | dealIn => obtain ⟨_, e, _⟩ := h; exact ⟨_, e, fun z => z⟩
/-- the object stands as it did -/
theorem ORel.mono {G : Gd} {ι ι' : Iota} {H H' : Hp} {a : Addr} {o : O} (l : Le ι ι') (k : KeepT H H') (e : H' a = H a) (h : ORel G ι H a o) : ORel G ι' H' a o := by
  cases o with
  | lst ds => obtain ⟨xs, q, r⟩ := h; exact ⟨xs, e.trans q, r.monoT l k⟩
  | dct ds => obtain ⟨xs, q, r, nd⟩ := h; exact ⟨xs, e.trans q, r.monoT l k, nd⟩
  | dctL ds => obtain ⟨ob, xs, q, r, nd⟩ := h; exact ⟨ob, xs, e.trans q, r.monoT l k, nd⟩
  | ins c fs => obtain ⟨dx, xs, q, r⟩ := h; exact ⟨dx, xs, e.trans q, r.monoT l k⟩
  | deal n => obtain ⟨b, m, q, r⟩ := h; exact ⟨b, m, e.trans q, l _ _ r⟩
  | dealIn => obtain ⟨is, q, z⟩ := h; exact ⟨is, e.trans q, z⟩

structure RelH (G : Gd) (ι : Iota) (s : S) (H : Hp) : Prop where
  obj : ∀ n a, ι n = some a → ∃ o, s.get n = some o ∧ ORel G ι H a o
  dom : ∀ n o, s.get n = some o → ∃ a, ι n = some a
  inj : ∀ n m a, ι n = some a → ι m = some a → n = m
theorem RelH.at {G : Gd} {ι : Iota} {s : S} {H : Hp} (R : RelH G ι s H) {n : Nat} {a : Addr} {o : O} (e : ι n = some a) (h : s.get n = some o) : ORel G ι H a o := by
  obtain ⟨o', h', r⟩ := R.obj n a e
  rw [h] at h'; cases h'
  exact r
theorem RelH.lt {G : Gd} {ι : Iota} {s : S} {H : Hp} (R : RelH G ι s H) {n : Nat} {a : Addr} (e : ι n = some a) : n < s.n := by
  obtain ⟨o, h, _⟩ := R.obj n a e
  exact S.get_lt h
/-- a thing of the layer alone changes or comes: nothing of ours -/
theorem RelH.keep {G : Gd} {ι : Iota} {s : S} {H H' : Hp} (R : RelH G ι s H) (k : KeepT H H') (e : ∀ n a, ι n = some a → H' a = H a) : RelH G ι s H' :=
  ⟨fun n a h => by
    obtain ⟨o, g, r⟩ := R.obj n a h
    exact ⟨o, g, r.mono (Le.refl _) k (e n a h)⟩, R.dom, R.inj⟩
/-- a tuple (any new thing that is not ours) is laid -/
theorem RelH.tup {G : Gd} {ι : Iota} {s : S} {H : Hp} (R : RelH G ι s H) {p : Addr} {u : HO} (hp : H p = none) : RelH G ι s (upd H p u) :=
  R.keep (Keep.new hp).t fun n a h => by
    obtain ⟨o, _, r⟩ := R.obj n a h
    obtain ⟨w, e, _⟩ := r.atT
    exact upd_ne (ne_of_none e hp)
/-- an object of ours is laid at p -/
def ext (ι : Iota) (n : Nat) (p : Addr) : Iota := fun m => if m = n then some p else ι m
theorem ext_same (ι : Iota) (n : Nat) (p : Addr) : ext ι n p n = some p := if_pos rfl
theorem ext_ne {ι : Iota} {n m : Nat} {p : Addr} (h : m ≠ n) : ext ι n p m = ι m := if_neg h
theorem RelH.le_ext {G : Gd} {ι : Iota} {s : S} {H : Hp} (R : RelH G ι s H) (p : Addr) : Le ι (ext ι s.n p) := fun n a h => by
  rw [ext_ne (Nat.ne_of_lt (R.lt h))]; exact h
theorem RelH.new {G : Gd} {ι : Iota} {s : S} {H : Hp} (R : RelH G ι s H) {p : Addr} {u : HO} {o : O} (hp : H p = none) (h : ORel G (ext ι s.n p) (upd H p u) p o) : RelH G (ext ι s.n p) (s.new o) (upd H p u) := by
  have ne : ∀ n a, ι n = some a → a ≠ p := fun n a e => by
    obtain ⟨o', _, r⟩ := R.obj n a e
    obtain ⟨w, q, _⟩ := r.atT
    exact ne_of_none q hp
  refine ⟨fun n a e => ?_, fun n o' e => ?_, fun n m a e1 e2 => ?_⟩
  · by_cases hn : n = s.n
    · subst hn
      rw [ext_same] at e; cases e
      exact ⟨o, S.get_new_same, h⟩
    · rw [ext_ne hn] at e
      obtain ⟨o', g, r⟩ := R.obj n a e
      exact ⟨o', by rw [S.get_new_lt (S.get_lt g)]; exact g, r.mono (R.le_ext p) (Keep.new hp).t (upd_ne (ne n a e))⟩
  · by_cases hn : n = s.n
    · subst hn; exact ⟨p, ext_same _ _ _⟩
    · have hl : n < s.n := by
        have := S.get_lt e
        rw [S.new_n] at this; omega
      rw [S.get_new_lt hl] at e
      obtain ⟨a, q⟩ := R.dom n o' e
      exact ⟨a, by rw [ext_ne hn]; exact q⟩
  · by_cases hn : n = s.n
    · by_cases hm : m = s.n
      · rw [hn, hm]
      · subst hn
        rw [ext_same] at e1; cases e1
        rw [ext_ne hm] at e2
        exact absurd rfl (ne m _ e2)
    · by_cases hm : m = s.n
      · subst hm
        rw [ext_same] at e2; cases e2
        rw [ext_ne hn] at e1
        exact absurd rfl (ne n _ e1)
      · rw [ext_ne hn] at e1
        rw [ext_ne hm] at e2
        exact R.inj n m a e1 e2
/-- an object of ours is written -/
theorem RelH.write {G : Gd} {ι : Iota} {s : S} {H : Hp} (R : RelH G ι s H) {n : Nat} {a : Addr} {u : HO} {o : O} (e : ι n = some a) (h : ORel G ι (upd H a u) a o) : RelH G ι (s.set n o) (upd H a u) ∧ KeepT H (upd H a u) := by
  obtain ⟨o0, g0, r0⟩ := R.obj n a e
  obtain ⟨w0, q0, ns0⟩ := r0.atT
  have k : KeepT H (upd H a u) := KeepT.write q0 ns0
  refine ⟨⟨fun m b e2 => ?_, fun m o' e2 => ?_, R.inj⟩, k⟩
  · by_cases hm : m = n
    · subst hm
      rw [e] at e2; cases e2
      exact ⟨o, S.get_set_same (S.get_lt g0), h⟩
    · obtain ⟨o', g, r⟩ := R.obj m b e2
      have hb : b ≠ a := fun z => hm (R.inj m n a (z ▸ e2) e)
      exact ⟨o', by rw [S.get_set_ne hm]; exact g, r.mono (Le.refl _) k (upd_ne hb)⟩
  · by_cases hm : m = n
    · subst hm; exact ⟨a, e⟩
    · rw [S.get_set_ne hm] at e2
      exact R.dom m o' e2

/-! ### slots -/
abbrev Sl := List (Option D)
structure RelS (G : Gd) (ι : Iota) (σd : Sl) (s : S) (σ : L2.St) (H : Hp) : Prop where
  hp : RelH G ι s H
  len : σ.length = σd.length
  slot : ∀ (i : Nat) (d : D), σd[i]? = some (some d) → ∃ v : V, σ[i]? = some (some v) ∧ Rp G ι H d v
theorem RelS.on {G : Gd} {ι ι' : Iota} {σd : Sl} {s s' : S} {σ : L2.St} {H H' : Hp} (R : RelS G ι σd s σ H) (l : Le ι ι') (k : Keep H H') (hp : RelH G ι' s' H') : RelS G ι' σd s' σ H' :=
  ⟨hp, R.len, fun i d e => by
    obtain ⟨v, h1, h2⟩ := R.slot i d e
    exact ⟨v, h1, h2.mono l k⟩⟩
theorem RelS.set {G : Gd} {ι : Iota} {σd : Sl} {s : S} {σ : L2.St} {H : Hp} (R : RelS G ι σd s σ H) {i : Nat} {d : D} {v : V} (r : Rp G ι H d v) : RelS G ι (σd.set i (some d)) s (σ.set i (some v)) H :=
  ⟨R.hp, by rw [List.length_set, List.length_set]; exact R.len, fun j e h => by
    by_cases hj : i = j
    · subst hj
      by_cases hl : i < σd.length
      · rw [List.getElem?_set_self hl] at h
        cases h
        exact ⟨v, List.getElem?_set_self (by rw [R.len]; exact hl), r⟩
      · rw [List.getElem?_eq_none (by rw [List.length_set]; omega)] at h
        cases h
    · rw [List.getElem?_set_ne hj] at h ⊢
      exact R.slot j e h⟩
theorem RelS.unset {G : Gd} {ι : Iota} {σd : Sl} {s : S} {σ : L2.St} {H : Hp} (R : RelS G ι σd s σ H) {i : Nat} : RelS G ι (σd.set i none) s (σ.set i none) H :=
  ⟨R.hp, by rw [List.length_set, List.length_set]; exact R.len, fun j e h => by
    by_cases hj : i = j
    · subst hj
      by_cases hl : i < σd.length
      · rw [List.getElem?_set_self hl] at h
        cases h
      · rw [List.getElem?_eq_none (by rw [List.length_set]; omega)] at h
        cases h
    · rw [List.getElem?_set_ne hj] at h ⊢
      exact R.slot j e h⟩
/-- an exception in the layer's words -/
def XRel (G : Gd) (ι : Iota) (H : Hp) (x : XV) (cls : Value) (dx : Option Addr) : Prop :=
  cls = G.xc x.c ∧ ((x.fs = [] ∧ dx = none) ∨ ∃ d qs, dx = some d ∧ H d = some (.xd qs) ∧ FRel G ι H x.fs qs)
theorem XRel.mono {G : Gd} {ι ι' : Iota} {H H' : Hp} {x : XV} {cls : Value} {dx : Option Addr} (l : Le ι ι') (k : Keep H H') (h : XRel G ι H x cls dx) : XRel G ι' H' x cls dx := by
  obtain ⟨h1, h2 | ⟨d, qs, e1, e2, r⟩⟩ := h
  · exact ⟨h1, .inl h2⟩
  · exact ⟨h1, .inr ⟨d, qs, e1, k _ _ e2 trivial, r.mono l k⟩⟩
end Ev

/-! EvC: the evaluator's readings, and how they are lifted over the hand layer's rules. -/
namespace Ev
open PySem PySem.Spec PyProof.Rows L2

/-! ### readings weakened -/
theorem PE.imp {X : Cx} {e : Expr} {t t' : TE} (h : PE X e t) (i : ∀ σ H Q, t' σ H Q → t σ H Q) : PE X e t' := ⟨fun pins s σ H Q I hw => h.run pins s σ H Q I (i σ H Q hw)⟩
theorem PT.imp {X : Cx} {e : Expr} {t t' : TT} (h : PT X e t) (i : ∀ σ H Q, t' σ H Q → t σ H Q) : PT X e t' := ⟨fun pins s σ H Q I hw => h.run pins s σ H Q I (i σ H Q hw)⟩
theorem PW.imp {X : Cx} {e : Expr} {t t' : TT} (h : PW X e t) (i : ∀ σ H Q, t' σ H Q → t σ H Q) : PW X e t' := ⟨fun wh pins s σ H Q I hw => h.run wh pins s σ H Q I (i σ H Q hw)⟩
theorem PA.imp {X : Cx} {e : List Expr} {t t' : TA} (h : PA X e t) (i : ∀ σ H Q, t' σ H Q → t σ H Q) : PA X e t' := ⟨fun pos pins s σ H Q I hw => h.run pos pins s σ H Q I (i σ H Q hw)⟩
theorem PS.imp {X : Cx} {e : Stmt} {t t' : TS} (h : PS X e t) (i : ∀ D σ H, t' D σ H → t D σ H) : PS X e t' := ⟨fun pins s σ H D I hw => h.run pins s σ H D I (i D σ H hw)⟩
theorem PSs.imp {X : Cx} {e : List Stmt} {t t' : TS} (h : PSs X e t) (i : ∀ D σ H, t' D σ H → t D σ H) : PSs X e t' := ⟨fun pins s σ H D I hw => h.run pins s σ H D I (i D σ H hw)⟩
theorem PG.imp {X : Cx} {e : Expr} {t t' : TG} (h : PG X e t) (i : ∀ v σ H Q, t' v σ H Q → t v σ H Q) : PG X e t' := ⟨fun pins s σ H v u Q I r hw => h.run pins s σ H v u Q I r (i v σ H Q hw)⟩
theorem PI.imp {X : Cx} {tg e : Expr} {t t' : TI} (h : PI X tg e t) (i : ∀ σ H R, t' σ H R → t σ H R) : PI X tg e t' := ⟨fun pins s σ H R I hw => h.run pins s σ H R I (i σ H R hw)⟩

/-! ### a computation of ours, going on from (ι, H) -/
def Go {α : Type} (G : Gd) (W : WX) (σ : L2.St) (ι : Iota) (H : Hp) (m : M α) (s : S) (P : Iota → Hp → α → S → Prop) : Prop :=
  wp m s (fun a s' => ∀ ι' H', Le ι ι' → Keep H H' → RelH G ι' s' H' → P ι' H' a s')
    (fun x s' => ∀ ι' H' cls dx, Le ι ι' → Keep H H' → RelH G ι' s' H' → XRel G ι' H' x cls dx → W cls dx σ H')
section
variable {α β : Type} {G : Gd} {W : WX} {σ : L2.St} {ι : Iota} {H : Hp} {s : S}
theorem Go.pure {a : α} {P : Iota → Hp → α → S → Prop} (h : Go G W σ ι H (M.pure a) s P) (R : RelH G ι s H) : P ι H a s := h ι H (Le.refl _) (Keep.refl _) R
theorem Go.bind {m : M α} {f : α → M β} {P : Iota → Hp → β → S → Prop} (h : Go G W σ ι H (M.bind m f) s P) :
    Go G W σ ι H m s fun ι1 H1 a s1 => Go G W σ ι1 H1 (f a) s1 P := by
  have h' := wp_bind.mp h
  refine wp_mono h' (fun a s1 q ι1 H1 l1 k1 R1 => ?_) fun x s1 q => q
  exact wp_mono q (fun b s2 z ι2 H2 l2 k2 R2 => z ι2 H2 (l1.trans l2) (k1.trans k2) R2) fun x s2 z ι2 H2 cls dx l2 k2 R2 => z ι2 H2 cls dx (l1.trans l2) (k1.trans k2) R2
theorem Go.imp {m : M α} {P P' : Iota → Hp → α → S → Prop} (h : Go G W σ ι H m s P) (i : ∀ ι' H' a s', Le ι ι' → Keep H H' → RelH G ι' s' H' → P ι' H' a s' → P' ι' H' a s') : Go G W σ ι H m s P' :=
  wp_mono h (fun a s' q ι' H' l k R => i ι' H' a s' l k R (q ι' H' l k R)) fun _ _ z => z
theorem Go.fail {P : Iota → Hp → α → S → Prop} (h : Go G W σ ι H (M.fail : M α) s P) : False := h
theorem Go.opt {o : Option α} {P : Iota → Hp → α → S → Prop} (h : Go G W σ ι H (M.ofOpt o) s P) (R : RelH G ι s H) : ∃ a, o = some a ∧ P ι H a s := by
  cases o with
  | none => exact h.elim
  | some a => exact ⟨a, rfl, Go.pure h R⟩
theorem Go.guard {b : Bool} {P : Iota → Hp → Unit → S → Prop} (h : Go G W σ ι H (M.guard b) s P) (R : RelH G ι s H) : b = true ∧ P ι H () s := by
  obtain ⟨e, z⟩ := wp_guard.mp h
  exact ⟨e, z ι H (Le.refl _) (Keep.refl _) R⟩
theorem Go.read {a : Nat} {P : Iota → Hp → O → S → Prop} (h : Go G W σ ι H (M.read a) s P) (R : RelH G ι s H) : ∃ o, s.get a = some o ∧ P ι H o s := by
  obtain ⟨o, e, z⟩ := wp_read.mp h
  exact ⟨o, e, z ι H (Le.refl _) (Keep.refl _) R⟩
theorem Go.throw {x : XV} {P : Iota → Hp → α → S → Prop} (h : Go G W σ ι H (M.throw x : M α) s P) {cls : Value} {dx : Option Addr} {ι' : Iota} {H' : Hp} (l : Le ι ι') (k : Keep H H') (R : RelH G ι' s H') (r : XRel G ι' H' x cls dx) : W cls dx σ H' :=
  h ι' H' cls dx l k R r
/-- a new object of ours, where the layer has laid u at p -/
theorem Go.new {o : O} {P : Iota → Hp → Nat → S → Prop} (h : Go G W σ ι H (M.new o) s P) (R : RelH G ι s H) {p : Addr} {u : HO} (hp : H p = none) (r : ORel G (ext ι s.n p) (upd H p u) p o) : P (ext ι s.n p) (upd H p u) s.n (s.new o) :=
  h _ _ (R.le_ext p) (Keep.new hp) (R.new hp r)
theorem Go.write {n : Nat} {o : O} {P : Iota → Hp → Unit → S → Prop} (h : Go G W σ ι H (M.write n o) s P) (R : RelH G ι s H) {a : Addr} {u : HO} (e : ι n = some a) (r : ORel G ι (upd H a u) a o) : P ι (upd H a u) () (s.set n o) := by
  obtain ⟨⟨u0, e0, hl⟩, z⟩ := wp_write.mp h
  obtain ⟨R', _⟩ := R.write e r
  obtain ⟨w0, q0, ns0⟩ := (R.at e e0).at hl
  exact z ι _ (Le.refl _) (Keep.write q0 ns0) R'
end

/-! ### readings -/
def tD (G : Gd) (W : WX) (m : Sl → M D) : TE := fun σ H Q => ∃ ι σd s, RelS G ι σd s σ H ∧ Go G W σ ι H (m σd) s fun ι' H' d s' => ∀ v, Rp G ι' H' d v → Q v H'
def tDT (G : Gd) (W : WX) (m : Sl → M Bool) : TT := fun σ H Q => ∃ ι σd s, RelS G ι σd s σ H ∧ Go G W σ ι H (m σd) s fun ι' H' b s' => Q b H'
def tDs (G : Gd) (W : WX) (m : Sl → M (List D)) : TA := fun σ H Q => ∃ ι σd s, RelS G ι σd s σ H ∧ Go G W σ ι H (m σd) s fun ι' H' ds s' => ∀ vs, RpL G ι' H' ds vs → Q vs H'
/-- how a statement ends -/
inductive Fl where
  | nx (σ : Sl) | rt (d : D) | bk (σ : Sl) | ct (σ : Sl) | xc (x : XV) (σ : Sl)
/-- what is wanted of a statement's end -/
def FlOk (G : Gd) (W : WX) (N : Ends) (ι : Iota) (H : Hp) : Fl → S → Prop
  | .nx σd, s => ∀ ι' σ' H', Le ι ι' → Keep H H' → RelS G ι' σd s σ' H' → N.nx σ' H'
  | .rt d, s => ∀ ι' v H', Le ι ι' → Keep H H' → RelH G ι' s H' → Rp G ι' H' d v → N.rt v H'
  | .bk σd, s => ∀ ι' σ' H', Le ι ι' → Keep H H' → RelS G ι' σd s σ' H' → N.bk σ' H'
  | .ct σd, s => ∀ ι' σ' H', Le ι ι' → Keep H H' → RelS G ι' σd s σ' H' → N.ct σ' H'
  | .xc x σd, s => ∀ ι' σ' H' cls dx, Le ι ι' → Keep H H' → RelS G ι' σd s σ' H' → XRel G ι' H' x cls dx → W cls dx σ' H'
def tSD (G : Gd) (W : WX) (g : Sl → M Fl) : TS := fun N σ H => ∃ ι σd s, RelS G ι σd s σ H ∧ wp (g σd) s (FlOk G W N ι H) fun _ _ => False
theorem FlOk.mono {G : Gd} {W : WX} {N N' : Ends} {ι ι1 : Iota} {H H1 : Hp} {f : Fl} {s : S} (l : Le ι ι1) (k : Keep H H1) (h : FlOk G W N ι H f s)
    (h1 : ∀ σ H, N.nx σ H → N'.nx σ H) (h2 : ∀ v H, N.rt v H → N'.rt v H) (h3 : ∀ σ H, N.bk σ H → N'.bk σ H) (h4 : ∀ σ H, N.ct σ H → N'.ct σ H) : FlOk G W N' ι1 H1 f s := by
  cases f with
  | nx σd => exact fun ι' σ' H' l' k' R => h1 _ _ (h ι' σ' H' (l.trans l') (k.trans k') R)
  | rt d => exact fun ι' v H' l' k' R r => h2 _ _ (h ι' v H' (l.trans l') (k.trans k') R r)
  | bk σd => exact fun ι' σ' H' l' k' R => h3 _ _ (h ι' σ' H' (l.trans l') (k.trans k') R)
  | ct σd => exact fun ι' σ' H' l' k' R => h4 _ _ (h ι' σ' H' (l.trans l') (k.trans k') R)
  | xc x σd => exact fun ι' σ' H' cls dx l' k' R r => h ι' σ' H' cls dx (l.trans l') (k.trans k') R r
theorem FlOk.up {G : Gd} {W : WX} {N : Ends} {ι ι1 : Iota} {H H1 : Hp} {f : Fl} {s : S} (l : Le ι ι1) (k : Keep H H1) (h : FlOk G W N ι H f s) : FlOk G W N ι1 H1 f s :=
  h.mono l k (fun _ _ z => z) (fun _ _ z => z) (fun _ _ z => z) fun _ _ z => z
/-- a statement around an expression: what it raises is noted with the slots -/
def M.inS {α : Type} (σ : Sl) (m : M α) (f : α → M Fl) : M Fl := fun s => (m s).bind fun
  | .ok a s' => f a s'
  | .exc x s' => .ret (.ok (.xc x σ) s')
  | .fail => .ret .fail
theorem wp_inS {α : Type} {σ : Sl} {m : M α} {f : α → M Fl} {s : S} {Q : Fl → S → Prop} {E : XV → S → Prop} : wp (M.inS σ m f) s Q E ↔ wp m s (fun a s' => wp (f a) s' Q E) fun x s' => Q (.xc x σ) s' := by
  unfold wp M.inS
  rw [T.all_bind]
  constructor <;> (refine T.All.mono fun o h => ?_; cases o <;> exact h)
/-- the expression's part of it -/
theorem go_inS {α : Type} {G : Gd} {W : WX} {N : Ends} {ι : Iota} {σd : Sl} {s : S} {σ : L2.St} {H : Hp} {m : M α} {f : α → M Fl} (R : RelS G ι σd s σ H) (h : wp (M.inS σd m f) s (FlOk G W N ι H) fun _ _ => False) :
    Go G W σ ι H m s fun ι' H' a s' => wp (f a) s' (FlOk G W N ι' H') fun _ _ => False := by
  refine wp_mono (wp_inS.mp h) (fun a s' q ι' H' l k R' => wp_mono q (fun fl s2 z => z.up l k) fun _ _ z => z) fun x s' q ι' H' cls dx l k R' r => ?_
  exact q ι' σ H' cls dx l k (R.on l k R') r

/-! ### operators: from values to values -/
def OpS (G : Gd) (r : R2) (op : D → D → M D) : Prop := ∀ (W : WX) (σ : L2.St) (ι : Iota) (s : S) (H : Hp) (d e : D) (v w : V) (Q : VK), RelH G ι s H → Rp G ι H d v → Rp G ι H e w →
  Go G W σ ι H (op d e) s (fun ι' H' z _ => ∀ u, Rp G ι' H' z u → Q u H') → r v w H Q
def UnS (G : Gd) (r : V → Hp → VK → Prop) (op : D → M D) : Prop := ∀ (W : WX) (σ : L2.St) (ι : Iota) (s : S) (H : Hp) (d : D) (v : V) (Q : VK), RelH G ι s H → Rp G ι H d v →
  Go G W σ ι H (op d) s (fun ι' H' z _ => ∀ u, Rp G ι' H' z u → Q u H') → r v H Q
def CallS (G : Gd) (r : List V → Hp → VK → Prop) (op : List D → M D) : Prop := ∀ (W : WX) (σ : L2.St) (ι : Iota) (s : S) (H : Hp) (ds : List D) (vs : List V) (Q : VK), RelH G ι s H → RpL G ι H ds vs →
  Go G W σ ι H (op ds) s (fun ι' H' z _ => ∀ u, Rp G ι' H' z u → Q u H') → r vs H Q
def MtS (G : Gd) (r : V → List V → Hp → VK → Prop) (op : D → List D → M D) : Prop := ∀ (W : WX) (σ : L2.St) (ι : Iota) (s : S) (H : Hp) (d : D) (v : V) (ds : List D) (vs : List V) (Q : VK), RelH G ι s H → Rp G ι H d v → RpL G ι H ds vs →
  Go G W σ ι H (op d ds) s (fun ι' H' z _ => ∀ u, Rp G ι' H' z u → Q u H') → r v vs H Q

def m2 (ma mb : Sl → M D) (op : D → D → M D) : Sl → M D := fun σ => M.bind (ma σ) fun x => M.bind (mb σ) fun y => op x y
def m1 (ma : Sl → M D) (op : D → M D) : Sl → M D := fun σ => M.bind (ma σ) op
def mA (ms : Sl → M (List D)) (op : List D → M D) : Sl → M D := fun σ => M.bind (ms σ) op
section
variable {G : Gd} {W : WX} {ma mb : Sl → M D} {ms : Sl → M (List D)}
theorem lift2 {r : R2} {op : D → D → M D} (os : OpS G r op) (σ : L2.St) (H : Hp) (Q : VK) (h : tD G W (m2 ma mb op) σ H Q) : tOp r (tD G W ma) (tD G W mb) σ H Q := by
  obtain ⟨ι, σd, s, R, g⟩ := h
  refine ⟨ι, σd, s, R, (Go.bind g).imp fun ι1 H1 d s1 l1 k1 R1 g1 v r1 => ?_⟩
  refine ⟨ι1, σd, s1, R.on l1 k1 R1, (Go.bind g1).imp fun ι2 H2 e s2 l2 k2 R2 g2 w r2 => ?_⟩
  exact os W σ ι2 s2 H2 d e v w Q R2 (r1.mono l2 k2) r2 g2
theorem lift1 {r : V → Hp → VK → Prop} {op : D → M D} (os : UnS G r op) (σ : L2.St) (H : Hp) (Q : VK) (h : tD G W (m1 ma op) σ H Q) : tUn r (tD G W ma) σ H Q := by
  obtain ⟨ι, σd, s, R, g⟩ := h
  refine ⟨ι, σd, s, R, (Go.bind g).imp fun ι1 H1 d s1 l1 k1 R1 g1 v r1 => ?_⟩
  exact os W σ ι1 s1 H1 d v Q R1 r1 g1
theorem liftA {r : List V → Hp → VK → Prop} {op : List D → M D} (os : CallS G r op) (σ : L2.St) (H : Hp) (Q : VK) (h : tD G W (mA ms op) σ H Q) : tCB r (tDs G W ms) σ H Q := by
  obtain ⟨ι, σd, s, R, g⟩ := h
  refine ⟨ι, σd, s, R, (Go.bind g).imp fun ι1 H1 d s1 l1 k1 R1 g1 v r1 => ?_⟩
  exact os W σ ι1 s1 H1 d v Q R1 r1 g1
end

/-! ### names, constants -/
def mVar (i : Nat) : Sl → M D := fun σ => M.ofOpt (σ[i]?.join)
theorem rd_var {G : Gd} {W : WX} {i : Nat} (σ : L2.St) (H : Hp) (Q : VK) (h : tD G W (mVar i) σ H Q) : tVar i σ H Q := by
  obtain ⟨ι, σd, s, R, g⟩ := h
  obtain ⟨d, e, q⟩ := Go.opt g R.hp
  cases e2 : σd[i]? with
  | none => rw [e2] at e; cases e
  | some o =>
    rw [e2] at e
    cases o with
    | none => cases e
    | some d' =>
      obtain ⟨v, h1, h2⟩ := R.slot i d' e2
      cases e
      exact ⟨v, h1, q v h2⟩
def mC (d : D) : Sl → M D := fun _ => M.pure d
theorem rd_C {G : Gd} {W : WX} {d : D} {v : V} (r : ∀ ι H, Rp G ι H d v) (σ : L2.St) (H : Hp) (Q : VK) (h : tD G W (mC d) σ H Q) : tC v σ H Q := by
  obtain ⟨ι, σd, s, R, g⟩ := h
  exact Go.pure g R.hp v (r ι H)

/-! ### arguments -/
def mNil : Sl → M (List D) := fun _ => M.pure []
def mCons (ma : Sl → M D) (mr : Sl → M (List D)) : Sl → M (List D) := fun σ => M.bind (ma σ) fun x => M.bind (mr σ) fun xs => M.pure (x :: xs)
theorem rd_nil {G : Gd} {W : WX} (σ : L2.St) (H : Hp) (Q : List V → Hp → Prop) (h : tDs G W mNil σ H Q) : tNil σ H Q := by
  obtain ⟨ι, σd, s, R, g⟩ := h
  exact Go.pure g R.hp [] .nil
theorem rd_cons {G : Gd} {W : WX} {ma : Sl → M D} {mr : Sl → M (List D)} (σ : L2.St) (H : Hp) (Q : List V → Hp → Prop) (h : tDs G W (mCons ma mr) σ H Q) : tCons (tD G W ma) (tDs G W mr) σ H Q := by
  obtain ⟨ι, σd, s, R, g⟩ := h
  refine ⟨ι, σd, s, R, (Go.bind g).imp fun ι1 H1 d s1 l1 k1 R1 g1 v r1 => ?_⟩
  refine ⟨ι1, σd, s1, R.on l1 k1 R1, (Go.bind g1).imp fun ι2 H2 e s2 l2 k2 R2 g2 w r2 => ?_⟩
  exact Go.pure g2 R2 _ (.cons (r1.mono l2 k2) r2)

/-! ### tests -/
def mAnd (ma mb : Sl → M Bool) : Sl → M Bool := fun σ => M.bind (ma σ) fun b => if b = true then mb σ else M.pure false
def mOr (ma mb : Sl → M Bool) : Sl → M Bool := fun σ => M.bind (ma σ) fun b => if b = true then M.pure true else mb σ
def mNot (ma : Sl → M Bool) : Sl → M Bool := fun σ => M.bind (ma σ) fun b => M.pure (!b)
/-- a value that must be a bool -/
def mBool (ma : Sl → M D) : Sl → M Bool := fun σ => M.bind (ma σ) fun
  | .bl b => M.pure b
  | _ => M.fail
def mOfB (ma : Sl → M Bool) : Sl → M D := fun σ => M.bind (ma σ) fun b => M.pure (.bl b)
section
variable {G : Gd} {W : WX} {ma mb : Sl → M Bool} {me mf : Sl → M D}
theorem rd_and (σ : L2.St) (H : Hp) (Q : Bool → Hp → Prop) (h : tDT G W (mAnd ma mb) σ H Q) : tAnd (tDT G W ma) (tDT G W mb) σ H Q := by
  obtain ⟨ι, σd, s, R, g⟩ := h
  refine ⟨ι, σd, s, R, (Go.bind g).imp fun ι1 H1 b s1 l1 k1 R1 g1 => ?_⟩
  cases b with
  | true => exact ⟨ι1, σd, s1, R.on l1 k1 R1, g1⟩
  | false => exact Go.pure g1 R1
theorem rd_or (σ : L2.St) (H : Hp) (Q : Bool → Hp → Prop) (h : tDT G W (mOr ma mb) σ H Q) : tOr (tDT G W ma) (tDT G W mb) σ H Q := by
  obtain ⟨ι, σd, s, R, g⟩ := h
  refine ⟨ι, σd, s, R, (Go.bind g).imp fun ι1 H1 b s1 l1 k1 R1 g1 => ?_⟩
  cases b with
  | true => exact Go.pure g1 R1
  | false => exact ⟨ι1, σd, s1, R.on l1 k1 R1, g1⟩
theorem rd_not (σ : L2.St) (H : Hp) (Q : Bool → Hp → Prop) (h : tDT G W (mNot ma) σ H Q) : tNot (tDT G W ma) σ H Q := by
  obtain ⟨ι, σd, s, R, g⟩ := h
  exact ⟨ι, σd, s, R, (Go.bind g).imp fun ι1 H1 b s1 l1 k1 R1 g1 => Go.pure g1 R1⟩
theorem rd_bool (σ : L2.St) (H : Hp) (Q : Bool → Hp → Prop) (h : tDT G W (mBool me) σ H Q) : tB (tD G W me) σ H Q := by
  obtain ⟨ι, σd, s, R, g⟩ := h
  refine ⟨ι, σd, s, R, (Go.bind g).imp fun ι1 H1 d s1 l1 k1 R1 g1 v r1 => ?_⟩
  cases d with
  | bl b => cases r1; exact ⟨b, rfl, Go.pure g1 R1⟩
  | _ => exact (Go.fail g1).elim
/-- a if t else b -/
def mIf (mt : Sl → M Bool) (ma mb : Sl → M D) : Sl → M D := fun σ => M.bind (mt σ) fun b => if b = true then ma σ else mb σ
theorem rd_if (σ : L2.St) (H : Hp) (Q : VK) (h : tD G W (mIf ma me mf) σ H Q) : tIf (tDT G W ma) (tD G W me) (tD G W mf) σ H Q := by
  obtain ⟨ι, σd, s, R, g⟩ := h
  refine ⟨ι, σd, s, R, (Go.bind g).imp fun ι1 H1 b s1 l1 k1 R1 g1 => ?_⟩
  cases b with
  | true => exact ⟨ι1, σd, s1, R.on l1 k1 R1, g1⟩
  | false => exact ⟨ι1, σd, s1, R.on l1 k1 R1, g1⟩
/-- and, or, not as values: bools but for the last -/
def mAndV (ma mb : Sl → M D) : Sl → M D := fun σ => M.bind (ma σ) fun
  | .bl b => if b = true then mb σ else M.pure (.bl false)
  | _ => M.fail
def mOrV (ma mb : Sl → M D) : Sl → M D := fun σ => M.bind (ma σ) fun
  | .bl b => if b = true then M.pure (.bl true) else mb σ
  | _ => M.fail
def mNotV (ma : Sl → M D) : Sl → M D := fun σ => M.bind (ma σ) fun
  | .bl b => M.pure (.bl (!b))
  | _ => M.fail
theorem rd_andV (σ : L2.St) (H : Hp) (Q : VK) (h : tD G W (mAndV me mf) σ H Q) : tAndV (tD G W me) (tD G W mf) σ H Q := by
  obtain ⟨ι, σd, s, R, g⟩ := h
  refine ⟨ι, σd, s, R, (Go.bind g).imp fun ι1 H1 d s1 l1 k1 R1 g1 v r1 => ?_⟩
  cases d with
  | bl b =>
    cases r1
    refine ⟨b, rfl, ?_⟩
    cases b with
    | true => exact ⟨ι1, σd, s1, R.on l1 k1 R1, g1⟩
    | false => exact Go.pure g1 R1 _ (.bl _)
  | _ => exact (Go.fail g1).elim
theorem rd_orV (σ : L2.St) (H : Hp) (Q : VK) (h : tD G W (mOrV me mf) σ H Q) : tOrV (tD G W me) (tD G W mf) σ H Q := by
  obtain ⟨ι, σd, s, R, g⟩ := h
  refine ⟨ι, σd, s, R, (Go.bind g).imp fun ι1 H1 d s1 l1 k1 R1 g1 v r1 => ?_⟩
  cases d with
  | bl b =>
    cases r1
    refine ⟨b, rfl, ?_⟩
    cases b with
    | true => exact Go.pure g1 R1 _ (.bl _)
    | false => exact ⟨ι1, σd, s1, R.on l1 k1 R1, g1⟩
  | _ => exact (Go.fail g1).elim
theorem rd_notV (σ : L2.St) (H : Hp) (Q : VK) (h : tD G W (mNotV me) σ H Q) : tNotV (tD G W me) σ H Q := by
  obtain ⟨ι, σd, s, R, g⟩ := h
  refine ⟨ι, σd, s, R, (Go.bind g).imp fun ι1 H1 d s1 l1 k1 R1 g1 v r1 => ?_⟩
  cases d with
  | bl b => cases r1; exact ⟨b, rfl, Go.pure g1 R1 _ (.bl _)⟩
  | _ => exact (Go.fail g1).elim
end

/-! ### statements -/
section
variable {G : Gd} {W : WX} {N : Ends}
def gSeq (f g : Sl → M Fl) : Sl → M Fl := fun σ => M.bind (f σ) fun
  | .nx σ' => g σ'
  | o => M.pure o
def gNext : Sl → M Fl := fun σ => M.pure (.nx σ)
theorem rd_next (N : Ends) (σ : L2.St) (H : Hp) (h : tSD G W gNext N σ H) : tNext N σ H := by
  obtain ⟨ι, σd, s, R, g⟩ := h
  exact g ι σ H (Le.refl _) (Keep.refl _) R
theorem rd_seq {f g : Sl → M Fl} (N : Ends) (σ : L2.St) (H : Hp) (h : tSD G W (gSeq f g) N σ H) : tSeq (tSD G W f) (tSD G W g) N σ H := by
  obtain ⟨ι, σd, s, R, w⟩ := h
  refine ⟨ι, σd, s, R, wp_mono (wp_bind.mp w) (fun fl s' q => ?_) fun _ _ z => z⟩
  cases fl with
  | nx σd' =>
    intro ι' σ' H' l k R'
    exact ⟨ι', σd', s', R', wp_mono q (fun fl2 s2 z => z.up l k) fun _ _ z => z⟩
  | rt d => exact q
  | bk σd' => exact q
  | ct σd' => exact q
  | xc x σd' => exact q
def gBrk : Sl → M Fl := fun σ => M.pure (.bk σ)
def gCnt : Sl → M Fl := fun σ => M.pure (.ct σ)
theorem rd_brk (N : Ends) (σ : L2.St) (H : Hp) (h : tSD G W gBrk N σ H) : tBreak N σ H := by
  obtain ⟨ι, σd, s, R, g⟩ := h
  exact g ι σ H (Le.refl _) (Keep.refl _) R
theorem rd_cnt (N : Ends) (σ : L2.St) (H : Hp) (h : tSD G W gCnt N σ H) : tCont N σ H := by
  obtain ⟨ι, σd, s, R, g⟩ := h
  exact g ι σ H (Le.refl _) (Keep.refl _) R
def gExpr (me : Sl → M D) : Sl → M Fl := fun σ => M.inS σ (me σ) fun _ => M.pure (.nx σ)
theorem rd_expr {me : Sl → M D} (N : Ends) (σ : L2.St) (H : Hp) (h : tSD G W (gExpr me) N σ H) : tDrop (tD G W me) N σ H := by
  obtain ⟨ι, σd, s, R, w⟩ := h
  exact ⟨ι, σd, s, R, (go_inS R w).imp fun ι1 H1 d s1 l1 k1 R1 g1 v r1 => g1 ι1 σ H1 (Le.refl _) (Keep.refl _) (R.on l1 k1 R1)⟩
def gRet (me : Sl → M D) : Sl → M Fl := fun σ => M.inS σ (me σ) fun d => M.pure (.rt d)
theorem rd_ret {me : Sl → M D} (N : Ends) (σ : L2.St) (H : Hp) (h : tSD G W (gRet me) N σ H) : tRet (tD G W me) N σ H := by
  obtain ⟨ι, σd, s, R, w⟩ := h
  exact ⟨ι, σd, s, R, (go_inS R w).imp fun ι1 H1 d s1 l1 k1 R1 g1 v r1 => g1 ι1 v H1 (Le.refl _) (Keep.refl _) R1 r1⟩
def gRetN : Sl → M Fl := fun _ => M.pure (.rt .non)
theorem rd_retN (N : Ends) (σ : L2.St) (H : Hp) (h : tSD G W gRetN N σ H) : tRetN N σ H := by
  obtain ⟨ι, σd, s, R, g⟩ := h
  exact g ι .non H (Le.refl _) (Keep.refl _) R.hp .non
def gIf (mt : Sl → M Bool) (f g : Sl → M Fl) : Sl → M Fl := fun σ => M.inS σ (mt σ) fun b => if b = true then f σ else g σ
theorem rd_ifS {mt : Sl → M Bool} {f g : Sl → M Fl} (N : Ends) (σ : L2.St) (H : Hp) (h : tSD G W (gIf mt f g) N σ H) : tIfS (tDT G W mt) (tSD G W f) (tSD G W g) N σ H := by
  obtain ⟨ι, σd, s, R, w⟩ := h
  refine ⟨ι, σd, s, R, (go_inS R w).imp fun ι1 H1 b s1 l1 k1 R1 g1 => ?_⟩
  cases b with
  | true => exact ⟨ι1, σd, s1, R.on l1 k1 R1, g1⟩
  | false => exact ⟨ι1, σd, s1, R.on l1 k1 R1, g1⟩
end
end Ev

/-! EvD: operators, comparisons, subscripts, slices, displays of the evaluator. -/
namespace Ev
open PySem PySem.Spec PyProof.Rows L2

def lim : Nat := 1000000
def small (x : Cs) : Bool := decide (x.length ≤ 1000000)
/-! ### ints and texts -/
def subM : D → D → M D
  | .int a, .int b => M.pure (.int (a - b))
  | _, _ => M.fail
theorem subS {G : Gd} : OpS G (rI0 fun i j => .int (i - j)) subM := by
  intro W σ ι s H d e v w Q R r1 r2 g
  cases d with
  | int a =>
    cases e with
    | int b => cases r1; cases r2; exact ⟨a, b, rfl, rfl, Go.pure g R _ (.int _)⟩
    | _ => exact (Go.fail g).elim
  | _ => exact (Go.fail g).elim
def mulOk (a b : Int) : Bool := (decide (-(2 ^ 64) < a) && decide (a < 2 ^ 64)) || (decide (-(2 ^ 64) < b) && decide (b < 2 ^ 64))
def mulM : D → D → M D
  | .int a, .int b => if mulOk a b = true then M.pure (.int (a * b)) else M.fail
  | _, _ => M.fail
theorem mulS {G : Gd} : OpS G (rI CMul fun i j => .int (i * j)) mulM := by
  intro W σ ι s H d e v w Q R r1 r2 g
  cases d with
  | int a =>
    cases e with
    | int b =>
      cases r1; cases r2
      by_cases hm : mulOk a b = true
      · rw [mulM, if_pos hm] at g
        refine ⟨a, b, rfl, rfl, ?_, Go.pure g R _ (.int _)⟩
        simpa [mulOk, CMul] using hm
      · rw [mulM, if_neg hm] at g
        exact (Go.fail g).elim
    | _ => exact (Go.fail g).elim
  | _ => exact (Go.fail g).elim
def fdivM : D → D → M D
  | .int a, .int b => if decide (0 < b) && decide (b < 1073741824) then M.pure (.int (a / b)) else M.fail
  | _, _ => M.fail
theorem fdivS {G : Gd} : OpS G (rI CDiv fun i j => .int (i / j)) fdivM := by
  intro W σ ι s H d e v w Q R r1 r2 g
  cases d with
  | int a =>
    cases e with
    | int b =>
      cases r1; cases r2
      by_cases hm : (decide (0 < b) && decide (b < 1073741824)) = true
      · rw [fdivM, if_pos hm] at g
        refine ⟨a, b, rfl, rfl, ?_, Go.pure g R _ (.int _)⟩
        simpa [CDiv] using hm
      · rw [fdivM, if_neg hm] at g
        exact (Go.fail g).elim
    | _ => exact (Go.fail g).elim
  | _ => exact (Go.fail g).elim
def modM : D → D → M D
  | .int a, .int b => if decide (0 < b) then M.pure (.int (a % b)) else M.fail
  | _, _ => M.fail
theorem modS {G : Gd} : OpS G (rI (fun _ j => 0 < j) fun i j => .int (i % j)) modM := by
  intro W σ ι s H d e v w Q R r1 r2 g
  cases d with
  | int a =>
    cases e with
    | int b =>
      cases r1; cases r2
      by_cases hm : decide (0 < b) = true
      · rw [modM, if_pos hm] at g
        exact ⟨a, b, rfl, rfl, of_decide_eq_true hm, Go.pure g R _ (.int _)⟩
      · rw [modM, if_neg hm] at g
        exact (Go.fail g).elim
    | _ => exact (Go.fail g).elim
  | _ => exact (Go.fail g).elim
def powM : D → D → M D
  | .int a, .int b => if decide (0 ≤ b) && (decide (b ≤ 1000) && decide (a.natAbs < 2 ^ 64)) then M.pure (.int (a ^ b.toNat)) else M.fail
  | _, _ => M.fail
theorem powS {G : Gd} : OpS G (rI CPow fun i j => .int (i ^ j.toNat)) powM := by
  intro W σ ι s H d e v w Q R r1 r2 g
  cases d with
  | int a =>
    cases e with
    | int b =>
      cases r1; cases r2
      by_cases hm : (decide (0 ≤ b) && (decide (b ≤ 1000) && decide (a.natAbs < 2 ^ 64))) = true
      · rw [powM, if_pos hm] at g
        refine ⟨a, b, rfl, rfl, ?_, Go.pure g R _ (.int _)⟩
        simp only [Bool.and_eq_true, decide_eq_true_eq] at hm
        exact ⟨hm.1, by omega, hm.2.2⟩
      · rw [powM, if_neg hm] at g
        exact (Go.fail g).elim
    | _ => exact (Go.fail g).elim
  | _ => exact (Go.fail g).elim
def negM : D → M D
  | .int a => M.pure (.int (-a))
  | _ => M.fail
theorem negS {G : Gd} : UnS G (rU fun i => .int (-i)) negM := by
  intro W σ ι s H d v Q R r1 g
  cases d with
  | int a => cases r1; exact ⟨a, rfl, Go.pure g R _ (.int _)⟩
  | _ => exact (Go.fail g).elim

/-- + of ints, texts, tuples, lists -/
def addM : D → D → M D
  | .int a, .int b => M.pure (.int (a + b))
  | .str a, .str b => if small (a ++ b) then M.pure (.str (a ++ b)) else M.fail
  | .tup a, .tup b => if decide (a.length + b.length ≤ 1000000) then M.pure (.tup (a ++ b)) else M.fail
  | .ref a, .ref b => M.bind (M.read a) fun
    | .lst xs => M.bind (M.read b) fun
      | .lst ys => if decide (xs.length + ys.length ≤ 1000000) then M.bind (M.new (.lst (xs ++ ys))) fun n => M.pure (.ref n) else M.fail
      | _ => M.fail
    | _ => M.fail
  | _, _ => M.fail
def rAddA (K : PySem.W.Frag) : R2 := fun x y H Q => (∃ i j, x = .int i ∧ y = .int j ∧ Q (.int (i + j)) H) ∨ (∃ i j, x = .str i ∧ y = .str j ∧ i.length + j.length ≤ sizeLine ∧ Q (.str (i ++ j)) H) ∨ rCatA K x y H Q ∨ rCat x y H Q
theorem op_addA {X : Cx} : OpR X (binaryOp .Add) (rAddA X.K) := op_add.or (op_add_str.or (op_catA.or op_cat))
theorem st_app (a b : Cs) : st a ++ st b = st (a ++ b) := by
  apply TL.ext_tl
  rw [TL.tl_append]
  simp [st]
theorem Rp.tupE {G : Gd} {ι : Iota} {H : Hp} {ds : List D} {v : V} (h : Rp G ι H (.tup ds) v) : ∃ a xs, v = .ref a ∧ SqT G.K H a xs ∧ RpL G ι H ds xs := by
  cases h with
  | tup h r => exact ⟨_, _, rfl, h, r⟩
theorem Rp.refE {G : Gd} {ι : Iota} {H : Hp} {n : Nat} {v : V} (h : Rp G ι H (.ref n) v) : ∃ a, v = .ref a ∧ ι n = some a := by
  cases h with
  | ref h => exact ⟨_, rfl, h⟩
theorem Rp.strE {G : Gd} {ι : Iota} {H : Hp} {x : Cs} {v : V} (h : Rp G ι H (.str x) v) : v = .str (st x) ∧ TxOk x := by
  cases h with
  | str x h => exact ⟨rfl, h⟩
theorem RpL.nilE {G : Gd} {ι : Iota} {H : Hp} {ds : List D} (h : RpL G ι H ds []) : ds = [] := by cases h; rfl
theorem RpL.nilE' {G : Gd} {ι : Iota} {H : Hp} {xs : List V} (h : RpL G ι H [] xs) : xs = [] := by cases h; rfl
/-- a new tuple -/
theorem Go.tup {G : Gd} {W : WX} {σ : L2.St} {ι : Iota} {H : Hp} {s : S} {d : D} {P : Iota → Hp → D → S → Prop} (g : Go G W σ ι H (M.pure d) s P) (R : RelH G ι s H) {p : Addr} {u : HO} (hp : H p = none) : P ι (upd H p u) d s :=
  g ι _ (Le.refl _) (Keep.new hp) (R.tup hp)
theorem RpL.newTup {G : Gd} {ι : Iota} {H : Hp} {ds : List D} {xs : List V} {p : Addr} (r : RpL G ι H ds xs) (hp : H p = none) : Rp G ι (upd H p (.tup xs)) (.tup ds) (.ref p) :=
  .tup (SqT.of upd_same) (r.mono (Le.refl _) (Keep.new hp))
theorem lineM {n : Nat} (h : n ≤ 1000000) : n ≤ sizeLine := by rw [sizeLine_eq]; omega
theorem addS {G : Gd} : OpS G (rAddA G.K) addM := by
  intro W σ ι s H d e v w Q R r1 r2 g
  cases d with
  | int a =>
    cases e with
    | int b => cases r1; cases r2; exact .inl ⟨a, b, rfl, rfl, Go.pure g R _ (.int _)⟩
    | _ => exact (Go.fail g).elim
  | str a =>
    cases e with
    | str b =>
      obtain ⟨rfl, ta⟩ := r1.strE
      obtain ⟨rfl, tb⟩ := r2.strE
      by_cases hm : small (a ++ b) = true
      · rw [addM, if_pos hm] at g
        have hl : (a ++ b).length ≤ 1000000 := of_decide_eq_true hm
        refine .inr (.inl ⟨_, _, rfl, rfl, ?_, ?_⟩)
        · rw [st_len, st_len, ← List.length_append]; exact lineM hl
        · rw [st_app]; exact Go.pure g R _ (.str _ (ta.app tb hl))
      · rw [addM, if_neg hm] at g
        exact (Go.fail g).elim
    | _ => exact (Go.fail g).elim
  | tup a =>
    cases e with
    | tup b =>
      obtain ⟨p, xs, rfl, hp, rx⟩ := r1.tupE
      obtain ⟨q, ys, rfl, hq, ry⟩ := r2.tupE
      by_cases hm : decide (a.length + b.length ≤ 1000000) = true
      · rw [addM, if_pos hm] at g
        have hl : a.length + b.length ≤ 1000000 := of_decide_eq_true hm
        refine .inr (.inr (.inl ⟨p, q, xs, ys, rfl, rfl, hp, hq, ?_, fun e0 => ?_, fun e0 e1 => ?_, fun e0 e1 n hn => ?_⟩))
        · rw [← rx.length, ← ry.length]; exact lineM hl
        · subst e0
          have := rx.nilE; subst this
          exact Go.pure g R _ r2
        · subst e1
          have := ry.nilE; subst this
          rw [List.append_nil] at g
          exact Go.pure g R _ r1
        · exact Go.tup g R hn _ ((rx.append ry).newTup hn)
      · rw [addM, if_neg hm] at g
        exact (Go.fail g).elim
    | _ => exact (Go.fail g).elim
  | ref a =>
    cases e with
    | ref b =>
      obtain ⟨p, rfl, ep⟩ := r1.refE
      obtain ⟨q, rfl, eq⟩ := r2.refE
      obtain ⟨o1, h1, g1⟩ := Go.read (Go.bind g) R
      have z1 := R.at ep h1
      cases o1 with
      | lst ds =>
        obtain ⟨xs, hx, rx⟩ := z1
        obtain ⟨o2, h2, g2⟩ := Go.read (Go.bind g1) R
        have z2 := R.at eq h2
        cases o2 with
        | lst es =>
          obtain ⟨ys, hy, ry⟩ := z2
          by_cases hm : decide (ds.length + es.length ≤ 1000000) = true
          · dsimp only at g2
            rw [if_pos hm] at g2
            have hl : ds.length + es.length ≤ 1000000 := of_decide_eq_true hm
            refine .inr (.inr (.inr ⟨p, q, xs, ys, rfl, rfl, hx, hy, ?_, fun n hn => ?_⟩))
            · rw [← rx.length, ← ry.length]; exact lineM hl
            · have R' := R.new (o := .lst (ds ++ es)) hn ⟨_, upd_same, (rx.append ry).mono (R.le_ext n) (Keep.new hn)⟩
              exact Go.pure (Go.new (Go.bind g2) R hn ⟨_, upd_same, (rx.append ry).mono (R.le_ext n) (Keep.new hn)⟩) R' _ (.ref (ext_same _ _ _))
          · dsimp only at g2
            rw [if_neg hm] at g2
            exact (Go.fail g2).elim
        | _ => exact (Go.fail g2).elim
      | _ => exact (Go.fail g1).elim
    | _ => exact (Go.fail g).elim
  | _ => exact (Go.fail g).elim

/-! ### order -/
def ints? : List D → Option (List Int)
  | [] => some []
  | .int i :: r => (ints? r).map (i :: ·)
  | _ :: _ => none
theorem ints?_map : ∀ {ds : List D} {is : List Int}, ints? ds = some is → ds = is.map D.int
  | [], is, h => by cases h; rfl
  | .int i :: r, is, h => by
    cases e : ints? r with
    | none => simp [ints?, e] at h
    | some js =>
      simp [ints?, e] at h
      subst h
      rw [List.map_cons, ← ints?_map e]
  | .non :: r, is, h => by simp [ints?] at h
  | .bl _ :: r, is, h => by simp [ints?] at h
  | .str _ :: r, is, h => by simp [ints?] at h
  | .tup _ :: r, is, h => by simp [ints?] at h
  | .ref _ :: r, is, h => by simp [ints?] at h
  | .cls _ :: r, is, h => by simp [ints?] at h
  | .ty _ :: r, is, h => by simp [ints?] at h
  | .scr :: r, is, h => by simp [ints?] at h
def strs? : List D → Option (List Cs)
  | [] => some []
  | .str i :: r => (strs? r).map (i :: ·)
  | _ :: _ => none
theorem strs?_map : ∀ {ds : List D} {is : List Cs}, strs? ds = some is → ds = is.map D.str
  | [], is, h => by cases h; rfl
  | .str i :: r, is, h => by
    cases e : strs? r with
    | none => simp [strs?, e] at h
    | some js =>
      simp [strs?, e] at h
      subst h
      rw [List.map_cons, ← strs?_map e]
  | .non :: r, is, h => by simp [strs?] at h
  | .bl _ :: r, is, h => by simp [strs?] at h
  | .int _ :: r, is, h => by simp [strs?] at h
  | .tup _ :: r, is, h => by simp [strs?] at h
  | .ref _ :: r, is, h => by simp [strs?] at h
  | .cls _ :: r, is, h => by simp [strs?] at h
  | .ty _ :: r, is, h => by simp [strs?] at h
  | .scr :: r, is, h => by simp [strs?] at h
theorem RpL.strs {G : Gd} {ι : Iota} {H : Hp} : ∀ {is : List Cs} {vs : List V}, RpL G ι H (is.map D.str) vs → vs = (is.map st).map V.str ∧ ∀ x ∈ is, TxOk x
  | [], _, .nil => ⟨rfl, fun _ h => by cases h⟩
  | x :: r, _, .cons q t => by
    obtain ⟨rfl, tx⟩ := q.strE
    obtain ⟨e, h⟩ := RpL.strs t
    refine ⟨by rw [e]; rfl, fun y hy => ?_⟩
    rcases List.mem_cons.mp hy with rfl | hy
    · exact tx
    · exact h y hy
def bls? : List D → Option (List Bool)
  | [] => some []
  | .bl i :: r => (bls? r).map (i :: ·)
  | _ :: _ => none
theorem bls?_map : ∀ {ds : List D} {is : List Bool}, bls? ds = some is → ds = is.map D.bl
  | [], is, h => by cases h; rfl
  | .bl i :: r, is, h => by
    cases e : bls? r with
    | none => simp [bls?, e] at h
    | some js =>
      simp [bls?, e] at h
      subst h
      rw [List.map_cons, ← bls?_map e]
  | .non :: r, is, h => by simp [bls?] at h
  | .str _ :: r, is, h => by simp [bls?] at h
  | .int _ :: r, is, h => by simp [bls?] at h
  | .tup _ :: r, is, h => by simp [bls?] at h
  | .ref _ :: r, is, h => by simp [bls?] at h
  | .cls _ :: r, is, h => by simp [bls?] at h
  | .ty _ :: r, is, h => by simp [bls?] at h
  | .scr :: r, is, h => by simp [bls?] at h
/-- x < y: ints, texts, tuples of ints -/
def ltM : D → D → M D
  | .int a, .int b => M.pure (.bl (decide (a < b)))
  | .str a, .str b => M.pure (.bl (decide (a < b)))
  | .tup a, .tup b => match ints? a, ints? b with
    | some i, some j => M.pure (.bl (HT.lexLt i j))
    | _, _ => M.fail
  | _, _ => M.fail
def rLtA (K : PySem.W.Frag) : R2 := fun x y H Q => (∃ i j, x = .int i ∧ y = .int j ∧ Q (.bl (decide (i < j))) H) ∨ (∃ i j, x = .str i ∧ y = .str j ∧ Q (.bl (decide (i.cps.toList < j.cps.toList))) H) ∨ rLtT K x y H Q
theorem op_ltA {X : Cx} (hu : X.A.units < cLine) : OpR X (compareOp .Lt) (rLtA X.K) := op_lt.or (op_lt_str.or (op_ltT hu))
theorem ltS {G : Gd} : OpS G (rLtA G.K) ltM := by
  intro W σ ι s H d e v w Q R r1 r2 g
  cases d with
  | int a =>
    cases e with
    | int b => cases r1; cases r2; exact .inl ⟨a, b, rfl, rfl, Go.pure g R _ (.bl _)⟩
    | _ => exact (Go.fail g).elim
  | str a =>
    cases e with
    | str b =>
      obtain ⟨rfl, ta⟩ := r1.strE
      obtain ⟨rfl, tb⟩ := r2.strE
      exact .inr (.inl ⟨_, _, rfl, rfl, Go.pure g R _ (.bl _)⟩)
    | _ => exact (Go.fail g).elim
  | tup a =>
    cases e with
    | tup b =>
      obtain ⟨p, xs, rfl, hp, rx⟩ := r1.tupE
      obtain ⟨q, ys, rfl, hq, ry⟩ := r2.tupE
      cases e1 : ints? a with
      | none => simp only [ltM, e1] at g; exact (Go.fail g).elim
      | some i =>
        cases e2 : ints? b with
        | none => simp only [ltM, e1, e2] at g; exact (Go.fail g).elim
        | some j =>
          simp only [ltM, e1, e2] at g
          have z1 := ints?_map e1
          have z2 := ints?_map e2
          subst z1 z2
          have w1 := rx.ints
          have w2 := ry.ints
          subst w1 w2
          exact .inr (.inr ⟨p, q, i, j, rfl, rfl, hp, hq, Go.pure g R _ (.bl _)⟩)
    | _ => exact (Go.fail g).elim
  | _ => exact (Go.fail g).elim
/-- x > y: ints, texts -/
def gtM : D → D → M D
  | .int a, .int b => M.pure (.bl (decide (b < a)))
  | .str a, .str b => M.pure (.bl (decide (b < a)))
  | _, _ => M.fail
def rGtA : R2 := fun x y H Q => (∃ i j, x = .int i ∧ y = .int j ∧ Q (.bl (decide (j < i))) H) ∨ (∃ i j, x = .str i ∧ y = .str j ∧ Q (.bl (decide (j.cps.toList < i.cps.toList))) H)
theorem op_gtA {X : Cx} : OpR X (compareOp .Gt) rGtA := op_gt.or op_gt_str
theorem gtS {G : Gd} : OpS G rGtA gtM := by
  intro W σ ι s H d e v w Q R r1 r2 g
  cases d with
  | int a =>
    cases e with
    | int b => cases r1; cases r2; exact .inl ⟨a, b, rfl, rfl, Go.pure g R _ (.bl _)⟩
    | _ => exact (Go.fail g).elim
  | str a =>
    cases e with
    | str b =>
      obtain ⟨rfl, ta⟩ := r1.strE
      obtain ⟨rfl, tb⟩ := r2.strE
      exact .inr ⟨_, _, rfl, rfl, Go.pure g R _ (.bl _)⟩
    | _ => exact (Go.fail g).elim
  | _ => exact (Go.fail g).elim
def leM : D → D → M D
  | .int a, .int b => M.pure (.bl (decide (a ≤ b)))
  | _, _ => M.fail
theorem leS {G : Gd} : OpS G (rI0 fun i j => .bl (decide (i ≤ j))) leM := by
  intro W σ ι s H d e v w Q R r1 r2 g
  cases d with
  | int a =>
    cases e with
    | int b => cases r1; cases r2; exact ⟨a, b, rfl, rfl, Go.pure g R _ (.bl _)⟩
    | _ => exact (Go.fail g).elim
  | _ => exact (Go.fail g).elim
def geM : D → D → M D
  | .int a, .int b => M.pure (.bl (decide (b ≤ a)))
  | _, _ => M.fail
theorem geS {G : Gd} : OpS G (rI0 fun i j => .bl (decide (j ≤ i))) geM := by
  intro W σ ι s H d e v w Q R r1 r2 g
  cases d with
  | int a =>
    cases e with
    | int b => cases r1; cases r2; exact ⟨a, b, rfl, rfl, Go.pure g R _ (.bl _)⟩
    | _ => exact (Go.fail g).elim
  | _ => exact (Go.fail g).elim

/-! ### == of data -/
/-- data as a whole: lists and tuples, nested, read at this heap -/
def pyL (f : D → Option PyData) : List D → Option (List PyData)
  | [] => some []
  | d :: r => (f d).bind fun p => (pyL f r).map (p :: ·)
def toPy (s : S) : Nat → D → Option PyData
  | _, .non => some .none
  | _, .bl b => some (.bool b)
  | _, .int i => some (.int i)
  | _, .str x => some (.str (st x))
  | n + 1, .tup xs => (pyL (toPy s n) xs).map .tuple
  | n + 1, .ref a => match s.get a with
    | some (.lst xs) => (pyL (toPy s n) xs).map .list
    | _ => none
  | _, _ => none
theorem strOk_st {x : Cs} (h : TxOk x) : PyData.strOk (st x) = true := by
  unfold PyData.strOk st
  rw [Array.all_eq_true']
  intro c hc
  have := h.asc c (by simpa using hc)
  simp only [decide_eq_true_eq]
  omega
theorem pyL_ok {G : Gd} {ι : Iota} {H : Hp} {f : D → Option PyData} {n : Nat} (hf : ∀ d v p, Rp G ι H d v → f d = some p → Dp G.K H v p ∧ p.canLay0 = true ∧ p.depth ≤ n) :
    ∀ {ds : List D} {vs : List V} {ps : List PyData}, RpL G ι H ds vs → pyL f ds = some ps → DpAll G.K H vs ps ∧ PyData.canLayAll0 ps = true ∧ PyData.depthAll ps ≤ n
  | _, _, ps, .nil, h => by cases h; exact ⟨.nil, rfl, Nat.zero_le _⟩
  | d :: ds, _, ps, .cons r t, h => by
    cases e1 : f d with
    | none => simp [pyL, e1] at h
    | some p =>
      cases e2 : pyL f ds with
      | none => simp [pyL, e1, e2] at h
      | some qs =>
        simp [pyL, e1, e2] at h
        subst h
        obtain ⟨a1, a2, a3⟩ := hf d _ p r e1
        obtain ⟨b1, b2, b3⟩ := pyL_ok hf t e2
        refine ⟨.cons a1 b1, ?_, ?_⟩
        · rw [PyData.canLayAll0, a2, b2]; rfl
        · rw [PyData.depthAll]; omega
theorem toPy_ok {G : Gd} {ι : Iota} {H : Hp} {s : S} (R : RelH G ι s H) : ∀ (n : Nat) (d : D) (v : V) (p : PyData), Rp G ι H d v → toPy s n d = some p → Dp G.K H v p ∧ p.canLay0 = true ∧ p.depth ≤ n + 1 := by
  intro n
  induction n with
  | zero =>
    intro d v p r h
    cases d with
    | non => cases r; cases h; exact ⟨.non, rfl, by simp [PyData.depth]⟩
    | bl b => cases r; cases h; exact ⟨.bl b, rfl, by simp [PyData.depth]⟩
    | int i => cases r; cases h; exact ⟨.int i, rfl, by simp [PyData.depth]⟩
    | str x =>
      obtain ⟨rfl, tx⟩ := r.strE
      cases h
      exact ⟨.str _, by rw [PyData.canLay0]; exact strOk_st tx, by simp [PyData.depth]⟩
    | _ => cases h
  | succ n ih =>
    intro d v p r h
    cases d with
    | non => cases r; cases h; exact ⟨.non, rfl, by simp [PyData.depth]⟩
    | bl b => cases r; cases h; exact ⟨.bl b, rfl, by simp [PyData.depth]⟩
    | int i => cases r; cases h; exact ⟨.int i, rfl, by simp [PyData.depth]⟩
    | str x =>
      obtain ⟨rfl, tx⟩ := r.strE
      cases h
      exact ⟨.str _, by rw [PyData.canLay0]; exact strOk_st tx, by simp [PyData.depth]⟩
    | tup xs =>
      obtain ⟨a, ys, rfl, ht, rl⟩ := r.tupE
      cases e : pyL (toPy s n) xs with
      | none => simp [toPy, e] at h
      | some ps =>
        simp [toPy, e] at h
        subst h
        obtain ⟨b1, b2, b3⟩ := pyL_ok (n := n + 1) (fun d v p r h => ih d v p r h) rl e
        exact ⟨.tup ht b1, by rw [PyData.canLay0]; exact b2, by rw [PyData.depth]; omega⟩
    | ref a =>
      obtain ⟨q, rfl, eq⟩ := r.refE
      cases e0 : s.get a with
      | none => simp [toPy, e0] at h
      | some o =>
        have z := R.at eq e0
        cases o with
        | lst xs =>
          obtain ⟨ys, hy, rl⟩ := z
          cases e : pyL (toPy s n) xs with
          | none => simp [toPy, e0, e] at h
          | some ps =>
            simp [toPy, e0, e] at h
            subst h
            obtain ⟨b1, b2, b3⟩ := pyL_ok (n := n + 1) (fun d v p r h => ih d v p r h) rl e
            exact ⟨.lst (SqL.of hy) b1, by rw [PyData.canLay0]; exact b2, by rw [PyData.depth]; omega⟩
        | _ => simp [toPy, e0] at h
    | _ => cases h
theorem toPy_shaped {G : Gd} {ι : Iota} {H : Hp} {s : S} (R : RelH G ι s H) {d : D} {v : V} {p : PyData} (r : Rp G ι H d v) (h : toPy s 60 d = some p) : Dp G.K H v p ∧ SeqAt.shaped p = true := by
  obtain ⟨a, b, c⟩ := toPy_ok R 60 d v p r h
  refine ⟨a, ?_⟩
  unfold SeqAt.shaped
  rw [b, decide_eq_true (show p.depth ≤ 64 by omega)]; rfl
/-- plain data, not too deep -/
def depD : Nat → D → Bool
  | _, .non => true
  | _, .bl _ => true
  | _, .int _ => true
  | _, .str _ => true
  | n + 1, .tup xs => xs.all (depD n)
  | _, _ => false
theorem pyL_some {f : D → Option PyData} : ∀ {xs : List D}, (∀ x ∈ xs, ∃ p, f x = some p) → ∃ ps, pyL f xs = some ps
  | [], _ => ⟨[], rfl⟩
  | x :: r, h => by
    obtain ⟨p, e⟩ := h x List.mem_cons_self
    obtain ⟨ps, e2⟩ := pyL_some fun y hy => h y (List.mem_cons_of_mem _ hy)
    exact ⟨p :: ps, by rw [pyL, e, e2]; rfl⟩
theorem toPy_some (s : S) : ∀ (n : Nat) (d : D), depD n d = true → ∃ p, toPy s n d = some p
  | 0, d, h => by cases d <;> first | exact ⟨_, rfl⟩ | cases h
  | n + 1, d, h => by
    cases d with
    | tup xs =>
      have h' : xs.all (depD n) = true := h
      obtain ⟨ps, e⟩ := pyL_some (f := toPy s n) fun x hx => toPy_some s n x (List.all_eq_true.mp h' x hx)
      exact ⟨.tuple ps, by rw [toPy, e]; rfl⟩
    | _ => first | exact ⟨_, rfl⟩ | cases h
/-- == -/
def eqB (s : S) (d e : D) : Option Bool := match d, e with
  | .str a, .str b => some (decide (a = b))
  | .int a, .int b => some (decide (a = b))
  | d, e => if (depD 60 d && D.beq d e) = true then some true else (toPy s 60 d).bind fun p => (toPy s 60 e).map fun q => PyData.eqv p q
def eqM (d e : D) : M D := fun s => M.bind (M.ofOpt (eqB s d e)) (fun b => M.pure (.bl b)) s
def neM (d e : D) : M D := fun s => M.bind (M.ofOpt (eqB s d e)) (fun b => M.pure (.bl (!b))) s
theorem eqB_ok {G : Gd} {ι : Iota} {H : Hp} {s : S} (R : RelH G ι s H) {d e : D} {v w : V} {b : Bool} (r1 : Rp G ι H d v) (r2 : Rp G ι H e w) (h : eqB s d e = some b) :
    ∃ p q, Dp G.K H v p ∧ Dp G.K H w q ∧ SeqAt.shaped p = true ∧ SeqAt.shaped q = true ∧ PyData.eqv p q = b := by
  have gen : ∀ {p q}, toPy s 60 d = some p → toPy s 60 e = some q → PyData.eqv p q = b → ∃ p q, Dp G.K H v p ∧ Dp G.K H w q ∧ SeqAt.shaped p = true ∧ SeqAt.shaped q = true ∧ PyData.eqv p q = b := fun {p q} h1 h2 h3 => by
    obtain ⟨a1, a2⟩ := toPy_shaped R r1 h1
    obtain ⟨b1, b2⟩ := toPy_shaped R r2 h2
    exact ⟨p, q, a1, b1, a2, b2, h3⟩
  have all : ∀ (x : Option PyData) (y : Option PyData), toPy s 60 d = x → toPy s 60 e = y → (x.bind fun p => y.map fun q => PyData.eqv p q) = some b → ∃ p q, Dp G.K H v p ∧ Dp G.K H w q ∧ SeqAt.shaped p = true ∧ SeqAt.shaped q = true ∧ PyData.eqv p q = b := fun x y h1 h2 h3 => by
    cases x with
    | none => cases h3
    | some p =>
      cases y with
      | none => cases h3
      | some q => exact gen h1 h2 (by simpa using h3)
  have all : ∀ (x : Option PyData) (y : Option PyData), toPy s 60 d = x → toPy s 60 e = y → (if (depD 60 d && D.beq d e) = true then some true else (x.bind fun p => y.map fun q => PyData.eqv p q)) = some b → ∃ p q, Dp G.K H v p ∧ Dp G.K H w q ∧ SeqAt.shaped p = true ∧ SeqAt.shaped q = true ∧ PyData.eqv p q = b := fun x y h1 h2 h3 => by
    by_cases hc : (depD 60 d && D.beq d e) = true
    · rw [if_pos hc] at h3
      rw [Bool.and_eq_true] at hc
      obtain ⟨p, e1⟩ := toPy_some s 60 d hc.1
      have de := D.beq_eq _ _ hc.2
      have cl := (toPy_ok R 60 d v p r1 e1).2.1
      cases h3
      exact gen e1 (by rw [← de]; exact e1) (PySem.SeqAt.eqv_refl p cl)
    · rw [if_neg hc] at h3
      exact all x y h1 h2 h3
  cases d with
  | str a =>
    cases e with
    | str c =>
      refine gen (p := .str (st a)) (q := .str (st c)) rfl rfl ?_
      rw [eqB] at h
      rw [PyData.eqv, ← Option.some.inj h]
      by_cases e : a = c
      · subst e; simp
      · have : st a ≠ st c := fun z => e (st_inj z)
        simp [e, this]
    | _ => exact all _ _ rfl rfl h
  | int a =>
    cases e with
    | int c =>
      refine gen (p := .int a) (q := .int c) rfl rfl ?_
      rw [eqB] at h
      rw [PyData.eqv, ← Option.some.inj h]
      by_cases e : a = c
      · subst e; simp
      · simp [e]
    | _ => exact all _ _ rfl rfl h
  | _ => cases e <;> exact all _ _ rfl rfl h
theorem eqS {G : Gd} : OpS G (rEqD G.K) eqM := by
  intro W σ ι s H d e v w Q R r1 r2 g
  have g' : Go G W σ ι H (M.bind (M.ofOpt (eqB s d e)) (fun b => M.pure (D.bl b))) s _ := g
  obtain ⟨b, h, q⟩ := Go.opt (Go.bind g') R
  obtain ⟨p, q', h1, h2, h3, h4, h5⟩ := eqB_ok R r1 r2 h
  exact ⟨p, q', h1, h2, h3, h4, by rw [h5]; exact Go.pure q R _ (.bl _)⟩
theorem neS {G : Gd} : OpS G (rNeD G.K) neM := by
  intro W σ ι s H d e v w Q R r1 r2 g
  have g' : Go G W σ ι H (M.bind (M.ofOpt (eqB s d e)) (fun b => M.pure (D.bl (!b)))) s _ := g
  obtain ⟨b, h, q⟩ := Go.opt (Go.bind g') R
  obtain ⟨p, q', h1, h2, h3, h4, h5⟩ := eqB_ok R r1 r2 h
  exact ⟨p, q', h1, h2, h3, h4, by rw [h5]; exact Go.pure q R _ (.bl _)⟩
end Ev

/-! EvE: membership, subscripts, slices, stores and displays of the evaluator. -/
namespace Ev
open PySem PySem.Spec PyProof.Rows L2

/-! ### texts: the first place -/
def fnd (y : Cs) : Nat → Cs → Option Nat
  | _, [] => none
  | k, c :: r => if TL.pre y (c :: r) = true then some k else fnd y (k + 1) r
theorem fnd_some {y : Cs} : ∀ {l : Cs} {k j : Nat}, fnd y k l = some j → k ≤ j ∧ j < k + l.length ∧ TL.pre y (l.drop (j - k)) = true ∧ ∀ i, i < j - k → TL.pre y (l.drop i) = false
  | [], _, _, h => by cases h
  | c :: r, k, j, h => by
    by_cases hp : TL.pre y (c :: r) = true
    · rw [fnd, if_pos hp] at h
      cases h
      exact ⟨Nat.le_refl _, by simp, by rw [Nat.sub_self]; exact hp, fun i hi => by omega⟩
    · rw [fnd, if_neg hp] at h
      obtain ⟨a, b, c', d⟩ := fnd_some h
      refine ⟨by omega, by rw [List.length_cons]; omega, ?_, fun i hi => ?_⟩
      · rw [show j - k = (j - (k + 1)) + 1 by omega, List.drop_succ_cons]; exact c'
      · cases i with
        | zero => simpa using hp
        | succ i => rw [List.drop_succ_cons]; exact d i (by omega)
theorem fnd_none {y : Cs} : ∀ {l : Cs} {k : Nat}, fnd y k l = none → ∀ i, i < l.length → TL.pre y (l.drop i) = false
  | [], _, _, i, h => by simp at h
  | c :: r, k, h, i, hi => by
    by_cases hp : TL.pre y (c :: r) = true
    · rw [fnd, if_pos hp] at h; cases h
    · rw [fnd, if_neg hp] at h
      cases i with
      | zero => simpa using hp
      | succ i => rw [List.drop_succ_cons]; exact fnd_none h i (by simpa using hi)
theorem occ_fnd {x y : Cs} (hy : y ≠ []) : (∃ j r, fnd y 0 x = some j ∧ Builtin.Str.occurrences (st x) (st y) 0 (st x).length 1 = j :: r) ∨ (fnd y 0 x = none ∧ Builtin.Str.occurrences (st x) (st y) 0 (st x).length 1 = []) := by
  have hy' : TL.tl (st y) ≠ [] := hy
  have at' : ∀ i, StrLaws.At (st x) (st y) (st x).length i ↔ TL.pre y (x.drop i) = true := fun i => TL.at_iff hy' i
  have short : ∀ i, x.length ≤ i → ¬ TL.pre y (x.drop i) = true := fun i hi z => by
    rw [List.drop_eq_nil_of_le hi, TL.pre_nil hy] at z; cases z
  rcases StrLaws.occ_head (st x) (st y) 1 (Nat.le_refl _) with ⟨e, hn⟩ | ⟨i, r, e, hi, hk⟩
  · refine .inr ⟨?_, e⟩
    cases q : fnd y 0 x with
    | none => rfl
    | some j =>
      obtain ⟨_, _, c, _⟩ := fnd_some q
      exact absurd ((at' _).mpr c) (hn _)
  · refine .inl ⟨i, r, ?_, e⟩
    have pi := (at' i).mp hi
    have hl : i < x.length := by
      by_cases z : i < x.length
      · exact z
      · exact absurd pi (short i (by omega))
    cases q : fnd y 0 x with
    | none =>
      have := fnd_none q i hl
      rw [this] at pi; cases pi
    | some j =>
      obtain ⟨_, _, c, d⟩ := fnd_some q
      rw [Nat.sub_zero] at c d
      by_cases h1 : i < j
      · have := d i h1
        rw [this] at pi; cases pi
      · by_cases h2 : j < i
        · exact absurd ((at' j).mpr c) (hk j h2)
        · rw [show i = j by omega]

/-! ### dicts -/
theorem keyD_inj {a b : D} {k : Key} (ha : keyD a = some k) (hb : keyD b = some k) : a = b := by
  cases a with
  | int i =>
    cases b with
    | int j => cases ha; cases hb; rfl
    | str y => cases ha; cases hb
    | _ => cases hb
  | str x =>
    cases b with
    | int j => cases ha; cases hb
    | str y =>
      cases ha
      have e : st y = st x := Sum.inr.inj (Option.some.inj hb)
      rw [st_inj e]
    | _ => cases hb
  | _ => cases ha
theorem valV_dfind {G : Gd} {ι : Iota} {H : Hp} {k : D} {κ : Key} (hk : keyD k = some κ) : ∀ {kvs : List (D × D)} {qs : List (Key × V)}, KRel G ι H kvs qs →
    (dfind kvs k = none ∧ valV qs κ = none) ∨ ∃ d v, dfind kvs k = some d ∧ valV qs κ = some v ∧ Rp G ι H d v
  | _, _, .nil => .inl ⟨rfl, rfl⟩
  | p :: r, q :: qr, .cons h t => by
    by_cases e : p.1 = k
    · have e2 : q.1 = κ := by
        have := h.1
        rw [e, hk] at this
        exact (Option.some.inj this).symm
      exact .inr ⟨p.2, q.2, by rw [dfind, if_pos e], valV_pos e2, h.2⟩
    · have e2 : ¬ q.1 = κ := fun z => e (keyD_inj (z ▸ h.1) hk)
      rw [dfind, if_neg e, valV_neg e2]
      exact valV_dfind hk t
theorem putK_pos {p : Key × V} {r : List (Key × V)} {k : Key} {v : V} (e : p.1 = k) (hn : valV r k = none) : putK (p :: r) k v = (p.1, v) :: r := by
  have h2 : r.map (fun kv => if kv.1 = k then (kv.1, v) else kv) = r := by
    have : ∀ kv ∈ r, (if kv.1 = k then (kv.1, v) else kv) = kv := fun kv hkv => by
      rw [if_neg]
      intro z
      have h3 : (r.any fun kv => decide (kv.1 = k)) = true := List.any_eq_true.mpr ⟨kv, hkv, decide_eq_true z⟩
      rw [valV_any, hn] at h3
      cases h3
    rw [List.map_congr_left this]; simp
  unfold putK
  rw [if_pos (by simp [e])]
  rw [List.map_cons, if_pos e, h2]
theorem putK_neg {p : Key × V} {r : List (Key × V)} {k : Key} {v : V} (e : ¬ p.1 = k) : putK (p :: r) k v = p :: putK r k v := by
  unfold putK
  by_cases h : (r.any fun kv => decide (kv.1 = k)) = true
  · rw [if_pos (by simp [h]), if_pos h, List.map_cons, if_neg e]
  · rw [if_neg (by simpa [e] using h), if_neg h]; rfl
/-- KRel with no key twice -/
theorem KRel.put {G : Gd} {ι : Iota} {H : Hp} {k : D} {κ : Key} {d : D} {v : V} (hk : keyD k = some κ) (r : Rp G ι H d v) : ∀ {kvs : List (D × D)} {qs : List (Key × V)}, dnd kvs → KRel G ι H kvs qs → KRel G ι H (dput kvs k d) (putK qs κ v)
  | _, _, _, .nil => .cons ⟨hk, r⟩ .nil
  | p :: t, q :: qt, nd, .cons h tl => by
    by_cases e : p.1 = k
    · have e2 : q.1 = κ := by
        have := h.1
        rw [e, hk] at this
        exact (Option.some.inj this).symm
      have hn : valV qt κ = none := by
        rcases valV_dfind hk tl with ⟨_, z⟩ | ⟨d', v', z, _, _⟩
        · exact z
        · have := nd.1
          rw [e, z] at this; cases this
      rw [dput, if_pos e, putK_pos e2 hn]
      exact .cons ⟨h.1, r⟩ tl
    · have e2 : ¬ q.1 = κ := fun z => e (keyD_inj (z ▸ h.1) hk)
      rw [dput, if_neg e, putK_neg e2]
      exact .cons h (KRel.put hk r nd.2 tl)
theorem Paired.len {α β : Type} {F : α → β → Prop} : ∀ {xs : List α} {ys : List β}, Paired F xs ys → xs.length = ys.length
  | _, _, .nil => rfl
  | _, _, .cons _ t => by rw [List.length_cons, List.length_cons, Paired.len t]
theorem keyD_V {G : Gd} {ι : Iota} {H : Hp} {d : D} {v : V} {κ : Key} (r : Rp G ι H d v) (h : keyD d = some κ) : v = kV κ := by
  cases d with
  | int i => cases r; cases h; rfl
  | str x => obtain ⟨rfl, _⟩ := r.strE; cases h; rfl
  | _ => cases h

/-! ### in, not in -/
def flatD : D → Bool
  | .non => true
  | .bl _ => true
  | .int _ => true
  | .str _ => true
  | _ => false
/-- == of flat values, True being 1 -/
def eqF : D → D → Bool
  | .non, .non => true
  | .bl a, .bl b => a == b
  | .bl a, .int b => (if a then 1 else 0) == b
  | .int a, .bl b => a == (if b then 1 else 0)
  | .int a, .int b => a == b
  | .str a, .str b => a == b
  | _, _ => false
def inF (x : D) (xs : List D) : Bool := xs.any fun y => eqF y x
theorem flat_rel {G : Gd} {ι : Iota} {H : Hp} {d : D} {v : V} (r : Rp G ι H d v) (h : flatD d = true) : flatV v = true := by
  cases d with
  | non => cases r; rfl
  | bl b => cases r; rfl
  | int i => cases r; rfl
  | str x => obtain ⟨rfl, _⟩ := r.strE; rfl
  | _ => cases h
theorem eqF_rel {G : Gd} {ι : Iota} {H : Hp} {d e : D} {v w : V} (r1 : Rp G ι H d v) (r2 : Rp G ι H e w) (h1 : flatD d = true) (h2 : flatD e = true) : eqV v w = eqF d e := by
  cases d with
  | non =>
    cases r1
    cases e with
    | str x => obtain ⟨rfl, _⟩ := r2.strE; rfl
    | non => cases r2; rfl
    | bl b => cases r2; rfl
    | int b => cases r2; rfl
    | _ => cases h2
  | bl a =>
    cases r1
    cases e with
    | str x => obtain ⟨rfl, _⟩ := r2.strE; rfl
    | non => cases r2; rfl
    | bl b => cases r2; rfl
    | int b => cases r2; rfl
    | _ => cases h2
  | int a =>
    cases r1
    cases e with
    | str x => obtain ⟨rfl, _⟩ := r2.strE; rfl
    | non => cases r2; rfl
    | bl b => cases r2; rfl
    | int b => cases r2; rfl
    | _ => cases h2
  | str a =>
    obtain ⟨rfl, _⟩ := r1.strE
    cases e with
    | str x =>
      obtain ⟨rfl, _⟩ := r2.strE
      show (st a == st x) = (a == x)
      by_cases z : a = x
      · subst z; simp
      · have : st a ≠ st x := fun q => z (st_inj q)
        exact (beq_eq_false_iff_ne.mpr this).trans (beq_eq_false_iff_ne.mpr z).symm
    | non => cases r2; rfl
    | bl b => cases r2; rfl
    | int b => cases r2; rfl
    | _ => cases h2
  | _ => cases h1
theorem inF_rel {G : Gd} {ι : Iota} {H : Hp} {d : D} {v : V} (r : Rp G ι H d v) (h : flatD d = true) : ∀ {ds : List D} {vs : List V}, RpL G ι H ds vs → ds.all flatD = true → inV v vs = inF d ds ∧ vs.all flatV = true
  | _, _, .nil, _ => ⟨rfl, rfl⟩
  | e :: ds, _, .cons r2 t, hf => by
    rw [List.all_cons, Bool.and_eq_true] at hf
    obtain ⟨a, b⟩ := inF_rel r h t hf.2
    unfold inV inF at *
    refine ⟨?_, ?_⟩
    · rw [List.any_cons, List.any_cons, eqF_rel r2 r hf.1 h, a]
    · rw [List.all_cons, flat_rel r2 hf.1, b]; rfl
/-- x in y -/
def inB (s : S) (x y : D) : Option Bool := match y with
  | .tup ds => if flatD x && ds.all flatD then some (inF x ds) else none
  | .str t => match x with
    | .str u => if u = [] then none else some (fnd u 0 t).isSome
    | _ => none
  | .ref a => match s.get a with
    | some (.lst ds) => if flatD x && ds.all flatD then some (inF x ds) else none
    | some (.dct kvs) => match keyD x with
      | some _ => some (dfind kvs x).isSome
      | none => none
    | _ => none
  | _ => none
def inM (d e : D) : M D := fun s => M.bind (M.ofOpt (inB s d e)) (fun b => M.pure (.bl b)) s
def notInM (d e : D) : M D := fun s => M.bind (M.ofOpt (inB s d e)) (fun b => M.pure (.bl (!b))) s
def rInA (K : PySem.W.Frag) (neg : Bool) : R2 := fun x y H Q =>
  (∃ p xs, y = .ref p ∧ (SqL K H p xs ∨ SqT K H p xs) ∧ flatV x = true ∧ xs.all flatV = true ∧ Q (.bl (if neg then !inV x xs else inV x xs)) H) ∨
  (∃ i j, x = .str i ∧ y = .str j ∧ Q (.bl (if neg then !(!(Builtin.Str.occurrences j i 0 j.length 1).isEmpty) else !(Builtin.Str.occurrences j i 0 j.length 1).isEmpty)) H) ∨
  (∃ a o, y = .ref a ∧ DGet H a x o ∧ Q (.bl (if neg then !o.isSome else o.isSome)) H)
theorem op_inA {X : Cx} (hu : X.A.units + 1 < cLine) : OpR X (compareOp .In) (rInA X.K false) := by
  intro pins s σ H x y v u Q I rx ry h
  rcases h with h | h | ⟨a, o, rfl, g, q⟩
  · exact op_in_seq pins s σ H x y v u Q I rx ry h
  · exact op_in_str pins s σ H x y v u Q I rx ry h
  · cases ry
    exact d_in hu I g rx fun s3 I3 => ⟨.bl o.isSome, H, I3, rfl, q⟩
theorem op_notInA {X : Cx} (hu : X.A.units + 1 < cLine) : OpR X (compareOp .NotIn) (rInA X.K true) := by
  intro pins s σ H x y v u Q I rx ry h
  rcases h with h | h | ⟨a, o, rfl, g, q⟩
  · exact op_notIn_seq pins s σ H x y v u Q I rx ry h
  · exact op_notin_str pins s σ H x y v u Q I rx ry h
  · cases ry
    exact d_notIn hu I g rx fun s3 I3 => ⟨.bl (!o.isSome), H, I3, rfl, q⟩
theorem inB_ok {G : Gd} {ι : Iota} {H : Hp} {s : S} (R : RelH G ι s H) {d e : D} {v w : V} {b : Bool} (neg : Bool) (r1 : Rp G ι H d v) (r2 : Rp G ι H e w) (h : inB s d e = some b) {Q : VK} (q : Q (.bl (if neg then !b else b)) H) : rInA G.K neg v w H Q := by
  cases e with
  | tup ds =>
    obtain ⟨p, xs, rfl, hp, rx⟩ := r2.tupE
    by_cases hc : (flatD d && ds.all flatD) = true
    · rw [inB, if_pos hc] at h
      rw [Bool.and_eq_true] at hc
      obtain ⟨a1, a2⟩ := inF_rel r1 hc.1 rx hc.2
      refine .inl ⟨p, xs, rfl, .inr hp, flat_rel r1 hc.1, a2, ?_⟩
      rw [a1, Option.some.inj h]; exact q
    · rw [inB, if_neg hc] at h; cases h
  | str t =>
    obtain ⟨rfl, tt⟩ := r2.strE
    cases d with
    | str u =>
      obtain ⟨rfl, tu⟩ := r1.strE
      by_cases hu : u = []
      · simp [inB, hu] at h
      · simp only [inB, hu, if_false] at h
        refine .inr (.inl ⟨_, _, rfl, rfl, ?_⟩)
        have e : (!(Builtin.Str.occurrences (st t) (st u) 0 (st t).length 1).isEmpty) = b := by
          rcases occ_fnd (x := t) hu with ⟨j, r, e1, e2⟩ | ⟨e1, e2⟩
          · rw [e2]; rw [e1] at h; simpa using h
          · rw [e2]; rw [e1] at h; simpa using h
        rw [e]; exact q
    | _ => simp [inB] at h
  | ref a =>
    obtain ⟨p, rfl, ep⟩ := r2.refE
    cases e0 : s.get a with
    | none => simp [inB, e0] at h
    | some o =>
      have z := R.at ep e0
      cases o with
      | lst ds =>
        obtain ⟨xs, hx, rx⟩ := z
        by_cases hc : (flatD d && ds.all flatD) = true
        · simp only [inB, e0, hc, if_true] at h
          rw [Bool.and_eq_true] at hc
          obtain ⟨a1, a2⟩ := inF_rel r1 hc.1 rx hc.2
          refine .inl ⟨p, xs, rfl, .inl (SqL.of hx), flat_rel r1 hc.1, a2, ?_⟩
          rw [a1, Option.some.inj h]; exact q
        · simp [inB, e0, hc] at h
      | dct kvs =>
        obtain ⟨qs, hq, rk, _⟩ := z
        cases ek : keyD d with
        | none => simp [inB, e0, ek] at h
        | some κ =>
          simp only [inB, e0, ek] at h
          have ev := keyD_V r1 ek
          subst ev
          refine .inr (.inr ⟨p, valV qs κ, rfl, DGet.k hq, ?_⟩)
          have e : (valV qs κ).isSome = b := by
            rcases valV_dfind ek rk with ⟨z1, z2⟩ | ⟨d', v', z1, z2, _⟩
            · rw [z2]; rw [z1] at h; simpa using h
            · rw [z2]; rw [z1] at h; simpa using h
          rw [e]; exact q
      | _ => simp [inB, e0] at h
  | _ => simp [inB] at h
theorem inS {G : Gd} : OpS G (rInA G.K false) inM := by
  intro W σ ι s H d e v w Q R r1 r2 g
  have g' : Go G W σ ι H (M.bind (M.ofOpt (inB s d e)) (fun b => M.pure (D.bl b))) s _ := g
  obtain ⟨b, h, q⟩ := Go.opt (Go.bind g') R
  exact inB_ok R false r1 r2 h (Go.pure q R _ (.bl _))
theorem notInS {G : Gd} : OpS G (rInA G.K true) notInM := by
  intro W σ ι s H d e v w Q R r1 r2 g
  have g' : Go G W σ ι H (M.bind (M.ofOpt (inB s d e)) (fun b => M.pure (D.bl (!b)))) s _ := g
  obtain ⟨b, h, q⟩ := Go.opt (Go.bind g') R
  exact inB_ok R true r1 r2 h (Go.pure q R _ (.bl _))
/-- is None, is not None -/
def isNM (d e : D) : M D := match e with
  | .non => M.pure (.bl (decide (d = .non)))
  | _ => M.fail
def isNotNM (d e : D) : M D := match e with
  | .non => M.pure (.bl (!decide (d = .non)))
  | _ => M.fail
theorem rp_non {G : Gd} {ι : Iota} {H : Hp} {d : D} {v : V} (r : Rp G ι H d v) : decide (v = .non) = decide (d = .non) := by
  cases r <;> simp
theorem isNS {G : Gd} : OpS G (fun x y H Q => y = .non ∧ Q (.bl (decide (x = .non))) H) isNM := by
  intro W σ ι s H d e v w Q R r1 r2 g
  cases e with
  | non => cases r2; exact ⟨rfl, by rw [rp_non r1]; exact Go.pure g R _ (.bl _)⟩
  | _ => exact (Go.fail g).elim
theorem isNotNS {G : Gd} : OpS G (fun x y H Q => y = .non ∧ Q (.bl (!decide (x = .non))) H) isNotNM := by
  intro W σ ι s H d e v w Q R r1 r2 g
  cases e with
  | non => cases r2; exact ⟨rfl, by rw [rp_non r1]; exact Go.pure g R _ (.bl _)⟩
  | _ => exact (Go.fail g).elim

/-! ### x[i] -/
def ixB (s : S) (x i : D) : Option D := match x with
  | .tup ds => match i with
    | .int k => atI ds k
    | _ => none
  | .str t => match i with
    | .int k => (atI t k).map fun c => .str [c]
    | _ => none
  | .ref a => match s.get a with
    | some (.lst ds) => match i with
      | .int k => atI ds k
      | _ => none
    | some (.dct kvs) => match keyD i with
      | some _ => dfind kvs i
      | none => none
    | _ => none
  | _ => none
def ixM (d e : D) : M D := fun s => M.ofOpt (ixB s d e) s
def rIxA (K : PySem.W.Frag) : R2 := fun x y H Q => rIx K x y H Q ∨ ∃ a v, x = .ref a ∧ DGet H a y (some v) ∧ Q v H
theorem ix_all {X : Cx} (hu : X.A.units + 1 < cLine) : IxR X (rIxA X.K) := by
  intro value slice pins s σ H x y v u Q I rx ry h hs
  rcases h with h | ⟨a, z, rfl, g, q⟩
  · exact ix_seq value slice pins s σ H x y v u Q I rx ry h hs
  · cases rx
    exact tail_any (dict_typeIs I g) PySem.F.slot_dict_getitem.lookup (d_getItem hu I g ry fun w' s3 I3 rw' => ⟨z, H, I3, rw', q⟩) hs
theorem atI_rel {G : Gd} {ι : Iota} {H : Hp} {ds : List D} {vs : List V} {k : Int} {d : D} (r : RpL G ι H ds vs) (h : atI ds k = some d) : ∃ v, atI vs k = some v ∧ Rp G ι H d v := by
  unfold atI at h ⊢
  rw [← r.length]
  cases e : ixN ds.length k with
  | none => rw [e] at h; cases h
  | some j =>
    rw [e] at h
    exact r.get h
theorem atI_mem {α : Type} {xs : List α} {k : Int} {d : α} (h : atI xs k = some d) : d ∈ xs := by
  obtain ⟨j, _, h2, _⟩ := atI_get h
  exact List.mem_of_getElem? h2
theorem ixS {G : Gd} : OpS G (rIxA G.K) ixM := by
  intro W σ ι s H d e v w Q R r1 r2 g
  obtain ⟨z, h, q⟩ := Go.opt (show Go G W σ ι H (M.ofOpt (ixB s d e)) s _ from g) R
  cases d with
  | tup ds =>
    obtain ⟨p, xs, rfl, hp, rx⟩ := r1.tupE
    cases e with
    | int k =>
      cases r2
      obtain ⟨v, h1, h2⟩ := atI_rel rx h
      exact .inl (.inr (.inl ⟨p, xs, k, v, rfl, rfl, hp, h1, q v h2⟩))
    | _ => cases h
  | str t =>
    obtain ⟨rfl, tt⟩ := r1.strE
    cases e with
    | int k =>
      cases r2
      cases e1 : atI t k with
      | none => simp [ixB, e1] at h
      | some c =>
        simp [ixB, e1] at h
        subst h
        refine .inl (.inr (.inr ⟨st t, k, c, rfl, rfl, ?_, e1, ?_⟩))
        · have := tt.line; omega
        · exact q _ (.str [c] ⟨by simp, fun c' hc => by
            have e : c' = c := by simpa using hc
            subst e
            exact tt.asc _ (atI_mem e1)⟩)
    | _ => cases h
  | ref a =>
    obtain ⟨p, rfl, ep⟩ := r1.refE
    cases e0 : s.get a with
    | none => simp [ixB, e0] at h
    | some o =>
      have y := R.at ep e0
      cases o with
      | lst ds =>
        obtain ⟨xs, hx, rx⟩ := y
        cases e with
        | int k =>
          cases r2
          simp only [ixB, e0] at h
          obtain ⟨v, h1, h2⟩ := atI_rel rx h
          exact .inl (.inl ⟨p, xs, k, v, rfl, rfl, SqL.of hx, h1, q v h2⟩)
        | _ => simp [ixB, e0] at h
      | dct kvs =>
        obtain ⟨qs, hq, rk, _⟩ := y
        cases ek : keyD e with
        | none => simp [ixB, e0, ek] at h
        | some κ =>
          simp only [ixB, e0, ek] at h
          have ev := keyD_V r2 ek
          subst ev
          rcases valV_dfind ek rk with ⟨z1, z2⟩ | ⟨d', v', z1, z2, z3⟩
          · rw [z1] at h; cases h
          · rw [z1] at h
            cases h
            exact .inr ⟨p, v', rfl, by rw [← z2]; exact DGet.k hq, q v' z3⟩
      | _ => simp [ixB, e0] at h
  | _ => cases h

/-! ### x[lo:hi] -/
def cutD {α : Type} (xs : List α) (lo hi : Option Int) : List α := (xs.drop (HT.sIx xs.length 0 lo)).take (HT.sIx xs.length xs.length hi - HT.sIx xs.length 0 lo)
def slM (ns : List Int) (x : D) (lo hi : Option Int) : M D := match x with
  | .tup ds => M.pure (.tup (cutD ds lo hi))
  | .str t => M.pure (.str (cutD t lo hi))
  | .ref a => M.bind (M.read a) fun
    | .lst ds => M.bind (M.new (.lst (cutD ds lo hi))) fun n => M.pure (.ref n)
    | _ => M.fail
  | .scr => M.bind (M.new (.lst (cutD (ns.map D.int) lo hi))) fun n => M.pure (.ref n)
  | _ => M.fail
theorem RpL.ofInts {G : Gd} {ι : Iota} {H : Hp} : ∀ is : List Int, RpL G ι H (is.map D.int) (is.map V.int)
  | [] => .nil
  | i :: r => .cons (.int i) (RpL.ofInts r)
def rSlAll (K : PySem.W.Frag) : V → Option Int → Option Int → Hp → VK → Prop := fun x lo hi H Q => rSlA K x lo hi H Q ∨ rSlS x lo hi H Q ∨ rSlL K x lo hi H Q
theorem sl_all {X : Cx} : SlR X (rSlAll X.K) := sl_tupA.or (sl_str.or sl_list)
theorem cutD_rel {G : Gd} {ι : Iota} {H : Hp} {ds : List D} {vs : List V} (r : RpL G ι H ds vs) (lo hi : Option Int) : RpL G ι H (cutD ds lo hi) (cutV vs lo hi) := by
  unfold cutD cutV
  rw [r.length]
  exact (r.drop _).take _
theorem cutD_len {α : Type} (xs : List α) (lo hi : Option Int) : (cutD xs lo hi).length ≤ xs.length := by
  unfold cutD
  rw [List.length_take, List.length_drop]; omega
theorem cutD_mem {α : Type} {xs : List α} {lo hi : Option Int} {c : α} (h : c ∈ cutD xs lo hi) : c ∈ xs := List.mem_of_mem_drop (List.mem_of_mem_take h)
theorem slS {G : Gd} (W : WX) (σ : L2.St) (ι : Iota) (s : S) (H : Hp) (d : D) (v : V) (lo hi : Option Int) (Q : VK) (R : RelH G ι s H) (r1 : Rp G ι H d v)
    (g : Go G W σ ι H (slM G.ns d lo hi) s (fun ι' H' z _ => ∀ u, Rp G ι' H' z u → Q u H')) : rSlAll G.K v lo hi H Q := by
  cases d with
  | tup ds =>
    obtain ⟨p, xs, rfl, hp, rx⟩ := r1.tupE
    refine .inl ⟨p, xs, rfl, hp, fun e => ?_, fun _ n hn => Go.tup g R hn _ ((cutD_rel rx lo hi).newTup hn)⟩
    have e2 : cutD ds lo hi = ds := by
      unfold cutD
      rw [rx.length, e.1, e.2, List.drop_zero, Nat.sub_zero, ← rx.length, List.take_length]
    have g2 : Go G W σ ι H (M.pure (D.tup (cutD ds lo hi))) s _ := g
    rw [e2] at g2
    exact Go.pure g2 R _ r1
  | str t =>
    obtain ⟨rfl, tt⟩ := r1.strE
    refine .inr (.inl ⟨st t, rfl, by have := tt.line; omega, ?_⟩)
    have e : cutS (st t) lo hi = st (cutD t lo hi) := by
      unfold cutS cutD st
      simp [Str.length]
    rw [e]
    exact Go.pure g R _ (.str _ (tt.part (cutD_len t lo hi) fun c hc => cutD_mem hc))
  | ref a =>
    obtain ⟨p, rfl, ep⟩ := r1.refE
    obtain ⟨o1, h1, g1⟩ := Go.read (Go.bind g) R
    have z1 := R.at ep h1
    cases o1 with
    | lst ds =>
      obtain ⟨xs, hx, rx⟩ := z1
      refine .inr (.inr ⟨p, xs, rfl, SqL.of hx, fun n hn => ?_⟩)
      have o2 : ORel G (ext ι s.n n) (upd H n (.lst (cutV xs lo hi))) n (.lst (cutD ds lo hi)) := ⟨_, upd_same, (cutD_rel rx lo hi).mono (R.le_ext n) (Keep.new hn)⟩
      exact Go.pure (Go.new (Go.bind g1) R hn o2) (R.new hn o2) _ (.ref (ext_same _ _ _))
    | _ => exact (Go.fail g1).elim
  | scr =>
    cases r1 with
    | scr hp =>
      rename_i p
      refine .inr (.inr ⟨p, _, rfl, hp.sqL, fun n hn => ?_⟩)
      have o2 : ORel G (ext ι s.n n) (upd H n (.lst (cutV (G.ns.map V.int) lo hi))) n (.lst (cutD (G.ns.map D.int) lo hi)) := ⟨_, upd_same, cutD_rel (RpL.ofInts _) lo hi⟩
      exact Go.pure (Go.new (Go.bind g) R hn o2) (R.new hn o2) _ (.ref (ext_same _ _ _))
  | _ => exact (Go.fail g).elim
/-- a bound of a slice -/
def mPart (m : Option (Sl → M D)) : Sl → M (Option Int) := match m with
  | none => fun _ => M.pure none
  | some f => fun σ => M.bind (f σ) fun
    | .int i => M.pure (some i)
    | _ => M.fail
def mSl (ns : List Int) (me : Sl → M D) (lo hi : Sl → M (Option Int)) : Sl → M D := fun σ => M.bind (me σ) fun x => M.bind (lo σ) fun l => M.bind (hi σ) fun u => slM ns x l u
def tPartD (G : Gd) (W : WX) (m : Sl → M (Option Int)) : TO := fun σ H Q => ∃ ι σd s, RelS G ι σd s σ H ∧ Go G W σ ι H (m σd) s fun ι' H' o s' => Q o H'
theorem PO.imp {X : Cx} {e : Option Expr} {t t' : TO} (h : PO X e t) (i : ∀ σ H Q, t' σ H Q → t σ H Q) : PO X e t' := ⟨fun pins s σ H Q I hw => h.run pins s σ H Q I (i σ H Q hw)⟩
theorem d_part0 {X : Cx} {G : Gd} {W : WX} : PO X none (tPartD G W (mPart none)) := PO.imp po_none fun σ H Q h => by
  obtain ⟨ι, σd, s, R, g⟩ := h
  exact Go.pure g R.hp
theorem d_part1 {X : Cx} {G : Gd} {W : WX} {e : Expr} {me : Sl → M D} (he : PE X e (tD G W me)) : PO X (some e) (tPartD G W (mPart (some me))) := PO.imp (po_some he) fun σ H Q h => by
  obtain ⟨ι, σd, s, R, g⟩ := h
  refine ⟨ι, σd, s, R, (Go.bind g).imp fun ι1 H1 d s1 l1 k1 R1 g1 v r1 => ?_⟩
  cases d with
  | int i => cases r1; exact ⟨i, rfl, Go.pure g1 R1⟩
  | _ => exact (Go.fail g1).elim
theorem d_slice {X : Cx} {G : Gd} {W : WX} {e : Expr} {lo hi : Option Expr} {me : Sl → M D} {ml mh : Sl → M (Option Int)} {p2 pos : Pos} (hK : X.K = G.K) (he : PE X e (tD G W me)) (hl : PO X lo (tPartD G W ml)) (hh : PO X hi (tPartD G W mh)) :
    PE X (.Subscript e (.Slice lo hi none p2) pos) (tD G W (mSl G.ns me ml mh)) := PE.imp (pe_slice sl_all he hl hh) fun σ H Q h => by
  obtain ⟨ι, σd, s, R, g⟩ := h
  refine ⟨ι, σd, s, R, (Go.bind g).imp fun ι1 H1 d s1 l1 k1 R1 g1 v r1 => ?_⟩
  refine ⟨ι1, σd, s1, R.on l1 k1 R1, (Go.bind g1).imp fun ι2 H2 lo' s2 l2 k2 R2 g2 => ?_⟩
  refine ⟨ι2, σd, s2, (R.on l1 k1 R1).on l2 k2 R2, (Go.bind g2).imp fun ι3 H3 hi' s3 l3 k3 R3 g3 => ?_⟩
  rw [hK]
  exact slS W σ ι3 s3 H3 d v lo' hi' Q R3 ((r1.mono l2 k2).mono l3 k3) g3

/-! ### displays -/
def tupM (ds : List D) : M D := if decide (ds.length ≤ 1000000) then M.pure (.tup ds) else M.fail
def lstM (ds : List D) : M D := if decide (ds.length ≤ 1000000) then M.bind (M.new (.lst ds)) fun n => M.pure (.ref n) else M.fail
theorem rd_tup {G : Gd} {W : WX} {ms : Sl → M (List D)} (σ : L2.St) (H : Hp) (Q : VK) (h : tD G W (mA ms tupM) σ H Q) : tTup (tDs G W ms) σ H Q := by
  obtain ⟨ι, σd, s, R, g⟩ := h
  refine ⟨ι, σd, s, R, (Go.bind g).imp fun ι1 H1 ds s1 l1 k1 R1 g1 vs r1 => ?_⟩
  by_cases hm : decide (ds.length ≤ 1000000) = true
  · rw [tupM, if_pos hm] at g1
    exact ⟨by rw [← r1.length]; exact lineM (of_decide_eq_true hm), fun p hp => Go.tup g1 R1 hp _ (r1.newTup hp)⟩
  · rw [tupM, if_neg hm] at g1
    exact (Go.fail g1).elim
theorem rd_lst {G : Gd} {W : WX} {ms : Sl → M (List D)} (σ : L2.St) (H : Hp) (Q : VK) (h : tD G W (mA ms lstM) σ H Q) : tLst (tDs G W ms) σ H Q := by
  obtain ⟨ι, σd, s, R, g⟩ := h
  refine ⟨ι, σd, s, R, (Go.bind g).imp fun ι1 H1 ds s1 l1 k1 R1 g1 vs r1 => ?_⟩
  by_cases hm : decide (ds.length ≤ 1000000) = true
  · rw [lstM, if_pos hm] at g1
    refine ⟨by rw [← r1.length]; exact lineM (of_decide_eq_true hm), fun p hp => ?_⟩
    have o2 : ORel G (ext ι1 s1.n p) (upd H1 p (.lst vs)) p (.lst ds) := ⟨_, upd_same, r1.mono (R1.le_ext p) (Keep.new hp)⟩
    exact Go.pure (Go.new (Go.bind g1) R1 hp o2) (R1.new hp o2) _ (.ref (ext_same _ _ _))
  · rw [lstM, if_neg hm] at g1
    exact (Go.fail g1).elim
end Ev

/-! EvF: methods of built-in types and built-in calls of the evaluator. -/
namespace Ev
open PySem PySem.Spec PyProof.Rows L2

/-! ### o.m(..), o of a built-in type that is known when o stands -/
structure Alt (X : Cx) (name : Str) where
  T : String
  id : String
  r : V → List V → Hp → VK → Prop
  pa : PlainAttrs T
  slot : Slot T name id
  ty : typeOf (.builtin id) = pure (.type "method_descriptor")
  mt : MtR X id r
def tAlt (X : Cx) (name : Str) (to : TE) (t : TA) : TE := fun σ H Q => to σ H fun x H1 => ∃ A : Alt X name, tyV X.K A.T x H1 ∧ t σ H1 fun xs H2 => A.r x xs H2 Q
section
variable {X : Cx} {o e : Expr} {es : List Expr} {name : Str} {apos cpos : Pos} {to : TE} {t : TA}
theorem pe_alt (ho : PE X o to) (ha : PA X (e :: es) t) (hbase : attributeBase o name X.env (eval o X.env) = eval o X.env)
    (hfew : ((backTo cpos (starEach (e :: es) X.env)).all (fun x => !x.1) && (backToKw cpos (keywordEach [] X.env)).all (fun x => x.1.isSome)
      && decide ((e :: es).length + ([] : List Keyword).length + (if ([] : List Keyword).isEmpty then 0 else 1) < 30)) = true)
    (hline : (apos.endLine == cpos.line) = true) (hs : starEach (e :: es) X.env = (false, eval e X.env) :: starEach es X.env) (hplain : (backTo cpos (starEach es X.env)).any (·.1) = false) :
    PE X (.Call (.Attribute o name apos) (e :: es) [] cpos) (tAlt X name to t) := by
  refine ⟨fun pins s σ H Q I h => ?_⟩
  refine wpAny_Call_method_late hbase hfew hline rfl (thn (ho.run pins s σ H _ I h) fun v s1 ⟨x, H1, I1, r1, B, ty, q1⟩ => ?_)
  obtain ⟨h1, h2⟩ := tyV_is I1 r1 ty
  refine ⟨B.T, B.id, B.pa, B.slot, B.ty, h1, h2, ?_⟩
  have hA := ha.run cpos pins s1 σ H1 _ I1 q1
  rw [hs] at hA ⊢
  refine Calls.callWith_builtin (by show (false || (backTo cpos (starEach es X.env)).any (·.1)) = false; rw [hplain] <;> rfl) (Calls.evalArgs_plain ?_)
  exact thn hA fun us s2 ⟨vs, H2, I2, r2, q2⟩ => B.mt pins s2 σ H2 x vs v us Q I2 r1 r2 q2
theorem pe_alt0 (ho : PE X o to) (hbase : attributeBase o name X.env (eval o X.env) = eval o X.env) (hline : (apos.endLine == cpos.line) = true) :
    PE X (.Call (.Attribute o name apos) [] [] cpos) (tAlt X name to tNil) := by
  refine ⟨fun pins s σ H Q I h => ?_⟩
  refine wpAny_Call_method0_late hbase hline (thn (ho.run pins s σ H _ I h) fun v s1 ⟨x, H1, I1, r1, B, ty, q1⟩ => ?_)
  obtain ⟨h1, h2⟩ := tyV_is I1 r1 ty
  exact ⟨B.T, B.id, B.pa, B.slot, B.ty, h1, h2, Calls.callWith_builtin rfl (PySem.evalArgs_none (B.mt pins s1 σ H1 x [] v [] Q I1 r1 .nil q1))⟩
end
/-- which built-in type a value has: 2 text, 3 list, 5 dict -/
def kindM : D → M Nat
  | .str _ => M.pure 2
  | .ref a => M.bind (M.read a) fun
    | .lst _ => M.pure 3
    | .dct _ => M.pure 5
    | _ => M.fail
  | _ => M.fail
theorem kind_ty {G : Gd} {W : WX} {σ : L2.St} {ι : Iota} {H : Hp} {s : S} {d : D} {v : V} {P : Iota → Hp → Nat → S → Prop} (R : RelH G ι s H) (r : Rp G ι H d v) (g : Go G W σ ι H (kindM d) s P) : ∃ k, tyV G.K (tyN k) v H ∧ P ι H k s := by
  cases d with
  | str x =>
    obtain ⟨rfl, _⟩ := r.strE
    exact ⟨2, rfl, Go.pure g R⟩
  | ref a =>
    obtain ⟨p, rfl, ep⟩ := r.refE
    obtain ⟨o, h, g1⟩ := Go.read (Go.bind g) R
    have z := R.at ep h
    cases o with
    | lst ds =>
      obtain ⟨xs, hx, _⟩ := z
      exact ⟨3, .inl ⟨rfl, xs, SqL.of hx⟩, Go.pure g1 R⟩
    | dct kvs =>
      obtain ⟨qs, hx, _⟩ := z
      exact ⟨5, .inr (.inr (.inl ⟨rfl, .inl ⟨qs, hx⟩⟩)), Go.pure g1 R⟩
    | _ => exact (Go.fail g1).elim
  | _ => exact (Go.fail g).elim
def mMt (mo : Sl → M D) (alts : Nat → Option (D → List D → M D)) (ms : Sl → M (List D)) : Sl → M D := fun σ => M.bind (mo σ) fun x => M.bind (kindM x) fun k => match alts k with
  | some op => M.bind (ms σ) (op x)
  | none => M.fail
/-- the methods of one name are told -/
def AltS (X : Cx) (G : Gd) (name : Str) (alts : Nat → Option (D → List D → M D)) : Prop := ∀ k op, alts k = some op → ∃ A : Alt X name, A.T = tyN k ∧ MtS G A.r op
theorem rd_mt {X : Cx} {G : Gd} {W : WX} {name : Str} {alts : Nat → Option (D → List D → M D)} {mo : Sl → M D} {ms : Sl → M (List D)} (hK : X.K = G.K) (as : AltS X G name alts) (σ : L2.St) (H : Hp) (Q : VK) (h : tD G W (mMt mo alts ms) σ H Q) :
    tAlt X name (tD G W mo) (tDs G W ms) σ H Q := by
  obtain ⟨ι, σd, s, R, g⟩ := h
  refine ⟨ι, σd, s, R, (Go.bind g).imp fun ι1 H1 d s1 l1 k1 R1 g1 v r1 => ?_⟩
  obtain ⟨k, tk, g2⟩ := kind_ty R1 r1 (Go.bind g1)
  cases e : alts k with
  | none => rw [e] at g2; exact (Go.fail g2).elim
  | some op =>
    rw [e] at g2
    obtain ⟨A, eT, hop⟩ := as k op e
    refine ⟨A, by rw [eT, hK]; exact tk, ι1, σd, s1, R.on l1 k1 R1, (Go.bind g2).imp fun ι2 H2 ds s2 l2 k2 R2 g3 vs r2 => ?_⟩
    exact hop W σ ι2 s2 H2 d v ds vs Q R2 (r1.mono l2 k2) r2 g3

/-! ### lists -/
section
variable {G : Gd}
/-- a list: its address, its items -/
def M.lst : D → M (Nat × List D)
  | .ref a => M.bind (M.read a) fun
    | .lst xs => M.pure (a, xs)
    | _ => M.fail
  | _ => M.fail
theorem Go.lst {W : WX} {σ : L2.St} {ι : Iota} {H : Hp} {s : S} {d : D} {v : V} {P : Iota → Hp → Nat × List D → S → Prop} (g : Go G W σ ι H (M.lst d) s P) (R : RelH G ι s H) (r : Rp G ι H d v) :
    ∃ a p ds xs, d = .ref a ∧ v = .ref p ∧ ι a = some p ∧ s.get a = some (.lst ds) ∧ H p = some (.lst xs) ∧ RpL G ι H ds xs ∧ P ι H (a, ds) s := by
  cases d with
  | ref a =>
    obtain ⟨p, rfl, ep⟩ := r.refE
    obtain ⟨o, h, g1⟩ := Go.read (Go.bind g) R
    have z := R.at ep h
    cases o with
    | lst ds =>
      obtain ⟨xs, hx, rx⟩ := z
      exact ⟨a, p, ds, xs, rfl, rfl, ep, h, hx, rx, Go.pure g1 R⟩
    | _ => exact (Go.fail g1).elim
  | _ => exact (Go.fail g).elim
/-- the items of a list or a tuple -/
def M.seq : D → M (List D)
  | .tup ds => M.pure ds
  | d => M.bind (M.lst d) fun p => M.pure p.2
theorem Go.seq {W : WX} {σ : L2.St} {ι : Iota} {H : Hp} {s : S} {d : D} {v : V} {P : Iota → Hp → List D → S → Prop} (g : Go G W σ ι H (M.seq d) s P) (R : RelH G ι s H) (r : Rp G ι H d v) :
    ∃ p ds xs, v = .ref p ∧ RpL G ι H ds xs ∧ P ι H ds s ∧ ((SqT G.K H p xs ∧ d = .tup ds) ∨ (∃ a, d = .ref a ∧ s.get a = some (.lst ds) ∧ H p = some (.lst xs) ∧ ι a = some p)) := by
  cases d with
  | tup ds =>
    obtain ⟨p, xs, rfl, hp, rx⟩ := r.tupE
    exact ⟨p, ds, xs, rfl, rx, Go.pure g R, .inl ⟨hp, rfl⟩⟩
  | ref a =>
    obtain ⟨a', p, ds, xs, e1, e2, e3, e4, e5, e6, q⟩ := Go.lst (Go.bind g) R r
    cases e1
    exact ⟨p, ds, xs, e2, e6, Go.pure q R, .inr ⟨a, rfl, e4, e5, e3⟩⟩
  | _ => exact (Go.fail (show Go G W σ ι H (M.fail : M (List D)) s _ from g)).elim
/-- a guard -/
def M.when {α : Type} (b : Bool) (m : M α) : M α := if b = true then m else M.fail
theorem Go.when {α : Type} {W : WX} {σ : L2.St} {ι : Iota} {H : Hp} {s : S} {b : Bool} {m : M α} {P : Iota → Hp → α → S → Prop} (g : Go G W σ ι H (M.when b m) s P) : b = true ∧ Go G W σ ι H m s P := by
  unfold M.when at g
  cases b with
  | true => exact ⟨rfl, g⟩
  | false => exact (Go.fail g).elim
theorem lineL {n : Nat} (h : n < 1000000) : n < sizeLine := by rw [sizeLine_eq]; omega
def appendM (x : D) : List D → M D
  | [y] => M.bind (M.lst x) fun p => M.when (decide (p.2.length < 1000000)) (M.bind (M.write p.1 (.lst (p.2 ++ [y]))) fun _ => M.pure .non)
  | _ => M.fail
theorem appendS : MtS G rAppend appendM := by
  intro W σ ι s H d v es vs Q R r1 r2 g
  cases r2 with
  | nil => exact (Go.fail g).elim
  | cons ry t =>
    cases t with
    | cons _ _ => exact (Go.fail g).elim
    | nil =>
      rename_i y v'
      obtain ⟨a, p, ds, xs, rfl, rfl, ep, _, hx, rx, g1⟩ := Go.lst (Go.bind g) R r1
      obtain ⟨hm, g2⟩ := Go.when g1
      have k := (Keep.write (o := .lst (xs ++ [v'])) hx (fun z => z))
      have o2 : ORel G ι (upd H p (.lst (xs ++ [v']))) p (.lst (ds ++ [y])) := ⟨_, upd_same, (rx.append (.one ry)).mono (Le.refl _) k⟩
      refine ⟨p, xs, _, rfl, rfl, hx, by rw [← rx.length]; exact lineL (of_decide_eq_true hm), ?_⟩
      exact Go.pure (Go.write (Go.bind g2) R ep o2) (R.write ep o2).1 _ .non
def extendM (x : D) : List D → M D
  | [y] => M.bind (M.lst x) fun p => M.bind (M.lst y) fun q => M.when (decide (p.2.length + q.2.length ≤ 1000000)) (M.bind (M.write p.1 (.lst (p.2 ++ q.2))) fun _ => M.pure .non)
  | _ => M.fail
theorem extendS : MtS G rExtend extendM := by
  intro W σ ι s H d v es vs Q R r1 r2 g
  cases r2 with
  | nil => exact (Go.fail g).elim
  | cons ry t =>
    cases t with
    | cons _ _ => exact (Go.fail g).elim
    | nil =>
      obtain ⟨a, p, ds, xs, rfl, rfl, ep, _, hx, rx, g1⟩ := Go.lst (Go.bind g) R r1
      obtain ⟨b, q, fs, ys, rfl, rfl, eq, _, hy, rz, g2⟩ := Go.lst (Go.bind g1) R ry
      obtain ⟨hm, g3⟩ := Go.when g2
      have k := (Keep.write (o := .lst (xs ++ ys)) hx (fun z => z))
      have o3 : ORel G ι (upd H p (.lst (xs ++ ys))) p (.lst (ds ++ fs)) := ⟨_, upd_same, (rx.append rz).mono (Le.refl _) k⟩
      refine ⟨p, q, xs, ys, rfl, rfl, hx, hy, by rw [← rx.length, ← rz.length]; exact lineM (of_decide_eq_true hm), ?_⟩
      exact Go.pure (Go.write (Go.bind g3) R ep o3) (R.write ep o3).1 _ .non
/-- pop(), pop(i) -/
def popM (x : D) : List D → M D
  | [] => M.bind (M.lst x) fun p => M.bind (M.ofOpt p.2[p.2.length - 1]?) fun y => M.bind (M.write p.1 (.lst p.2.dropLast)) fun _ => M.pure y
  | [.int i] => M.bind (M.lst x) fun p => M.when (decide (0 ≤ i) && decide (i < 1000000)) (M.bind (M.ofOpt p.2[i.toNat]?) fun y => M.bind (M.write p.1 (.lst (p.2.eraseIdx i.toNat))) fun _ => M.pure y)
  | _ => M.fail
def rPopA : V → List V → Hp → VK → Prop := fun x vs H Q => rPop x vs H Q ∨ rPopAt x vs H Q
theorem mt_popA {X : Cx} : MtR X "list.pop" rPopA := MtR.or mt_pop mt_popAt
theorem RpL.dropLast {ι : Iota} {H : Hp} {ds : List D} {vs : List V} (r : RpL G ι H ds vs) : RpL G ι H ds.dropLast vs.dropLast := by
  rw [List.dropLast_eq_take, List.dropLast_eq_take, r.length]
  exact r.take _
theorem popS : MtS G rPopA popM := by
  intro W σ ι s H d v es vs Q R r1 r2 g
  unfold popM at g
  split at g
  · cases r2
    obtain ⟨a, p, ds, xs, rfl, rfl, ep, _, hx, rx, g1⟩ := Go.lst (Go.bind g) R r1
    obtain ⟨y, e, g2⟩ := Go.opt (Go.bind g1) R
    obtain ⟨w, hw, rw'⟩ := rx.get e
    have k := (Keep.write (o := .lst xs.dropLast) hx (fun z => z))
    have o2 : ORel G ι (upd H p (.lst xs.dropLast)) p (.lst ds.dropLast) := ⟨_, upd_same, rx.dropLast.mono (Le.refl _) k⟩
    refine .inl ⟨p, xs, w, rfl, rfl, hx, ?_, Go.pure (Go.write (Go.bind g2) R ep o2) (R.write ep o2).1 _ (rw'.mono (Le.refl _) k)⟩
    rw [← rx.length]; exact hw
  · rename_i i
    cases r2 with
    | cons ri t =>
      cases t
      cases ri
      obtain ⟨a, p, ds, xs, rfl, rfl, ep, _, hx, rx, g1⟩ := Go.lst (Go.bind g) R r1
      obtain ⟨hm, g2⟩ := Go.when g1
      rw [Bool.and_eq_true, decide_eq_true_eq, decide_eq_true_eq] at hm
      obtain ⟨y, e, g3⟩ := Go.opt (Go.bind g2) R
      obtain ⟨w, hw, rw'⟩ := rx.get e
      have hlt : i.toNat < xs.length := (List.getElem?_eq_some_iff.mp hw).1
      have k := (Keep.write (o := .lst (xs.eraseIdx i.toNat)) hx (fun z => z))
      have o2 : ORel G ι (upd H p (.lst (xs.eraseIdx i.toNat))) p (.lst (ds.eraseIdx i.toNat)) := ⟨_, upd_same, (rx.eraseIdx i.toNat).mono (Le.refl _) k⟩
      refine .inr ⟨p, xs, i, i.toNat, w, rfl, rfl, hx, by omega, by omega, (ixN_seq (n := xs.length) (i := i) (j := i.toNat) ?_).1, hw, ?_⟩
      · unfold ixN
        rw [if_pos hm.1, if_pos (by omega)]
      · exact Go.pure (Go.write (Go.bind g3) R ep o2) (R.write ep o2).1 _ (rw'.mono (Le.refl _) k)
  · exact (Go.fail g).elim
def insertM (x : D) : List D → M D
  | [.int i, y] => M.bind (M.lst x) fun p => M.when (decide (p.2.length < 1000000) && (decide (0 ≤ i) && decide (i < 1000000))) (M.bind (M.write p.1 (.lst (p.2.take i.toNat ++ [y] ++ p.2.drop i.toNat))) fun _ => M.pure .non)
  | _ => M.fail
def rInsertA : V → List V → Hp → VK → Prop := fun x vs H Q => ∃ (l : Addr) (xs : List V) (i : Int) (y : V), x = .ref l ∧ vs = [.int i, y] ∧ H l = some (.lst xs) ∧ xs.length < sizeLine ∧ 0 ≤ i ∧ i < 2 ^ 63 ∧
    Q .non (upd H l (.lst (xs.take i.toNat ++ [y] ++ xs.drop i.toNat)))
theorem insertS : MtS G rInsertA insertM := by
  intro W σ ι s H d v es vs Q R r1 r2 g
  unfold insertM at g
  split at g
  · rename_i i y
    cases r2 with
    | cons ri t =>
      cases t with
      | cons ry t =>
        rename_i v' _
        cases t
        cases ri
        obtain ⟨a, p, ds, xs, rfl, rfl, ep, _, hx, rx, g1⟩ := Go.lst (Go.bind g) R r1
        obtain ⟨hm, g2⟩ := Go.when g1
        simp only [Bool.and_eq_true, decide_eq_true_eq] at hm
        have k := (Keep.write (o := .lst (xs.take i.toNat ++ [v'] ++ xs.drop i.toNat)) hx (fun z => z))
        have o2 : ORel G ι (upd H p (.lst (xs.take i.toNat ++ [v'] ++ xs.drop i.toNat))) p (.lst (ds.take i.toNat ++ [y] ++ ds.drop i.toNat)) := ⟨_, upd_same, (((rx.take _).append (.one ry)).append (rx.drop _)).mono (Le.refl _) k⟩
        refine ⟨p, xs, i, _, rfl, rfl, hx, by rw [← rx.length]; exact lineL hm.1, hm.2.1, by omega, ?_⟩
        exact Go.pure (Go.write (Go.bind g2) R ep o2) (R.write ep o2).1 _ .non
  · exact (Go.fail g).elim
/-- the first place of a flat value -/
def pos? (x : D) : List D → Nat → Option Nat
  | [], _ => none
  | y :: r, k => if eqF y x = true then some k else pos? x r (k + 1)
theorem pos?_some {x : D} : ∀ {ds : List D} {k j : Nat}, pos? x ds k = some j → ∃ m y, j = k + m ∧ ds[m]? = some y ∧ eqF y x = true ∧ ∀ (i : Nat) (z : D), i < m → ds[i]? = some z → eqF z x = false
  | [], _, _, h => by cases h
  | y :: r, k, j, h => by
    by_cases e : eqF y x = true
    · rw [pos?, if_pos e] at h
      cases h
      exact ⟨0, y, rfl, rfl, e, fun i z hi => by omega⟩
    · rw [pos?, if_neg e] at h
      obtain ⟨m, z, e1, e2, e3, e4⟩ := pos?_some h
      refine ⟨m + 1, z, by omega, by simpa using e2, e3, fun i w hi hw => ?_⟩
      cases i with
      | zero => simp at hw; subst hw; simpa using e
      | succ i => exact e4 i w (by omega) (by simpa using hw)
def indexLM (x : D) : List D → M D
  | [y] => M.bind (M.lst x) fun p => M.when (flatD y && p.2.all flatD) (M.bind (M.ofOpt (pos? y p.2 0)) fun j => M.pure (.int (j : Nat)))
  | _ => M.fail
theorem all_get {f : D → Bool} {ds : List D} (h : ds.all f = true) {i : Nat} {d : D} (e : ds[i]? = some d) : f d = true := List.all_eq_true.mp h d (List.mem_of_getElem? e)
theorem indexLS : MtS G (rIndex G.K) indexLM := by
  intro W σ ι s H d v es vs Q R r1 r2 g
  cases r2 with
  | nil => exact (Go.fail g).elim
  | cons ry t =>
    cases t with
    | cons _ _ => exact (Go.fail g).elim
    | nil =>
      rename_i y v'
      obtain ⟨a, p, ds, xs, rfl, rfl, ep, _, hx, rx, g1⟩ := Go.lst (Go.bind g) R r1
      obtain ⟨hm, g2⟩ := Go.when g1
      rw [Bool.and_eq_true] at hm
      obtain ⟨j, e, g3⟩ := Go.opt (Go.bind g2) R
      obtain ⟨m, z, e1, e2, e3, e4⟩ := pos?_some e
      obtain ⟨w, hw, rw'⟩ := rx.get e2
      have fa : xs.all flatV = true := (inF_rel ry hm.1 rx hm.2).2
      refine ⟨p, xs, v', m, w, rfl, rfl, SqL.of hx, flat_rel ry hm.1, fa, hw, ?_, fun i z' hi hz => ?_, ?_⟩
      · rw [eqF_rel rw' ry (all_get hm.2 e2) hm.1]; exact e3
      · obtain ⟨d', h1, h2⟩ := rx.get' hz
        rw [eqF_rel h2 ry (all_get hm.2 h1) hm.1]
        exact e4 i d' hi h1
      · have q := Go.pure g3 R _ (.int _)
        rw [e1, Nat.zero_add] at q
        exact q

/-! ### texts -/
def joinM (x : D) : List D → M D
  | [y] => match x with
    | .str t => M.bind (M.seq y) fun ds => M.bind (M.ofOpt (strs? ds)) fun ys => M.when (decide ((ys.map (·.length)).sum + ys.length * t.length ≤ 1000000)) (M.pure (.str (TL.joinL t ys)))
    | _ => M.fail
  | _ => M.fail
theorem joinL_len (t : Cs) : ∀ ys : List Cs, (TL.joinL t ys).length ≤ (ys.map (·.length)).sum + ys.length * t.length
  | [] => by simp [TL.joinL]
  | [y] => by simp [TL.joinL]
  | y :: z :: r => by
    have ih := joinL_len t (z :: r)
    have e : TL.joinL t (y :: z :: r) = y ++ (t ++ TL.joinL t (z :: r)) := rfl
    rw [e]
    have e2 : (y :: z :: r).length * t.length = (z :: r).length * t.length + t.length := by rw [List.length_cons, Nat.add_mul, Nat.one_mul]
    rw [List.length_append, List.length_append, e2, List.map_cons, List.sum_cons]
    omega
theorem joinL_mem {t : Cs} : ∀ {ys : List Cs} {c : Nat}, c ∈ TL.joinL t ys → c ∈ t ∨ ∃ y ∈ ys, c ∈ y
  | [], c, h => by simp [TL.joinL] at h
  | [y], c, h => .inr ⟨y, by simp, by simpa [TL.joinL] using h⟩
  | y :: z :: r, c, h => by
    have e : TL.joinL t (y :: z :: r) = y ++ (t ++ TL.joinL t (z :: r)) := rfl
    rw [e, List.mem_append, List.mem_append] at h
    rcases h with h | h | h
    · exact .inr ⟨y, by simp, h⟩
    · exact .inl h
    · rcases joinL_mem h with q | ⟨y', hy, q⟩
      · exact .inl q
      · exact .inr ⟨y', List.mem_cons_of_mem _ hy, q⟩
theorem st_join (t : Cs) (ys : List Cs) : Txt.join (st t) (ys.map st) = st (TL.joinL t ys) := by
  rw [TL.join_eq]
  apply TL.ext_tl
  rw [TL.tl_join]
  have : (ys.map st).map TL.tl = ys := by
    rw [List.map_map]
    exact (List.map_congr_left fun x _ => rfl).trans (List.map_id _)
  rw [this]; rfl
def rJoinA (K : PySem.W.Frag) : V → List V → Hp → VK → Prop := fun x xs H Q => ∃ a p, ∃ ys : List Str, x = .str a ∧ xs = [.ref p] ∧ (SqL K H p (ys.map V.str) ∨ SqT K H p (ys.map V.str)) ∧
    (ys.map (·.length)).sum + ys.length * a.length ≤ 16777216 ∧ Q (.str (Txt.join a ys)) H
theorem joinS : MtS G (rJoinA G.K) joinM := by
  intro W σ ι s H d v es vs Q R r1 r2 g
  cases r2 with
  | nil => exact (Go.fail g).elim
  | cons ry t =>
    cases t with
    | cons _ _ => exact (Go.fail g).elim
    | nil =>
      cases d with
      | str t =>
        obtain ⟨rfl, tt⟩ := r1.strE
        obtain ⟨p, ds, xs, rfl, rx, g1, hs⟩ := Go.seq (Go.bind g) R ry
        obtain ⟨ys, e, g2⟩ := Go.opt (Go.bind g1) R
        obtain ⟨hm, g3⟩ := Go.when g2
        have hm := of_decide_eq_true hm
        have z := strs?_map e
        subst z
        obtain ⟨w1, w2⟩ := rx.strs
        subst w1
        have el : (ys.map st).map (·.length) = ys.map (·.length) := by
          rw [List.map_map]; exact List.map_congr_left fun x _ => st_len x
        refine ⟨st t, p, ys.map st, rfl, rfl, ?_, ?_, ?_⟩
        · rcases hs with ⟨h, _⟩ | ⟨_, _, _, h, _⟩
          · exact .inr h
          · exact .inl (SqL.of h)
        · rw [el, List.length_map, st_len]; omega
        · rw [st_join]
          refine Go.pure g3 R _ (.str _ ⟨Nat.le_trans (joinL_len t ys) hm, fun c hc => ?_⟩)
          rcases joinL_mem hc with q | ⟨y, hy, q⟩
          · exact tt.asc c q
          · exact (w2 y hy).asc c q
      | _ => exact (Go.fail g).elim
/-- a new list of texts -/
theorem Go.newStrs {W : WX} {σ : L2.St} {ι : Iota} {H : Hp} {s : S} {ys : List Cs} {Q : VK} (R : RelH G ι s H) (ht : ∀ y ∈ ys, TxOk y) (g : Go G W σ ι H (M.bind (M.new (.lst (ys.map D.str))) fun n => M.pure (.ref n)) s (fun ι' H' z _ => ∀ u, Rp G ι' H' z u → Q u H')) :
    rNewStrs (ys.map st) H Q := fun p hp => by
  have rl : ∀ {ι' H'} (zs : List Cs), (∀ y ∈ zs, TxOk y) → RpL G ι' H' (zs.map D.str) ((zs.map st).map V.str) := fun {ι' H'} zs hz => by
    induction zs with
    | nil => exact .nil
    | cons z r ih => exact .cons (.str z (hz z (by simp))) (ih fun y hy => hz y (List.mem_cons_of_mem _ hy))
  have o2 : ORel G (ext ι s.n p) (upd H p (.lst ((ys.map st).map V.str))) p (.lst (ys.map D.str)) := ⟨_, upd_same, rl ys ht⟩
  exact Go.pure (Go.new (Go.bind g) R hp o2) (R.new hp o2) _ (.ref (ext_same _ _ _))
def splitM (x : D) : List D → M D
  | [y] => match x, y with
    | .str t, .str u => M.when (!u.isEmpty) (M.bind (M.new (.lst ((TL.spl u 0 [] t).map D.str))) fun n => M.pure (.ref n))
    | _, _ => M.fail
  | _ => M.fail
theorem spl_mem {u : Cs} : ∀ {l : Cs} {k : Nat} {acc : Cs} {p : Cs} {c : Nat}, p ∈ TL.spl u k acc l → c ∈ p → c ∈ acc ∨ c ∈ l
  | [], k, acc, p, c, hp, hc => by
    rw [TL.spl_nil] at hp
    have : p = acc := by simpa using hp
    subst this; exact .inl hc
  | a :: r, 0, acc, p, c, hp, hc => by
    by_cases h : TL.pre u (a :: r) = true
    · rw [TL.spl_hit h] at hp
      rcases List.mem_cons.mp hp with rfl | hp
      · exact .inl hc
      · rcases spl_mem hp hc with z | z
        · simp at z
        · exact .inr (List.mem_cons_of_mem _ z)
    · rw [TL.spl_miss (by simpa using h)] at hp
      rcases spl_mem hp hc with z | z
      · rcases List.mem_append.mp z with z | z
        · exact .inl z
        · exact .inr (by simp at z; simp [z])
      · exact .inr (List.mem_cons_of_mem _ z)
  | a :: r, k + 1, acc, p, c, hp, hc => by
    rcases spl_mem (show p ∈ TL.spl u k acc r from hp) hc with z | z
    · exact .inl z
    · exact .inr (List.mem_cons_of_mem _ z)
theorem spl_plen {u : Cs} : ∀ {l : Cs} {k : Nat} {acc : Cs} {p : Cs}, p ∈ TL.spl u k acc l → p.length ≤ acc.length + l.length
  | [], k, acc, p, hp => by
    rw [TL.spl_nil] at hp
    have : p = acc := by simpa using hp
    subst this; simp
  | a :: r, 0, acc, p, hp => by
    by_cases h : TL.pre u (a :: r) = true
    · rw [TL.spl_hit h] at hp
      rcases List.mem_cons.mp hp with rfl | hp
      · omega
      · have := spl_plen hp
        simp at this ⊢; omega
    · rw [TL.spl_miss (by simpa using h)] at hp
      have := spl_plen hp
      simp at this ⊢; omega
  | a :: r, k + 1, acc, p, hp => by
    have := spl_plen (show p ∈ TL.spl u k acc r from hp)
    simp at this ⊢; omega
def rSplitA : V → List V → Hp → VK → Prop := fun x xs H Q => ∃ a b, x = .str a ∧ xs = [.str b] ∧ (b.length == 0) = false ∧ a.length + 2 ≤ sizeLine ∧ rNewStrs (Txt.split a b) H Q
theorem st_split {t u : Cs} (hu : u ≠ []) (tu : TxOk u) : Txt.split (st t) (st u) = (TL.spl u 0 [] t).map st := by
  apply TL.map_tl_inj
  rw [TL.split_spl (st t) (st u) hu (TL.kind_ok ?_), List.map_map]
  · exact (List.map_id _).symm.trans (List.map_congr_left fun x _ => rfl)
  · unfold st
    rw [Array.all_eq_true']
    intro c hc
    have := tu.asc c (by simpa using hc)
    simp only [decide_eq_true_eq]; omega
theorem splitS : MtS G rSplitA splitM := by
  intro W σ ι s H d v es vs Q R r1 r2 g
  cases r2 with
  | nil => exact (Go.fail g).elim
  | cons ry t =>
    cases t with
    | cons _ _ => exact (Go.fail g).elim
    | nil =>
      rename_i y v'
      cases d with
      | str t =>
        cases y with
        | str u =>
          obtain ⟨rfl, tt⟩ := r1.strE
          obtain ⟨rfl, tu⟩ := ry.strE
          obtain ⟨hm, g2⟩ := Go.when g
          have hu : u ≠ [] := fun z => by subst z; simp at hm
          refine ⟨st t, st u, rfl, rfl, ?_, tt.line, ?_⟩
          · rw [st_len]
            cases u with
            | nil => exact absurd rfl hu
            | cons _ _ => rfl
          · rw [st_split hu tu]
            refine Go.newStrs R (fun y hy => ⟨?_, fun c hc => ?_⟩) g2
            · have := spl_plen hy
              have := tt.len
              simp at *; omega
            · rcases spl_mem hy hc with z | z
              · simp at z
              · exact tt.asc c z
        | _ => exact (Go.fail g).elim
      | _ => exact (Go.fail g).elim
def startsM (x : D) : List D → M D
  | [y] => match x, y with
    | .str t, .str u => M.pure (.bl (TL.pre u t))
    | _, _ => M.fail
  | _ => M.fail
def indexSM (x : D) : List D → M D
  | [y] => match x, y with
    | .str t, .str u => M.when (!u.isEmpty) (M.bind (M.ofOpt (fnd u 0 t)) fun j => M.pure (.int (j : Nat)))
    | _, _ => M.fail
  | _ => M.fail
def rIndexSA : V → List V → Hp → VK → Prop := fun x xs H Q => ∃ a b i rest, x = .str a ∧ xs = [.str b] ∧ Builtin.Str.occurrences a b 0 a.length 1 = i :: rest ∧ Q (.int (i : Nat)) H
theorem indexSS : MtS G rIndexSA indexSM := by
  intro W σ ι s H d v es vs Q R r1 r2 g
  cases r2 with
  | nil => exact (Go.fail g).elim
  | cons ry t =>
    cases t with
    | cons _ _ => exact (Go.fail g).elim
    | nil =>
      rename_i y v'
      cases d with
      | str t =>
        cases y with
        | str u =>
          obtain ⟨rfl, tt⟩ := r1.strE
          obtain ⟨rfl, tu⟩ := ry.strE
          obtain ⟨hm, g2⟩ := Go.when g
          have hu : u ≠ [] := fun z => by subst z; simp at hm
          obtain ⟨j, e, g3⟩ := Go.opt (Go.bind g2) R
          rcases occ_fnd (x := t) hu with ⟨j', r, e1, e2⟩ | ⟨e1, e2⟩
          · rw [e] at e1
            cases e1
            exact ⟨st t, st u, j, r, rfl, rfl, e2, Go.pure g3 R _ (.int _)⟩
          · rw [e] at e1; cases e1
        | _ => exact (Go.fail g).elim
      | _ => exact (Go.fail g).elim
end
end Ev

/-! EvG: built-in calls of the evaluator. -/
namespace Ev
open PySem PySem.Spec PyProof.Rows L2
section
variable {G : Gd}
def startsM' (x : D) : List D → M D
  | [y] => match x, y with
    | .str t, .str u => M.when (!u.isEmpty) (M.pure (.bl (TL.pre u t)))
    | _, _ => M.fail
  | _ => M.fail
theorem st_starts {t u : Cs} (hu : u ≠ []) : Txt.startswith (st t) (st u) = TL.pre u t := by
  have h := TL.at_iff (x := st t) (y := st u) hu 0
  rw [List.drop_zero] at h
  have e : Txt.startswith (st t) (st u) = true ↔ StrLaws.At (st t) (st u) (st t).length 0 := by
    unfold Txt.startswith StrLaws.At
    simp
  cases a : Txt.startswith (st t) (st u) with
  | true => exact (h.mp (e.mp a)).symm
  | false =>
    cases b : TL.pre u t with
    | false => rfl
    | true =>
      have := e.mpr (h.mpr b)
      rw [a] at this; cases this
theorem startsS : MtS G (fun x xs H Q => ∃ a b, x = .str a ∧ xs = [.str b] ∧ Q (.bl (Txt.startswith a b)) H) startsM' := by
  intro W σ ι s H d v es vs Q R r1 r2 g
  cases r2 with
  | nil => exact (Go.fail g).elim
  | cons ry t =>
    cases t with
    | cons _ _ => exact (Go.fail g).elim
    | nil =>
      rename_i y v'
      cases d with
      | str t =>
        cases y with
        | str u =>
          obtain ⟨rfl, tt⟩ := r1.strE
          obtain ⟨rfl, tu⟩ := ry.strE
          obtain ⟨hm, g2⟩ := Go.when g
          have hu : u ≠ [] := fun z => by subst z; simp at hm
          exact ⟨st t, st u, rfl, rfl, by rw [st_starts hu]; exact Go.pure g2 R _ (.bl _)⟩
        | _ => exact (Go.fail g).elim
      | _ => exact (Go.fail g).elim

/-! ### len -/
def lenM (n0 : Nat) : List D → M D
  | [.str t] => M.pure (.int t.length)
  | [.tup ds] => M.pure (.int ds.length)
  | [.scr] => M.pure (.int n0)
  | [.ref a] => M.bind (M.read a) fun
    | .lst xs => M.pure (.int xs.length)
    | .dct kvs => M.pure (.int kvs.length)
    | _ => M.fail
  | _ => M.fail
def rLenA (K : PySem.W.Frag) : List V → Hp → VK → Prop := fun xs H Q => (∃ x n, xs = [x] ∧ LenV K x H n ∧ Q (.int n) H) ∨ (∃ a kvs, xs = [V.ref a] ∧ H a = some (.dK kvs) ∧ Q (.int kvs.length) H)
theorem call_lenA {X : Cx} : CallR X (.builtin "len") (rLenA X.K) := call_len.or call_lenD
theorem lenS : CallS G (rLenA G.K) (lenM G.ns.length) := by
  intro W σ ι s H es vs Q R r g
  cases r with
  | nil => exact (Go.fail g).elim
  | cons r1 t =>
    rename_i d ds v _
    cases t with
    | cons _ _ => cases d <;> exact (Go.fail g).elim
    | nil =>
      cases d with
      | str t =>
        obtain ⟨rfl, tt⟩ := r1.strE
        refine .inl ⟨_, t.length, rfl, ⟨?_, (st_len t).symm⟩, Go.pure g R _ (.int _)⟩
        have := tt.line; omega
      | tup ds =>
        obtain ⟨p, xs, rfl, hp, rx⟩ := r1.tupE
        exact .inl ⟨_, ds.length, rfl, .inr ⟨xs, hp, rx.length⟩, Go.pure g R _ (.int _)⟩
      | scr =>
        cases r1 with
        | scr h => exact .inl ⟨_, G.ns.length, rfl, .inl ⟨_, h.sqL, by rw [List.length_map]⟩, Go.pure g R _ (.int _)⟩
      | ref a =>
        obtain ⟨p, rfl, ep⟩ := r1.refE
        obtain ⟨o, h, g1⟩ := Go.read (Go.bind g) R
        have z := R.at ep h
        cases o with
        | lst ds =>
          obtain ⟨xs, hx, rx⟩ := z
          exact .inl ⟨_, ds.length, rfl, .inl ⟨xs, SqL.of hx, rx.length⟩, Go.pure g1 R _ (.int _)⟩
        | dct kvs =>
          obtain ⟨qs, hx, rx, _⟩ := z
          have := Paired.len rx
          exact .inr ⟨p, qs, rfl, hx, by rw [← this]; exact Go.pure g1 R _ (.int _)⟩
        | _ => exact (Go.fail g1).elim
      | _ => exact (Go.fail g).elim
/-! ### abs, max, min, int -/
def absM : List D → M D
  | [.int i] => M.pure (.int (if i < 0 then -i else i))
  | _ => M.fail
theorem absS : CallS G (fun xs H Q => ∃ i, xs = [.int i] ∧ Q (.int (if i < 0 then -i else i)) H) absM := by
  intro W σ ι s H es vs Q R r g
  unfold absM at g
  split at g
  · cases r with
    | cons r1 t => cases t; cases r1; exact ⟨_, rfl, Go.pure g R _ (.int _)⟩
  · exact (Go.fail g).elim
def max2M : List D → M D
  | [.int i, .int j] => M.pure (.int (if j > i then j else i))
  | _ => M.fail
def min2M : List D → M D
  | [.int i, .int j] => M.pure (.int (if j < i then j else i))
  | _ => M.fail
theorem max2S : CallS G (fun xs H Q => ∃ i j, xs = [.int i, .int j] ∧ Q (.int (if j > i then j else i)) H) max2M := by
  intro W σ ι s H es vs Q R r g
  unfold max2M at g
  split at g
  · cases r with
    | cons r1 t => cases t with
      | cons r2 t => cases t; cases r1; cases r2; exact ⟨_, _, rfl, Go.pure g R _ (.int _)⟩
  · exact (Go.fail g).elim
theorem min2S : CallS G (fun xs H Q => ∃ i j, xs = [.int i, .int j] ∧ Q (.int (if j < i then j else i)) H) min2M := by
  intro W σ ι s H es vs Q R r g
  unfold min2M at g
  split at g
  · cases r with
    | cons r1 t => cases t with
      | cons r2 t => cases t; cases r1; cases r2; exact ⟨_, _, rfl, Go.pure g R _ (.int _)⟩
  · exact (Go.fail g).elim
def isDig (c : Nat) : Bool := decide (48 ≤ c) && decide (c ≤ 57)
def digV (l : Cs) : Nat := l.foldl (fun acc c => acc * 10 + (c - 48)) 0
def intM : List D → M D
  | [.int i] => M.pure (.int i)
  | [.bl b] => M.pure (.int (if b then 1 else 0))
  | [.str t] => M.when (!t.isEmpty && (decide (t.length ≤ 640) && t.all isDig)) (M.pure (.int (digV t : Nat)))
  | _ => M.fail
def rIntA : List V → Hp → VK → Prop := fun xs H Q => ((∃ i, xs = [.int i] ∧ Q (.int i) H) ∨ ∃ k, xs = [.bl k] ∧ Q (.int (if k then 1 else 0)) H) ∨ (∃ a n, xs = [.str a] ∧ PySem.intText? a = some n ∧ a.length ≤ 640 ∧ Q (.int n) H)
theorem call_intA {X : Cx} : CallR X (.type "int") rIntA := call_int1.or call_int_str
theorem intS : CallS G rIntA intM := by
  intro W σ ι s H es vs Q R r g
  unfold intM at g
  split at g
  · cases r with
    | cons r1 t => cases t; cases r1; exact .inl (.inl ⟨_, rfl, Go.pure g R _ (.int _)⟩)
  · cases r with
    | cons r1 t => cases t; cases r1; exact .inl (.inr ⟨_, rfl, Go.pure g R _ (.int _)⟩)
  · rename_i t
    cases r with
    | cons r1 tl =>
      cases tl
      obtain ⟨rfl, tt⟩ := r1.strE
      obtain ⟨hm, g2⟩ := Go.when g
      simp only [Bool.and_eq_true, decide_eq_true_eq] at hm
      obtain ⟨h1, h2, h3⟩ := hm
      refine .inr ⟨st t, _, rfl, ?_, by rw [st_len]; exact h2, Go.pure g2 R _ (.int _)⟩
      refine PySem.intText_digits (x := st t) (fun c hc => ?_) (fun z => ?_) (by rw [st_len]; omega)
      · have hc' : c ∈ t := hc
        have := List.all_eq_true.mp h3 c hc'
        simp only [isDig, Bool.and_eq_true, decide_eq_true_eq] at this
        exact this
      · have z' : t = [] := z
        subst z'; simp at h1
  · exact (Go.fail g).elim
/-! ### str(..) of an int that is not negative, of a text -/
def strM : List D → M D
  | [.int i] => M.when (decide (0 ≤ i) && decide (i < 10 ^ 18)) (M.pure (.str (TL.numL i.toNat)))
  | [.str t] => M.pure (.str t)
  | _ => M.fail
def rStrA : List V → Hp → VK → Prop := fun xs H Q => (∃ i, xs = [.int i] ∧ i.natAbs.log2 < 1920 ∧ Q (.str (toString i)) H) ∨ (∃ a, xs = [.str a] ∧ Q (.str a) H)
theorem call_strA {X : Cx} : CallR X (.type "str") rStrA := call_str_int.or SkE.call_str_str
theorem num_ok {n : Nat} (h : n < 10 ^ 18) : TxOk (TL.numL n) := by
  refine ⟨?_, fun c hc => ?_⟩
  · have := TL.numL_len (n := n) (k := 18) (by decide) h
    omega
  · have := TL.numL_digits n c hc
    omega
theorem st_num {i : Int} (h : 0 ≤ i) : (Str.ofString (toString i)) = st (TL.numL i.toNat) := by
  apply TL.ext_tl
  have e : ((i.toNat : Nat) : Int) = i := Int.toNat_of_nonneg h
  have := TL.tl_num i.toNat
  rw [e] at this
  rw [this]; rfl
theorem log_ok {i : Int} (h0 : 0 ≤ i) (h : i < 10 ^ 18) : i.natAbs.log2 < 1920 := by
  by_cases hz : i.natAbs = 0
  · rw [hz]; decide
  · refine (Nat.log2_lt hz).mpr ?_
    have h1 : i.natAbs < 10 ^ 18 := by omega
    have h2 : (10 : Nat) ^ 18 < 2 ^ 64 := by decide
    exact Nat.lt_of_lt_of_le (Nat.lt_trans h1 h2) (Nat.pow_le_pow_right (by decide) (by decide))
theorem strS : CallS G rStrA strM := by
  intro W σ ι s H es vs Q R r g
  unfold strM at g
  split at g
  · rename_i i
    cases r with
    | cons r1 t =>
      cases t; cases r1
      obtain ⟨hm, g2⟩ := Go.when g
      simp only [Bool.and_eq_true, decide_eq_true_eq] at hm
      refine .inl ⟨i, rfl, log_ok hm.1 hm.2, ?_⟩
      have e : (((toString i : String)) : Str) = st (TL.numL i.toNat) := st_num hm.1
      show Q (.str ((toString i : String) : Str)) H
      rw [e]
      exact Go.pure g2 R _ (.str _ (num_ok (by omega)))
  · cases r with
    | cons r1 t =>
      cases t
      obtain ⟨rfl, tt⟩ := r1.strE
      exact .inr ⟨_, rfl, Go.pure g R _ (.str _ tt)⟩
  · exact (Go.fail g).elim
/-! ### list(..), tuple(..), all, any -/
def listM : List D → M D
  | [x] => M.bind (M.seq x) fun ds => M.bind (M.new (.lst ds)) fun n => M.pure (.ref n)
  | _ => M.fail
theorem listS : CallS G (fun xs H Q => ∃ p ys, xs = [.ref p] ∧ (SqL G.K H p ys ∨ SqT G.K H p ys) ∧ ∀ l, H l = none → Q (.ref l) (upd H l (.lst ys))) listM := by
  intro W σ ι s H es vs Q R r g
  cases r with
  | nil => exact (Go.fail g).elim
  | cons r1 t =>
    cases t with
    | cons _ _ => exact (Go.fail g).elim
    | nil =>
      obtain ⟨p, ds, xs, rfl, rx, g1, hs⟩ := Go.seq (Go.bind g) R r1
      refine ⟨p, xs, rfl, ?_, fun l hl => ?_⟩
      · rcases hs with ⟨h, _⟩ | ⟨_, _, _, h, _⟩
        · exact .inr h
        · exact .inl (SqL.of h)
      · have o2 : ORel G (ext ι s.n l) (upd H l (.lst xs)) l (.lst ds) := ⟨_, upd_same, rx.mono (R.le_ext l) (Keep.new hl)⟩
        exact Go.pure (Go.new (Go.bind g1) R hl o2) (R.new hl o2) _ (.ref (ext_same _ _ _))
def tupleM : List D → M D
  | [x] => M.bind (M.seq x) fun ds => M.pure (.tup ds)
  | _ => M.fail
theorem tupleS : CallS G (fun xs H Q => ∃ p ys, xs = [.ref p] ∧ ((SqL G.K H p ys ∧ ∀ l, H l = none → Q (.ref l) (upd H l (.tup ys))) ∨ (SqT G.K H p ys ∧ Q (.ref p) H))) tupleM := by
  intro W σ ι s H es vs Q R r g
  cases r with
  | nil => exact (Go.fail g).elim
  | cons r1 t =>
    cases t with
    | cons _ _ => exact (Go.fail g).elim
    | nil =>
      obtain ⟨p, ds, xs, rfl, rx, g1, hs⟩ := Go.seq (Go.bind g) R r1
      refine ⟨p, xs, rfl, ?_⟩
      rcases hs with ⟨h, e⟩ | ⟨_, _, _, h, _⟩
      · subst e
        exact .inr ⟨h, Go.pure g1 R _ r1⟩
      · exact .inl ⟨SqL.of h, fun l hl => Go.tup g1 R hl _ (rx.newTup hl)⟩
def allM : List D → M D
  | [x] => M.bind (M.lst x) fun p => M.bind (M.ofOpt (bls? p.2)) fun bs => M.pure (.bl (bs.all id))
  | _ => M.fail
def anyM : List D → M D
  | [x] => M.bind (M.lst x) fun p => M.bind (M.ofOpt (bls? p.2)) fun bs => M.pure (.bl (bs.any id))
  | _ => M.fail
theorem allS : CallS G (rAll G.K) allM := by
  intro W σ ι s H es vs Q R r g
  cases r with
  | nil => exact (Go.fail g).elim
  | cons r1 t =>
    cases t with
    | cons _ _ => exact (Go.fail g).elim
    | nil =>
      obtain ⟨a, p, ds, xs, rfl, rfl, ep, _, hx, rx, g1⟩ := Go.lst (Go.bind g) R r1
      obtain ⟨bs, e, g2⟩ := Go.opt (Go.bind g1) R
      have z := bls?_map e
      dsimp only at z
      subst z
      have w := rx.bls
      subst w
      exact ⟨p, bs, rfl, SqL.of hx, Go.pure g2 R _ (.bl _)⟩
theorem anyS : CallS G (rAny G.K) anyM := by
  intro W σ ι s H es vs Q R r g
  cases r with
  | nil => exact (Go.fail g).elim
  | cons r1 t =>
    cases t with
    | cons _ _ => exact (Go.fail g).elim
    | nil =>
      obtain ⟨a, p, ds, xs, rfl, rfl, ep, _, hx, rx, g1⟩ := Go.lst (Go.bind g) R r1
      obtain ⟨bs, e, g2⟩ := Go.opt (Go.bind g1) R
      have z := bls?_map e
      dsimp only at z
      subst z
      have w := rx.bls
      subst w
      exact ⟨p, bs, rfl, SqL.of hx, Go.pure g2 R _ (.bl _)⟩
end
end Ev

/-! EvH: own functions, classes, instances of the evaluator. -/
namespace Ev
open PySem PySem.Spec PyProof.Rows L2

/-! ### what a function promises -/
/-- called with so many arguments as are given (defaults are filled within) -/
structure Fk (P : Program) (w : World) (K : PySem.W.Frag) (mg : Str → Option Value) (base : Heap) (k : Nat) (f : Addr) (sp : Sp) : Prop where
  run : ∀ (A : Around) (outer : List Env) (s : Shared) (H : Hp) (us : List Value) (vs : List V) (Q : VK) (E : XK), Room k A → Env0 P w K mg base A outer s H → Vals vs us → sp vs H Q E →
    codeAny (model P w) A (.call (.ref f) ⟨us, []⟩) (CR (L2.CX P w) outer P w H s Q E) s
def spD (G : Gd) (f : List D → M D) : Sp := fun vs H Q E => ∃ ι ds s, RelH G ι s H ∧ RpL G ι H ds vs ∧
  wp (f ds) s (fun d s' => ∀ ι' H', Le ι ι' → Keep H H' → RelH G ι' s' H' → ∀ v, Rp G ι' H' d v → Q v H') fun x s' => ∀ ι' H' cls dx, Le ι ι' → Keep H H' → RelH G ι' s' H' → XRel G ι' H' x cls dx → E cls dx H'
section
variable {X : Cx} {k : Nat} {f C : Addr} {sp : Sp} {W : WX} {x m : Str} {p pos apos : Pos} {e o : Expr} {es : List Expr} {ta : TE} {t : TA}
theorem run_fk {pins : List (Addr × Obj)} {σ : L2.St} {H : Hp} {s : Shared} {Q : VK} {us : List Value} {vs : List V} (F : Fk X.prog X.w X.K X.mg X.base k f sp) (hr : Room k X.A) (tk : Takes X W)
    (I : Inv X pins σ H s) (r : Vals vs us) (h : sp vs H Q (WE W σ)) : wpAny (model X.prog X.w) X.A (call (.ref f) us) (EP X pins σ Q) X.xe s := by
  refine wpAny_call (codeAny_mono (F.run X.A X.stack s H us vs Q (WE W σ) hr I.env0 r h) fun r s' hq => ?_)
  cases r with
  | error e => exact passAt tk σ pins H s e s' I hq
  | ok fl =>
    cases fl with
    | ret u => exact I.after hq
    | next => exact False.elim hq
    | brk => exact False.elim hq
    | cont => exact False.elim hq
/-- a call whose promise is ours -/
def tF (W : WX) (sp : Sp) (t : TA) : TE := fun σ H Q => t σ H fun vs H1 => sp vs H1 Q (WE W σ)
theorem pe_fn (F : Fk X.prog X.w X.K X.mg X.base k f sp) (hr : Room k X.A) (hg : Gl X x) (hm : X.mg x = some (.ref f)) (hk : PySem.W.keepIn X.K (.ref f) = true) (tk : Takes X W)
    (ha : PA X (e :: es) t) (hdb : (x == ("__debug__" : Str)) = false) (he : starEach (e :: es) X.env = (false, eval e X.env) :: starEach es X.env) (hpl : (backTo pos (starEach es X.env)).any (·.1) = false) :
    PE X (.Call (.Name x p) (e :: es) [] pos) (tF W sp t) := by
  refine ⟨fun pins s σ H Q I h => ?_⟩
  refine wpAny_Call_Name_kw (ld_glob I hg hm ?_ hdb)
  refine PySem.W.callWith_K (h₀ := X.base) I.ok.mod.kin hk (thn (ha.run pos pins s σ H _ I h) fun us s1 ⟨vs, H1, I1, r, q⟩ => ⟨I1.kIn, ?_⟩) he hpl
  exact run_fk F hr tk I1 r q
theorem pe_fn0 (F : Fk X.prog X.w X.K X.mg X.base k f sp) (hr : Room k X.A) (hg : Gl X x) (hm : X.mg x = some (.ref f)) (hk : PySem.W.keepIn X.K (.ref f) = true) (tk : Takes X W) (hdb : (x == ("__debug__" : Str)) = false) :
    PE X (.Call (.Name x p) [] [] pos) (tF W sp tNil) := by
  refine ⟨fun pins s σ H Q I h => ?_⟩
  refine wpAny_Call_Name_kw (ld_glob I hg hm ?_ hdb)
  exact PySem.W.callWith_K0 I.kIn hk (run_fk (us := []) F hr tk I .nil h)

/-! ### f(k = e, ..) -/
/-- called with n values and with these names -/
structure FkK (P : Program) (w : World) (K : PySem.W.Frag) (mg : Str → Option Value) (base : Heap) (k : Nat) (f : Addr) (n : Nat) (ks : List Str) (sp : Sp) : Prop where
  run : ∀ (A : Around) (outer : List Env) (s : Shared) (H : Hp) (us ws : List Value) (vs zs : List V) (Q : VK) (E : XK), Room k A → Env0 P w K mg base A outer s H → us.length = n → ws.length = ks.length → Vals vs us → Vals zs ws → sp (vs ++ zs) H Q E →
    codeAny (model P w) A (.call (.ref f) ⟨us, ks.zip ws⟩) (CR (L2.CX P w) outer P w H s Q E) s
def kwN : List Keyword → Option (List Str)
  | [] => some []
  | ⟨some a, _, _⟩ :: r => (kwN r).map (a :: ·)
  | ⟨none, _, _⟩ :: _ => none
theorem kwN_ok {env : Env} {pos : Pos} : ∀ {kws : List Keyword} {ks : List Str}, kwN kws = some ks → (backToKw pos (keywordEach kws env)).all (·.1.isSome) = true ∧ (backToKw pos (keywordEach kws env)).filterMap (·.1) = ks ∧ (backToKw pos (keywordEach kws env)).any (·.1.isNone) = false ∧ kws.length = ks.length
  | [], ks, h => by cases h; exact ⟨rfl, rfl, rfl, rfl⟩
  | ⟨some a, v, p⟩ :: r, ks, h => by
    cases h1 : kwN r with
    | none => rw [kwN, h1] at h; cases h
    | some ls =>
      rw [kwN, h1] at h
      cases h
      obtain ⟨i1, i2, i3, i4⟩ := kwN_ok (env := env) (pos := pos) h1
      refine ⟨?_, ?_, ?_, by rw [List.length_cons, List.length_cons, i4]⟩
      · show (true && _) = true
        rw [Bool.true_and]; exact i1
      · show a :: _ = a :: ls
        exact congrArg _ i2
      · show (false || _) = false
        rw [Bool.false_or]; exact i3
  | ⟨none, _, _⟩ :: _, ks, h => by cases h
theorem pe_fnK {ks : List Str} {kws : List Keyword} (F : FkK X.prog X.w X.K X.mg X.base k f 0 ks sp) (hr : Room k X.A) (hg : Gl X x) (hm : X.mg x = some (.ref f)) (hk : PySem.W.keepIn X.K (.ref f) = true) (tk : Takes X W)
    (hkw : PK X kws t) (hn : kwN kws = some ks) (hl : ∀ σ H Q, t σ H Q → t σ H fun vs H1 => vs.length = ks.length ∧ Q vs H1) (hdb : (x == ("__debug__" : Str)) = false) :
    PE X (.Call (.Name x p) [] kws pos) (tF W sp t) := by
  refine ⟨fun pins s σ H Q I h => ?_⟩
  obtain ⟨n1, n2, n3, n4⟩ := kwN_ok (env := X.env) (pos := pos) hn
  refine wpAny_Call_Name_kw (ld_glob I hg hm ?_ hdb)
  refine PySem.W.callWith_KW0 (h₀ := X.base) I.ok.mod.kin hk n1 (thn (hkw.run pos pins s σ H _ I (hl σ H _ h)) fun ws s1 ⟨zs, H1, I1, rz, q1, q⟩ => ⟨I1.kIn, ?_⟩) (by rw [n3]; rfl)
  rw [n2]
  refine wpAny_call (codeAny_mono (F.run X.A X.stack s1 H1 [] ws [] zs Q (WE W σ) hr I1.env0 rfl (rz.length.symm.trans q1) .nil rz q) fun r s' hq => ?_)
  cases r with
  | error e => exact passAt tk σ pins H1 s1 e s' I1 hq
  | ok fl =>
    cases fl with
    | ret u => exact I1.after hq
    | next => exact False.elim hq
    | brk => exact False.elim hq
    | cont => exact False.elim hq

/-! ### o.m(..) of an instance of any class -/
def plOf (o : Expr) (env : Env) : Sem Bool := do return (← importBound o env).getD true
theorem call_arm {env : Env} {args : List Expr} (hb : attributeBase o m env (eval o env) = eval o env) (hf : methodCallForm (args.length + ([] : List Keyword).length) (backTo pos (starEach args env)) (backToKw pos (keywordEach [] env)) = true) (hl : (apos.endLine == pos.line) = true) :
    eval (.Call (.Attribute o m apos) args [] pos) env = (do
      let ov ← eval o env
      standAt apos.atName
      let (f, first) ← holding [ov] (getMethod ov m (plOf o env))
      callWith pos f first (backTo pos (starEach args env)) (backToKw pos (keywordEach [] env))) := by
  rw [arm_eval_Call, hb]
  unfold methodCall
  have e1 : ∀ ov, calleeOf (methodCallForm (args.length + ([] : List Keyword).length) (backTo pos (starEach args env)) (backToKw pos (keywordEach [] env))) o env ov m = getMethod ov m (plOf o env) := fun ov => by rw [hf]; rfl
  have e2 : methodCallPos (methodCallForm (args.length + ([] : List Keyword).length) (backTo pos (starEach args env)) (backToKw pos (keywordEach [] env))) o env apos pos = pure pos := by
    unfold methodCallPos
    exact if_pos (by rw [hl, Bool.or_true])
  simp only [e1, e2, pure_bind]
def tM (X : Cx) (W : WX) (k : Nat) (m : Str) (ta : TE) (t : TA) : TE := fun σ H Q => ta σ H fun x H1 => ∃ a C dx fs g sp, x = .ref a ∧ H1 a = some (.ins C dx fs) ∧ Cls X.K C ∧ Meth X.K C m g ∧ fs.lookup m = none ∧ Fk X.prog X.w X.K X.mg X.base k g sp ∧
  t σ H1 fun vs H2 => sp (x :: vs) H2 Q (WE W σ)
theorem pe_me (he : PE X o ta) (hr : Room k X.A) (tk : Takes X W) (ha : PA X (e :: es) t) (hst : starEach (e :: es) X.env = (false, eval e X.env) :: starEach es X.env) (hpl : (backTo pos (starEach es X.env)).any (·.1) = false)
    (hb : attributeBase o m X.env (eval o X.env) = eval o X.env) (hf : methodCallForm ((e :: es).length + ([] : List Keyword).length) (backTo pos (starEach (e :: es) X.env)) (backToKw pos (keywordEach [] X.env)) = true) (hl : (apos.endLine == pos.line) = true) :
    PE X (.Call (.Attribute o m apos) (e :: es) [] pos) (tM X W k m ta t) := by
  refine ⟨fun pins s σ H Q I h => ?_⟩
  refine PySem.W.methodCall_KW (pl := plOf o X.env) (thn (he.run pins s σ H _ I h) fun u s1 ⟨x, H1, I1, rx, a, C, dx, fs, g, sp, ex, ea, c, hm, l, F, q⟩ => ?_) (call_arm hb hf hl)
  subst ex
  obtain rfl : u = Value.ref a := rx
  refine getmeth_ok I1 ea c hm l ?_
  refine PySem.W.callWith_K (first := [.ref a]) (h₀ := X.base) I.ok.mod.kin hm.kp (thn (ha.run pos pins s1 σ H1 _ I1 q) fun us s2 ⟨vs, H2, I2, r, q2⟩ => ⟨I2.kIn, ?_⟩) hst hpl
  exact run_fk (us := .ref a :: us) (vs := .ref a :: vs) F hr tk I2 (.cons rfl r) q2
theorem pe_me0 (he : PE X o ta) (hr : Room k X.A) (tk : Takes X W) (hb : attributeBase o m X.env (eval o X.env) = eval o X.env) (hl : (apos.endLine == pos.line) = true) :
    PE X (.Call (.Attribute o m apos) [] [] pos) (tM X W k m ta tNil) := by
  refine ⟨fun pins s σ H Q I h => ?_⟩
  refine PySem.W.methodCall_KW (pl := plOf o X.env) (thn (he.run pins s σ H _ I h) fun u s1 ⟨x, H1, I1, rx, a, C, dx, fs, g, sp, ex, ea, c, hm, l, F, q⟩ => ?_) (call_arm hb rfl hl)
  subst ex
  obtain rfl : u = Value.ref a := rx
  refine getmeth_ok I1 ea c hm l ?_
  exact PySem.W.callWith_K0 (first := [.ref a]) I1.kIn hm.kp (run_fk (us := [.ref a]) (vs := [.ref a]) F hr tk I1 (.cons rfl .nil) q)

/-! ### C(..) -/
def tMk (W : WX) (C : Addr) (sp : Sp) (t : TA) : TE := fun σ H Q => t σ H fun vs H1 => ∀ x dx, H1 x = none → H1 dx = none → dx ≠ x →
  sp (.ref x :: vs) (upd (upd H1 dx (.own x)) x (.ins C dx [])) (fun v H2 => v = .non ∧ Q (.ref x) H2) (WE W σ)
theorem run_mk {pins : List (Addr × Obj)} {σ : L2.St} {H : Hp} {s : Shared} {Q : VK} {us : List Value} {vs : List V} (N : Mk X.K C f) (F : Fk X.prog X.w X.K X.mg X.base k f sp) (hr : Room (k + 1) X.A) (tk : Takes X W) (I : Inv X pins σ H s) (r : Vals vs us)
    (h : ∀ x dx, H x = none → H dx = none → dx ≠ x → sp (.ref x :: vs) (upd (upd H dx (.own x)) x (.ins C dx [])) (fun v H2 => v = .non ∧ Q (.ref x) H2) (WE W σ)) :
    wpAny (model X.prog X.w) X.A (call (.ref C) us) (EP X pins σ Q) X.xe s := by
  have q0 := h (s.heap.objs.size + 1) s.heap.objs.size (I.hok.fresh (Nat.le_succ _)) (I.hok.fresh (Nat.le_refl _)) (Nat.ne_of_lt (Nat.lt_succ_self _))
  have J := Inv.made (C := C) I
  have rr : Vals (V.ref (s.heap.objs.size + 1) :: vs) (Value.ref (s.heap.objs.size + 1) :: us) := .cons rfl r
  have body := F.run (X.A.under (.builtin "type.__call__" ⟨.ref C :: us, []⟩)) X.stack _ _ (Value.ref (s.heap.objs.size + 1) :: us) _ _ (WE W σ) (hr.make C us []) (J.env0.make C us []) rr q0
  refine wpAny_call (make_map (f := f) I.kIn N.makes N.init (beq_iff_eq.mp N.fn) (codeAny_mono body fun r s' hq => ?_))
  cases r with
  | error e => exact passAt tk σ pins _ _ e s' J hq
  | ok fl =>
    cases fl with
    | ret u =>
      obtain ⟨v, H', I3, rv, ev, q3⟩ := J.after hq
      subst ev
      exact ⟨rv, ⟨V.ref (s.heap.objs.size + 1), H', I3, rfl, q3⟩⟩
    | next => exact False.elim hq
    | brk => exact False.elim hq
    | cont => exact False.elim hq
theorem pe_mk (N : Mk X.K C f) (F : Fk X.prog X.w X.K X.mg X.base k f sp) (hr : Room (k + 1) X.A) (hg : Gl X x) (hm : X.mg x = some (.ref C)) (tk : Takes X W)
    (ha : PA X (e :: es) t) (hdb : (x == ("__debug__" : Str)) = false) (he : starEach (e :: es) X.env = (false, eval e X.env) :: starEach es X.env) (hpl : (backTo pos (starEach es X.env)).any (·.1) = false) :
    PE X (.Call (.Name x p) (e :: es) [] pos) (tMk W C sp t) := by
  refine ⟨fun pins s σ H Q I h => ?_⟩
  refine wpAny_Call_Name_kw (ld_glob I hg hm ?_ hdb)
  refine PySem.W.callWith_K (h₀ := X.base) I.ok.mod.kin N.kp (thn (ha.run pos pins s σ H _ I h) fun us s1 ⟨vs, H1, I1, r, q⟩ => ⟨I1.kIn, ?_⟩) he hpl
  exact run_mk N F hr tk I1 r q
theorem pe_mk0 (N : Mk X.K C f) (F : Fk X.prog X.w X.K X.mg X.base k f sp) (hr : Room (k + 1) X.A) (hg : Gl X x) (hm : X.mg x = some (.ref C)) (tk : Takes X W) (hdb : (x == ("__debug__" : Str)) = false) :
    PE X (.Call (.Name x p) [] [] pos) (tMk W C sp tNil) := by
  refine ⟨fun pins s σ H Q I h => ?_⟩
  refine wpAny_Call_Name_kw (ld_glob I hg hm ?_ hdb)
  exact PySem.W.callWith_K0 I.kIn N.kp (run_mk (us := []) N F hr tk I .nil h)
end

/-! ### the evaluator's calls -/
section
variable {G : Gd} {W : WX} {ms : Sl → M (List D)} {mo : Sl → M D}
theorem rd_fn {f : List D → M D} (σ : L2.St) (H : Hp) (Q : VK) (h : tD G W (mA ms f) σ H Q) : tF W (spD G f) (tDs G W ms) σ H Q := by
  obtain ⟨ι, σd, s, R, g⟩ := h
  exact ⟨ι, σd, s, R, (Go.bind g).imp fun ι1 H1 ds s1 l1 k1 R1 g1 vs r1 => ⟨ι1, ds, s1, R1, r1, g1⟩⟩
/-- the class of an instance -/
def clsM : D → M Nat
  | .ref a => M.bind (M.read a) fun
    | .ins c _ => M.pure c
    | _ => M.fail
  | _ => M.fail
/-- an instance: its address, class, fields -/
def M.ins : D → M (Nat × Nat × List (Cs × D))
  | .ref a => M.bind (M.read a) fun
    | .ins c fs => M.pure (a, c, fs)
    | _ => M.fail
  | _ => M.fail
theorem Go.ins {σ : L2.St} {ι : Iota} {H : Hp} {s : S} {d : D} {v : V} {P : Iota → Hp → Nat × Nat × List (Cs × D) → S → Prop} (g : Go G W σ ι H (M.ins d) s P) (R : RelH G ι s H) (r : Rp G ι H d v) :
    ∃ a p c fs dx qs, d = .ref a ∧ v = .ref p ∧ ι a = some p ∧ s.get a = some (.ins c fs) ∧ H p = some (.ins (G.ca c) dx qs) ∧ FRel G ι H fs qs ∧ P ι H (a, c, fs) s := by
  cases d with
  | ref a =>
    obtain ⟨p, rfl, ep⟩ := r.refE
    obtain ⟨o, h, g1⟩ := Go.read (Go.bind g) R
    have z := R.at ep h
    cases o with
    | ins c fs =>
      obtain ⟨dx, qs, hx, rx⟩ := z
      exact ⟨a, p, c, fs, dx, qs, rfl, rfl, ep, h, hx, rx, Go.pure g1 R⟩
    | _ => exact (Go.fail g1).elim
  | _ => exact (Go.fail g).elim
/-- fields by name -/
def ffind : List (Cs × D) → Cs → Option D
  | [], _ => none
  | p :: r, f => if p.1 = f then some p.2 else ffind r f
def fput (f : Cs) (v : D) : List (Cs × D) → List (Cs × D)
  | [] => [(f, v)]
  | p :: r => if p.1 = f then (p.1, v) :: r else p :: fput f v r
theorem ffind_rel {ι : Iota} {H : Hp} {f : Cs} : ∀ {fs : List (Cs × D)} {qs : List (Str × V)}, FRel G ι H fs qs → (ffind fs f = none ∧ qs.lookup (st f) = none) ∨ ∃ d v, ffind fs f = some d ∧ qs.lookup (st f) = some v ∧ Rp G ι H d v
  | _, _, .nil => .inl ⟨rfl, rfl⟩
  | p :: r, q :: qr, .cons h t => by
    obtain ⟨q1, q2⟩ := q
    have h1 : q1 = st p.1 := h.1
    by_cases e : p.1 = f
    · refine .inr ⟨p.2, q2, by rw [ffind, if_pos e], ?_, h.2⟩
      rw [List.lookup_cons]
      have : (st f == q1) = true := by rw [h1, e]; exact beq_self_eq_true _
      rw [this]
    · have ne : (st f == q1) = false := by
        rw [h1]
        exact beq_eq_false_iff_ne.mpr fun z => e (st_inj z).symm
      rw [ffind, if_neg e, List.lookup_cons, ne]
      exact ffind_rel t
theorem FRel.put {ι : Iota} {H : Hp} {f : Cs} {d : D} {v : V} (r : Rp G ι H d v) : ∀ {fs : List (Cs × D)} {qs : List (Str × V)}, FRel G ι H fs qs → FRel G ι H (fput f d fs) (putF (st f) v qs)
  | _, _, .nil => .cons ⟨rfl, r⟩ .nil
  | p :: t, q :: qt, .cons h tl => by
    obtain ⟨q1, q2⟩ := q
    have h1 : q1 = st p.1 := h.1
    by_cases e : p.1 = f
    · have e2 : q1 = st f := by rw [h1, e]
      rw [fput, if_pos e]
      have : putF (st f) v ((q1, q2) :: qt) = (q1, v) :: qt := by
        unfold putF
        simp [e2]
      rw [this]
      exact .cons ⟨h1, r⟩ tl
    · have e2 : ¬ q1 = st f := fun z => e (st_inj (h1.symm.trans z))
      rw [fput, if_neg e]
      have : putF (st f) v ((q1, q2) :: qt) = (q1, q2) :: putF (st f) v qt := by
        rw [putF]
        simp [e2]
      rw [this]
      exact .cons h (FRel.put r tl)
/-- o.f of a plain field -/
def getM (pf : Nat → Bool) (f : Cs) (d : D) : M D := M.bind (M.ins d) fun p => M.when (pf p.2.1) (M.ofOpt (ffind p.2.2 f))
theorem rd_fld {K : PySem.W.Frag} {pf : Nat → Bool} {f : Cs} (hK : K = G.K) (hp : ∀ c, pf c = true → Cls G.K (G.ca c) ∧ NoAttr G.K (G.ca c) (st f)) (σ : L2.St) (H : Hp) (Q : VK) (h : tD G W (m1 mo (getM pf f)) σ H Q) : tFld K (tD G W mo) (st f) σ H Q := by
  subst hK
  obtain ⟨ι, σd, s, R, g⟩ := h
  refine ⟨ι, σd, s, R, (Go.bind g).imp fun ι1 H1 d s1 l1 k1 R1 g1 v r1 => ?_⟩
  obtain ⟨a, p, c, fs, dx, qs, rfl, rfl, ep, _, hx, rx, g2⟩ := Go.ins (Go.bind g1) R1 r1
  obtain ⟨hc, g3⟩ := Go.when g2
  obtain ⟨z, e, q⟩ := Go.opt g3 R1
  obtain ⟨c1, c2⟩ := hp c hc
  rcases ffind_rel (f := f) rx with ⟨z1, _⟩ | ⟨d', v', z1, z2, z3⟩
  · rw [z1] at e; cases e
  · have e' : ffind fs f = some z := e
    rw [z1] at e'
    cases e'
    exact ⟨p, G.ca c, dx, qs, v', rfl, hx, c1, c2, z2, q v' z3⟩
/-- o.f = v -/
def setFM (pf : Nat → Bool) (f : Cs) (d v : D) : M Unit := M.bind (M.ins d) fun p => M.when (pf p.2.1 && decide (p.2.2.length < 900)) (M.write p.1 (.ins p.2.1 (fput f v p.2.2)))
def gFld (pf : Nat → Bool) (f : Cs) (mo mv : Sl → M D) : Sl → M Fl := fun σ => M.inS σ (M.bind (mv σ) fun y => M.bind (mo σ) fun x => setFM pf f x y) fun _ => M.pure (.nx σ)
theorem rd_sfld {K : PySem.W.Frag} {pf : Nat → Bool} {f : Cs} {mv : Sl → M D} (hK : K = G.K) (hp : ∀ c, pf c = true → Cls G.K (G.ca c) ∧ NoAttr G.K (G.ca c) (st f)) (N : Ends) (σ : L2.St) (H : Hp) (h : tSD G W (gFld pf f mo mv) N σ H) : sFld K (tD G W mo) (tD G W mv) (st f) N σ H := by
  subst hK
  obtain ⟨ι, σd, s, R, w⟩ := h
  have g := go_inS R w
  refine ⟨ι, σd, s, R, (Go.bind g).imp fun ι1 H1 y s1 l1 k1 R1 g1 vy ry => ?_⟩
  refine ⟨ι1, σd, s1, R.on l1 k1 R1, (Go.bind g1).imp fun ι2 H2 x s2 l2 k2 R2 g2 v r1 => ?_⟩
  obtain ⟨a, p, c, fs, dx, qs, rfl, rfl, ep, _, hx, rx, g3⟩ := Go.ins (Go.bind g2) R2 r1
  obtain ⟨hc, g4⟩ := Go.when g3
  rw [Bool.and_eq_true, decide_eq_true_eq] at hc
  obtain ⟨c1, c2⟩ := hp c hc.1
  have k := (Keep.write (o := .ins (G.ca c) dx (putF (st f) vy qs)) hx (fun z => z))
  have o2 : ORel G ι2 (upd H2 p (.ins (G.ca c) dx (putF (st f) vy qs))) p (.ins c (fput f y fs)) := ⟨dx, _, upd_same, (FRel.put (ry.mono l2 k2) rx).mono (Le.refl _) k⟩
  refine ⟨p, G.ca c, dx, qs, rfl, hx, c1, c2, ?_, ?_⟩
  · have := Paired.len rx
    have hl : fs.length < 900 := hc.2
    omega
  · have R3 := (R2.write ep o2).1
    exact (Go.write g4 R2 ep o2) ι2 σ _ (Le.refl _) (Keep.refl _) (((R.on l1 k1 R1).on l2 k2 R2).on (Le.refl _) k R3)
/-- o.m(..) of an instance -/
def mMe (mo : Sl → M D) (mt : Nat → Option (List D → M D)) (m : Cs) (ms : Sl → M (List D)) : Sl → M D := fun σ => M.bind (mo σ) fun x => M.bind (M.ins x) fun p => match mt p.2.1 with
  | some f => M.when (ffind p.2.2 m).isNone (M.bind (ms σ) fun ds => f (x :: ds))
  | none => M.fail
theorem rd_me {X : Cx} {k : Nat} {mt : Nat → Option (List D → M D)} {m : Cs} (hK : X.K = G.K)
    (hm : ∀ c f, mt c = some f → Cls G.K (G.ca c) ∧ ∃ g, Meth G.K (G.ca c) (st m) g ∧ Fk X.prog X.w X.K X.mg X.base k g (spD G f)) (σ : L2.St) (H : Hp) (Q : VK) (h : tD G W (mMe mo mt m ms) σ H Q) : tM X W k (st m) (tD G W mo) (tDs G W ms) σ H Q := by
  obtain ⟨ι, σd, s, R, g⟩ := h
  refine ⟨ι, σd, s, R, (Go.bind g).imp fun ι1 H1 d s1 l1 k1 R1 g1 v r1 => ?_⟩
  obtain ⟨a, p, c, fs, dx, qs, rfl, rfl, ep, _, hx, rx, g2⟩ := Go.ins (Go.bind g1) R1 r1
  cases e : mt c with
  | none => simp only [e] at g2; exact (Go.fail g2).elim
  | some f =>
    simp only [e] at g2
    obtain ⟨hn, g3⟩ := Go.when g2
    obtain ⟨c1, g', c2, F⟩ := hm c f e
    have hl : qs.lookup (st m) = none := by
      rcases ffind_rel (f := m) rx with ⟨_, z⟩ | ⟨d', v', z1, _, _⟩
      · exact z
      · rw [z1] at hn; cases hn
    refine ⟨p, G.ca c, dx, qs, g', spD G f, rfl, hx, by rw [hK]; exact c1, by rw [hK]; exact c2, hl, F, ι1, σd, s1, R.on l1 k1 R1, (Go.bind g3).imp fun ι2 H2 ds s2 l2 k2 R2 g4 vs r2 => ?_⟩
    exact ⟨ι2, _, s2, R2, .cons (r1.mono l2 k2) r2, g4⟩
/-- C(..) -/
def mMk (c : Nat) (f : List D → M D) (ms : Sl → M (List D)) : Sl → M D := mA ms fun ds => M.bind (M.new (.ins c [])) fun n => M.bind (f (.ref n :: ds)) fun
  | .non => M.pure (.ref n)
  | _ => M.fail
theorem rd_mk {c : Nat} {f : List D → M D} (σ : L2.St) (H : Hp) (Q : VK) (h : tD G W (mMk c f ms) σ H Q) : tMk W (G.ca c) (spD G f) (tDs G W ms) σ H Q := by
  obtain ⟨ι, σd, s, R, g⟩ := h
  refine ⟨ι, σd, s, R, (Go.bind g).imp fun ι1 H1 ds s1 l1 k1 R1 g1 vs r1 x dx hx hdx ne => ?_⟩
  have hx' : (upd H1 dx (.own x)) x = none := by rw [upd_ne (Ne.symm ne)]; exact hx
  have k0 : Keep H1 (upd H1 dx (.own x)) := Keep.new hdx
  have R0 : RelH G ι1 s1 (upd H1 dx (.own x)) := R1.tup hdx
  have o2 : ORel G (ext ι1 s1.n x) (upd (upd H1 dx (.own x)) x (.ins (G.ca c) dx [])) x (.ins c []) := ⟨dx, [], upd_same, .nil⟩
  have g2 := Go.bind g1
  have R2 := R0.new hx' o2
  have l2 := R0.le_ext x
  have k2 := k0.trans (Keep.new (o := .ins (G.ca c) dx []) hx')
  have g3 := g2 _ _ l2 k2 R2
  refine ⟨_, .ref s1.n :: ds, s1.new (.ins c []), R2, .cons (.ref (ext_same _ _ _)) (r1.mono l2 k2), ?_⟩
  refine wp_mono (Go.bind g3) (fun d s3 q ι3 H3 l3 k3 R3 v rv => ?_) fun x' s3 q ι3 H3 cls dx' l3 k3 R3 xr => q ι3 H3 cls dx' l3 k3 R3 xr
  have q' := q ι3 H3 l3 k3 R3
  cases d with
  | non =>
    cases rv
    exact ⟨rfl, Go.pure q' R3 _ (.ref (l3 _ _ (ext_same _ _ _)))⟩
  | _ => exact (Go.fail q').elim
end
end Ev

/-! EvI: targets, assignments, loops of the evaluator. -/
namespace Ev
open PySem PySem.Spec PyProof.Rows L2

/-- nothing may be raised here -/
def M.noX {α : Type} (m : M α) : M α := fun s => (m s).bind fun
  | .ok a s' => .ret (.ok a s')
  | _ => .ret .fail
theorem wp_noX {α : Type} {m : M α} {s : S} {Q : α → S → Prop} {E : XV → S → Prop} : wp (M.noX m) s Q E ↔ wp m s Q fun _ _ => False := by
  unfold wp M.noX
  rw [T.all_bind]
  constructor <;> (refine T.All.mono fun o h => ?_; cases o <;> exact h)

/-! ### targets -/
/-- a target: from the value and the slots to the slots -/
abbrev Tg := D → Sl → M Sl
def tGD (G : Gd) (f : Tg) : TG := fun v σ H Q => ∃ ι σd s d, RelS G ι σd s σ H ∧ Rp G ι H d v ∧ wp (f d σd) s (fun σd' s' => ∀ ι' σ' H', Le ι ι' → Keep H H' → RelS G ι' σd' s' σ' H' → Q σ' H') fun _ _ => False
abbrev Tgs := List D → Sl → M Sl
def tGDs (G : Gd) (f : Tgs) : TGs := fun vs σ H Q => ∃ ι σd s ds, RelS G ι σd s σ H ∧ RpL G ι H ds vs ∧ wp (f ds σd) s (fun σd' s' => ∀ ι' σ' H', Le ι ι' → Keep H H' → RelS G ι' σd' s' σ' H' → Q σ' H') fun _ _ => False
section
variable {G : Gd} {X : Cx}
theorem PG.imp' {e : Expr} {t t' : TG} (h : PG X e t) (i : ∀ v σ H Q, t' v σ H Q → t v σ H Q) : PG X e t' := ⟨fun pins s σ H v u Q I r hw => h.run pins s σ H v u Q I r (i v σ H Q hw)⟩
theorem PGs.imp {e : List Expr} {t t' : TGs} (h : PGs X e t) (i : ∀ v σ H Q, t' v σ H Q → t v σ H Q) : PGs X e t' := ⟨fun pins s σ H v u Q I r hw => h.run pins s σ H v u Q I r (i v σ H Q hw)⟩
theorem PG.or {e : Expr} {t t' : TG} (h : PG X e t) (h' : PG X e t') : PG X e (fun v σ H Q => t v σ H Q ∨ t' v σ H Q) := ⟨fun pins s σ H v u Q I r hw => hw.elim (h.run pins s σ H v u Q I r) (h'.run pins s σ H v u Q I r)⟩
def gN (i : Nat) : Tg := fun d σ => M.pure (σ.set i (some d))
theorem rd_gN {i : Nat} (v : V) (σ : L2.St) (H : Hp) (Q : L2.St → Hp → Prop) (h : tGD G (gN i) v σ H Q) : gName i v σ H Q := by
  obtain ⟨ι, σd, s, d, R, r, w⟩ := h
  exact w ι _ H (Le.refl _) (Keep.refl _) (R.set r)
def gsNil : Tgs := fun ds σ => match ds with
  | [] => M.pure σ
  | _ => M.fail
def gsCons (t : Tg) (u : Tgs) : Tgs := fun ds σ => match ds with
  | d :: r => M.bind (t d σ) fun σ' => u r σ'
  | [] => M.fail
theorem rd_gsNil (v : List V) (σ : L2.St) (H : Hp) (Q : L2.St → Hp → Prop) (h : tGDs G gsNil v σ H Q) : gNil v σ H Q := by
  obtain ⟨ι, σd, s, ds, R, r, w⟩ := h
  cases r with
  | nil => exact ⟨rfl, w ι _ H (Le.refl _) (Keep.refl _) R⟩
  | cons _ _ => exact w.elim
theorem rd_gsCons {t : Tg} {u : Tgs} (v : List V) (σ : L2.St) (H : Hp) (Q : L2.St → Hp → Prop) (h : tGDs G (gsCons t u) v σ H Q) : gCons (tGD G t) (tGDs G u) v σ H Q := by
  obtain ⟨ι, σd, s, ds, R, r, w⟩ := h
  cases r with
  | nil => exact w.elim
  | cons r1 r2 =>
    refine ⟨_, _, rfl, ι, σd, s, _, R, r1, ?_⟩
    refine wp_mono (wp_bind.mp w) (fun σd' s' q ι' σ' H' l k R' => ?_) fun _ _ z => z
    exact ⟨ι', σd', s', _, R', r2.mono l k, wp_mono q (fun σd2 s2 z ι2 σ2 H2 l2 k2 R2 => z ι2 σ2 H2 (l.trans l2) (k.trans k2) R2) fun _ _ z => z⟩
/-- a tuple or a list of n things, taken apart -/
def gUn (n : Nat) (t : Tgs) : Tg := fun d σ => M.bind (M.seq d) fun ds => M.when (decide (ds.length = n)) (t ds σ)
theorem M.seq_read {d : D} {s : S} {Q : List D → S → Prop} {E : XV → S → Prop} (h : wp (M.seq d) s Q E) : ∃ ds, Q ds s ∧ (d = .tup ds ∨ ∃ a, d = .ref a ∧ s.get a = some (.lst ds)) := by
  cases d with
  | tup ds => exact ⟨ds, h, .inl rfl⟩
  | ref a =>
    have h2 := wp_bind.mp (wp_bind.mp h)
    obtain ⟨o, e, q⟩ := wp_read.mp h2
    cases o with
    | lst xs => exact ⟨xs, q, .inr ⟨a, rfl, e⟩⟩
    | _ => exact q.elim
  | _ => exact h.elim
theorem rd_gUn {n : Nat} {t : Tgs} (v : V) (σ : L2.St) (H : Hp) (Q : L2.St → Hp → Prop) (h : tGD G (gUn n t) v σ H Q) : gTup G.K n (tGDs G t) v σ H Q ∨ gLst G.K n (tGDs G t) v σ H Q := by
  obtain ⟨ι, σd, s, d, R, r, w⟩ := h
  obtain ⟨ds, q, e⟩ := M.seq_read (wp_bind.mp w)
  have q' : decide (ds.length = n) = true ∧ wp (t ds σd) s (fun σd' s' => ∀ ι' σ' H', Le ι ι' → Keep H H' → RelS G ι' σd' s' σ' H' → Q σ' H') fun _ _ => False := by
    unfold M.when at q
    by_cases hn : decide (ds.length = n) = true
    · rw [if_pos hn] at q; exact ⟨hn, q⟩
    · rw [if_neg hn] at q; exact q.elim
  have hn := of_decide_eq_true q'.1
  rcases e with rfl | ⟨a, rfl, ha⟩
  · obtain ⟨p, xs, rfl, hp, rx⟩ := r.tupE
    exact .inl ⟨p, xs, rfl, hp, by rw [← rx.length]; exact hn, ι, σd, s, ds, R, rx, q'.2⟩
  · obtain ⟨p, rfl, ep⟩ := r.refE
    obtain ⟨xs, hx, rx⟩ := R.hp.at ep ha
    exact .inr ⟨p, xs, rfl, SqL.of hx, by rw [← rx.length]; exact hn, ι, σd, s, ds, R, rx, q'.2⟩
/-- o.f as a target -/
def gAttr (pf : Nat → Bool) (f : Cs) (mo : Sl → M D) : Tg := fun d σ => M.noX (M.bind (mo σ) fun x => M.bind (setFM pf f x d) fun _ => M.pure σ)
def tAttr (K : PySem.W.Frag) (to : TE) (f : Str) : TG := fun y σ H Q => to σ H fun x H2 => ∃ a C dx fs, x = .ref a ∧ H2 a = some (.ins C dx fs) ∧ Cls K C ∧ NoAttr K C f ∧ fs.length < 1000 ∧ Q σ (upd H2 a (.ins C dx (putF f y fs)))
theorem pg_attr {o : Expr} {f : Str} {pos : Pos} {to : TE} (ho : PE X o to) : PG X (.Attribute o f pos) (tAttr X.K to f) := by
  refine ⟨fun pins s σ H v u Q I r h => ?_⟩
  show wpAny _ _ (do
    let ov ← holding [u] (eval o X.env)
    standAt pos.atName
    holding [u, ov] (setAttr ov f u)
    release [u, ov] []) _ _ _
  refine wpAny_bind (wpAny_holding (thn (ho.run pins s σ H _ I h) fun ov s2 ⟨x, H2, I2, rx, a, C, dx, fs, ex, ea, c, n, l, q2⟩ => ?_))
  subst ex
  obtain rfl : ov = Value.ref a := rx
  refine wpAny_bind (wpAny_standAt (wpAny_bind (wpAny_holding (setattr_ok I2 ea c n l r fun s3 I3 => ?_))))
  exact wpAny_release ⟨σ, _, I3, q2⟩
theorem rd_gAttr {K : PySem.W.Frag} {W : WX} {pf : Nat → Bool} {f : Cs} {mo : Sl → M D} (hK : K = G.K) (hp : ∀ c, pf c = true → Cls G.K (G.ca c) ∧ NoAttr G.K (G.ca c) (st f)) (v : V) (σ : L2.St) (H : Hp) (Q : L2.St → Hp → Prop) (h : tGD G (gAttr pf f mo) v σ H Q) :
    tAttr K (tD G W mo) (st f) v σ H Q := by
  subst hK
  obtain ⟨ι, σd, s, y, R, ry, w⟩ := h
  have w2 := wp_noX.mp w
  have g : Go G W σ ι H (M.bind (mo σd) fun x => M.bind (setFM pf f x y) fun _ => M.pure σd) s fun ι' H' σd' s' => ∀ σ', RelS G ι' σd' s' σ' H' → Q σ' H' :=
    wp_mono w2 (fun σd' s' q ι' H' l k R' σ' RS => q ι' σ' H' l k RS) fun _ _ z => z.elim
  refine ⟨ι, σd, s, R, (Go.bind g).imp fun ι2 H2 x s2 l2 k2 R2 g2 v' r1 => ?_⟩
  obtain ⟨a, p, c, fs, dx, qs, rfl, rfl, ep, _, hx, rx, g3⟩ := Go.ins (Go.bind (Go.bind g2)) R2 r1
  obtain ⟨hc, g4⟩ := Go.when g3
  rw [Bool.and_eq_true, decide_eq_true_eq] at hc
  obtain ⟨c1, c2⟩ := hp c hc.1
  have k := (Keep.write (o := .ins (G.ca c) dx (putF (st f) v qs)) hx (fun z => z))
  have o2 : ORel G ι2 (upd H2 p (.ins (G.ca c) dx (putF (st f) v qs))) p (.ins c (fput f y fs)) := ⟨dx, _, upd_same, (FRel.put (ry.mono l2 k2) rx).mono (Le.refl _) k⟩
  refine ⟨p, G.ca c, dx, qs, rfl, hx, c1, c2, ?_, ?_⟩
  · have := Paired.len rx
    have hl : fs.length < 900 := hc.2
    omega
  · have R3 := (R2.write ep o2).1
    exact Go.pure (Go.write g4 R2 ep o2) R3 σ ((R.on l2 k2 R2).on (Le.refl _) k R3)
/-- o[i] as a target -/
def setM (o i v : D) : M Unit := match o with
  | .ref a => M.bind (M.read a) fun
    | .lst xs => match i with
      | .int k => M.bind (M.ofOpt (ixN xs.length k)) fun j => M.write a (.lst (xs.set j v))
      | _ => M.fail
    | .dct kvs => M.when ((keyD i).isSome && decide (kvs.length < 1000000)) (M.write a (.dct (dput kvs i v)))
    | _ => M.fail
  | _ => M.fail
def rSetA : V → V → V → Hp → (Hp → Prop) → Prop := fun o i v H Q => rSetL o i v H Q ∨ ∃ a H', o = .ref a ∧ DPut H a i v H' ∧ Q H'
theorem set_all (hu : X.A.units + 1 < cLine) : PSet X rSetA := by
  intro pins s σ H o i v ov iv u Q I ro ri rv h
  rcases h with h | ⟨a, H', rfl, g, q⟩
  · exact set_list pins s σ H o i v ov iv u Q I ro ri rv h
  · cases ro
    exact d_setItem hu I g ri rv fun s4 I4 => ⟨H', I4, q⟩
theorem setS {W : WX} {σ : L2.St} {ι : Iota} {H : Hp} {s : S} {o i d : D} {vo vi v : V} {Q : Hp → Prop} (R : RelH G ι s H) (ro : Rp G ι H o vo) (ri : Rp G ι H i vi) (rv : Rp G ι H d v)
    (g : Go G W σ ι H (setM o i d) s fun ι' H' _ s' => RelH G ι' s' H' → Keep H H' → Le ι ι' → Q H') : rSetA vo vi v H Q := by
  cases o with
  | ref a =>
    obtain ⟨p, rfl, ep⟩ := ro.refE
    obtain ⟨ob, h, g1⟩ := Go.read (Go.bind g) R
    have z := R.at ep h
    cases ob with
    | lst ds =>
      obtain ⟨xs, hx, rx⟩ := z
      cases i with
      | int k =>
        cases ri
        obtain ⟨j, e, g2⟩ := Go.opt (Go.bind g1) R
        have kk := (Keep.write (o := .lst (xs.set j v)) hx (fun z => z))
        have o2 : ORel G ι (upd H p (.lst (xs.set j v))) p (.lst (ds.set j d)) := ⟨_, upd_same, (rx.set rv j).mono (Le.refl _) kk⟩
        exact .inl ⟨p, xs, k, j, rfl, rfl, hx, by rw [← rx.length]; exact e, Go.write g2 R ep o2 (R.write ep o2).1 kk (Le.refl _)⟩
      | _ => exact (Go.fail g1).elim
    | dct kvs =>
      obtain ⟨qs, hx, rx, nd⟩ := z
      obtain ⟨hm, g2⟩ := Go.when g1
      rw [Bool.and_eq_true, decide_eq_true_eq] at hm
      cases ek : keyD i with
      | none => rw [ek] at hm; exact absurd hm.1 (by simp)
      | some κ =>
        have ev := keyD_V ri ek
        subst ev
        have kk := (Keep.write (o := .dK (putK qs κ v)) hx (fun z => z))
        have o2 : ORel G ι (upd H p (.dK (putK qs κ v))) p (.dct (dput kvs i d)) := ⟨_, upd_same, (KRel.put ek rv nd rx).mono (Le.refl _) kk, dnd_dput nd⟩
        refine .inr ⟨p, _, rfl, DPut.k hx ?_, Go.write g2 R ep o2 (R.write ep o2).1 kk (Le.refl _)⟩
        rw [← Paired.len rx]; exact lineL hm.2
    | _ => exact (Go.fail g1).elim
  | _ => exact (Go.fail g).elim
def gSubT (mo mi : Sl → M D) : Tg := fun d σ => M.noX (M.bind (mo σ) fun o => M.bind (mi σ) fun i => M.bind (setM o i d) fun _ => M.pure σ)
theorem rd_gSub {W : WX} {mo mi : Sl → M D} (v : V) (σ : L2.St) (H : Hp) (Q : L2.St → Hp → Prop) (h : tGD G (gSubT mo mi) v σ H Q) : gSub (tD G W mo) (tD G W mi) rSetA v σ H Q := by
  obtain ⟨ι, σd, s, y, R, ry, w⟩ := h
  have w2 := wp_noX.mp w
  have g : Go G W σ ι H (M.bind (mo σd) fun o => M.bind (mi σd) fun i => M.bind (setM o i y) fun _ => M.pure σd) s fun ι' H' σd' s' => ∀ σ', RelS G ι' σd' s' σ' H' → Q σ' H' :=
    wp_mono w2 (fun σd' s' q ι' H' l k R' σ' RS => q ι' σ' H' l k RS) fun _ _ z => z.elim
  refine ⟨ι, σd, s, R, (Go.bind g).imp fun ι1 H1 o s1 l1 k1 R1 g1 vo ro => ?_⟩
  refine ⟨ι1, σd, s1, R.on l1 k1 R1, (Go.bind g1).imp fun ι2 H2 i s2 l2 k2 R2 g2 vi ri => ?_⟩
  refine setS (W := W) (σ := σ) R2 (ro.mono l2 k2) ri ((ry.mono l1 k1).mono l2 k2) ((Go.bind g2).imp fun ι3 H3 _ s3 l3 k3 R3 g3 R3' k3' l3' => ?_)
  exact Go.pure g3 R3 σ (((R.on l1 k1 R1).on l2 k2 R2).on l3 k3 R3)

/-! ### assignments -/
def gAsg (me : Sl → M D) (t : Tg) : Sl → M Fl := fun σ => M.inS σ (M.bind (me σ) fun d => M.noX (t d σ)) fun σ' => M.pure (.nx σ')
theorem rd_asg {W : WX} {me : Sl → M D} {t : Tg} (N : Ends) (σ : L2.St) (H : Hp) (h : tSD G W (gAsg me t) N σ H) : tAsg (tD G W me) (tGD G t) N σ H := by
  obtain ⟨ι, σd, s, R, w⟩ := h
  refine ⟨ι, σd, s, R, (Go.bind (go_inS R w)).imp fun ι1 H1 d s1 l1 k1 R1 g1 v r1 => ?_⟩
  refine ⟨ι1, σd, s1, d, R.on l1 k1 R1, r1, wp_mono (wp_noX.mp g1) (fun σd' s' q ι' σ' H' l k RS => ?_) fun _ _ z => z⟩
  exact (q ι' H' l k RS.hp) ι' σ' H' (Le.refl _) (Keep.refl _) RS
/-- a, b = x, y and a, b, c = x, y, z of names: the slots are set at once -/
theorem rd_par {W : WX} {i j : Nat} {ms : Sl → M (List D)} (N : Ends) (σ : L2.St) (H : Hp) (h : tSD G W (gAsg (mA ms tupM) (gUn 2 (gsCons (gN i) (gsCons (gN j) gsNil)))) N σ H) : tPar i j (tDs G W ms) N σ H := by
  obtain ⟨ι, σd, s, R, w⟩ := h
  refine ⟨ι, σd, s, R, (Go.bind (Go.bind (go_inS R w))).imp fun ι1 H1 ds s1 l1 k1 R1 g1 vs r1 => ?_⟩
  by_cases hm : decide (ds.length ≤ 1000000) = true
  · rw [tupM, if_pos hm] at g1
    have g2 := wp_noX.mp (Go.pure g1 R1)
    obtain ⟨es, q, e⟩ := M.seq_read (wp_bind.mp g2)
    rcases e with e | ⟨_, e, _⟩
    · cases e
      cases r1 with
      | nil => exact q.elim
      | cons ra t =>
        cases t with
        | nil => exact q.elim
        | cons rb t =>
          cases t with
          | cons _ _ => exact q.elim
          | nil => exact ⟨_, _, rfl, (q ι1 H1 (Le.refl _) (Keep.refl _) R1) ι1 _ H1 (Le.refl _) (Keep.refl _) (((R.on l1 k1 R1).set ra).set rb)⟩
    · cases e
  · rw [tupM, if_neg hm] at g1
    exact (Go.fail g1).elim
theorem rd_par3 {W : WX} {i j k : Nat} {ms : Sl → M (List D)} (N : Ends) (σ : L2.St) (H : Hp) (h : tSD G W (gAsg (mA ms tupM) (gUn 3 (gsCons (gN i) (gsCons (gN j) (gsCons (gN k) gsNil))))) N σ H) : tPar3 i j k (tDs G W ms) N σ H := by
  obtain ⟨ι, σd, s, R, w⟩ := h
  refine ⟨ι, σd, s, R, (Go.bind (Go.bind (go_inS R w))).imp fun ι1 H1 ds s1 l1 k1 R1 g1 vs r1 => ?_⟩
  by_cases hm : decide (ds.length ≤ 1000000) = true
  · rw [tupM, if_pos hm] at g1
    have g2 := wp_noX.mp (Go.pure g1 R1)
    obtain ⟨es, q, e⟩ := M.seq_read (wp_bind.mp g2)
    rcases e with e | ⟨_, e, _⟩
    · cases e
      cases r1 with
      | nil => exact q.elim
      | cons ra t =>
        cases t with
        | nil => exact q.elim
        | cons rb t =>
          cases t with
          | nil => exact q.elim
          | cons rc t =>
            cases t with
            | cons _ _ => exact q.elim
            | nil => exact ⟨_, _, _, rfl, (q ι1 H1 (Le.refl _) (Keep.refl _) R1) ι1 _ H1 (Le.refl _) (Keep.refl _) ((((R.on l1 k1 R1).set ra).set rb).set rc)⟩
    · cases e
  · rw [tupM, if_neg hm] at g1
    exact (Go.fail g1).elim
end
end Ev

/-! EvJ: what is walked; for, while, comprehensions of the evaluator. -/
namespace Ev
open PySem PySem.Spec PyProof.Rows L2

/-! ### what is walked -/
inductive ItD where
  | lst (a : Nat) | tup (ds : List D) | rng (lo : Int) (n : Nat) | str (t : Cs) | enL (a : Nat) | enT (ds : List D) | zipL (a b : Nat) | keysOf (a : Nat) (kvs : List (D × D))
/-- the i-th thing, or the end; none: no walk -/
def ItD.at (s : S) (i : Nat) : ItD → Option (Option D)
  | .lst a => match s.get a with
    | some (.lst xs) => some xs[i]?
    | _ => none
  | .tup ds => some ds[i]?
  | .rng lo n => some (if i < n then some (.int (lo + i)) else none)
  | .str t => some (t[i]?.map fun c => .str [c])
  | .enL a => match s.get a with
    | some (.lst xs) => some (xs[i]?.map fun d => .tup [.int i, d])
    | _ => none
  | .enT ds => match ds[i]? with
    | some d => some (some (.tup [.int i, d]))
    | none => if i = ds.length then some none else none
  | .zipL a b => match s.get a, s.get b with
    | some (.lst xs), some (.lst ys) => some (xs[i]?.bind fun x => ys[i]?.map fun y => .tup [x, y])
    | _, _ => none
  | .keysOf _ kvs => some (kvs[i]?.map Prod.fst)
/-- how many turns at most -/
def ItD.len (s : S) : ItD → Nat
  | .lst a => match s.get a with
    | some (.lst xs) => xs.length
    | _ => 0
  | .tup ds => ds.length
  | .rng _ n => n
  | .str t => t.length
  | .enL a => match s.get a with
    | some (.lst xs) => xs.length
    | _ => 0
  | .enT ds => ds.length
  | .zipL a _ => match s.get a with
    | some (.lst xs) => xs.length
    | _ => 0
  | .keysOf _ kvs => kvs.length
/-- a walk of the layer keeps what ours tells -/
def ItOk (G : Gd) (ι1 : Iota) (H1 : Hp) (it : ItD) (J : It) : Prop := ∀ (ι : Iota) (H : Hp) (s : S) (i : Nat), Le ι1 ι → Keep H1 H → RelH G ι s H →
  (it.at s i = some none → J.stop i H) ∧ ∀ d, it.at s i = some (some d) → J.go i H ∧ ∀ x H', J.yld i H x H' → Keep H H' ∧ RelH G ι s H' ∧ Rp G ι H' d x
def tIt (G : Gd) (W : WX) (m : Sl → M ItD) : TI := fun σ H R => ∃ ι σd s, RelS G ι σd s σ H ∧ Go G W σ ι H (m σd) s fun ι' H' it s' => ∀ J, ItOk G ι' H' it J → R J H'
section
variable {G : Gd} {W : WX}
theorem itOk_lst {ι1 : Iota} {H1 : Hp} {a : Nat} {p : Addr} (e : ι1 a = some p) : ItOk G ι1 H1 (.lst a) (Itl G.K p) := by
  intro ι H s i l k R
  have ep := l _ _ e
  cases h : s.get a with
  | none => exact ⟨fun z => by simp [ItD.at, h] at z, fun d z => by simp [ItD.at, h] at z⟩
  | some o =>
    have z := R.at ep h
    cases o with
    | lst ds =>
      obtain ⟨xs, hx, rx⟩ := z
      refine ⟨fun z => ⟨xs, SqL.of hx, ?_⟩, fun d z => ?_⟩
      · simp only [ItD.at, h] at z
        have := List.getElem?_eq_none_iff.mp (Option.some.inj z)
        rw [← rx.length]; exact this
      · simp only [ItD.at, h] at z
        obtain ⟨v, hv, rv⟩ := rx.get (Option.some.inj z)
        refine ⟨⟨xs, v, SqL.of hx, hv⟩, fun x H' y => ?_⟩
        obtain ⟨rfl, y⟩ := y
        have := y xs (SqL.of hx)
        rw [hv] at this; cases this
        exact ⟨Keep.refl _, R, rv⟩
    | _ => exact ⟨fun z => by simp [ItD.at, h] at z, fun d z => by simp [ItD.at, h] at z⟩
theorem itOk_tup {ι1 : Iota} {H1 : Hp} {ds : List D} {xs : List V} {p : Addr} (e : SqT G.K H1 p xs) (r : RpL G ι1 H1 ds xs) : ItOk G ι1 H1 (.tup ds) (Itt G.K p) := by
  intro ι H s i l k R
  have hx := Keep.sqT k.t e
  have rx := r.mono l k
  refine ⟨fun z => ⟨xs, hx, ?_⟩, fun d z => ?_⟩
  · have := List.getElem?_eq_none_iff.mp (Option.some.inj z)
    rw [← rx.length]; exact this
  · obtain ⟨v, hv, rv⟩ := rx.get (Option.some.inj z)
    refine ⟨⟨xs, v, hx, hv⟩, fun x H' y => ?_⟩
    obtain ⟨rfl, y⟩ := y
    have := y xs hx
    rw [hv] at this; cases this
    exact ⟨Keep.refl _, R, rv⟩
theorem itOk_rng {ι1 : Iota} {H1 : Hp} {lo : Int} {n : Nat} : ItOk G ι1 H1 (.rng lo n) (Itr lo n) := by
  intro ι H s i l k R
  by_cases h : i < n
  · refine ⟨fun z => by simp [ItD.at, h] at z, fun d z => ⟨h, fun x H' y => ?_⟩⟩
    simp [ItD.at, h] at z
    subst z
    obtain ⟨rfl, rfl⟩ := y
    exact ⟨Keep.refl _, R, .int _⟩
  · exact ⟨fun _ => by show n ≤ i; omega, fun d z => by simp [ItD.at, h] at z⟩
theorem itOk_str {ι1 : Iota} {H1 : Hp} {t : Cs} (tt : TxOk t) : ItOk G ι1 H1 (.str t) (Its (st t)) := by
  intro ι H s i l k R
  have sz : (st t).cps.size = t.length := by simp [st]
  cases h : t[i]? with
  | none =>
    refine ⟨fun z => ?_, fun d z => by simp [ItD.at, h] at z⟩
    have := List.getElem?_eq_none_iff.mp h
    show (st t).cps.size ≤ i
    rw [sz]; exact this
  | some c =>
    refine ⟨fun z => by simp [ItD.at, h] at z, fun d z => ⟨?_, fun x H' y => ?_⟩⟩
    · show i < (st t).cps.size
      rw [sz]; exact (List.getElem?_eq_some_iff.mp h).1
    · simp [ItD.at, h] at z
      subst z
      obtain ⟨rfl, c', h1, rfl⟩ := y
      have e : (st t).cps[i]? = t[i]? := by simp [st]
      rw [e, h] at h1
      cases h1
      exact ⟨Keep.refl _, R, .str [c] ⟨by simp, fun c' hc => by
        have e : c' = c := by simpa using hc
        subst e
        exact tt.asc _ (List.mem_of_getElem? h)⟩⟩
theorem pair_new {ι : Iota} {H : Hp} {s : S} {T : Addr} {d e : D} {x y : V} (R : RelH G ι s H) (hT : H T = none) (rx : Rp G ι H d x) (ry : Rp G ι H e y) : Keep H (upd H T (.tup [x, y])) ∧ RelH G ι s (upd H T (.tup [x, y])) ∧ Rp G ι (upd H T (.tup [x, y])) (.tup [d, e]) (.ref T) :=
  ⟨Keep.new hT, R.tup hT, (RpL.cons rx (.one ry)).newTup hT⟩
theorem itOk_enL {ι1 : Iota} {H1 : Hp} {a : Nat} {p : Addr} (e : ι1 a = some p) : ItOk G ι1 H1 (.enL a) (Ite G.K p) := by
  intro ι H s i l k R
  have ep := l _ _ e
  cases h : s.get a with
  | none => exact ⟨fun z => by simp [ItD.at, h] at z, fun d z => by simp [ItD.at, h] at z⟩
  | some o =>
    have z := R.at ep h
    cases o with
    | lst ds =>
      obtain ⟨xs, hx, rx⟩ := z
      cases hd : ds[i]? with
      | none =>
        refine ⟨fun z => ⟨xs, SqL.of hx, ?_⟩, fun d z => by simp [ItD.at, h, hd] at z⟩
        rw [← rx.length]; exact List.getElem?_eq_none_iff.mp hd
      | some d0 =>
        refine ⟨fun z => by simp [ItD.at, h, hd] at z, fun d z => ?_⟩
        simp [ItD.at, h, hd] at z
        subst z
        obtain ⟨v, hv, rv⟩ := rx.get hd
        refine ⟨⟨xs, v, SqL.of hx, hv⟩, fun x H' y => ?_⟩
        obtain ⟨T, x', rfl, hT, rfl, y⟩ := y
        have := y xs (SqL.of hx)
        rw [hv] at this; cases this
        exact pair_new R hT (.int _) rv
    | _ => exact ⟨fun z => by simp [ItD.at, h] at z, fun d z => by simp [ItD.at, h] at z⟩
theorem itOk_zipL {ι1 : Iota} {H1 : Hp} {a b : Nat} {p q : Addr} (e : ι1 a = some p) (e' : ι1 b = some q) : ItOk G ι1 H1 (.zipL a b) (Itz G.K p q) := by
  intro ι H s i l k R
  have ep := l _ _ e
  have eq := l _ _ e'
  cases h : s.get a with
  | none => exact ⟨fun z => by simp [ItD.at, h] at z, fun d z => by simp [ItD.at, h] at z⟩
  | some o =>
    have z := R.at ep h
    cases o with
    | lst ds =>
      obtain ⟨xs, hx, rx⟩ := z
      cases h2 : s.get b with
      | none => exact ⟨fun z => by simp [ItD.at, h, h2] at z, fun d z => by simp [ItD.at, h, h2] at z⟩
      | some o2 =>
        have z2 := R.at eq h2
        cases o2 with
        | lst es =>
          obtain ⟨ys, hy, ry⟩ := z2
          cases hd : ds[i]? with
          | none =>
            refine ⟨fun z => ⟨xs, ys, SqL.of hx, SqL.of hy, .inl ?_⟩, fun d z => by simp [ItD.at, h, h2, hd] at z⟩
            rw [← rx.length]; exact List.getElem?_eq_none_iff.mp hd
          | some d0 =>
            cases he : es[i]? with
            | none =>
              refine ⟨fun z => ⟨xs, ys, SqL.of hx, SqL.of hy, .inr ?_⟩, fun d z => by simp [ItD.at, h, h2, hd, he] at z⟩
              rw [← ry.length]; exact List.getElem?_eq_none_iff.mp he
            | some e0 =>
              refine ⟨fun z => by simp [ItD.at, h, h2, hd, he] at z, fun d z => ?_⟩
              simp [ItD.at, h, h2, hd, he] at z
              subst z
              obtain ⟨v, hv, rv⟩ := rx.get hd
              obtain ⟨w, hw, rw'⟩ := ry.get he
              refine ⟨⟨xs, ys, v, w, SqL.of hx, SqL.of hy, hv, hw⟩, fun x H' y => ?_⟩
              obtain ⟨T, x', y', rfl, hT, rfl, y1, y2⟩ := y
              have h1 := y1 xs (SqL.of hx)
              have h2 := y2 ys (SqL.of hy)
              rw [hv] at h1; cases h1
              rw [hw] at h2; cases h2
              exact pair_new R hT rv rw'
        | _ => exact ⟨fun z => by simp [ItD.at, h, h2] at z, fun d z => by simp [ItD.at, h, h2] at z⟩
    | _ => exact ⟨fun z => by simp [ItD.at, h] at z, fun d z => by simp [ItD.at, h] at z⟩
end

/-! ### for -/
def loopF (it : ItD) (t : Tg) (body : Sl → M Fl) : Nat → Nat → Sl → M Fl
  | 0, _, _ => M.fail
  | n + 1, i, σ => fun s => match it.at s i with
    | none => .ret .fail
    | some none => .ret (.ok (.nx σ) s)
    | some (some d) => M.bind (M.noX (t d σ)) (fun σ1 => M.bind (body σ1) fun
      | .nx σ' => loopF it t body n (i + 1) σ'
      | .ct σ' => loopF it t body n (i + 1) σ'
      | .bk σ' => M.pure (.nx σ')
      | o => M.pure o) s
def gFor (mi : Sl → M ItD) (t : Tg) (body : Sl → M Fl) : Sl → M Fl := fun σ => M.inS σ (mi σ) fun it => fun s => loopF it t body (it.len s + 1) 0 σ s
section
variable {G : Gd} {W : WX}
theorem rd_for {mi : Sl → M ItD} {t : Tg} {body : Sl → M Fl} (N : Ends) (σ : L2.St) (H : Hp) (h : tSD G W (gFor mi t body) N σ H) : tFor (tIt G W mi) (tGD G t) (tSD G W body) N σ H := by
  obtain ⟨ι, σd, s, R, w⟩ := h
  refine ⟨ι, σd, s, R, (go_inS R w).imp fun ι1 H1 it s1 l1 k1 R1 g1 J ok => ?_⟩
  refine ⟨fun i m σ' H' => ∃ ι' σd' s', Le ι1 ι' ∧ Keep H1 H' ∧ RelS G ι' σd' s' σ' H' ∧ wp (loopF it t body m i σd') s' (FlOk G W N ι1 H1) fun _ _ => False,
    ⟨it.len s1 + 1, ι1, σd, s1, Le.refl _, Keep.refl _, R.on l1 k1 R1, g1⟩, ?_⟩
  rintro i m σ' H' ⟨ι', σd', s', l, k, R', w'⟩
  cases m with
  | zero => exact w'.elim
  | succ m =>
    have ok' := ok ι' H' s' i l k R'.hp
    cases e : it.at s' i with
    | none =>
      unfold wp loopF at w'
      simp only [e] at w'
      exact w'.elim
    | some od =>
      cases od with
      | none =>
        have w2 : wp (M.pure (Fl.nx σd')) s' (FlOk G W N ι1 H1) (fun _ _ => False) := by
          unfold wp loopF at w'
          simp only [e] at w'
          exact w'
        exact .inl ⟨ok'.1 e, w2 ι' σ' H' l k R'⟩
      | some d =>
        obtain ⟨go, yl⟩ := ok'.2 d e
        have w2 : wp (M.bind (M.noX (t d σd')) (fun σ1 => M.bind (body σ1) fun
            | .nx σ' => loopF it t body m (i + 1) σ'
            | .ct σ' => loopF it t body m (i + 1) σ'
            | .bk σ' => M.pure (.nx σ')
            | o => M.pure o)) s' (FlOk G W N ι1 H1) (fun _ _ => False) := by
          unfold wp loopF at w'
          simp only [e] at w'
          exact w'
        refine .inr ⟨go, fun σ2 H2 => ∃ ι2 σd2 s2, Le ι1 ι2 ∧ Keep H1 H2 ∧ RelS G ι2 σd2 s2 σ2 H2 ∧ wp (loopF it t body m (i + 1) σd2) s2 (FlOk G W N ι1 H1) fun _ _ => False, fun σ2 H2 q => ⟨m, Nat.lt_succ_self _, q⟩, fun x H2 y => ?_⟩
        obtain ⟨kx, Rx, rx⟩ := yl x H2 y
        refine ⟨ι', σd', s', d, R'.on (Le.refl _) kx Rx, rx, wp_mono (wp_noX.mp (wp_bind.mp w2)) (fun σd3 s3 q ι3 σ3 H3 l3 k3 R3 => ?_) fun _ _ z => z⟩
        refine ⟨ι3, σd3, s3, R3, wp_mono (wp_bind.mp q) (fun fl s4 z => ?_) fun _ _ z => z⟩
        have l13 := l.trans l3
        have k13 := (k.trans kx).trans k3
        cases fl with
        | nx σd4 => exact fun ι4 σ4 H4 l4 k4 R4 => ⟨ι4, σd4, s4, l13.trans l4, k13.trans k4, R4, z⟩
        | ct σd4 => exact fun ι4 σ4 H4 l4 k4 R4 => ⟨ι4, σd4, s4, l13.trans l4, k13.trans k4, R4, z⟩
        | bk σd4 => exact fun ι4 σ4 H4 l4 k4 R4 => z ι4 σ4 H4 (l13.trans l4) (k13.trans k4) R4
        | rt d4 => exact fun ι4 v4 H4 l4 k4 R4 r4 => z ι4 v4 H4 (l13.trans l4) (k13.trans k4) R4 r4
        | xc x4 σd4 => exact fun ι4 σ4 H4 cls dx l4 k4 R4 r4 => z ι4 σ4 H4 cls dx (l13.trans l4) (k13.trans k4) R4 r4
end

/-! ### while -/
def loopW (mt : Sl → M Bool) (body : Sl → M Fl) : Nat → Sl → M Fl
  | 0, _ => M.fail
  | n + 1, σ => M.inS σ (mt σ) fun b => if b = true then M.bind (body σ) (fun
      | .nx σ' => loopW mt body n σ'
      | .ct σ' => loopW mt body n σ'
      | .bk σ' => M.pure (.nx σ')
      | o => M.pure o) else M.pure (.nx σ)
def gWhile (n : Nat) (mt : Sl → M Bool) (body : Sl → M Fl) : Sl → M Fl := loopW mt body n
section
variable {G : Gd} {W : WX}
theorem rd_while {n : Nat} {mt : Sl → M Bool} {body : Sl → M Fl} (N : Ends) (σ : L2.St) (H : Hp) (h : tSD G W (gWhile n mt body) N σ H) : tWhile (tDT G W mt) (tSD G W body) N σ H := by
  obtain ⟨ι, σd, s, R, w⟩ := h
  refine ⟨fun m σ' H' => ∃ ι' σd' s', Le ι ι' ∧ Keep H H' ∧ RelS G ι' σd' s' σ' H' ∧ wp (loopW mt body m σd') s' (FlOk G W N ι H) fun _ _ => False, ⟨n, ι, σd, s, Le.refl _, Keep.refl _, R, w⟩, ?_⟩
  rintro m σ' H' ⟨ι', σd', s', l, k, R', w'⟩
  cases m with
  | zero => exact w'.elim
  | succ m =>
    refine ⟨ι', σd', s', R', ?_⟩
    have g0 := wp_inS.mp w'
    refine wp_mono g0 (fun b s2 q ι2 H2 l2 k2 R2 => ?_) fun x s2 q ι2 H2 cls dx l2 k2 R2 xr => q ι2 σ' H2 cls dx (l.trans l2) (k.trans k2) (R'.on l2 k2 R2) xr
    have RS := R'.on l2 k2 R2
    cases b with
    | true =>
      refine ⟨fun σ2 H2 => ∃ ι2 σd2 s2, Le ι ι2 ∧ Keep H H2 ∧ RelS G ι2 σd2 s2 σ2 H2 ∧ wp (loopW mt body m σd2) s2 (FlOk G W N ι H) fun _ _ => False, fun σ2 H2 q => ⟨m, Nat.lt_succ_self _, q⟩, ?_⟩
      refine ⟨ι2, σd', s2, RS, wp_mono (wp_bind.mp q) (fun fl s4 z => ?_) fun _ _ z => z⟩
      have l13 := l.trans l2
      have k13 := k.trans k2
      cases fl with
      | nx σd4 => exact fun ι4 σ4 H4 l4 k4 R4 => ⟨ι4, σd4, s4, l13.trans l4, k13.trans k4, R4, z⟩
      | ct σd4 => exact fun ι4 σ4 H4 l4 k4 R4 => ⟨ι4, σd4, s4, l13.trans l4, k13.trans k4, R4, z⟩
      | bk σd4 => exact fun ι4 σ4 H4 l4 k4 R4 => z ι4 σ4 H4 (l13.trans l4) (k13.trans k4) R4
      | rt d4 => exact fun ι4 v4 H4 l4 k4 R4 r4 => z ι4 v4 H4 (l13.trans l4) (k13.trans k4) R4 r4
      | xc x4 σd4 => exact fun ι4 σ4 H4 cls dx l4 k4 R4 r4 => z ι4 σ4 H4 cls dx (l13.trans l4) (k13.trans k4) R4 r4
    | false => exact q ι2 σ' H2 (l.trans l2) (k.trans k2) RS
end
end Ev

/-! EvK: comprehensions of the evaluator. -/
namespace Ev
open PySem PySem.Spec PyProof.Rows L2

/-! ### patterns of names -/
inductive Pat where
  | nm (i : Nat)
  | tp (ps : List Pat)
def seqOf (s : S) : D → Option (List D)
  | .tup ds => some ds
  | .ref a => match s.get a with
    | some (.lst ds) => some ds
    | _ => none
  | _ => none
mutual
def patM (s : S) : Pat → D → Sl → Option Sl
  | .nm i, d, σ => some (σ.set i (some d))
  | .tp ps, d, σ => match seqOf s d with
    | some ds => patMs s ps ds σ
    | none => none
def patMs (s : S) : List Pat → List D → Sl → Option Sl
  | [], [], σ => some σ
  | p :: ps, d :: ds, σ => match patM s p d σ with
    | some σ' => patMs s ps ds σ'
    | none => none
  | _, _, _ => none
end
mutual
def patG (K : PySem.W.Frag) : Pat → TG
  | .nm i => gName i
  | .tp ps => fun v σ H Q => gTup K ps.length (patGs K ps) v σ H Q ∨ gLst K ps.length (patGs K ps) v σ H Q
def patGs (K : PySem.W.Frag) : List Pat → TGs
  | [] => gNil
  | p :: ps => gCons (patG K p) (patGs K ps)
end
mutual
def patS : Pat → List Nat
  | .nm i => [i]
  | .tp ps => patSs ps
def patSs : List Pat → List Nat
  | [] => []
  | p :: ps => patS p ++ patSs ps
end
/-- the slots but these are as they were -/
def Same1 (vs : List Nat) (σ σ' : L2.St) : Prop := σ'.length = σ.length ∧ ∀ i : Nat, i ∉ vs → σ'[i]? = σ[i]?
theorem Same1.refl (vs : List Nat) (σ : L2.St) : Same1 vs σ σ := ⟨rfl, fun _ _ => rfl⟩
theorem Same1.trans {vs : List Nat} {σ σ1 σ2 : L2.St} (a : Same1 vs σ σ1) (b : Same1 vs σ1 σ2) : Same1 vs σ σ2 := ⟨b.1.trans a.1, fun i h => (b.2 i h).trans (a.2 i h)⟩
theorem Same1.mono {vs ws : List Nat} {σ σ1 : L2.St} (a : Same1 vs σ σ1) (h : ∀ i ∈ vs, i ∈ ws) : Same1 ws σ σ1 := ⟨a.1, fun i hi => a.2 i fun z => hi (h i z)⟩
theorem wipe_get {σ : L2.St} : ∀ {vs : List Nat} {i : Nat}, (wipe σ vs)[i]? = if i ∈ vs then (if i < σ.length then some none else none) else σ[i]?
  | [], i => by simp [wipe]
  | v :: vs, i => by
    unfold wipe
    by_cases hv : v = i
    · subst hv
      by_cases hl : v < σ.length
      · rw [List.getElem?_set_self (by rw [wipe_length]; exact hl)]; simp [hl]
      · rw [List.getElem?_eq_none (by rw [List.length_set, wipe_length]; omega)]; simp [hl]
    · rw [List.getElem?_set_ne hv, wipe_get (vs := vs)]
      have : i ≠ v := fun z => hv z.symm
      simp [this]
theorem Same1.wipe {vs : List Nat} {σ σ1 : L2.St} (a : Same1 vs σ σ1) : L2.wipe σ1 vs = L2.wipe σ vs := by
  apply List.ext_getElem?
  intro i
  rw [wipe_get, wipe_get, a.1]
  by_cases h : i ∈ vs
  · simp [h]
  · simp [h, a.2 i h]
theorem wipe_same (σ : L2.St) (vs : List Nat) : Same1 vs σ (L2.wipe σ vs) := ⟨wipe_length σ vs, fun i h => by rw [wipe_get]; simp [h]⟩
theorem wipe_wipe (σ : L2.St) (vs : List Nat) : L2.wipe (L2.wipe σ vs) vs = L2.wipe σ vs := (wipe_same σ vs).wipe
def wipeD (σ : Sl) : List Nat → Sl
  | [] => σ
  | v :: vs => (wipeD σ vs).set v none
section
variable {G : Gd} {W : WX}
theorem RelS.wipe {ι : Iota} {σd : Sl} {s : S} {σ : L2.St} {H : Hp} (R : RelS G ι σd s σ H) : ∀ vs : List Nat, RelS G ι (wipeD σd vs) s (L2.wipe σ vs) H
  | [] => R
  | _ :: vs => (RelS.wipe R vs).unset
theorem seqOf_rel {ι : Iota} {s : S} {H : Hp} {d : D} {v : V} {ds : List D} (R : RelH G ι s H) (r : Rp G ι H d v) (h : seqOf s d = some ds) : ∃ p xs, v = .ref p ∧ RpL G ι H ds xs ∧ (SqT G.K H p xs ∨ SqL G.K H p xs) := by
  cases d with
  | tup es =>
    cases h
    obtain ⟨p, xs, rfl, hp, rx⟩ := r.tupE
    exact ⟨p, xs, rfl, rx, .inl hp⟩
  | ref a =>
    obtain ⟨p, rfl, ep⟩ := r.refE
    cases e : s.get a with
    | none => simp [seqOf, e] at h
    | some o =>
      have z := R.at ep e
      cases o with
      | lst es =>
        simp [seqOf, e] at h
        subst h
        obtain ⟨xs, hx, rx⟩ := z
        exact ⟨p, xs, rfl, rx, .inr (SqL.of hx)⟩
      | _ => simp [seqOf, e] at h
  | _ => cases h
mutual
theorem patG_ok {ι : Iota} {s : S} {H : Hp} : ∀ (p : Pat) (d : D) (v : V) (σd σd' : Sl) (σ : L2.St) (Q : L2.St → Hp → Prop), RelS G ι σd s σ H → Rp G ι H d v → patM s p d σd = some σd' →
    (∀ σ', RelS G ι σd' s σ' H → Same1 (patS p) σ σ' → Q σ' H) → patG G.K p v σ H Q
  | .nm i, d, v, σd, σd', σ, Q, R, r, h, q => by
    rw [patM] at h
    cases h
    exact q _ (R.set r) ⟨List.length_set, fun j hj => List.getElem?_set_ne (fun z => hj (by simp [patS, z]))⟩
  | .tp ps, d, v, σd, σd', σ, Q, R, r, h, q => by
    rw [patM] at h
    cases e : seqOf s d with
    | none => rw [e] at h; cases h
    | some ds =>
      rw [e] at h
      obtain ⟨p, xs, rfl, rx, hs⟩ := seqOf_rel R.hp r e
      obtain ⟨hl, hg⟩ := patGs_ok ps ds xs σd σd' σ Q R rx h q
      rw [patG]
      rcases hs with hs | hs
      · exact .inl ⟨p, xs, rfl, hs, hl, hg⟩
      · exact .inr ⟨p, xs, rfl, hs, hl, hg⟩
theorem patGs_ok {ι : Iota} {s : S} {H : Hp} : ∀ (ps : List Pat) (ds : List D) (vs : List V) (σd σd' : Sl) (σ : L2.St) (Q : L2.St → Hp → Prop), RelS G ι σd s σ H → RpL G ι H ds vs → patMs s ps ds σd = some σd' →
    (∀ σ', RelS G ι σd' s σ' H → Same1 (patSs ps) σ σ' → Q σ' H) → vs.length = ps.length ∧ patGs G.K ps vs σ H Q
  | [], ds, vs, σd, σd', σ, Q, R, r, h, q => by
    cases r with
    | nil =>
      rw [patMs] at h
      cases h
      exact ⟨rfl, rfl, q σ R (Same1.refl _ _)⟩
    | cons _ _ => simp [patMs] at h
  | p :: ps, ds, vs, σd, σd', σ, Q, R, r, h, q => by
    cases r with
    | nil => simp [patMs] at h
    | cons r1 r2 =>
      rename_i d ds v vs
      rw [patMs] at h
      cases e : patM s p d σd with
      | none => rw [e] at h; cases h
      | some σd1 =>
        rw [e] at h
        have hl : vs.length = ps.length := by
          have : ∀ (ps : List Pat) (ds : List D) (σ σ' : Sl), patMs s ps ds σ = some σ' → ds.length = ps.length := by
            intro ps
            induction ps with
            | nil => intro ds σ σ' h; cases ds with
              | nil => rfl
              | cons _ _ => simp [patMs] at h
            | cons p ps ih =>
              intro ds σ σ' h
              cases ds with
              | nil => simp [patMs] at h
              | cons d ds =>
                rw [patMs] at h
                cases e : patM s p d σ with
                | none => rw [e] at h; cases h
                | some σ1 => rw [e] at h; rw [List.length_cons, List.length_cons, ih ds σ1 σ' h]
          rw [← r2.length]; exact this ps ds σd1 σd' h
        refine ⟨by rw [List.length_cons, List.length_cons, hl], ?_⟩
        rw [patGs]
        refine ⟨v, vs, rfl, patG_ok p d v σd σd1 σ _ R r1 e fun σ1 R1 s1 => ?_⟩
        exact (patGs_ok ps ds vs σd1 σd' σ1 Q R1 r2 h fun σ2 R2 s2 => q σ2 R2 ((s1.mono fun i hi => by simp [patSs, hi]).trans (s2.mono fun i hi => by simp [patSs, hi]))).2
end

/-! ### [elt for target in iter if test] -/
def loopC (it : ItD) (p : Pat) (mt : Sl → M Bool) (me : Sl → M D) (n : Nat) (σ : Sl) : Nat → Nat → M D
  | 0, _ => M.fail
  | m + 1, i => fun s => match it.at s i with
    | none => .ret .fail
    | some none => .ret (.ok (.ref n) s)
    | some (some d) => match patM s p d σ with
      | none => .ret .fail
      | some σ2 => M.bind (M.noX (mt σ2)) (fun b => if b = true then M.bind (M.noX (me σ2)) (fun y => M.bind (M.read n) fun
          | .lst acc => M.when (decide (acc.length < 1000000)) (M.bind (M.write n (.lst (acc ++ [y]))) fun _ => loopC it p mt me n σ m (i + 1))
          | _ => M.fail) else loopC it p mt me n σ m (i + 1)) s
def mLc (mi : Sl → M ItD) (p : Pat) (mt : Sl → M Bool) (me : Sl → M D) (vs : List Nat) : Sl → M D := fun σ => M.bind (mi σ) fun it => M.bind (M.new (.lst [])) fun n => fun s =>
  loopC it p mt me n (wipeD σ vs) (it.len s + 1) 0 s
abbrev W0 : WX := fun _ _ _ _ => False
/-- nothing is raised -/
theorem Go.noX {α : Type} {σ : L2.St} {ι : Iota} {H : Hp} {s : S} {m : M α} {P : Iota → Hp → α → S → Prop} (g : Go G W σ ι H (M.noX m) s P) : Go G W0 σ ι H m s P :=
  wp_mono (wp_noX.mp g) (fun _ _ z => z) fun _ _ z => z.elim
/-- what is wished of exceptions doesn't matter where none is raised -/
theorem Go.tr {α : Type} {σ σ' : L2.St} {ι : Iota} {H : Hp} {s : S} {m : M α} {P : Iota → Hp → α → S → Prop} (g : Go G W0 σ ι H m s P) : Go G W0 σ' ι H m s P := wp_mono g (fun _ _ z => z) fun _ _ z => z
theorem rd_lc {K : PySem.W.Frag} {mi : Sl → M ItD} {p : Pat} {mt : Sl → M Bool} {me : Sl → M D} {vs : List Nat} (hK : K = G.K) (hp : ∀ i ∈ patS p, i ∈ vs) (σ : L2.St) (H : Hp) (Q : VK) (h : tD G W (mLc mi p mt me vs) σ H Q) :
    tLc (tIt G W mi) (patG K p) (tDT G W0 mt) (tD G W0 me) vs σ H Q := by
  subst hK
  obtain ⟨ι, σd, s, R, g⟩ := h
  refine ⟨ι, σd, s, R, (Go.bind g).imp fun ι1 H1 it s1 l1 k1 R1 g1 J ok D hD => ?_⟩
  have o0 : ORel G (ext ι1 s1.n D) (upd H1 D (.lst [])) D (.lst []) := ⟨[], upd_same, .nil⟩
  have g2 := Go.new (Go.bind g1) R1 hD o0
  have R2 := R1.new hD o0
  have lx := R1.le_ext D
  have kx : Keep H1 (upd H1 D (.lst [])) := Keep.new hD
  have RS := ((R.on l1 k1 R1).on lx kx R2)
  have en : ext ι1 s1.n D s1.n = some D := ext_same _ _ _
  refine ⟨fun i m H' => ∃ ι' s', Le (ext ι1 s1.n D) ι' ∧ Keep (upd H1 D (.lst [])) H' ∧ RelH G ι' s' H' ∧
      Go G W σ ι' H' (loopC it p mt me s1.n (wipeD σd vs) m i) s' (fun ι'' H'' d _ => ∀ v, Rp G ι'' H'' d v → Q v H''),
    ⟨_, _, s1.new (.lst []), Le.refl _, Keep.refl _, R2, g2⟩, ?_⟩
  rintro i m H' ⟨ι', s', l, k, R', g'⟩
  have eD : ι' s1.n = some D := l _ _ en
  cases m with
  | zero => exact (Go.fail g').elim
  | succ m =>
    have ok' := ok ι' H' s' i (lx.trans l) (kx.trans k) R'
    cases e : it.at s' i with
    | none =>
      unfold Go wp loopC at g'
      simp only [e] at g'
      exact g'.elim
    | some od =>
      cases od with
      | none =>
        have g3 : Go G W σ ι' H' (M.pure (Ev.D.ref s1.n)) s' (fun ι'' H'' d _ => ∀ v, Rp G ι'' H'' d v → Q v H'') := by
          unfold Go wp loopC at g'
          simp only [e] at g'
          exact g'
        exact .inl ⟨ok'.1 e, Go.pure g3 R' _ (.ref eD)⟩
      | some d =>
        obtain ⟨go, yl⟩ := ok'.2 d e
        cases ep : patM s' p d (wipeD σd vs) with
        | none =>
          unfold Go wp loopC at g'
          simp only [e, ep] at g'
          exact g'.elim
        | some σ2 =>
          have g3 : Go G W σ ι' H' (M.bind (M.noX (mt σ2)) (fun b => if b = true then M.bind (M.noX (me σ2)) (fun y => M.bind (M.read s1.n) fun
              | .lst acc => M.when (decide (acc.length < 1000000)) (M.bind (M.write s1.n (.lst (acc ++ [y]))) fun _ => loopC it p mt me s1.n (wipeD σd vs) m (i + 1))
              | _ => M.fail) else loopC it p mt me s1.n (wipeD σd vs) m (i + 1))) s' (fun ι'' H'' d _ => ∀ v, Rp G ι'' H'' d v → Q v H'') := by
            unfold Go wp loopC at g'
            simp only [e, ep] at g'
            exact g'
          refine .inr ⟨go, fun H2 => ∃ ι2 s2, Le (ext ι1 s1.n D) ι2 ∧ Keep (upd H1 D (.lst [])) H2 ∧ RelH G ι2 s2 H2 ∧
            Go G W σ ι2 H2 (loopC it p mt me s1.n (wipeD σd vs) m (i + 1)) s2 (fun ι'' H'' d _ => ∀ v, Rp G ι'' H'' d v → Q v H''), fun H2 q => ⟨m, Nat.lt_succ_self _, q⟩, fun x H2 y => ?_⟩
          obtain ⟨ky, Ry, ry⟩ := yl x H2 y
          have RSw : RelS G ι' (wipeD σd vs) s' (L2.wipe σ vs) H2 := (RS.wipe vs).on l (k.trans ky) Ry
          refine patG_ok p d x _ σ2 _ _ RSw ry ep fun σ3 R3 s3 => ⟨?_, ?_⟩
          · have := (s3.mono hp).wipe
            rw [this, wipe_wipe]
          · have g4 : Go G W σ ι' H2 _ s' _ := wp_mono g3 (fun a sx z ιx Hx lz kz Rz => z ιx Hx lz (ky.trans kz) Rz) fun xx sx z ιx Hx cls dx lz kz Rz => z ιx Hx cls dx lz (ky.trans kz) Rz
            refine ⟨ι', σ2, s', R3, Go.tr (σ' := σ3) ((Go.noX (Go.bind g4)).imp fun ι5 H5 b s5 l5 k5 R5 g5 => ?_)⟩
            have l15 := l.trans l5
            have k15 := (k.trans ky).trans k5
            cases b with
            | false => exact ⟨ι5, s5, l15, k15, R5, g5⟩
            | true =>
              refine ⟨ι5, σ2, s5, R3.on l5 k5 R5, Go.tr (σ' := σ3) ((Go.noX (Go.bind g5)).imp fun ι6 H6 y s6 l6 k6 R6 g6 v rv => ?_)⟩
              obtain ⟨o, ho, g7⟩ := Go.read (Go.bind g6) R6
              have eD6 : ι6 s1.n = some D := l6 _ _ (l5 _ _ eD)
              have z := R6.at eD6 ho
              cases o with
              | lst acc =>
                obtain ⟨xs, hx, rx⟩ := z
                obtain ⟨hm, g8⟩ := Go.when g7
                have kw := (Keep.write (o := .lst (xs ++ [v])) hx (fun z => z))
                have o2 : ORel G ι6 (upd H6 D (.lst (xs ++ [v]))) D (.lst (acc ++ [y])) := ⟨_, upd_same, (rx.append (.one rv)).mono (Le.refl _) kw⟩
                refine ⟨xs, hx, by rw [← rx.length]; exact lineL (of_decide_eq_true hm), ι6, s6.set s1.n (.lst (acc ++ [y])), l15.trans l6, (k15.trans k6).trans kw, (R6.write eD6 o2).1, ?_⟩
                exact Go.write (Go.bind g8) R6 eD6 o2
              | _ => exact (Go.fail g7).elim
end
end Ev

/-! EvL: starred displays, f-strings, dict displays, isinstance, sorted, chains, class methods of the evaluator. -/
namespace Ev
open PySem PySem.Spec PyProof.Rows L2
section
variable {G : Gd} {W : WX}
/-! ### *x in a display -/
def mStar (me : Sl → M D) (mr : Sl → M (List D)) : Sl → M (List D) := fun σ => M.bind (me σ) fun x => M.bind (M.seq x) fun ds => M.bind (mr σ) fun es => M.pure (ds ++ es)
theorem rd_star {me : Sl → M D} {mr : Sl → M (List D)} (σ : L2.St) (H : Hp) (Q : List V → Hp → Prop) (h : tDs G W (mStar me mr) σ H Q) : StX.tStar G.K (tD G W me) (tDs G W mr) σ H Q := by
  obtain ⟨ι, σd, s, R, g⟩ := h
  refine ⟨ι, σd, s, R, (Go.bind g).imp fun ι1 H1 d s1 l1 k1 R1 g1 v r1 => ?_⟩
  obtain ⟨p, ds, xs, rfl, rx, g2, hs⟩ := Go.seq (Go.bind g1) R1 r1
  refine ⟨p, xs, rfl, ?_, ι1, σd, s1, R.on l1 k1 R1, (Go.bind g2).imp fun ι2 H2 es s2 l2 k2 R2 g3 ys ry => ?_⟩
  · rcases hs with ⟨h, _⟩ | ⟨_, _, _, h, _⟩
    · exact .inl h
    · exact .inr (SqL.of h)
  · exact Go.pure g3 R2 _ ((rx.mono l2 k2).append ry)
/-! ### f-strings -/
def fmtM : D → M D
  | .str t => M.pure (.str t)
  | .int i => M.when (decide (0 ≤ i) && decide (i < 10 ^ 18)) (M.pure (.str (TL.numL i.toNat)))
  | _ => M.fail
theorem rd_fmt {me : Sl → M D} (σ : L2.St) (H : Hp) (Q : VK) (h : tD G W (m1 me fmtM) σ H Q) : tFmt (tD G W me) σ H Q := by
  obtain ⟨ι, σd, s, R, g⟩ := h
  refine ⟨ι, σd, s, R, (Go.bind g).imp fun ι1 H1 d s1 l1 k1 R1 g1 v r1 => ?_⟩
  cases d with
  | str t =>
    obtain ⟨rfl, tt⟩ := r1.strE
    exact .inl ⟨_, rfl, by have := tt.line; omega, Go.pure g1 R1 _ (.str _ tt)⟩
  | int i =>
    cases r1
    obtain ⟨hm, g2⟩ := Go.when g1
    simp only [Bool.and_eq_true, decide_eq_true_eq] at hm
    refine .inr ⟨i, rfl, log_ok hm.1 hm.2, ?_⟩
    have e : (((toString i : String)) : Str) = st (TL.numL i.toNat) := st_num hm.1
    show Q (.str ((toString i : String) : Str)) H1
    rw [e]
    exact Go.pure g2 R1 _ (.str _ (num_ok (by omega)))
  | _ => exact (Go.fail g1).elim
/-- the parts one behind the other -/
def mJs : List (Sl → M D) → Cs → Sl → M Cs
  | [], acc, _ => M.pure acc
  | m :: ms, acc, σ => M.bind (m σ) fun
    | .str y => M.when (small (acc ++ y)) (mJs ms (acc ++ y) σ)
    | _ => M.fail
def mJoined (ms : List (Sl → M D)) : Sl → M D := fun σ => M.bind (mJs ms [] σ) fun t => M.pure (.str t)
theorem rd_js : ∀ (ms : List (Sl → M D)) (acc : Cs) (ι : Iota) (σd : Sl) (s : S) (σ : L2.St) (H : Hp) (Q : Str → Hp → Prop), TxOk acc → RelS G ι σd s σ H →
    Go G W σ ι H (mJs ms acc σd) s (fun ι' H' t s' => TxOk t → Q (st t) H') → tJs (ms.map (tD G W)) (st acc) σ H Q
  | [], acc, ι, σd, s, σ, H, Q, ta, R, g => Go.pure g R.hp ta
  | m :: ms, acc, ι, σd, s, σ, H, Q, ta, R, g => by
    refine ⟨ι, σd, s, R, (Go.bind g).imp fun ι1 H1 d s1 l1 k1 R1 g1 v r1 => ?_⟩
    cases d with
    | str y =>
      obtain ⟨rfl, ty⟩ := r1.strE
      obtain ⟨hm, g2⟩ := Go.when g1
      have hl : (acc ++ y).length ≤ 1000000 := of_decide_eq_true hm
      refine ⟨_, rfl, ?_, ?_⟩
      · rw [st_app, st_len]; exact lineM hl
      · rw [st_app]
        exact rd_js ms (acc ++ y) ι1 σd s1 σ H1 Q (ta.app ty hl) (R.on l1 k1 R1) g2
    | _ => exact (Go.fail g1).elim
theorem rd_joined {ms : List (Sl → M D)} (σ : L2.St) (H : Hp) (Q : VK) (h : tD G W (mJoined ms) σ H Q) : tJs (ms.map (tD G W)) Str.empty σ H fun out H1 => Q (.str out) H1 := by
  obtain ⟨ι, σd, s, R, g⟩ := h
  refine rd_js ms [] ι σd s σ H (fun out H1 => Q (.str out) H1) ⟨by simp, fun c h => by cases h⟩ R ((Go.bind g).imp fun ι1 H1 t s1 l1 k1 R1 g1 tt => ?_)
  exact Go.pure g1 R1 _ (.str _ tt)
/-! ### {k: v, ..} -/
def mPairs : List ((Sl → M D) × (Sl → M D)) → Sl → M (List (D × D))
  | [], _ => M.pure []
  | (k, v) :: r, σ => M.bind (k σ) fun x => M.bind (v σ) fun y => M.bind (mPairs r σ) fun ps => M.pure ((x, y) :: ps)
def dmerge (kvs : List (D × D)) : List (D × D) := kvs.foldl (fun acc kv => dput acc kv.1 kv.2) []
/-- the dict is laid first, empty -/
def mDisp (ps : List ((Sl → M D) × (Sl → M D))) : Sl → M D := fun σ => M.bind (M.new (.dct [])) fun n => M.bind (mPairs ps σ) fun kvs => M.when (kvs.all (fun kv => (keyD kv.1).isSome) && decide (kvs.length ≤ 15))
  (M.bind (M.read n) fun
    | .dct [] => M.bind (M.write n (.dct (dmerge kvs))) fun _ => M.pure (.ref n)
    | _ => M.fail)
def PPRel (G : Gd) (ι : Iota) (H : Hp) : List (D × D) → List (V × V) → Prop := Paired fun p q => Rp G ι H p.1 q.1 ∧ Rp G ι H p.2 q.2
theorem PPRel.mono {ι ι' : Iota} {H H' : Hp} (l : Le ι ι') (k : Keep H H') {fs : List (D × D)} {qs : List (V × V)} (h : PPRel G ι H fs qs) : PPRel G ι' H' fs qs := Paired.imp2 (fun _ _ z => ⟨z.1.mono l k, z.2.mono l k⟩) h
theorem rd_pairs : ∀ (ms : List ((Sl → M D) × (Sl → M D))) (ι : Iota) (σd : Sl) (s : S) (σ : L2.St) (H : Hp) (Q : List (V × V) → Hp → Prop), RelS G ι σd s σ H →
    Go G W σ ι H (mPairs ms σd) s (fun ι' H' ps s' => ∀ qs, PPRel G ι' H' ps qs → Q qs H') → tPairs (ms.map fun p => (tD G W p.1, tD G W p.2)) σ H Q
  | [], ι, σd, s, σ, H, Q, R, g => Go.pure g R.hp [] .nil
  | (mk, mv) :: ms, ι, σd, s, σ, H, Q, R, g => by
    refine ⟨ι, σd, s, R, (Go.bind g).imp fun ι1 H1 x s1 l1 k1 R1 g1 vx rx => ?_⟩
    refine ⟨ι1, σd, s1, R.on l1 k1 R1, (Go.bind g1).imp fun ι2 H2 y s2 l2 k2 R2 g2 vy ry => ?_⟩
    refine rd_pairs ms ι2 σd s2 σ H2 _ ((R.on l1 k1 R1).on l2 k2 R2) ((Go.bind g2).imp fun ι3 H3 ps s3 l3 k3 R3 g3 qs rq => ?_)
    exact Go.pure g3 R3 _ (.cons ⟨(rx.mono l2 k2).mono l3 k3, ry.mono l3 k3⟩ rq)
theorem keys_rel {ι : Iota} {H : Hp} : ∀ {kvs : List (D × D)} {qs : List (V × V)}, PPRel G ι H kvs qs → kvs.all (fun kv => (keyD kv.1).isSome) = true → ∃ ks : List (Key × V), qs = ks.map (fun kv => (kV kv.1, kv.2)) ∧ KRel G ι H kvs ks
  | _, _, .nil, _ => ⟨[], rfl, .nil⟩
  | p :: r, q :: qr, .cons h t, ha => by
    rw [List.all_cons, Bool.and_eq_true] at ha
    obtain ⟨ks, e, rk⟩ := keys_rel t ha.2
    cases ek : keyD p.1 with
    | none => rw [ek] at ha; exact absurd ha.1 (by simp)
    | some κ =>
      refine ⟨(κ, q.2) :: ks, ?_, .cons ⟨ek, h.2⟩ rk⟩
      rw [List.map_cons, ← e, ← keyD_V h.1 ek]
theorem merge_rel {ι : Iota} {H : Hp} : ∀ {kvs : List (D × D)} {ks : List (Key × V)} {acc : List (D × D)} {ac : List (Key × V)}, KRel G ι H kvs ks → KRel G ι H acc ac → dnd acc → KRel G ι H (kvs.foldl (fun acc kv => dput acc kv.1 kv.2) acc) (mergeK ac ks) ∧ dnd (kvs.foldl (fun acc kv => dput acc kv.1 kv.2) acc)
  | _, _, _, _, .nil, ra, nd => ⟨ra, nd⟩
  | p :: r, q :: qr, acc, ac, .cons h t, ra, nd => by
    have := merge_rel (acc := dput acc p.1 p.2) (ac := putK ac q.1 q.2) t (KRel.put h.1 h.2 nd ra) (dnd_dput nd)
    exact this
theorem rd_disp {ms : List ((Sl → M D) × (Sl → M D))} (σ : L2.St) (H : Hp) (Q : VK) (h : tD G W (mDisp ms) σ H Q) : tDisp (ms.map fun p => (tD G W p.1, tD G W p.2)) σ H Q := by
  obtain ⟨ι, σd, s, R, g⟩ := h
  intro p hp
  have o0 : ORel G (ext ι s.n p) (upd H p (.dK [])) p (.dct []) := ⟨[], upd_same, .nil, trivial⟩
  have g1 := Go.new (Go.bind g) R.hp hp o0
  have R1 := R.hp.new hp o0
  have l1 := R.hp.le_ext p
  have k1 : Keep H (upd H p (.dK [])) := Keep.new hp
  refine rd_pairs ms _ σd _ σ _ _ (R.on l1 k1 R1) ((Go.bind g1).imp fun ι2 H2 kvs s2 l2 k2 R2 g2 qs rq => ?_)
  obtain ⟨hm, g3⟩ := Go.when g2
  rw [Bool.and_eq_true, decide_eq_true_eq] at hm
  obtain ⟨ks, e, rk⟩ := keys_rel rq hm.1
  obtain ⟨o, ho, g4⟩ := Go.read (Go.bind g3) R2
  have en : ι2 s.n = some p := l2 _ _ (ext_same _ _ _)
  have z := R2.at en ho
  cases o with
  | dct kv0 =>
    cases kv0 with
    | nil =>
      obtain ⟨q0, hq0, rq0, _⟩ := z
      cases rq0
      have lk := Paired.len rk
      refine ⟨hq0, ks, e, by omega, ?_⟩
      obtain ⟨mr, mnd⟩ := merge_rel (acc := []) (ac := []) rk .nil trivial
      have kw := (Keep.write (o := .dK (mergeK [] ks)) hq0 (fun z => z))
      have o2 : ORel G ι2 (upd H2 p (.dK (mergeK [] ks))) p (.dct (dmerge kvs)) := ⟨_, upd_same, mr.mono (Le.refl _) kw, mnd⟩
      exact Go.pure (Go.write (Go.bind g4) R2 en o2) (R2.write en o2).1 _ (.ref en)
    | cons _ _ => exact (Go.fail g4).elim
  | _ => exact (Go.fail g4).elim
/-! ### a < b < c -/
def mChain (ma mb mc : Sl → M D) (op op' : D → D → M D) : Sl → M D := fun σ => M.bind (ma σ) fun x => M.bind (mb σ) fun y => M.bind (op x y) fun
  | .bl b => if b = true then M.bind (mc σ) fun z => op' y z else M.pure (.bl false)
  | _ => M.fail
theorem rd_chain {r r' : R2} {ma mb mc : Sl → M D} {op op' : D → D → M D} (os : OpS G r op) (os' : OpS G r' op') (σ : L2.St) (H : Hp) (Q : VK) (h : tD G W (mChain ma mb mc op op') σ H Q) : tChain r r' (tD G W ma) (tD G W mb) (tD G W mc) σ H Q := by
  obtain ⟨ι, σd, s, R, g⟩ := h
  refine ⟨ι, σd, s, R, (Go.bind g).imp fun ι1 H1 x s1 l1 k1 R1 g1 vx rx => ?_⟩
  refine ⟨ι1, σd, s1, R.on l1 k1 R1, (Go.bind g1).imp fun ι2 H2 y s2 l2 k2 R2 g2 vy ry => ?_⟩
  refine os W σ ι2 s2 H2 x y vx vy _ R2 (rx.mono l2 k2) ry ((Go.bind g2).imp fun ι3 H3 z s3 l3 k3 R3 g3 vz rz => ?_)
  cases z with
  | bl b =>
    cases rz
    refine ⟨b, rfl, ?_⟩
    cases b with
    | false => exact Go.pure g3 R3 _ (.bl _)
    | true =>
      refine ⟨ι3, σd, s3, ((R.on l1 k1 R1).on l2 k2 R2).on l3 k3 R3, (Go.bind g3).imp fun ι4 H4 c s4 l4 k4 R4 g4 vc rc => ?_⟩
      exact os' W σ ι4 s4 H4 y c vy vc Q R4 ((ry.mono l3 k3).mono l4 k4) rc g4
  | _ => exact (Go.fail g3).elim
end
end Ev

/-! EvM: what is walked, chosen late; enumerate over tuples; dicts walked while locked. -/
namespace Ev
open PySem PySem.Spec PyProof.Rows L2

theorem meets_enum1 {v : Value} {o : Obj} {H : Heap → Prop} (B : Begins v o H) :
    Meets (Builtin.«enumerate.__new__» ⟨[.type "enumerate", v], []⟩) (fun _ R s => H s.heap ∧
      R (.ok (.ret (.ref (s.heap.push o).objs.size))) { s with heap := (s.heap.push o).push { cls := .type "enumerate", data := .fields #[.none, .bool false, .ref s.heap.objs.size, rawInt 0, .none, .none] } }) :=
  .of_wp fun prog w A R s h => by
    obtain ⟨hp, g, d, tk, os⟩ := s; obtain ⟨h1, h⟩ := h
    have hsub := sub_enumerate
    have q1 : ∀ {A' : Around} {E : Value → Shared → Prop} {Q : Value → Shared → Prop}, Q (.ref hp.objs.size) ⟨hp.push o, g, d, tk, os⟩ → wpAny (model prog w) A' (pyIter v) Q E ⟨hp, g, d, tk, os⟩ :=
      fun q => B.iter prog w _ _ ⟨hp, g, d, tk, os⟩ _ h1 q
    wp_walk using q1
    refine wpAny_stack_any fun st => wpAny_pure ?_
    split
    · rename_i c _ _ _ _ _
      cases (c == Value.type "enumerate")
      · wp_walk using q1
        exact ⟨_, rfl, h⟩
      · wp_walk using q1
        exact ⟨_, rfl, h⟩
    · wp_walk using q1
      exact ⟨_, rfl, h⟩
section
variable {prog : Program} {w : World} {A : Around} {E : Value → Shared → Prop} {s : Shared}
theorem enum_begins1 {v : Value} {o : Obj} {H : Heap → Prop} {Q : Value → Shared → Prop} (B : Begins v o H) (h1 : H s.heap)
    (h : ∀ h', IsEnum h' (s.heap.objs.size + 1) s.heap.objs.size 0 .none → h'.get? s.heap.objs.size = some o → h'.objs.size = s.heap.objs.size + 2 →
      (∀ b o, s.heap.get? b = some o → h'.get? b = some o) → Q (.ref (s.heap.objs.size + 1)) { s with heap := h' }) :
    wpAny (model prog w) A (call (.type "enumerate") [v]) Q E s := by
  refine callType_new F.called_enumerate (by decide) (F.typeCall_enumerate_1 _) (F.newCall_enumerate_1 _) (fun obj => F.args_object_init_2 obj _) F.entry_enumerate_new
    (meets_enum1 B) ⟨h1, ?_⟩
  have hz : (s.heap.push o).objs.size = s.heap.objs.size + 1 := Heap.size_push ..
  show _ ∧ _
  rw [hz]
  have he : IsEnum ((s.heap.push o).push { cls := .type "enumerate", data := .fields #[.none, .bool false, .ref s.heap.objs.size, rawInt 0, .none, .none] }) (s.heap.objs.size + 1) s.heap.objs.size 0 .none := by
    have := Heap.get?_push_size (s.heap.push o) (o := { cls := .type "enumerate", data := .fields #[.none, .bool false, .ref s.heap.objs.size, rawInt 0, .none, .none] }) rfl
    rw [hz] at this; exact this
  refine ⟨⟨_, he, rfl⟩, h _ he (Heap.get?_push_of_some _ (Heap.get?_push_size _ B.free)) (by rw [Heap.size_push, hz]) fun b o x => Heap.get?_push_of_some _ (Heap.get?_push_of_some _ x)⟩
end
/-- the tuple at a, each item in a new pair -/
def IteT (K : PySem.W.Frag) (a : Addr) : It :=
  ⟨fun i H => ∃ (xs : List V) (x : V), SqT K H a xs ∧ xs[i]? = some x, fun i H v H' => ∃ T x, v = .ref T ∧ H T = none ∧ H' = upd H T (.tup [.int (i : Nat), x]) ∧ ∀ xs, SqT K H a xs → xs[i]? = some x, fun i H => ∃ xs : List V, SqT K H a xs ∧ xs.length = i⟩
theorem turn_enumT {P : Program} {w : World} {K : PySem.W.Frag} {elts : List Expr} {kk : Nat} {tpos : Pos} (a e it : Addr) (hai : a ≠ it) (hae : a ≠ e) :
    Turn P w K (.Tuple elts kk tpos) (IteT K a) [e, it] e (fun i h => (∃ old, IsEnum h e it ((i : Nat) : Int) old) ∧ h.IsTupleIter it a i ∧ e ≠ it) where
  mem := by simp
  obj := fun i h st b hb => by
    obtain ⟨⟨old, he⟩, ⟨o, ho, hc, hd⟩, _⟩ := st
    have e' : b = e ∨ b = it := by simpa using hb
    rcases e' with z | z
    · rw [z]; exact ⟨_, he, fun v q => nomatch q⟩
    · rw [z]; exact ⟨o, ho, fun v q => by rw [hd] at q; cases q⟩
  keep := fun i h h' st k => let ⟨⟨old, he⟩, hi, hne⟩ := st; ⟨⟨old, k e (by simp) _ he⟩, hi.at fun o q => k it (by simp) o q, hne⟩
  item := by
    intro X hP hw hK hc i pins s σ H E I hf st hg
    subst hP hw hK
    obtain ⟨⟨old, he⟩, hit, hne⟩ := st
    obtain ⟨xs, x, hq, hx⟩ := hg
    obtain ⟨its, rv, p, hz⟩ := I.tuple hq
    obtain ⟨u, hu, ru⟩ := rv.get hx
    have hel : e < s.heap.objs.size := Heap.lt_size he
    have hil : it < s.heap.objs.size := by obtain ⟨_, q, _⟩ := hit; exact Heap.lt_size q
    have hh : X.A.in1.handled = none := I.ok.hd hc
    have Dr := Draws.tuple (prog := X.prog) (w := X.w) hh it a hai its.toArray
    have hlt : i < its.toArray.size := by
      have := (List.getElem?_eq_some_iff.mp hu).1
      simpa using this
    refine wpAny_pyNext_enum_itemD Dr he ⟨hit, p⟩ hlt hne (by simp [hne, Ne.symm hae]) fun y h' tk hy ho hst' hT hsz hk => ?_
    have hy' : u = y := by
      have : its.toArray[i]? = its[i]? := by simp
      rw [this, hu] at hy
      exact Option.some.inj hy
    subst hy'
    refine ⟨_, rfl, wpAny_letOwnedTupleGo_enum (s := { s with heap := h', toks := tk + 1 }) ho fun h'' he' sb => ?_⟩
    have hT2 : h''.get? s.heap.objs.size = some { cls := .type "tuple", data := .seq #[.int i tk, u] } := (sb.2 _ (Nat.ne_of_gt hel)).trans hT
    have new : ObjOk X.prog X.w (upd H s.heap.objs.size (.tup [.int (i : Nat), x])) h'' s.heap.objs.size (.tup [.int (i : Nat), x]) :=
      ⟨by show 2 ≤ sizeLine; decide, [.int i tk, u], .cons ⟨_, rfl⟩ (.cons ru .nil), ⟨_, hT2, rfl, _, rfl⟩⟩
    have I1 : Inv X pins σ (upd H s.heap.objs.size (.tup [.int (i : Nat), x])) { s with heap := h'', toks := tk + 1 } :=
      I.turnedNew (ch := [e, it]) (fun b ob hb q => (sb.2 b (fun z => hb (by simp [z]))).trans (hk b ob (fun z => hb (by simp [z])) (fun z => hb (by simp [z])) q)) hf (Nat.le_refl _) new
    refine ⟨.ref s.heap.objs.size, _, I1, rfl, ⟨_, x, rfl, I.hok.fresh (Nat.le_refl _), rfl, fun ys hy => by rw [I.tuple_inj hy hq]; exact hx⟩, ⟨⟨u, ?_⟩, hst'.1.at fun o q => (sb.2 it (Ne.symm hne)).trans q, hne⟩, fun b hb => ?_⟩
    · have e1 : ((i + 1 : Nat) : Int) = (i : Int) + 1 := by omega
      rw [e1]; exact he'
    · have hb' : b < s.heap.objs.size := by
        have e' : b = e ∨ b = it := by simpa using hb
        rcases e' with z | z
        · rw [z]; exact hel
        · rw [z]; exact hil
      rw [upd_ne (Nat.ne_of_lt hb')]
      exact (hf b hb).1
  done := by
    intro X hP hw hK hc i pins s σ H E I hf st hg
    subst hP hw hK
    obtain ⟨⟨old, he⟩, hit, hne⟩ := st
    obtain ⟨xs, hq, hx⟩ := hg
    obtain ⟨its, rv, p, hz⟩ := I.tuple hq
    obtain ⟨f0, f1, f2, f3, f4, f5⟩ := hf it (by simp)
    have hl := rv.length
    have hh : X.A.in1.handled = none := I.ok.hd hc
    have Dr := Draws.tuple (prog := X.prog) (w := X.w) hh it a hai its.toArray
    have hn : its.toArray.size = i := by simp; omega
    refine wpAny_pyNext_enum_endD Dr he ⟨?_, p⟩ fun h' eb => ⟨rfl, I.turned (t' := s.toks) (fun b o hb q => eb b o hb q) f0 f1 f3 f4 f5⟩
    rw [hn]; exact hit
  self := fun A i s Q E st h => let ⟨⟨_, he⟩, _⟩ := st; wpAny_pyIter_enum he h

/-! ### late choice -/
/-- e walked: a list, a tuple, a text or a locked dict -/
def iAny (K : PySem.W.Frag) (te : TE) : TI := fun σ H R => te σ H fun x H1 => (∃ a, x = .ref a ∧ (∃ xs, SqL K H1 a xs) ∧ R (Itl K a) H1) ∨ (∃ a, x = .ref a ∧ (∃ xs, SqT K H1 a xs) ∧ R (Itt K a) H1) ∨
  (∃ t, x = .str t ∧ R (Its t) H1) ∨ (∃ d o kvs, x = .ref d ∧ H1 d = some (.frz o (.dK kvs)) ∧ R (Itk d o kvs) H1)
section
variable {X : Cx} {tg : Expr}
theorem pi_any {e : Expr} {te : TE} (he : PE X e te) : PI X tg e (iAny X.K te) := by
  refine ⟨fun pins s σ H R I h => ?_⟩
  refine thn (he.run pins s σ H _ I h) fun v s1 ⟨x, H1, I1, r1, q1⟩ => ?_
  rcases q1 with ⟨a, e, ⟨xs, hq⟩, q⟩ | ⟨a, e, ⟨xs, hq⟩, q⟩ | ⟨t, e, q⟩ | ⟨d, o, kvs, e, hd, q⟩
  · subst e
    cases r1
    obtain ⟨its, rv, p, hz⟩ := I1.list hq
    exact wpAny_pyIter_list p.isList (pi_one (tk := s1.toks) I1 _ (turn_list a _) ⟨_, Heap.get?_push_size _ rfl, rfl, rfl⟩ q)
  · subst e
    cases r1
    obtain ⟨its, rv, p, hz⟩ := I1.tuple hq
    exact wpAny_pyIter_tuple (show s1.heap.IsTuple a its.toArray from p) (pi_one (tk := s1.toks) I1 _ (turn_tuple a _) ⟨_, Heap.get?_push_size _ rfl, rfl, rfl⟩ q)
  · subst e
    obtain ⟨u, rfl⟩ := r1
    cases ha : t.cps.all (· < 128)
    · exact wpAny_pyIter_wide ha (pi_one (tk := s1.toks) I1 _ (turn_str _ t u "str_iterator" (.inr rfl)) ⟨_, Heap.get?_push_size _ rfl, rfl, rfl⟩ q)
    · exact wpAny_pyIter_ascii ha (pi_one (tk := s1.toks) I1 _ (turn_str _ t u "str_ascii_iterator" (.inl rfl)) ⟨_, Heap.get?_push_size _ rfl, rfl, rfl⟩ q)
  · subst e
    cases r1
    obtain ⟨hs, hgd, hx, es, ep, vs, hdt, hsz, kv, hm⟩ := I1.frzK hd
    refine iter_keys hs hgd hx hdt (pi_one (tk := s1.toks) I1 _ (turn_keys _ hdt) ⟨_, Heap.get?_push_size _ rfl, rfl, ?_⟩ q)
    rw [hsz] <;> rfl
/-- enumerate(e), e a list or a tuple -/
def iEnumA (K : PySem.W.Frag) (ta : TA) : TI := fun σ H R => ta σ H fun vs H1 => (∃ a xs, vs = [.ref a] ∧ SqL K H1 a xs ∧ R (Ite K a) H1) ∨ ∃ a xs, vs = [.ref a] ∧ SqT K H1 a xs ∧ R (IteT K a) H1
theorem pi_enumA {e : Expr} {ta : TA} {p pos tpos : Pos} {elts : List Expr} {kk : Nat} (hg : Gl X "enumerate") (hm : X.mg "enumerate" = none) (ha : PA X [e] ta) (hs : starEach [e] X.env = [(false, eval e X.env)]) :
    PI X (.Tuple elts kk tpos) (.Call (.Name "enumerate" p) [e] [] pos) (iEnumA X.K ta) := by
  refine ⟨fun pins s σ H R I h => ?_⟩
  refine Call_ (ld_blt I hg hm boot_enumerate (PyProof.Rows.callWith_type1 (thn (ha.run pos pins s σ H _ I h) fun us s1 ⟨vs, H1, I1, r1, q1⟩ => ?_) hs rfl))
  have fin : ∀ b, b = s1.heap.objs.size + 1 ∨ b = s1.heap.objs.size → FpOk X pins H1 b := fun b e' => by
    have hle : s1.heap.objs.size ≤ b := by
      rcases e' with z | z
      · rw [z]; exact Nat.le_add_right _ _
      · rw [z]; exact Nat.le_refl _
    exact I1.fpOk hle (I1.hok.fresh hle)
  rcases q1 with ⟨a, xs, ex, hq, q⟩ | ⟨a, xs, ex, hq, q⟩
  · subst ex
    cases r1 with
    | cons r rr =>
      cases rr
      cases r
      obtain ⟨its, rv, p', hz⟩ := I1.list hq
      refine call_enumerate_list p'.isList fun h' he hit hsz hk => wpAny_pyIter_enum he ?_
      have I2 : Inv X pins σ H1 { s1 with heap := h' } := I1.kept (t' := s1.toks) hk
      refine ⟨s1.heap.objs.size + 1, [s1.heap.objs.size + 1, s1.heap.objs.size], _, _, H1, rfl, I2, turn_enum a (s1.heap.objs.size + 1) s1.heap.objs.size, ⟨⟨.none, he⟩, hit, Nat.succ_ne_self _⟩, fun b hb => ?_, q⟩
      exact fin b (by simpa using hb)
  · subst ex
    cases r1 with
    | cons r rr =>
      cases rr
      cases r
      obtain ⟨its, rv, p', hz⟩ := I1.tuple hq
      have al : a < s1.heap.objs.size := by
        obtain ⟨o, e, _⟩ := (show s1.heap.IsTuple a its.toArray from p')
        exact Heap.lt_size e
      refine enum_begins1 (begins_tuple a its.toArray) p' fun h' he hit hsz hk => wpAny_pyIter_enum he ?_
      have I2 : Inv X pins σ H1 { s1 with heap := h' } := I1.kept (t' := s1.toks) hk
      refine ⟨s1.heap.objs.size + 1, [s1.heap.objs.size + 1, s1.heap.objs.size], _, _, H1, rfl, I2, turn_enumT a (s1.heap.objs.size + 1) s1.heap.objs.size (Nat.ne_of_lt al) (Nat.ne_of_lt (Nat.lt_succ_of_lt al)), ⟨⟨.none, he⟩, ⟨_, hit, rfl, rfl⟩, Nat.succ_ne_self _⟩, fun b hb => ?_, q⟩
      exact fin b (by simpa using hb)
end
/-! ### ours -/
theorem Go.up {α : Type} {G : Gd} {W : WX} {σ : L2.St} {ι ι1 : Iota} {H H1 : Hp} {m : M α} {s : S} {P : Iota → Hp → α → S → Prop} (h : Go G W σ ι H m s P) (l : Le ι ι1) (k : Keep H H1) : Go G W σ ι1 H1 m s P :=
  wp_mono h (fun _ _ z ι2 H2 l2 k2 R2 => z ι2 H2 (l.trans l2) (k.trans k2) R2) fun _ _ z ι2 H2 cls dx l2 k2 R2 => z ι2 H2 cls dx (l.trans l2) (k.trans k2) R2
theorem RelS.onT {G : Gd} {ι ι' : Iota} {σd : Sl} {s s' : S} {σ : L2.St} {H H' : Hp} (R : RelS G ι σd s σ H) (l : Le ι ι') (k : KeepT H H') (hp : RelH G ι' s' H') : RelS G ι' σd s' σ H' :=
  ⟨hp, R.len, fun i d e => by
    obtain ⟨v, h1, h2⟩ := R.slot i d e
    exact ⟨v, h1, h2.monoT l k⟩⟩
section
variable {G : Gd} {W : WX}
theorem itOk_enT {ι1 : Iota} {H1 : Hp} {ds : List D} {xs : List V} {p : Addr} (e : SqT G.K H1 p xs) (r : RpL G ι1 H1 ds xs) : ItOk G ι1 H1 (.enT ds) (IteT G.K p) := by
  intro ι H s i l k R
  have hx := Keep.sqT k.t e
  have rx := r.mono l k
  cases hd : ds[i]? with
  | none =>
    refine ⟨fun z => ⟨xs, hx, ?_⟩, fun d z => by simp [ItD.at, hd] at z⟩
    by_cases hi : i = ds.length
    · rw [← rx.length]; exact hi.symm
    · simp [ItD.at, hd, hi] at z
  | some d0 =>
    refine ⟨fun z => by simp [ItD.at, hd] at z, fun d z => ?_⟩
    simp [ItD.at, hd] at z
    subst z
    obtain ⟨v, hv, rv⟩ := rx.get hd
    refine ⟨⟨xs, v, hx, hv⟩, fun x H' y => ?_⟩
    obtain ⟨T, x', rfl, hT, rfl, y⟩ := y
    have := y xs hx
    rw [hv] at this; cases this
    exact pair_new R hT (.int _) rv
theorem keyD_fst {ι : Iota} {H : Hp} {kvs : List (D × D)} {qs : List (Key × V)} (r : KRel G ι H kvs qs) {i : Nat} {p : D × D} (h : kvs[i]? = some p) : ∃ q, qs[i]? = some q ∧ keyD p.1 = some q.1 := by
  induction r generalizing i with
  | nil => simp at h
  | cons z t ih =>
    cases i with
    | zero => simp at h; subst h; exact ⟨_, rfl, z.1⟩
    | succ i =>
      obtain ⟨q, e1, e2⟩ := ih (i := i) (by simpa using h)
      exact ⟨q, by simpa using e1, e2⟩
/-- texts that are keys are short and ASCII -/
def dKeyOk : D → Bool
  | .str x => decide (x.length ≤ 1000000) && x.all fun c => decide (c < 128)
  | _ => true
def dKeysOk (kvs : List (D × D)) : Bool := kvs.all fun p => dKeyOk p.1
theorem rp_key {ι : Iota} {H : Hp} {d : D} {κ : Key} (h : keyD d = some κ) (ok : dKeyOk d = true) : Rp G ι H d (kV κ) := by
  cases d with
  | int i => cases h; exact .int i
  | str x =>
    cases h
    simp only [dKeyOk, Bool.and_eq_true, decide_eq_true_eq, List.all_eq_true] at ok
    exact .str x ⟨ok.1, fun c hc => ok.2 c hc⟩
  | _ => cases h
theorem itOk_keys {ι1 : Iota} {H1 : Hp} {a : Nat} {p : Addr} {o : Obj} {qs : List (Key × V)} (e : ι1 a = some p) (hp : H1 p = some (.frz o (.dK qs))) {kvs : List (D × D)} (ok : dKeysOk kvs = true) (rk : KRel G ι1 H1 kvs qs) : ItOk G ι1 H1 (.keysOf a kvs) (Itk p o qs) := by
  intro ι H s i l k R
  have hH := k _ _ hp trivial
  have rk' := rk.mono l k
  have hl := Paired.len rk'
  cases hd : kvs[i]? with
  | none =>
    refine ⟨fun z => ⟨hH, ?_⟩, fun d z => by simp [ItD.at, hd] at z⟩
    rw [← hl]; exact List.getElem?_eq_none_iff.mp hd
  | some q =>
    refine ⟨fun z => by simp [ItD.at, hd] at z, fun d z => ?_⟩
    simp [ItD.at, hd] at z
    subst z
    obtain ⟨κ, h1, h2⟩ := keyD_fst rk' hd
    refine ⟨⟨hH, (List.getElem?_eq_some_iff.mp h1).1⟩, fun x H' y => ?_⟩
    obtain ⟨rfl, k', v', h3, rfl⟩ := y
    rw [h1] at h3
    cases h3
    refine ⟨Keep.refl _, R, rp_key h2 ?_⟩
    exact List.all_eq_true.mp ok q (List.mem_of_getElem? hd)
/-- what is walked: a list, a tuple, a text, a locked dict -/
def walkM (x : D) : M ItD := match x with
  | .tup ds => M.pure (.tup ds)
  | .str t => M.pure (.str t)
  | .ref a => M.bind (M.read a) fun
    | .lst _ => M.pure (.lst a)
    | .dctL kvs => M.when (dKeysOk kvs) (M.pure (.keysOf a kvs))
    | _ => M.fail
  | _ => M.fail
def mAny (me : Sl → M D) : Sl → M ItD := fun σ => M.bind (me σ) walkM
theorem rd_any {K : PySem.W.Frag} {me : Sl → M D} (hK : K = G.K) (σ : L2.St) (H : Hp) (Q : It → Hp → Prop) (h : tIt G W (mAny me) σ H Q) : iAny K (tD G W me) σ H Q := by
  subst hK
  obtain ⟨ι, σd, s, R, g⟩ := h
  refine ⟨ι, σd, s, R, (Go.bind g).imp fun ι1 H1 d s1 l1 k1 R1 g1 v r1 => ?_⟩
  cases d with
  | tup ds =>
    obtain ⟨p, xs, rfl, hp, rx⟩ := r1.tupE
    exact .inr (.inl ⟨p, rfl, ⟨xs, hp⟩, Go.pure g1 R1 _ (itOk_tup hp rx)⟩)
  | str t =>
    obtain ⟨rfl, tt⟩ := r1.strE
    exact .inr (.inr (.inl ⟨_, rfl, Go.pure g1 R1 _ (itOk_str tt)⟩))
  | ref a =>
    obtain ⟨p, rfl, ep⟩ := r1.refE
    obtain ⟨o, ho, g2⟩ := Go.read (Go.bind g1) R1
    have z := R1.at ep ho
    cases o with
    | lst ds =>
      obtain ⟨xs, hx, rx⟩ := z
      exact .inl ⟨p, rfl, ⟨xs, SqL.of hx⟩, Go.pure g2 R1 _ (itOk_lst ep)⟩
    | dctL kvs =>
      obtain ⟨ob, qs, hx, rx, nd⟩ := z
      obtain ⟨hm, g3⟩ := Go.when g2
      exact .inr (.inr (.inr ⟨p, ob, qs, rfl, hx, Go.pure g3 R1 _ (itOk_keys ep hx hm rx)⟩))
    | _ => exact (Go.fail g2).elim
  | _ => exact (Go.fail g1).elim
def enM (x : D) : M ItD := match x with
  | .tup ds => M.pure (.enT ds)
  | .ref a => M.bind (M.read a) fun
    | .lst _ => M.pure (.enL a)
    | _ => M.fail
  | _ => M.fail
def mEn (me : Sl → M D) : Sl → M ItD := fun σ => M.bind (me σ) enM
theorem rd_en {K : PySem.W.Frag} {me : Sl → M D} (hK : K = G.K) (σ : L2.St) (H : Hp) (Q : It → Hp → Prop) (h : tIt G W (mEn me) σ H Q) : iEnumA K (tDs G W (mCons me mNil)) σ H Q := by
  subst hK
  obtain ⟨ι, σd, s, R, g⟩ := h
  refine ⟨ι, σd, s, R, ?_⟩
  show Go G W σ ι H (M.bind (me σd) fun x => M.bind (mNil σd) fun xs => M.pure (x :: xs)) s _
  have g' := Go.bind g
  refine wp_bind.mpr (wp_mono g' (fun d s1 q => ?_) fun x s1 q => q)
  intro ι1 H1 l1 k1 R1 vs r1
  cases r1 with
  | cons r1 rn =>
  cases rn with
  | nil =>
  have g1 := q ι1 H1 l1 k1 R1
  cases d with
  | tup ds =>
    obtain ⟨p, xs, rfl, hp, rx⟩ := r1.tupE
    exact .inr ⟨p, xs, rfl, hp, Go.pure g1 R1 _ (itOk_enT hp rx)⟩
  | ref a =>
    obtain ⟨p, rfl, ep⟩ := r1.refE
    obtain ⟨o, ho, g2⟩ := Go.read (Go.bind g1) R1
    have z := R1.at ep ho
    cases o with
    | lst ds =>
      obtain ⟨xs, hx, rx⟩ := z
      exact .inl ⟨p, xs, rfl, SqL.of hx, Go.pure g2 R1 _ (itOk_enL ep)⟩
    | _ => exact (Go.fail g2).elim
  | _ => exact (Go.fail g1).elim
def rng1M (x : D) : M ItD := match x with
  | .int j => M.when (decide (-(2 ^ 62) ≤ j) && decide (j < 2 ^ 62)) (M.pure (.rng 0 j.toNat))
  | _ => M.fail
def mRng1 (me : Sl → M D) : Sl → M ItD := fun σ => M.bind (me σ) rng1M
theorem rd_rng1 {me : Sl → M D} (σ : L2.St) (H : Hp) (Q : It → Hp → Prop) (h : tIt G W (mRng1 me) σ H Q) : iRng1 (tDs G W (mCons me mNil)) σ H Q := by
  obtain ⟨ι, σd, s, R, g⟩ := h
  refine ⟨ι, σd, s, R, ?_⟩
  show Go G W σ ι H (M.bind (me σd) fun x => M.bind (mNil σd) fun xs => M.pure (x :: xs)) s _
  refine wp_bind.mpr (wp_mono (Go.bind g) (fun d s1 q => ?_) fun x s1 q => q)
  intro ι1 H1 l1 k1 R1 vs r1
  cases r1 with
  | cons r1 rn =>
  cases rn with
  | nil =>
  have g1 := q ι1 H1 l1 k1 R1
  cases d with
  | int j =>
    cases r1
    obtain ⟨hm, g2⟩ := Go.when g1
    rw [Bool.and_eq_true, decide_eq_true_eq, decide_eq_true_eq] at hm
    exact ⟨j, rfl, hm.1, hm.2, Go.pure g2 R1 _ itOk_rng⟩
  | _ => exact (Go.fail g1).elim
def rng2M (x y : D) : M ItD := match x, y with
  | .int i, .int j => M.when (decide (-(2 ^ 62) ≤ i) && decide (i < 2 ^ 62) && decide (-(2 ^ 62) ≤ j) && decide (j < 2 ^ 62)) (M.pure (.rng i (j - i).toNat))
  | _, _ => M.fail
def mRng2 (ma mb : Sl → M D) : Sl → M ItD := fun σ => M.bind (ma σ) fun x => M.bind (mb σ) fun y => rng2M x y
theorem rd_rng2 {ma mb : Sl → M D} (σ : L2.St) (H : Hp) (Q : It → Hp → Prop) (h : tIt G W (mRng2 ma mb) σ H Q) : iRng2 (tDs G W (mCons ma (mCons mb mNil))) σ H Q := by
  obtain ⟨ι, σd, s, R, g⟩ := h
  refine ⟨ι, σd, s, R, ?_⟩
  show Go G W σ ι H (M.bind (ma σd) fun x => M.bind (M.bind (mb σd) fun y => M.bind (mNil σd) fun xs => M.pure (y :: xs)) fun xs => M.pure (x :: xs)) s _
  refine wp_bind.mpr (wp_mono (wp_bind.mp g) (fun x s1 q => ?_) fun x s1 q => q)
  refine wp_bind.mpr (wp_bind.mpr (wp_mono (wp_bind.mp q) (fun y s2 q2 => ?_) fun x s1 q => q))
  intro ι1 H1 l1 k1 R1 vs r1
  cases r1 with
  | cons r1 rn =>
  cases rn with
  | cons r2 rn =>
  cases rn with
  | nil =>
  have g1 := Go.up (σ := σ) (W := W) q2 l1 k1
  cases x with
  | int i =>
    cases y with
    | int j =>
      cases r1
      cases r2
      obtain ⟨hm, g2⟩ := Go.when g1
      simp only [Bool.and_eq_true, decide_eq_true_eq] at hm
      exact ⟨i, j, rfl, ⟨hm.1.1.1, hm.1.1.2, hm.1.2, hm.2⟩, Go.pure g2 R1 _ itOk_rng⟩
    | _ => exact (Go.fail g1).elim
  | _ => exact (Go.fail g1).elim
/-- zip(a, b) of lists -/
def zipM (x y : D) : M ItD := match x, y with
  | .ref a, .ref b => M.bind (M.read a) fun
    | .lst _ => M.bind (M.read b) fun
      | .lst _ => M.pure (.zipL a b)
      | _ => M.fail
    | _ => M.fail
  | _, _ => M.fail
def mZip (ma mb : Sl → M D) : Sl → M ItD := fun σ => M.bind (ma σ) fun x => M.bind (mb σ) fun y => zipM x y
theorem rd_zip {K : PySem.W.Frag} {ma mb : Sl → M D} (hK : K = G.K) (σ : L2.St) (H : Hp) (Q : It → Hp → Prop) (h : tIt G W (mZip ma mb) σ H Q) : iZip K (tDs G W (mCons ma (mCons mb mNil))) σ H Q := by
  subst hK
  obtain ⟨ι, σd, s, R, g⟩ := h
  refine ⟨ι, σd, s, R, ?_⟩
  show Go G W σ ι H (M.bind (ma σd) fun x => M.bind (M.bind (mb σd) fun y => M.bind (mNil σd) fun xs => M.pure (y :: xs)) fun xs => M.pure (x :: xs)) s _
  refine wp_bind.mpr (wp_mono (wp_bind.mp g) (fun x s1 q => ?_) fun x s1 q => q)
  refine wp_bind.mpr (wp_bind.mpr (wp_mono (wp_bind.mp q) (fun y s2 q2 => ?_) fun x s1 q => q))
  intro ι1 H1 l1 k1 R1 vs r1
  cases r1 with
  | cons r1 rn =>
  cases rn with
  | cons r2 rn =>
  cases rn with
  | nil =>
  have g1 := Go.up (σ := σ) (W := W) q2 l1 k1
  cases x with
  | ref a =>
    cases y with
    | ref b =>
      obtain ⟨p, rfl, ep⟩ := r1.refE
      obtain ⟨p2, rfl, ep2⟩ := r2.refE
      obtain ⟨o, ho, g2⟩ := Go.read (Go.bind g1) R1
      have z := R1.at ep ho
      cases o with
      | lst ds =>
        obtain ⟨xs, hx, rx⟩ := z
        obtain ⟨o2, ho2, g3⟩ := Go.read (Go.bind g2) R1
        have z2 := R1.at ep2 ho2
        cases o2 with
        | lst es =>
          obtain ⟨ys, hy, ry⟩ := z2
          exact ⟨p, p2, xs, ys, rfl, SqL.of hx, SqL.of hy, Go.pure g3 R1 _ (itOk_zipL ep ep2)⟩
        | _ => exact (Go.fail g3).elim
      | _ => exact (Go.fail g2).elim
    | _ => exact (Go.fail g1).elim
  | _ => exact (Go.fail g1).elim

/-! ### locks -/
/-- a path that changes nothing: the dict it leads to -/
abbrev Path := Sl → S → Option Nat
def M.locked {α : Type} (n : Nat) (m : M α) : M α := fun s => match s.get n with
  | some (.dct kvs) => (m (s.set n (.dctL kvs))).bind fun
    | .ok a s' => match s'.get n with
      | some (.dctL _) => .ret (.ok a (s'.set n (.dct kvs)))
      | _ => .ret .fail
    | _ => .ret .fail
  | _ => m s
theorem wp_locked {α : Type} {n : Nat} {m : M α} {s : S} {kvs : List (D × D)} (e : s.get n = some (.dct kvs)) {Q : α → S → Prop} {E : XV → S → Prop} (h : wp (M.locked n m) s Q E) :
    wp m (s.set n (.dctL kvs)) (fun a s' => (∃ ks, s'.get n = some (.dctL ks)) ∧ Q a (s'.set n (.dct kvs))) fun _ _ => False := by
  unfold wp M.locked at h
  simp only [e] at h
  rw [T.all_bind] at h
  refine T.All.mono (fun o z => ?_) h
  cases o with
  | ok a s' =>
    show _ ∧ _
    dsimp only at z
    cases e2 : s'.get n with
    | none => rw [e2] at z; exact z.elim
    | some u =>
      rw [e2] at z
      cases u with
      | dctL ks => exact ⟨⟨ks, rfl⟩, z⟩
      | _ => exact z.elim
  | exc x s' => exact z
  | fail => exact z
def mLock (p : Path) (me : Sl → M D) : Sl → M D := fun σ s => match p σ s with
  | some n => M.locked n (me σ) s
  | none => me σ s
/-- the lock laid: RelH -/
theorem RelH.lock {ι : Iota} {s : S} {H : Hp} {n : Nat} {a : Addr} {kvs : List (D × D)} (R : RelH G ι s H) (e : ι n = some a) (g : s.get n = some (.dct kvs)) : ∃ qs, H a = some (.dK qs) ∧ dnd kvs ∧ KRel G ι H kvs qs ∧ ∀ od, RelH G ι (s.set n (.dctL kvs)) (upd H a (.frz od (.dK qs))) ∧ Keep H (upd H a (.frz od (.dK qs))) := by
  obtain ⟨qs, hx, rx, nd⟩ := R.at e g
  refine ⟨qs, hx, nd, rx, fun od => ?_⟩
  have k := (Keep.write (o := .frz od (.dK qs)) hx (fun z => z))
  have o2 : ORel G ι (upd H a (.frz od (.dK qs))) a (.dctL kvs) := ⟨od, qs, upd_same, rx.mono (Le.refl _) k, nd⟩
  exact ⟨(R.write e o2).1, k⟩
/-- .. and taken off -/
theorem RelH.unlock {ι : Iota} {s : S} {H : Hp} {n : Nat} {a : Addr} {kvs : List (D × D)} {od : Obj} {qs : List (Key × V)} (R : RelH G ι s H) (e : ι n = some a) (hx : H a = some (.frz od (.dK qs))) (nd : dnd kvs) (rk : KRel G ι H kvs qs) :
    RelH G ι (s.set n (.dct kvs)) (upd H a (.dK qs)) ∧ KeepT H (upd H a (.dK qs)) := by
  have k := (KeepT.write (o := .dK qs) hx (fun z => z))
  have o2 : ORel G ι (upd H a (.dK qs)) a (.dct kvs) := ⟨qs, upd_same, KRel.monoT (Le.refl _) k rk, nd⟩
  exact R.write e o2
/-- over the whole lock, what stood stands -/
theorem keep_lock {H H' : Hp} {a : Addr} {od : Obj} {qs : List (Key × V)} (hx : H a = some (.dK qs)) (k : Keep (upd H a (.frz od (.dK qs))) H') : Keep H (upd H' a (.dK qs)) := fun b o h s => by
  have hb : b ≠ a := fun z => by subst z; rw [hx] at h; cases h; exact s
  rw [upd_ne hb]
  exact k b o (by rw [upd_ne hb]; exact h) s
theorem rd_lock {p : Path} {me : Sl → M D} (σ : L2.St) (H : Hp) (Q : VK) (h : tD G W (mLock p me) σ H Q) : tLockE (tD G W me) σ H Q ∨ tD G W me σ H Q := by
  obtain ⟨ι, σd, s, R, g⟩ := h
  cases e : p σd s with
  | none =>
    refine .inr ⟨ι, σd, s, R, ?_⟩
    have : mLock p me σd s = me σd s := by unfold mLock; rw [e]
    unfold Go wp at g ⊢
    rw [this] at g
    exact g
  | some n =>
    have e1 : mLock p me σd s = M.locked n (me σd) s := by unfold mLock; rw [e]
    have g1 : Go G W σ ι H (M.locked n (me σd)) s fun ι' H' d s' => ∀ v, Rp G ι' H' d v → Q v H' := by
      unfold Go wp at g ⊢
      rw [e1] at g
      exact g
    by_cases hd : ∃ kvs, s.get n = some (.dct kvs)
    · obtain ⟨kvs, hd⟩ := hd
      obtain ⟨a, ea⟩ := R.hp.dom n _ hd
      obtain ⟨qs, hx, nd, rk, L⟩ := R.hp.lock ea hd
      refine .inl ⟨a, .dK qs, hx, trivial, fun od => ?_⟩
      obtain ⟨R1, k1⟩ := L od
      refine ⟨ι, σd, s.set n (.dctL kvs), R.on (Le.refl _) k1 R1, ?_⟩
      refine wp_mono (wp_locked hd g1) (fun d s' q ι' H' l' k' R' v rv => ?_) fun _ _ z => z.elim
      have hx' : H' a = some (.frz od (.dK qs)) := k' _ _ upd_same trivial
      obtain ⟨R2, k2⟩ := R'.unlock (l' _ _ ea) hx' nd ((rk.mono l' (Keep.refl _)).mono (Le.refl _) (k1.trans k'))
      exact ⟨hx', q.2 ι' _ l' (keep_lock hx k') R2 v (rv.monoT (Le.refl _) k2)⟩
    · refine .inr ⟨ι, σd, s, R, ?_⟩
      have : M.locked n (me σd) s = me σd s := by
        unfold M.locked
        cases e2 : s.get n with
        | none => rfl
        | some u =>
          cases u with
          | dct kvs => exact absurd ⟨kvs, e2⟩ hd
          | _ => rfl
      unfold Go wp at g1 ⊢
      rw [this] at g1
      exact g1
theorem pe_lockA {X : Cx} {e : Expr} {t : TE} (h : PE X e t) : PE X e (fun σ H Q => tLockE t σ H Q ∨ t σ H Q) :=
  ⟨fun pins s σ H Q I hw => hw.elim ((pe_lock h).run pins s σ H Q I) (h.run pins s σ H Q I)⟩
/-- a statement under a lock: it does not raise -/
def M.fl (m : M Fl) : M Fl := M.bind m fun
  | .xc _ _ => M.fail
  | f => M.pure f
def gLock (p : Path) (g : Sl → M Fl) : Sl → M Fl := fun σ s => match p σ s with
  | some n => match s.get n with
    | some (.dct _) => M.locked n (M.fl (g σ)) s
    | _ => g σ s
  | none => g σ s
theorem rd_lockS {p : Path} {g : Sl → M Fl} (N : Ends) (σ : L2.St) (H : Hp) (h : tSD G W (gLock p g) N σ H) : tLock (tSD G W g) N σ H ∨ tSD G W g N σ H := by
  obtain ⟨ι, σd, s, R, w⟩ := h
  have un : gLock p g σd s = g σd s → tSD G W g N σ H := fun e => ⟨ι, σd, s, R, by unfold wp at w ⊢; rw [e] at w; exact w⟩
  cases e : p σd s with
  | none => exact .inr (un (by unfold gLock; rw [e]))
  | some n =>
    by_cases hd : ∃ kvs, s.get n = some (.dct kvs)
    · obtain ⟨kvs, hd⟩ := hd
      have e1 : gLock p g σd s = M.locked n (M.fl (g σd)) s := by unfold gLock; rw [e]; simp only [hd]
      have w1 : wp (M.locked n (M.fl (g σd))) s (FlOk G W N ι H) fun _ _ => False := by unfold wp at w ⊢; rw [e1] at w; exact w
      obtain ⟨a, ea⟩ := R.hp.dom n _ hd
      obtain ⟨qs, hx, nd, rk, L⟩ := R.hp.lock ea hd
      refine .inl ⟨a, .dK qs, hx, trivial, fun od => ?_⟩
      obtain ⟨R1, k1⟩ := L od
      refine ⟨ι, σd, s.set n (.dctL kvs), R.on (Le.refl _) k1 R1, ?_⟩
      refine wp_mono (wp_bind.mp (wp_locked hd w1)) (fun fl s' q => ?_) fun _ _ z => z
      have un2 : ∀ ι' H', Le ι ι' → Keep (upd H a (.frz od (.dK qs))) H' → RelH G ι' s' H' → H' a = some (.frz od (.dK qs)) ∧ RelH G ι' (s'.set n (.dct kvs)) (upd H' a (.dK qs)) ∧ KeepT H' (upd H' a (.dK qs)) ∧ Keep H (upd H' a (.dK qs)) := fun ι' H' l' k' R' => by
        have hx' : H' a = some (.frz od (.dK qs)) := k' _ _ upd_same trivial
        obtain ⟨R2, k2⟩ := R'.unlock (l' _ _ ea) hx' nd ((rk.mono l' (Keep.refl _)).mono (Le.refl _) (k1.trans k'))
        exact ⟨hx', R2, k2, keep_lock hx k'⟩
      cases fl with
      | nx σd' =>
        intro ι' σ' H' l' k' R'
        obtain ⟨hx', R2, k2, k3⟩ := un2 ι' H' l' k' R'.hp
        exact ⟨hx', q.2 ι' σ' _ l' k3 (R'.onT (Le.refl _) k2 R2)⟩
      | rt d =>
        intro ι' v H' l' k' R' r'
        obtain ⟨hx', R2, k2, k3⟩ := un2 ι' H' l' k' R'
        exact ⟨hx', q.2 ι' v _ l' k3 R2 (r'.monoT (Le.refl _) k2)⟩
      | bk σd' =>
        intro ι' σ' H' l' k' R'
        obtain ⟨hx', R2, k2, k3⟩ := un2 ι' H' l' k' R'.hp
        exact ⟨hx', q.2 ι' σ' _ l' k3 (R'.onT (Le.refl _) k2 R2)⟩
      | ct σd' =>
        intro ι' σ' H' l' k' R'
        obtain ⟨hx', R2, k2, k3⟩ := un2 ι' H' l' k' R'.hp
        exact ⟨hx', q.2 ι' σ' _ l' k3 (R'.onT (Le.refl _) k2 R2)⟩
      | xc x σd' => exact q.elim
    · refine .inr (un ?_)
      unfold gLock
      rw [e]
      dsimp only
      cases e2 : s.get n with
      | none => rfl
      | some u =>
        cases u with
        | dct kvs => exact absurd ⟨kvs, e2⟩ hd
        | _ => rfl
theorem ps_lockA {X : Cx} {st : Stmt} {t : TS} (h : PS X st t) : PS X st (fun D σ H => tLock t D σ H ∨ t D σ H) :=
  ⟨fun pins s σ H D I hw => hw.elim ((ps_lock h).run pins s σ H D I) (h.run pins s σ H D I)⟩
end
end Ev

/-! EvN: len(set(texts)), sorted(texts), isinstance of the evaluator. -/
namespace Ev
open PySem PySem.Spec PyProof.Rows

/-! ### len(set(xs)) of texts -/
/-- how many unlike ones are among the first i -/
def dcn (xs : List Str) : Nat → Nat
  | 0 => 0
  | i + 1 => if (xs.take i).any (· == xs.getD i Str.empty) then dcn xs i else dcn xs i + 1
theorem dcn_le (xs : List Str) : ∀ i, dcn xs i ≤ i
  | 0 => Nat.le_refl _
  | i + 1 => by
    have := dcn_le xs i
    unfold dcn
    split <;> omega
theorem any_take_succ {xs : List Str} {i : Nat} (h : i < xs.length) (k : Str) : ((xs.take i).any (· == k) || decide (k = xs.getD i Str.empty)) = (xs.take (i + 1)).any (· == k) := by
  have e : xs.take (i + 1) = xs.take i ++ [xs.getD i Str.empty] := by
    rw [List.take_succ, List.getD_eq_getElem?_getD, List.getElem?_eq_getElem h]; rfl
  rw [e, List.any_append, List.any_cons, List.any_nil, Bool.or_false]
  congr 1
  by_cases hk : k = xs.getD i Str.empty
  · rw [hk]; simp
  · rw [decide_eq_false hk]
    exact (beq_eq_false_iff_ne.mpr fun z => hk z.symm).symm
section
variable {prog : Program} {w : World} {A : Around} {R : Result → Shared → Prop} {I : Addr} {fp wr : List Addr} {G : Array GenState → Array GenState → Prop} {n : Nat} {P : Nat → Value → Prop} {St : Nat → Shared → Prop}
theorem loop_texts (W : WalksS prog w A.in1 I fp wr G n P St) (S : Addr) (hSf : S ∉ fp) (xs : List Str) (hsz : xs.length = n) (hn : n ≤ 4000)
    (hval : ∀ i v, P i v → ∃ t, v = .str (xs.getD i Str.empty) t) :
    ∀ (k i : Nat) (s : Shared), n - i = k → i ≤ n → St i s →
      s.heap.SetOf (PySem.strKind prog w) S (fun k' => (xs.take i).any (· == k')) (dcn xs i) →
      (∀ s', Moved (S :: wr) G s s' → s'.heap.SetOf (PySem.strKind prog w) S (fun k' => (xs.take n).any (· == k')) (dcn xs n) → R (.ok (.ret .none)) s') →
      codeAny (model prog w) A (.builtin "set.update.loop" ⟨[.ref S, .ref I], []⟩) R s := by
  have hSw : S ∉ wr := fun h => hSf (W.sub _ h)
  have hsub : ∀ b ∈ wr, b ∈ S :: wr := fun b hb => List.mem_cons_of_mem _ hb
  have moved : ∀ {s s' : Shared} {T : Str → Bool} {m : Nat}, Moved wr G s s' → s.heap.SetOf (PySem.strKind prog w) S T m → s'.heap.SetOf (PySem.strKind prog w) S T m := fun hm ⟨o, es, ep, t, ho, rest⟩ => ⟨o, es, ep, t, hm.heap S _ hSw ho, rest⟩
  intro k
  induction k with
  | zero =>
    intro i s hk hi hst hS hR
    have hin : i = n := by omega
    subst hin
    refine codeAny_builtin PyProof.Rows.F.entry_set_update_loop ?_
    rw [Around.under_plainId PyProof.Rows.F.plain_set_update_loop _]
    show wpAny _ A.in1 (pyNext (.ref I) >>= _) _ _ s
    refine wpAny_bind (W.done s _ _ hst fun s' hm => ?_)
    show wpAny _ A.in1 (ret Value.none) _ _ s'
    exact wpAny_pure (hR s' (hm.mono hsub) (moved hm hS))
  | succ k ih =>
    intro i s hk hi hst hS hR
    have hlt : i < n := by omega
    refine codeAny_builtin PyProof.Rows.F.entry_set_update_loop ?_
    rw [Around.under_plainId PyProof.Rows.F.plain_set_update_loop _]
    show wpAny _ A.in1 (pyNext (.ref I) >>= _) _ _ s
    refine wpAny_bind (W.item i s _ _ hlt hst fun v s' hP hst' hm => ?_)
    obtain ⟨t, rfl⟩ := hval i v hP
    show wpAny _ A.in1 (holding [Value.str (xs.getD i Str.empty) t] (setAdd S (.str (xs.getD i Str.empty) t)) >>= _) _ _ s'
    refine wpAny_bind (wpAny_holding ?_)
    unfold setAdd
    refine wpAny_holding ?_
    refine wpAny_bind ((PySem.strKind prog w).pyHash (k := xs.getD i Str.empty) (strKind_is _ _ _ _) ?_)
    have hS' : s'.heap.SetOf (PySem.strKind prog w) S (fun k' => (xs.take i).any (· == k')) (dcn xs i) := moved hm hS
    have hroom : dcn xs i + 1 < scanBound := by have := dcn_le xs i; unfold scanBound; omega
    refine wpAny_setAddHashed_of (knd := PySem.strKind prog w) (s := { s' with toks := s'.toks + 1 }) (strKind_is _ _ _ _) rfl hS' hroom fun h' hsb hS2 => ?_
    have hSi : h'.SetOf (PySem.strKind prog w) S (fun k' => (xs.take (i + 1)).any (· == k')) (dcn xs (i + 1)) :=
      SetOf_congr hS2 (fun k' => any_take_succ (by omega) k') (by rw [dcn])
    refine wpAny_pure ⟨plainId_quiet PyProof.Rows.F.plain_set_update_loop _, ih (i + 1) _ (by omega) hlt (W.frame _ s' _ _ hst' (Nat.le_succ _) fun b hb o e => ?_) hSi fun s'' hm'' hS'' => ?_⟩
    · rw [hsb.2 b (fun h : b = S => hSf (by rw [← h]; exact hb))]; exact e
    · refine hR s'' (Moved.trans W.gtrans ((hm.mono hsub).then_heap (Nat.le_succ _) fun b o hb e => ?_) hm'') hS''
      rw [hsb.2 b (fun h : b = S => hb (by rw [h]; exact List.mem_cons_self))]; exact e
end
section
variable {prog : Program} {w : World} {A : Around} {E : Value → Shared → Prop} {s : Shared}
theorem set_texts_list {l : Addr} {items : Array Value} {xs : List Str} {Q : Value → Shared → Prop}
    (hh : A.handled = none) (hl : s.heap.IsList l items) (hi : PyProof.Rows.StrsAre items.toList xs) (hn : xs.length ≤ 4000)
    (h : ∀ (h' : Heap) (tk : Nat), h'.SetOf (PySem.strKind prog w) s.heap.objs.size (fun k' => (xs.take items.size).any (· == k')) (dcn xs items.size) →
      (∀ b o, b < s.heap.objs.size → s.heap.get? b = some o → h'.get? b = some o) → Q (.ref s.heap.objs.size) { s with heap := h', toks := tk }) :
    wpAny (model prog w) A (call (.type "set") [.ref l]) Q E s := by
  obtain ⟨c, tl, hmro⟩ := PySem.F.called_set.mro
  have hmade := PySem.F.called_set.made
  have hsub := PySem.F.called_set.sub
  refine wpAny_call (codeAny_of_tree ?_)
  show wpAny _ _ (callAny (.type "set") _) _ _ _
  refine wpAny_pure ⟨Code.quiet_builtin _ (by decide +kernel), codeAny_builtin PySem.F.entry_type_call ?_⟩
  rw [Around.under_plain (weight_type_call_type "set" [.ref l] []) rfl]
  have h1 := PySem.F.called_set.notType
  have h2 := PySem.F.called_set.canCreate
  have hct := PySem.F.typeCall_set_1 (.ref l)
  repeat (any_goals (first | assumption | wp_step))
  refine codeAny_mono (code_set_new_1 (.ref l) (E := E) (Q₁ := fun obj s₁ => ∃ led : Bool, obj = .ref s.heap.objs.size ∧ s₁ = { s with heap := s.heap.push { cls := .type "set", dict := none, data := .set #[] 0 (.fresh 0 0 led) } }) fun led => ⟨led, rfl, rfl⟩) fun r s₁ hr => ?_
  cases r with
  | error e => exact hr
  | ok fl =>
    cases fl with
    | ret obj =>
      obtain ⟨led, rfl, rfl⟩ := hr
      have hS : (s.heap.push { cls := .type "set", dict := none, data := .set #[] 0 (.fresh 0 0 led) }).get? s.heap.objs.size = some { cls := .type "set", dict := none, data := .set #[] 0 (.fresh 0 0 led) } := Heap.get?_push_size _ rfl
      have hT : Shared.TypeIs { s with heap := s.heap.push { cls := .type "set", dict := none, data := .set #[] 0 (.fresh 0 0 led) } } (.ref s.heap.objs.size) "set" := ⟨_, hS, rfl⟩
      have hli := PySem.F.called_set.init.lookup
      have hbi := PySem.F.called_set.init.bind (.ref s.heap.objs.size)
      repeat (any_goals (first | assumption | wp_step))
      refine codeAny_mono (codeAny_call_builtin (R := wants (fun r s₂ => r = .none ∧ ∃ h' tk, s₂ = { s with heap := h', toks := tk } ∧
          h'.SetOf (PySem.strKind prog w) s.heap.objs.size (fun k' => (xs.take items.size).any (· == k')) (dcn xs items.size) ∧
          (∀ b o, b < s.heap.objs.size → s.heap.get? b = some o → h'.get? b = some o)) E) PySem.F.called_set.init.plain PySem.F.entry_set_init (check_set_init_1 hT ?_)) fun r₂ s₂ hr₂ => ?_
      · obtain ⟨ol, hol, hcl, nl, hdl⟩ := hl
        obtain ⟨ocls, odict, odata, oslots⟩ := ol
        simp only at hcl hdl
        subst hcl; subst hdl
        have hol' : (s.heap.push { cls := .type "set", dict := none, data := .set #[] 0 (.fresh 0 0 led) }).get? l = some { cls := .type "list", dict := odict, data := .seq items nl, slots := oslots } := Heap.get?_push_of_some _ hol
        have hsls := PySem.F.sub_list_set
        have hslf := PySem.F.sub_list_frozenset
        have hne : (Value.type "list" == Value.type "dict") = false := by decide
        have hl1 : (s.heap.push { cls := .type "set", dict := none, data := .set #[] 0 (.fresh 0 0 led) }).IsList l items := ⟨_, hol', rfl, nl, rfl⟩
        unfold Builtin.«set.__init__» noKeywords Builtin.Frozenset.updateFrom
        generalize hPI : pyIter = PI
        wp_walk
        subst hPI
        refine wpAny_pyIter_list hl1 ?_
        refine wpAny_bind (wpAny_runValue ?_)
        have hlS : l < s.heap.objs.size := Heap.lt_size hol
        have hh3 : A.in1.in1.in1.handled = none := by simp [hh]
        have hneI : l ≠ (s.heap.push { cls := .type "set", dict := none, data := .set #[] 0 (.fresh 0 0 led) }).objs.size := by
          rw [Heap.size_push]; exact Nat.ne_of_lt (Nat.lt_succ_of_lt hlS)
        have hSf : s.heap.objs.size ∉ [(s.heap.push { cls := .type "set", dict := none, data := .set #[] 0 (.fresh 0 0 led) }).objs.size, l] := by
          rw [Heap.size_push]; simp only [List.mem_cons, List.mem_singleton, List.not_mem_nil, or_false, not_or]
          exact ⟨Nat.ne_of_lt (Nat.lt_succ_self _), Nat.ne_of_gt hlS⟩
        have hsz : xs.length = items.size := by rw [← StrsAre.len_eq hi, Array.length_toList]
        have hval : ∀ (i : Nat) (v : Value), items[i]? = some v → ∃ t, v = .str (xs.getD i Str.empty) t := fun i v hv => SS.strs_at hi i v (by rw [Array.getElem?_toList]; exact hv)
        refine loop_texts ((Walks.list hh3 _ l hneI items).toS) s.heap.objs.size
          hSf xs hsz (by rw [← hsz]; exact hn) hval (items.size - 0) 0 _ (by omega) (Nat.zero_le _)
          ⟨⟨_, Heap.get?_push_size _ rfl, rfl, rfl⟩, (hl1.push _)⟩ ?hS0 ?hR
        case hS0 =>
          have hget : ((s.heap.push { cls := .type "set", dict := none, data := .set #[] 0 (.fresh 0 0 led) }).push { cls := .type "list_iterator", data := .fields #[.ref l, .int 0 0] }).get? s.heap.objs.size
              = some { cls := .type "set", dict := none, data := .set #[] 0 (.fresh 0 0 led) } := Heap.get?_push_of_some _ hS
          exact PyProof.Rows.SetOf_congr ((PyProof.Rows.setObjOf_fresh (knd := PySem.strKind prog w) led).setOf hget (by unfold scanBound; omega)) (fun _ => rfl) rfl
        case hR =>
          intro s' hm hS'
          obtain ⟨h', g', d', tk', os'⟩ := s'
          have eg : g' = s.gens := hm.gens
          have ed : d' = s.drawn := hm.drawn
          have eo : os' = s.os := hm.os
          subst eg; subst ed; subst eo
          show wpAny _ _ _ _ _ _
          refine wpAny_pure ?_
          show wpAny _ _ (ret Value.none) _ _ _
          refine wpAny_pure ⟨rfl, h', tk', rfl, hS', fun b o hb e => ?_⟩
          have hb1 : b ≠ s.heap.objs.size := Nat.ne_of_lt hb
          have hb2 : b ≠ (s.heap.push { cls := .type "set", dict := none, data := .set #[] 0 (.fresh 0 0 led) }).objs.size := by
            rw [Heap.size_push]; exact Nat.ne_of_lt (Nat.lt_succ_of_lt hb)
          exact hm.heap b o (by simp only [List.mem_cons, List.mem_singleton, List.not_mem_nil, or_false, not_or]; exact ⟨hb1, hb2⟩) (Heap.get?_push_of_some _ (Heap.get?_push_of_some _ e))
      · cases r₂ with
        | error e => exact hr₂
        | ok fl₂ =>
          cases fl₂ with
          | ret r =>
            obtain ⟨rfl, h', tk, rfl, hS', hk'⟩ := hr₂
            repeat (any_goals (first | assumption | wp_step))
            exact h _ _ hS' hk'
          | _ => exact hr₂.elim
    | _ => exact hr.elim
theorem set_texts_tuple {l : Addr} {items : Array Value} {xs : List Str} {Q : Value → Shared → Prop}
    (hh : A.handled = none) (hl : s.heap.IsTuple l items) (hi : PyProof.Rows.StrsAre items.toList xs) (hn : xs.length ≤ 4000)
    (h : ∀ (h' : Heap) (tk : Nat), h'.SetOf (PySem.strKind prog w) s.heap.objs.size (fun k' => (xs.take items.size).any (· == k')) (dcn xs items.size) →
      (∀ b o, b < s.heap.objs.size → s.heap.get? b = some o → h'.get? b = some o) → Q (.ref s.heap.objs.size) { s with heap := h', toks := tk }) :
    wpAny (model prog w) A (call (.type "set") [.ref l]) Q E s := by
  obtain ⟨c, tl, hmro⟩ := PySem.F.called_set.mro
  have hmade := PySem.F.called_set.made
  have hsub := PySem.F.called_set.sub
  refine wpAny_call (codeAny_of_tree ?_)
  show wpAny _ _ (callAny (.type "set") _) _ _ _
  refine wpAny_pure ⟨Code.quiet_builtin _ (by decide +kernel), codeAny_builtin PySem.F.entry_type_call ?_⟩
  rw [Around.under_plain (weight_type_call_type "set" [.ref l] []) rfl]
  have h1 := PySem.F.called_set.notType
  have h2 := PySem.F.called_set.canCreate
  have hct := PySem.F.typeCall_set_1 (.ref l)
  repeat (any_goals (first | assumption | wp_step))
  refine codeAny_mono (code_set_new_1 (.ref l) (E := E) (Q₁ := fun obj s₁ => ∃ led : Bool, obj = .ref s.heap.objs.size ∧ s₁ = { s with heap := s.heap.push { cls := .type "set", dict := none, data := .set #[] 0 (.fresh 0 0 led) } }) fun led => ⟨led, rfl, rfl⟩) fun r s₁ hr => ?_
  cases r with
  | error e => exact hr
  | ok fl =>
    cases fl with
    | ret obj =>
      obtain ⟨led, rfl, rfl⟩ := hr
      have hS : (s.heap.push { cls := .type "set", dict := none, data := .set #[] 0 (.fresh 0 0 led) }).get? s.heap.objs.size = some { cls := .type "set", dict := none, data := .set #[] 0 (.fresh 0 0 led) } := Heap.get?_push_size _ rfl
      have hT : Shared.TypeIs { s with heap := s.heap.push { cls := .type "set", dict := none, data := .set #[] 0 (.fresh 0 0 led) } } (.ref s.heap.objs.size) "set" := ⟨_, hS, rfl⟩
      have hli := PySem.F.called_set.init.lookup
      have hbi := PySem.F.called_set.init.bind (.ref s.heap.objs.size)
      repeat (any_goals (first | assumption | wp_step))
      refine codeAny_mono (codeAny_call_builtin (R := wants (fun r s₂ => r = .none ∧ ∃ h' tk, s₂ = { s with heap := h', toks := tk } ∧
          h'.SetOf (PySem.strKind prog w) s.heap.objs.size (fun k' => (xs.take items.size).any (· == k')) (dcn xs items.size) ∧
          (∀ b o, b < s.heap.objs.size → s.heap.get? b = some o → h'.get? b = some o)) E) PySem.F.called_set.init.plain PySem.F.entry_set_init (check_set_init_1 hT ?_)) fun r₂ s₂ hr₂ => ?_
      · obtain ⟨ol, hol, hcl, nl, hdl⟩ := hl
        obtain ⟨ocls, odict, odata, oslots⟩ := ol
        simp only at hcl hdl
        subst hcl; subst hdl
        have hol' : (s.heap.push { cls := .type "set", dict := none, data := .set #[] 0 (.fresh 0 0 led) }).get? l = some { cls := .type "tuple", dict := odict, data := .seq items nl, slots := oslots } := Heap.get?_push_of_some _ hol
        have hsls := PySem.F.sub_tuple_set
        have hslf := PySem.F.sub_tuple_frozenset
        have hne : (Value.type "tuple" == Value.type "dict") = false := by decide
        have hl1 : (s.heap.push { cls := .type "set", dict := none, data := .set #[] 0 (.fresh 0 0 led) }).IsTuple l items := ⟨_, hol', rfl, nl, rfl⟩
        unfold Builtin.«set.__init__» noKeywords Builtin.Frozenset.updateFrom
        generalize hPI : pyIter = PI
        wp_walk
        subst hPI
        refine wpAny_pyIter_tuple hl1 ?_
        refine wpAny_bind (wpAny_runValue ?_)
        have hlS : l < s.heap.objs.size := Heap.lt_size hol
        have hh3 : A.in1.in1.in1.handled = none := by simp [hh]
        have hneI : l ≠ (s.heap.push { cls := .type "set", dict := none, data := .set #[] 0 (.fresh 0 0 led) }).objs.size := by
          rw [Heap.size_push]; exact Nat.ne_of_lt (Nat.lt_succ_of_lt hlS)
        have hSf : s.heap.objs.size ∉ [(s.heap.push { cls := .type "set", dict := none, data := .set #[] 0 (.fresh 0 0 led) }).objs.size, l] := by
          rw [Heap.size_push]; simp only [List.mem_cons, List.mem_singleton, List.not_mem_nil, or_false, not_or]
          exact ⟨Nat.ne_of_lt (Nat.lt_succ_self _), Nat.ne_of_gt hlS⟩
        have hsz : xs.length = items.size := by rw [← StrsAre.len_eq hi, Array.length_toList]
        have hval : ∀ (i : Nat) (v : Value), items[i]? = some v → ∃ t, v = .str (xs.getD i Str.empty) t := fun i v hv => SS.strs_at hi i v (by rw [Array.getElem?_toList]; exact hv)
        refine loop_texts ((Walks.tuple hh3 _ l hneI items).toS) s.heap.objs.size
          hSf xs hsz (by rw [← hsz]; exact hn) hval (items.size - 0) 0 _ (by omega) (Nat.zero_le _)
          ⟨⟨_, Heap.get?_push_size _ rfl, rfl, rfl⟩, (hl1.push _)⟩ ?hS0 ?hR
        case hS0 =>
          have hget : ((s.heap.push { cls := .type "set", dict := none, data := .set #[] 0 (.fresh 0 0 led) }).push { cls := .type "tuple_iterator", data := .fields #[.ref l, .int 0 0] }).get? s.heap.objs.size
              = some { cls := .type "set", dict := none, data := .set #[] 0 (.fresh 0 0 led) } := Heap.get?_push_of_some _ hS
          exact PyProof.Rows.SetOf_congr ((PyProof.Rows.setObjOf_fresh (knd := PySem.strKind prog w) led).setOf hget (by unfold scanBound; omega)) (fun _ => rfl) rfl
        case hR =>
          intro s' hm hS'
          obtain ⟨h', g', d', tk', os'⟩ := s'
          have eg : g' = s.gens := hm.gens
          have ed : d' = s.drawn := hm.drawn
          have eo : os' = s.os := hm.os
          subst eg; subst ed; subst eo
          show wpAny _ _ _ _ _ _
          refine wpAny_pure ?_
          show wpAny _ _ (ret Value.none) _ _ _
          refine wpAny_pure ⟨rfl, h', tk', rfl, hS', fun b o hb e => ?_⟩
          have hb1 : b ≠ s.heap.objs.size := Nat.ne_of_lt hb
          have hb2 : b ≠ (s.heap.push { cls := .type "set", dict := none, data := .set #[] 0 (.fresh 0 0 led) }).objs.size := by
            rw [Heap.size_push]; exact Nat.ne_of_lt (Nat.lt_succ_of_lt hb)
          exact hm.heap b o (by simp only [List.mem_cons, List.mem_singleton, List.not_mem_nil, or_false, not_or]; exact ⟨hb1, hb2⟩) (Heap.get?_push_of_some _ (Heap.get?_push_of_some _ e))
      · cases r₂ with
        | error e => exact hr₂
        | ok fl₂ =>
          cases fl₂ with
          | ret r =>
            obtain ⟨rfl, h', tk, rfl, hS', hk'⟩ := hr₂
            repeat (any_goals (first | assumption | wp_step))
            exact h _ _ hS' hk'
          | _ => exact hr₂.elim
    | _ => exact hr.elim
end
open L2
/-- len(set(xs)), xs a list or a tuple of texts -/
def tLenSetA (K : PySem.W.Frag) (ta : TE) : TE := fun σ H Q => ta σ H fun x H1 => ∃ l, ∃ xs : List Str, x = .ref l ∧ (SqL K H1 l (xs.map V.str) ∨ SqT K H1 l (xs.map V.str)) ∧ xs.length ≤ 4000 ∧ Q (.int (dcn xs xs.length)) H1
theorem pe_lenSetA {X : Cx} {a : Expr} {ta : TE} {p p2 q pos : Pos} (hc : X.calm = true) (hg : Gl X "len") (hm : X.mg "len" = none) (hg2 : Gl X "set") (hm2 : X.mg "set" = none) (ha : PE X a ta)
    (na : starEach [a] X.env = (false, eval a X.env) :: starEach [] X.env) (nb : starEach [.Call (.Name "set" p2) [a] [] q] X.env = (false, eval (.Call (.Name "set" p2) [a] [] q) X.env) :: starEach [] X.env) : PE X (.Call (.Name "len" p) [.Call (.Name "set" p2) [a] [] q] [] pos) (tLenSetA X.K ta) := by
  refine ⟨fun pins s σ H Q I h => ?_⟩
  refine Call_ (ld_blt I hg hm boot_len ?_)
  refine PyProof.Rows.callWith_builtin1 (PyProof.Rows.args_cons ?_ nb) nb rfl
  refine Call_ (ld_blt I hg2 hm2 boot_set ?_)
  refine PyProof.Rows.callWith_type1 (PyProof.Rows.args_cons (thn (ha.run pins s σ H _ I h) fun v s1 ⟨x, H1, I1, r1, q1⟩ => PyProof.Rows.args_nil ?_) na) na rfl
  obtain ⟨l, xs, rfl, hq, h1, q1⟩ := q1
  cases r1
  have fin : ∀ (its : List Value), Vals (xs.map V.str) its → ∀ (h' : Heap) (tk : Nat), h'.SetOf (PySem.strKind X.prog X.w) s1.heap.objs.size (fun k' => (xs.take its.toArray.size).any (· == k')) (dcn xs its.toArray.size) →
      (∀ b o, b < s1.heap.objs.size → s1.heap.get? b = some o → h'.get? b = some o) →
      wpAny (model X.prog X.w) X.A (spliced (backTo pos (starEach [] X.env))) (fun vs s₂ => wpAny (model X.prog X.w) X.A (call (.builtin "len") (Value.ref s1.heap.objs.size :: vs)) (EP X pins σ Q) X.xe s₂) X.xe { s1 with heap := h', toks := tk } := fun its r h' tk hS hk => by
    refine PyProof.Rows.args_nil ?_
    have hl : its.toArray.size = xs.length := by rw [List.size_toArray, ← r.length, List.length_map]
    rw [hl] at hS
    obtain ⟨o, es, ep, t, ho, hex, hd, _, _, _, hf, hn⟩ := hS
    have I2 : Inv X pins σ H1 { s1 with heap := h', toks := tk } := I1.kept fun b o e => hk b o (Heap.lt_size e) e
    have hb := dcn_le xs xs.length
    refine call_len_set ho hex hd hf (by rw [hn] <;> omega) ⟨.int (dcn xs xs.length), H1, I2.tok _, ⟨_, by rw [hn]⟩, q1⟩
  rcases hq with hq | hq
  · obtain ⟨its, r, pl, hz⟩ := I1.list hq
    exact set_texts_list (I1.ok.hd hc) pl.isList (by simpa using strsAre_of r) h1 fun h' tk hS hk => fin its r h' tk hS hk
  · obtain ⟨its, r, pl, hz⟩ := I1.tuple hq
    exact set_texts_tuple (I1.ok.hd hc) pl (by simpa using strsAre_of r) h1 fun h' tk hS hk => fin its r h' tk hS hk
section
variable {G : Gd} {W : WX}
/-! ### ours -/
def dcnC (xs : List Cs) : Nat → Nat
  | 0 => 0
  | i + 1 => if (xs.take i).any (· == xs.getD i []) then dcnC xs i else dcnC xs i + 1
theorem st_beq (x y : Cs) : (st x == st y) = (x == y) := by
  by_cases h : x = y
  · subst h; rw [beq_self_eq_true, beq_self_eq_true]
  · rw [beq_eq_false_iff_ne.mpr h]; exact beq_eq_false_iff_ne.mpr fun z => h (st_inj z)
theorem dcn_st (xs : List Cs) : ∀ i, i ≤ xs.length → dcn (xs.map st) i = dcnC xs i
  | 0, _ => rfl
  | i + 1, h => by
    have ih := dcn_st xs i (by omega)
    have e : (xs.map st).getD i Str.empty = st (xs.getD i []) := by
      rw [List.getD_eq_getElem?_getD, List.getD_eq_getElem?_getD, List.getElem?_map, List.getElem?_eq_getElem (by omega)]; rfl
    have e2 : ((xs.map st).take i).any (· == (xs.map st).getD i Str.empty) = (xs.take i).any (· == xs.getD i []) := by
      rw [e, ← List.map_take, List.any_map]
      congr 1
      funext z
      exact st_beq _ _
    unfold dcn dcnC
    rw [e2, ih]
def strsD : List D → Option (List Cs)
  | [] => some []
  | .str x :: r => (strsD r).map (x :: ·)
  | _ :: _ => none
theorem strsD_rel {ι : Iota} {H : Hp} : ∀ {ds : List D} {vs : List V} {xs : List Cs}, RpL G ι H ds vs → strsD ds = some xs → vs = (xs.map st).map V.str ∧ (∀ x ∈ xs, TxOk x) ∧ ds = xs.map D.str
  | [], _, xs, .nil, h => by cases h; exact ⟨rfl, fun x hx => (List.not_mem_nil hx).elim, rfl⟩
  | d :: r, _, xs, .cons q t, h => by
    cases d with
    | str x =>
      cases e : strsD r with
      | none => rw [strsD, e] at h; cases h
      | some ys =>
        rw [strsD, e] at h
        cases h
        obtain ⟨rfl, tx⟩ := q.strE
        obtain ⟨e1, e2, e3⟩ := strsD_rel t e
        refine ⟨by rw [e1]; rfl, fun z hz => ?_, by rw [e3]; rfl⟩
        rcases List.mem_cons.mp hz with rfl | hz
        · exact tx
        · exact e2 z hz
    | _ => cases h
def lenSetM (x : D) : M D := M.bind (M.seq x) fun ds => M.bind (M.ofOpt (strsD ds)) fun xs => M.when (decide (xs.length ≤ 4000)) (M.pure (.int (dcnC xs xs.length)))
theorem rd_lenSet {K : PySem.W.Frag} {me : Sl → M D} (hK : K = G.K) (σ : L2.St) (H : Hp) (Q : VK) (h : tD G W (m1 me lenSetM) σ H Q) : tLenSetA K (tD G W me) σ H Q := by
  subst hK
  obtain ⟨ι, σd, s, R, g⟩ := h
  refine ⟨ι, σd, s, R, (Go.bind g).imp fun ι1 H1 d s1 l1 k1 R1 g1 v r1 => ?_⟩
  obtain ⟨p, ds, vs, rfl, rx, g2, hs⟩ := Go.seq (Go.bind g1) R1 r1
  obtain ⟨xs, e, g3⟩ := Go.opt (Go.bind g2) R1
  obtain ⟨hm, g4⟩ := Go.when g3
  obtain ⟨e1, e2, e3⟩ := strsD_rel rx e
  refine ⟨p, xs.map st, rfl, ?_, by rw [List.length_map]; exact of_decide_eq_true hm, ?_⟩
  · rw [← e1]
    rcases hs with ⟨h, _⟩ | ⟨_, _, _, h, _⟩
    · exact .inr h
    · exact .inl (SqL.of h)
  · rw [List.length_map, dcn_st xs _ (Nat.le_refl _)]
    exact Go.pure g4 R1 _ (.int _)

/-! ### sorted(xs) of texts -/
def insC (x : Cs) : List Cs → List Cs
  | [] => [x]
  | y :: r => if ltCps x y then x :: y :: r else y :: insC x r
def sortC : List Cs → List Cs
  | [] => []
  | x :: r => insC x (sortC r)
theorem insC_perm (x : Cs) : ∀ r, (insC x r).Perm (x :: r)
  | [] => .refl _
  | y :: r => by
    unfold insC
    split
    · exact .refl _
    · exact ((insC_perm x r).cons y).trans (List.Perm.swap x y r)
theorem sortC_perm : ∀ xs, (sortC xs).Perm xs
  | [] => .refl _
  | x :: r => (insC_perm x _).trans ((sortC_perm r).cons x)
theorem lt_total : ∀ x y : List Nat, ltCps x y = false → ltCps y x = false → x = y
  | [], [], _, _ => rfl
  | [], b :: s, h, _ => by simp [ltCps] at h
  | a :: r, [], _, h => by simp [ltCps] at h
  | a :: r, b :: s, h1, h2 => by
    simp only [ltCps, Bool.or_eq_false_iff, decide_eq_false_iff_not, Bool.and_eq_false_iff, beq_eq_false_iff_ne] at h1 h2
    have e : a = b := by omega
    subst e
    rw [lt_total r s (h1.2.resolve_left fun z => z rfl) (h2.2.resolve_left fun z => z rfl)]
theorem le_trans' : ∀ x y z : List Nat, ltCps y x = false → ltCps z y = false → ltCps z x = false
  | [], y, z, _, _ => by cases z <;> rfl
  | a :: r, [], z, h, _ => by simp [ltCps] at h
  | a :: r, b :: s, [], _, h => by simp [ltCps] at h
  | a :: r, b :: s, c :: t, h1, h2 => by
    simp only [ltCps, Bool.or_eq_false_iff, decide_eq_false_iff_not, Bool.and_eq_false_iff, beq_eq_false_iff_ne] at h1 h2 ⊢
    refine ⟨by omega, ?_⟩
    by_cases e : c = a
    · right
      have e1 : b = a := by omega
      have e2 : c = b := by omega
      exact le_trans' r s t (h1.2.resolve_left fun z => z e1) (h2.2.resolve_left fun z => z e2)
    · exact .inl e
theorem lt_asymm : ∀ x y : List Nat, ltCps x y = true → ltCps y x = false
  | [], [], _ => rfl
  | [], b :: s, _ => rfl
  | a :: r, [], h => by simp [ltCps] at h
  | a :: r, b :: s, h => by
    simp only [ltCps, Bool.or_eq_true, decide_eq_true_eq, Bool.and_eq_true, beq_iff_eq] at h
    simp only [ltCps, Bool.or_eq_false_iff, decide_eq_false_iff_not, Bool.and_eq_false_iff, beq_eq_false_iff_ne]
    rcases h with h | ⟨rfl, h⟩
    · exact ⟨by omega, .inl (by omega)⟩
    · exact ⟨by omega, .inr (lt_asymm r s h)⟩
def leT (a b : Str) : Prop := ltCps b.cps.toList a.cps.toList = false
theorem rising_pw : ∀ (r : List Str) (p : Str), risingS p r = true → (p :: r).Pairwise leT
  | [], p, _ => List.pairwise_singleton _ _
  | x :: r, p, h => by
    rw [risingS, Bool.and_eq_true] at h
    have ih := rising_pw r x h.2
    have hp : leT p x := by simpa [leT] using h.1
    refine List.pairwise_cons.mpr ⟨fun z hz => ?_, ih⟩
    rcases List.mem_cons.mp hz with rfl | hz
    · exact hp
    · exact le_trans' _ _ _ hp ((List.pairwise_cons.mp ih).1 z hz)
theorem sorted_pw : ∀ {ys : List Str}, sortedS ys = true → ys.Pairwise leT
  | [], _ => List.Pairwise.nil
  | x :: r, h => rising_pw r x h
theorem insC_mem {x z : Cs} {r : List Cs} (h : z ∈ insC x r) : z = x ∨ z ∈ r := List.mem_cons.mp ((insC_perm x r).mem_iff.mp h)
theorem insC_pw (x : Cs) : ∀ r : List Cs, r.Pairwise (fun a b => ltCps b a = false) → (insC x r).Pairwise fun a b => ltCps b a = false
  | [], _ => List.pairwise_singleton _ _
  | y :: r, h => by
    unfold insC
    split
    · rename_i hx
      refine List.pairwise_cons.mpr ⟨fun z hz => ?_, h⟩
      have hxy := lt_asymm _ _ hx
      rcases List.mem_cons.mp hz with rfl | hz
      · exact hxy
      · exact le_trans' _ _ _ hxy ((List.pairwise_cons.mp h).1 z hz)
    · rename_i hx
      refine List.pairwise_cons.mpr ⟨fun z hz => ?_, insC_pw x r (List.pairwise_cons.mp h).2⟩
      rcases insC_mem hz with rfl | hz
      · simpa using hx
      · exact (List.pairwise_cons.mp h).1 z hz
theorem sortC_pw : ∀ xs : List Cs, (sortC xs).Pairwise fun a b => ltCps b a = false
  | [] => List.Pairwise.nil
  | x :: r => insC_pw x _ (sortC_pw r)
theorem sort_unique {xs : List Cs} {ys : List Str} (hp : ys.Perm (xs.map st)) (hs : sortedS ys = true) : ys = (sortC xs).map st := by
  refine List.Perm.eq_of_pairwise (le := leT) (fun a b _ _ h1 h2 => ?_) (sorted_pw hs) ?_ (hp.trans ((sortC_perm xs).symm.map st))
  · have e := lt_total _ _ h2 h1
    obtain ⟨a⟩ := a
    obtain ⟨b⟩ := b
    have : a = b := Array.ext' (by simpa using e)
    rw [this]
  · rw [List.pairwise_map]
    exact (sortC_pw xs).imp fun {a b} h => by simpa [leT, st] using h
def sortedM (xs : List D) : M D := match xs with
  | [x] => M.bind (M.lst x) fun p => M.bind (M.ofOpt (strsD p.2)) fun ts => M.when (decide (ts.length < 64)) (M.bind (M.new (.lst ((sortC ts).map D.str))) fun n => M.pure (.ref n))
  | _ => M.fail
theorem rp_strs {ι : Iota} {H : Hp} : ∀ {ts : List Cs}, (∀ x ∈ ts, TxOk x) → RpL G ι H (ts.map D.str) ((ts.map st).map V.str)
  | [], _ => .nil
  | t :: r, h => .cons (.str t (h t List.mem_cons_self)) (rp_strs fun x hx => h x (List.mem_cons_of_mem _ hx))
theorem sortedS1 : CallS G (rSortedS G.K) sortedM := by
  intro W σ ι s H es vs Q R r g
  cases r with
  | nil => exact (Go.fail g).elim
  | cons r1 t =>
    cases t with
    | cons _ _ => exact (Go.fail g).elim
    | nil =>
      obtain ⟨a, p, ds, xs, rfl, rfl, ep, _, hx, rx, g1⟩ := Go.lst (Go.bind g) R r1
      obtain ⟨ts, e, g2⟩ := Go.opt (Go.bind g1) R
      obtain ⟨hm, g3⟩ := Go.when g2
      obtain ⟨e1, e2, e3⟩ := strsD_rel rx e
      refine ⟨p, ts.map st, rfl, by rw [← e1]; exact SqL.of hx, by rw [List.length_map]; exact of_decide_eq_true hm, fun ys l hp hs hl => ?_⟩
      have ey := sort_unique hp hs
      subst ey
      have rr : ∀ ι H, RpL G ι H ((sortC ts).map D.str) (((sortC ts).map st).map V.str) := fun ι H => rp_strs fun x hx => e2 x ((sortC_perm ts).mem_iff.mp hx)
      have o2 : ORel G (ext ι s.n l) (upd H l (.lst (((sortC ts).map st).map V.str))) l (.lst ((sortC ts).map D.str)) := ⟨_, upd_same, rr _ _⟩
      exact Go.pure (Go.new (Go.bind g3) R hl o2) (R.new hl o2) _ (.ref (ext_same _ _ _))

/-! ### isinstance -/
inductive TyD where
  | bi (t : Nat) | own (c : Nat)
def tyS : Nat → String
  | 0 => "int"
  | 1 => "bool"
  | 2 => "str"
  | 3 => "list"
  | 4 => "tuple"
  | 5 => "dict"
  | _ => "NoneType"
def TyD.val (G : Gd) : TyD → Value
  | .bi t => .type (tyS t)
  | .own c => .ref (G.ca c)
def clsVal (G : Gd) : D → Value
  | .ty t => .type (tyN t)
  | .cls c => .ref (G.ca c)
  | _ => .none
/-- what a law's text must have of a class for isinstance -/
structure InsTy (K : PySem.W.Frag) (C : Addr) : Prop where
  cl : Cls K C
  ha : PySem.W.findIn K (.ref C) "__class__" = some (some (.builtin "object.__class__"))
  hn : PySem.W.specialIn K (.builtin "object.__class__") "__get__" = some (some (.builtin "getset_descriptor.__get__"))
  htk : PySem.W.takesIn K (.builtin "object.__class__") = some true
  hm : PySem.W.mroIn K C (.type "object") = some true
structure KitOk (G : Gd) (kit : TyD → D → Option Bool) : Prop where
  cls : ∀ t d b, kit t d = some b → (∃ n, d = .ty n) ∨ ∃ c, d = .cls c
  one : ∀ t d b, kit t d = some b → PySem.W.kitOne G.K (t.val G) (clsVal G d) = some b
  ins : ∀ c d b, kit (.own c) d = some b → InsTy G.K (G.ca c)
def tyM (x : D) : M TyD := match x with
  | .non => M.pure (.bi 6)
  | .bl _ => M.pure (.bi 1)
  | .int _ => M.pure (.bi 0)
  | .str _ => M.pure (.bi 2)
  | .tup _ => M.pure (.bi 4)
  | .ref a => M.bind (M.read a) fun
    | .lst _ => M.pure (.bi 3)
    | .dct _ => M.pure (.bi 5)
    | .ins c _ => M.pure (.own c)
    | _ => M.fail
  | _ => M.fail
def kitAnyD (kit : TyD → D → Option Bool) (t : TyD) : List D → Option Bool
  | [] => some false
  | d :: r => match kit t d with
    | some true => some true
    | some false => kitAnyD kit t r
    | none => none
def isiM (kit : TyD → D → Option Bool) (xs : List D) : M D := match xs with
  | [x, c] => match c with
    | .tup cs => M.bind (tyM x) fun t => M.when (!cs.isEmpty && cs.all fun d => (kit t d).isSome) (M.bind (M.ofOpt (kitAnyD kit t cs)) fun b => M.pure (.bl b))
    | c => M.bind (tyM x) fun t => M.bind (M.ofOpt (kit t c)) fun b => M.pure (.bl b)
  | _ => M.fail
/-- isinstance(x, c), c a class or any tuple of classes -/
def rIsiA (K : PySem.W.Frag) : List V → Hp → VK → Prop := fun xs H Q => rIsi K xs H Q ∨ ∃ (x : V) (tp : Addr) (cs : List V) (t : Value) (us : List Value) (b : Bool), xs = [x, .ref tp] ∧ SqT K H tp cs ∧ Paired ClsV cs us ∧ TyX K H x t ∧ PySem.W.kitAny K t us = some b ∧ Q (.bl b) H
theorem call_isiA {X : Cx} : CallR X (.builtin "isinstance") (rIsiA X.K) := by
  intro pins s σ H xs us Q I r h
  rcases h with h | ⟨x, tp, cs, t, ws, b, rfl, hT, k, ty, e, q⟩
  · exact call_isi pins s σ H xs us Q I r h
  · obtain ⟨u1, u2, rfl, r1, r2⟩ := vals2 r
    cases (show u2 = Value.ref tp from r2)
    obtain ⟨P, Z, p, hx⟩ := kit_of I r1 ty
    obtain ⟨its, rv, pt, _⟩ := I.tuple hT
    obtain ⟨o, h1, h2, n, h3⟩ := (show s.heap.IsTuple tp its.toArray from pt)
    have e3 := ClsV.all k rv
    subst e3
    obtain ⟨oc, od, dt, sl⟩ := o
    simp only at h2 h3
    subst h2 h3
    exact PySem.W.kia_tup Z I.kIn p h1 e hx fun tk => ⟨.bl b, H, I.tok tk, rfl, q⟩
theorem kit_cls {kit : TyD → D → Option Bool} (ko : KitOk G kit) {ι : Iota} {H : Hp} {t : TyD} {d : D} {v : V} {b : Bool} (h : kit t d = some b) (r : Rp G ι H d v) : ClsV v (clsVal G d) := by
  rcases ko.cls t d b h with ⟨n, rfl⟩ | ⟨c, rfl⟩
  · cases r; exact .ty _
  · cases r; exact .own _
/-- the type that ours tells -/
theorem Go.ty {σ : L2.St} {ι : Iota} {H : Hp} {s : S} {d : D} {v : V} {P : Iota → Hp → TyD → S → Prop} (g : Go G W σ ι H (tyM d) s P) (R : RelH G ι s H) (r : Rp G ι H d v) :
    ∃ t, P ι H t s ∧ ((∀ c, t = .own c → InsTy G.K (G.ca c)) → TyX G.K H v (t.val G)) := by
  cases d with
  | non => cases r; exact ⟨_, Go.pure g R, fun _ => .base .non⟩
  | bl b => cases r; exact ⟨_, Go.pure g R, fun _ => .base (.bl b)⟩
  | int b => cases r; exact ⟨_, Go.pure g R, fun _ => .base (.int b)⟩
  | str b => cases r; exact ⟨_, Go.pure g R, fun _ => .base (.str _)⟩
  | tup ds =>
    obtain ⟨p, xs, rfl, hp, rx⟩ := r.tupE
    refine ⟨_, Go.pure g R, fun _ => ?_⟩
    rcases hp with (h | ⟨o, h⟩) | ⟨o, its, n, h, hc, _⟩
    · exact .base (.tup h)
    · exact .fTuple h
    · exact .kTuple h hc
  | ref a =>
    obtain ⟨p, rfl, ep⟩ := r.refE
    obtain ⟨o, ho, g1⟩ := Go.read (Go.bind g) R
    have z := R.at ep ho
    cases o with
    | lst ds =>
      obtain ⟨xs, hx, rx⟩ := z
      exact ⟨_, Go.pure g1 R, fun _ => .base (.lst hx)⟩
    | dct ds =>
      obtain ⟨xs, hx, rx⟩ := z
      exact ⟨_, Go.pure g1 R, fun _ => .base (.dK hx)⟩
    | ins c fs =>
      obtain ⟨dx, qs, hx, rx⟩ := z
      refine ⟨_, Go.pure g1 R, fun hi => ?_⟩
      have i := hi c rfl
      exact .base (.ins hx i.cl i.ha i.hn i.htk i.hm)
    | _ => exact (Go.fail g1).elim
  | _ => exact (Go.fail g).elim
theorem kitAny_some {kit : TyD → D → Option Bool} {t : TyD} : ∀ {cs : List D}, cs.all (fun d => (kit t d).isSome) = true → ∃ b, kitAnyD kit t cs = some b
  | [], _ => ⟨_, rfl⟩
  | c :: cs, ha => by
    rw [List.all_cons, Bool.and_eq_true] at ha
    obtain ⟨b0, e0⟩ := Option.isSome_iff_exists.mp ha.1
    obtain ⟨b', e'⟩ := kitAny_some ha.2
    unfold kitAnyD
    rw [e0]
    cases b0 with
    | true => exact ⟨_, rfl⟩
    | false => exact ⟨b', e'⟩
theorem kitAny_rel {kit : TyD → D → Option Bool} (ko : KitOk G kit) {t : TyD} {ι : Iota} {H : Hp} : ∀ {cs : List D} {vs : List V} {b : Bool}, RpL G ι H cs vs → cs.all (fun d => (kit t d).isSome) = true → kitAnyD kit t cs = some b →
    Paired ClsV vs (cs.map (clsVal G)) ∧ PySem.W.kitAny G.K (t.val G) (cs.map (clsVal G)) = some b
  | [], _, b, .nil, _, h => ⟨.nil, by cases h; rfl⟩
  | c :: cs, _, b, .cons r tl, ha, h => by
    rw [List.all_cons, Bool.and_eq_true] at ha
    obtain ⟨b0, e0⟩ := Option.isSome_iff_exists.mp ha.1
    have h1 := kit_cls ko e0 r
    have k1 := ko.one _ _ _ e0
    have ex := kitAny_some ha.2
    obtain ⟨b', e'⟩ := ex
    obtain ⟨p1, p2⟩ := kitAny_rel ko tl ha.2 e'
    refine ⟨.cons h1 p1, ?_⟩
    rw [kitAnyD, e0] at h
    cases b0 with
    | true => cases h; exact kitAny_cons k1 (fun z => by cases z) fun _ => rfl
    | false =>
      have h' : kitAnyD kit t cs = some b := h
      rw [e'] at h'
      cases h'
      exact kitAny_cons k1 (fun _ => p2) fun z => by cases z
theorem isiS {kit : TyD → D → Option Bool} (ko : KitOk G kit) : CallS G (rIsiA G.K) (isiM kit) := by
  intro W σ ι s H es vs Q R r g
  cases r with
  | nil => exact (Go.fail g).elim
  | cons r1 t =>
    cases t with
    | nil => exact (Go.fail g).elim
    | cons r2 t =>
      cases t with
      | cons _ _ => exact (Go.fail g).elim
      | nil =>
        rename_i x v c w
        by_cases hc : ∃ cs, c = .tup cs
        · obtain ⟨cs, rfl⟩ := hc
          obtain ⟨t, g1, ty⟩ := Go.ty (Go.bind (show Go G W σ ι H (M.bind (tyM x) fun t => M.when (!cs.isEmpty && cs.all fun d => (kit t d).isSome) (M.bind (M.ofOpt (kitAnyD kit t cs)) fun b => M.pure (D.bl b))) s (fun ι' H' z _ => ∀ u, Rp G ι' H' z u → Q u H') from g)) R r1
          obtain ⟨hm0, g2⟩ := Go.when g1
          rw [Bool.and_eq_true] at hm0
          obtain ⟨hne, hm⟩ := hm0
          obtain ⟨b, e, g3⟩ := Go.opt (Go.bind g2) R
          obtain ⟨p, xs, rfl, hp, rx⟩ := r2.tupE
          obtain ⟨k1, k2⟩ := kitAny_rel ko rx hm e
          refine .inr ⟨v, p, xs, _, _, b, rfl, hp, k1, ty fun c hc => ?_, k2, Go.pure g3 R _ (.bl b)⟩
          subst hc
          cases cs with
          | nil => cases hne
          | cons d r =>
            rw [List.all_cons, Bool.and_eq_true] at hm
            obtain ⟨b0, e0⟩ := Option.isSome_iff_exists.mp hm.1
            exact ko.ins _ _ _ e0
        · have g' : Go G W σ ι H (M.bind (tyM x) fun t => M.bind (M.ofOpt (kit t c)) fun b => M.pure (.bl b)) s (fun ι' H' z _ => ∀ u, Rp G ι' H' z u → Q u H') := by
            cases c with
            | tup cs => exact absurd ⟨cs, rfl⟩ hc
            | _ => exact g
          obtain ⟨t, g1, ty⟩ := Go.ty (Go.bind g') R r1
          obtain ⟨b, e, g3⟩ := Go.opt (Go.bind g1) R
          exact .inl ⟨v, w, _, _, b, rfl, kit_cls ko e r2, ty fun c hc => by subst hc; exact ko.ins _ _ _ e, ko.one _ _ _ e, Go.pure g3 R _ (.bl b)⟩
end
end Ev

/-! EvO: class methods, classes held by a local name, of the evaluator. -/
namespace Ev
open PySem PySem.Spec PyProof.Rows L2
section
variable {X : Cx} {k : Nat} {g : Addr} {W : WX} {x m : Str} {p pos apos : Pos} {e o : Expr} {es : List Expr} {ta : TE} {t : TA}
/-- e.m(..), e a class, m a classmethod -/
def tCM (X : Cx) (W : WX) (k : Nat) (m : Str) (ta : TE) (t : TA) : TE := fun σ H Q => ta σ H fun x H1 => ∃ C mc q g sp, x = .ref C ∧ ClX.CRead X.K C mc ∧ ClX.CMet X.K C mc m q g ∧ Fk X.prog X.w X.K X.mg X.base k g sp ∧ t σ H1 fun vs H2 => sp (.ref C :: vs) H2 Q (WE W σ)
theorem pe_cm (he : PE X o ta) (hr : Room k X.A) (tk : Takes X W) (ha : PA X (e :: es) t) (hst : starEach (e :: es) X.env = (false, eval e X.env) :: starEach es X.env) (hpl : (backTo pos (starEach es X.env)).any (·.1) = false)
    (hb : attributeBase o m X.env (eval o X.env) = eval o X.env) (hf : methodCallForm ((e :: es).length + ([] : List Keyword).length) (backTo pos (starEach (e :: es) X.env)) (backToKw pos (keywordEach [] X.env)) = true) (hl : (apos.endLine == pos.line) = true) :
    PE X (.Call (.Attribute o m apos) (e :: es) [] pos) (tCM X W k m ta t) := by
  refine ⟨fun pins s σ H Q I h => ?_⟩
  refine PySem.W.methodCall_KW (pl := plOf o X.env) (thn (he.run pins s σ H _ I h) fun u s1 ⟨x, H1, I1, rx, C, mc, q, g, sp, ex, r, c, F, hq⟩ => ?_) (call_arm hb hf hl)
  subst ex
  obtain rfl : u = Value.ref C := rx
  refine ClX.getmethcm_ok I1 r c fun s2 I2 => ?_
  refine ClX.callwith_cm I2 (ClX.base_none I1 (Nat.le_refl _)) c.fi (thn (ha.run pos _ s2 σ H1 _ I2 hq) fun us s3 ⟨vs, H2, I3, rv, q2⟩ => ⟨⟨ClX.pin_at I3, I3.kIn⟩, ?_⟩) hst hpl
  have z : wpAny (model X.prog X.w) X.A (call (.ref s1.heap.objs.size) us) (EP X ((s1.heap.objs.size, PySem.W.methodObj (.ref g) (.ref C)) :: pins) σ Q) X.xe s3 :=
    wpAny_call (PySem.W.method_call (ClX.pin_at I3) (codeAny_mono (F.run X.A X.stack s3 H2 (.ref C :: us) (.ref C :: vs) Q (WE W σ) hr I3.env0 (.cons rfl rv) q2) fun r s' hq => by
      cases r with
      | error e => exact passAt tk σ _ H2 s3 e s' I3 hq
      | ok fl =>
        cases fl with
        | ret u => exact I3.after hq
        | next => exact False.elim hq
        | brk => exact False.elim hq
        | cont => exact False.elim hq))
  exact thn z fun _ _ y => ClX.unpinE y
/-- x(..), x a local name that holds a class -/
def tMkL (X : Cx) (W : WX) (k i : Nat) (t : TA) : TE := fun σ H Q => ∃ C f sp, σ[i]? = some (some (.ref C)) ∧ Mk X.K C f ∧ Fk X.prog X.w X.K X.mg X.base k f sp ∧ tMk W C sp t σ H Q
theorem pe_mkL {i : Nat} (hr : Room (k + 1) X.A) (hN : X.N[i]? = some x) (hv : Vis X.env.scope x) (tk : Takes X W) (ha : PA X (e :: es) t) (hdb : (x == ("__debug__" : Str)) = false) (hcd : (x == ("__classdict__" : Str)) = false)
    (he : starEach (e :: es) X.env = (false, eval e X.env) :: starEach es X.env) (hpl : (backTo pos (starEach es X.env)).any (·.1) = false) : PE X (.Call (.Name x p) (e :: es) [] pos) (tMkL X W k i t) := by
  refine ⟨fun pins s σ H Q I h => ?_⟩
  obtain ⟨C, f, sp, hs, N, F, ht⟩ := h
  refine wpAny_Call_Name_kw (thn ((pe_var (pos := p) hN hv hdb hcd).run pins s σ H (fun v H1 => v = .ref C ∧ H1 = H) I ⟨.ref C, hs, rfl, rfl⟩) fun u s1 ⟨v, H1, I1, r1, q1⟩ => ?_)
  obtain ⟨rfl, rfl⟩ := q1
  cases r1
  refine PySem.W.callWith_K (h₀ := X.base) I.ok.mod.kin N.kp (thn (ha.run pos pins s1 σ _ _ I1 ht) fun us s2 ⟨vs, H2, I2, r, q⟩ => ⟨I2.kIn, ?_⟩) he hpl
  exact run_mk N F hr tk I2 r q
end
section
variable {G : Gd} {W : WX} {ms : Sl → M (List D)} {mo : Sl → M D}
def mCM (mo : Sl → M D) (mt : Nat → Option (List D → M D)) (ms : Sl → M (List D)) : Sl → M D := fun σ => M.bind (mo σ) fun x => match x with
  | .cls c => match mt c with
    | some f => M.bind (ms σ) fun ds => f (.cls c :: ds)
    | none => M.fail
  | _ => M.fail
theorem rd_cm {X : Cx} {k : Nat} {mt : Nat → Option (List D → M D)} {m : Str} (hK : X.K = G.K)
    (hm : ∀ c f, mt c = some f → ∃ mc q g, ClX.CRead G.K (G.ca c) mc ∧ ClX.CMet G.K (G.ca c) mc m q g ∧ Fk X.prog X.w X.K X.mg X.base k g (spD G f)) (σ : L2.St) (H : Hp) (Q : VK) (h : tD G W (mCM mo mt ms) σ H Q) : tCM X W k m (tD G W mo) (tDs G W ms) σ H Q := by
  obtain ⟨ι, σd, s, R, g⟩ := h
  refine ⟨ι, σd, s, R, (Go.bind g).imp fun ι1 H1 d s1 l1 k1 R1 g1 v r1 => ?_⟩
  cases d with
  | cls c =>
    cases e : mt c with
    | none => simp only [e] at g1; exact (Go.fail g1).elim
    | some f =>
      simp only [e] at g1
      obtain ⟨mc, q, g', c1, c2, F⟩ := hm c f e
      cases r1
      refine ⟨G.ca c, mc, q, g', spD G f, rfl, by rw [hK]; exact c1, by rw [hK]; exact c2, F, ι1, σd, s1, R.on l1 k1 R1, (Go.bind g1).imp fun ι2 H2 ds s2 l2 k2 R2 g2 vs r2 => ?_⟩
      exact ⟨ι2, _, s2, R2, .cons (.cls c) r2, g2⟩
  | _ => exact (Go.fail g1).elim
def mMkL (i : Nat) (mt : Nat → Option (List D → M D)) (ms : Sl → M (List D)) : Sl → M D := fun σ => match σ[i]? with
  | some (some (.cls c)) => match mt c with
    | some f => mMk c f ms σ
    | none => M.fail
  | _ => M.fail
theorem rd_mkL {X : Cx} {k i : Nat} {mt : Nat → Option (List D → M D)} (hK : X.K = G.K) (hm : ∀ c f, mt c = some f → ∃ g, Mk G.K (G.ca c) g ∧ Fk X.prog X.w X.K X.mg X.base k g (spD G f)) (σ : L2.St) (H : Hp) (Q : VK) (h : tD G W (mMkL i mt ms) σ H Q) :
    tMkL X W k i (tDs G W ms) σ H Q := by
  obtain ⟨ι, σd, s, R, g⟩ := h
  unfold mMkL at g
  cases e : σd[i]? with
  | none => simp only [e] at g; exact (Go.fail g).elim
  | some od =>
    cases od with
    | none => simp only [e] at g; exact (Go.fail g).elim
    | some d =>
      simp only [e] at g
      obtain ⟨v, h1, h2⟩ := R.slot i d e
      cases d with
      | cls c =>
        cases e2 : mt c with
        | none => simp only [e2] at g; exact (Go.fail g).elim
        | some f =>
          simp only [e2] at g
          obtain ⟨g', N, F⟩ := hm c f e2
          cases h2
          exact ⟨G.ca c, g', spD G f, h1, by rw [hK]; exact N, F, rd_mk σ H Q ⟨ι, σd, s, R, g⟩⟩
      | _ => exact (Go.fail g).elim
end
end Ev

/-! EwP: properties, len of own things, match over texts. -/
namespace Ev
open PySem PySem.Spec PyProof.Rows L2
section
variable {X : Cx} {k : Nat} {g C a dx p : Addr} {fs : List (Str × V)} {sp : Sp} {f : Str} {e : Expr} {pos : Pos} {ta : TE}
/-- one call deeper, nothing is raised -/
theorem run_in1 {pins : List (Addr × Obj)} {σ : L2.St} {H : Hp} {s : Shared} {Q : VK} {us : List Value} {vs : List V} {E' : Value → Shared → Prop} (F : Fk X.prog X.w X.K X.mg X.base k g sp) (hr : Room (k + 1) X.A) (I : Inv X pins σ H s) (r : Vals vs us) (h : sp vs H Q fun _ _ _ => False) :
    wpAny (model X.prog X.w) X.A.in1 (call (.ref g) us) (EP X pins σ Q) E' s := by
  refine wpAny_call (codeAny_mono (F.run X.A.in1 X.stack s H us vs Q (fun _ _ _ => False) hr.in1 I.env0.in1 r h) fun r s' hq => ?_)
  cases r with
  | error er =>
    obtain ⟨_, _, _, _, _, _, _, _, _, _, _, _, z⟩ := hq
    exact z.elim
  | ok fl =>
    cases fl with
    | ret u => exact I.after hq
    | next => exact False.elim hq
    | brk => exact False.elim hq
    | cont => exact False.elim hq
theorem getpropF {pins : List (Addr × Obj)} {σ : L2.St} {H : Hp} {s : Shared} {Q : VK} {b : Bool} {E' : Value → Shared → Prop} (I : Inv X pins σ H s) (ea : H a = some (.ins C dx fs)) (c : Cls X.K C) (hp : PropOf X.K C f p g)
    (F : Fk X.prog X.w X.K X.mg X.base k g sp) (hr : Room (k + 1) X.A) (h : sp [.ref a] H Q fun _ _ _ => False) : wpAny (model X.prog X.w) X.A (getAttr (.ref a) f b) (EP X pins σ Q) E' s := by
  obtain ⟨mA, O, _, _, _, _⟩ := ins_get I.hok ea
  obtain ⟨od, J, _⟩ := O.look
  obtain ⟨rest, hrec⟩ := hp.rec_
  have I1 := I.tok (s.toks + 1)
  have hc : (PySem.W.clsIn X.K C).isSome = true := by
    obtain ⟨cd, hc, _⟩ := PySem.W.any_some c.hd
    rw [hc]
    rfl
  refine PySem.W.get_bind I.kIn J (PySem.W.plainGet_of (c.get f)).1 (PySem.W.findObj_data hc hp.at_ hp.get hp.tak) (PySem.W.plainGet_of (c.get f)).2 (wpAny_call (PySem.W.prop_get (s := { s with toks := s.toks + 1 }) I.kIn hrec ?_))
  refine codeAny_mono (F.run X.A.in1 X.stack { s with toks := s.toks + 1 } H [.ref a] [.ref a] Q (fun _ _ _ => False) hr.in1 I1.env0.in1 (.cons rfl .nil) h) fun r s' hq => ?_
  cases r with
  | error er =>
    obtain ⟨_, _, _, _, _, _, _, _, _, _, _, _, z⟩ := hq
    exact z.elim
  | ok fl =>
    cases fl with
    | ret u =>
      obtain ⟨v, H', I3, rv, q3⟩ := I1.after hq
      show wpAny _ _ (handedOut u) _ _ _
      rw [PySem.W.handedOut_of (handed_of rv)]
      exact wpAny_pure ⟨v, H', I3, rv, q3⟩
    | next => exact False.elim hq
    | brk => exact False.elim hq
    | cont => exact False.elim hq
/-- a field, or a property -/
def tFP (X : Cx) (k : Nat) (ta : TE) (f : Str) : TE := fun σ H Q => ta σ H fun x H1 => ∃ a C dx fs, x = .ref a ∧ H1 a = some (.ins C dx fs) ∧ Cls X.K C ∧
  ((∃ v, NoAttr X.K C f ∧ fs.lookup f = some v ∧ Q v H1) ∨ ∃ p g sp, PropOf X.K C f p g ∧ Fk X.prog X.w X.K X.mg X.base k g sp ∧ sp [.ref a] H1 Q fun _ _ _ => False)
theorem pe_fldP (he : PE X e ta) (hr : Room (k + 1) X.A) (hb : attributeBase e f X.env (eval e X.env) = eval e X.env) : PE X (.Attribute e f pos) (tFP X k ta f) := by
  refine ⟨fun pins s σ H Q I h => ?_⟩
  refine attr_of hb (thn (he.run pins s σ H _ I h) fun u s1 ⟨x, H1, I1, rx, a, C, dx, fs, ex, ea, c, z⟩ => ?_)
  subst ex
  obtain rfl : u = Value.ref a := rx
  rcases z with ⟨v, n, l, q⟩ | ⟨p, g, sp, hp, F, q⟩
  · exact getattr_ok I1 ea c n l fun u' s2 I2 ru => ⟨v, H1, I2, ru, q⟩
  · exact getpropF I1 ea c hp F hr q
/-! ### len -/
def rLenO (X : Cx) (k : Nat) : List V → Hp → VK → Prop := fun xs H Q => rLenA X.K xs H Q ∨ ∃ a C dx fs g sp, xs = [V.ref a] ∧ H a = some (.ins C dx fs) ∧ PySem.W.findIn X.K (.ref C) "__len__" = some (some (.ref g)) ∧ PySem.W.isFn X.K (.ref g) = true ∧
  Fk X.prog X.w X.K X.mg X.base k g sp ∧ sp [.ref a] H (fun v H2 => ∃ n : Int, v = .int n ∧ 0 ≤ n ∧ n < 4611686018427387904 ∧ Q (.int n) H2) fun _ _ _ => False
theorem call_lenO (hr : Room (k + 1) X.A) : CallR X (.builtin "len") (rLenO X k) := by
  intro pins s σ H xs us Q I r h
  rcases h with h | ⟨a, C, dx, fs, g, sp, rfl, ea, hs, hf, F, q⟩
  · exact call_lenA pins s σ H xs us Q I r h
  · obtain ⟨mA, O, _, _, _, _⟩ := ins_get I.hok ea
    obtain ⟨od, J, _⟩ := O.look
    obtain rfl : us = [Value.ref a] := Vals.ref1 r
    refine Calls.call_function_entry kind_len plain_len entry_len (args_len1 _) ?_
    unfold Builtin.«len»
    refine wpAny_bind (m := oneArg "len" _) (wpAny_pure ?_)
    refine wpAny_bind (m := callSpecial? (.ref a) (Str.ofString "__len__")) (PySem.W.special_fn I.kIn J hs (beq_iff_eq.mp hf) (thn (run_in1 (vs := [.ref a]) F hr I (.cons rfl .nil) q) fun r s' hq => ?_))
    obtain ⟨v, H', I3, rv, n, rfl, n0, n1, q3⟩ := hq
    obtain ⟨t, rfl⟩ : ∃ t, r = Value.int n t := rv
    refine wpAny_bind (wpAny_holding (wpAny_pure ?_))
    refine wpAny_bind (wpAny_letGo ?_)
    show wpAny _ _ (if n < 0 then _ else _) _ _ _
    rw [if_neg (by omega)]
    show wpAny _ _ (if n ≥ 2 ^ 63 then _ else _) _ _ _
    rw [if_neg (by omega)]
    exact wpAny_bind (wpAny_mkInt (wpAny_pure ⟨_, rfl, ⟨.int n, H', I3.tok _, ⟨_, rfl⟩, q3⟩⟩))
/-! ### match -/
/-- the cases, at a text -/
structure PC (X : Cx) (cs : List MatchCase) (t : Str → TS) : Prop where
  run : ∀ (first : Bool) (x : Str) (v : Value) (pins : List (Addr × Obj)) (s : Shared) (σ : L2.St) (H : Hp) (D : Ends), RelV (.str x) v → Inv X pins σ H s → t x D σ H → wpAny (model X.prog X.w) X.A (matchCases cs X.env v first) (SP X pins D) X.xe s
theorem pc_nil : PC X [] fun _ => tNext := ⟨fun first x v pins s σ H D r I h => wpAny_matchCases_nil ⟨σ, H, I, h⟩⟩
theorem pc_cons {c : Str} {cst : Const} {j : Nat} {p1 p2 : Pos} {body : List Stmt} {rest : List MatchCase} {tb : TS} {tr : Str → TS} (hc : PE X (.Constant cst j p1) (tC (.str c))) (hb : PSs X body tb) (hr : PC X rest tr) :
    PC X (⟨.MatchValue (.Constant cst j p1) p2, none, body⟩ :: rest) fun x N σ H => if x = c then tb N σ H else tr x N σ H := by
  refine ⟨fun first x v pins s σ H D r I h => ?_⟩
  refine wpAny_matchCases_cons (wpAny_matchPattern_Value (thn (hc.run pins s σ H (fun y H' => y = .str c ∧ H' = H) I ⟨rfl, rfl⟩) fun u s1 ⟨y, H1, I1, ry, e1, e2⟩ => ?_))
  subst e1 e2
  refine thn (op_eq pins s1 σ H1 (.str x) (.str c) v u (fun z H' => z = .bl (decide (V.str x = V.str c)) ∧ H' = H1) I1 r ry ⟨rfl, rfl, rfl⟩) fun w s2 ⟨z, H2, I2, rz, e3, e4⟩ => ?_
  subst e3 e4
  obtain rfl : w = Value.bool (decide (V.str x = V.str c)) := rz
  refine wpAny_truthy_bool ?_
  by_cases hx : x = c
  · subst hx
    rw [if_pos rfl] at h
    simp only [decide_true, if_true]
    exact wpAny_assignInOrder_none (hb.run pins s2 σ H2 D I2 h)
  · have hn : ¬ V.str x = V.str c := fun z => hx (V.str.inj z)
    rw [if_neg hx] at h
    simp only [decide_eq_false hn, Bool.false_eq_true, if_false]
    exact hr.run false x v pins s2 σ H2 D r I2 h
theorem ps_match {subject : Expr} {cs : List MatchCase} {te : TE} {tc : Str → TS} (he : PE X subject te) (hc : PC X cs tc) : PS X (.Match subject cs pos) (fun N σ H => te σ H fun v H1 => ∃ x, v = .str x ∧ tc x N σ H1) := by
  refine ⟨fun pins s σ H D I h => ?_⟩
  refine wpAny_Match (thn (he.run pins s σ H _ I h) fun u s1 ⟨v, H1, I1, rv, x, ev, q⟩ => ?_)
  subst ev
  exact hc.run true x u pins s1 σ H1 D rv I1 q
end
/-! ### the evaluator's own -/
section
variable {G : Gd} {W : WX} {mo me : Sl → M D}
def getMP (pf : Nat → Bool) (pr : Nat → Option (List D → M D)) (f : Cs) (d : D) : M D := M.bind (M.ins d) fun p => match pr p.2.1 with
  | some g => M.noX (g [d])
  | none => M.when (pf p.2.1) (M.ofOpt (ffind p.2.2 f))
theorem rd_fldP {X : Cx} {k : Nat} {pf : Nat → Bool} {pr : Nat → Option (List D → M D)} {f : Cs} (hK : X.K = G.K) (hp : ∀ c, pf c = true → Cls G.K (G.ca c) ∧ NoAttr G.K (G.ca c) (st f))
    (hq : ∀ c g, pr c = some g → Cls G.K (G.ca c) ∧ ∃ p a, PropOf G.K (G.ca c) (st f) p a ∧ Fk X.prog X.w X.K X.mg X.base k a (spD G g)) (σ : L2.St) (H : Hp) (Q : VK) (h : tD G W (m1 mo (getMP pf pr f)) σ H Q) : tFP X k (tD G W mo) (st f) σ H Q := by
  obtain ⟨ι, σd, s, R, g⟩ := h
  refine ⟨ι, σd, s, R, (Go.bind g).imp fun ι1 H1 d s1 l1 k1 R1 g1 v r1 => ?_⟩
  obtain ⟨a, p, c, fs, dx, qs, rfl, rfl, ep, _, hx, rx, g2⟩ := Go.ins (Go.bind g1) R1 r1
  cases e : pr c with
  | some gf =>
    simp only [e] at g2
    obtain ⟨c1, q1, q2, q3, F⟩ := hq c gf e
    refine ⟨p, G.ca c, dx, qs, rfl, hx, by rw [hK]; exact c1, .inr ⟨q1, q2, spD G gf, by rw [hK]; exact q3, F, ι1, [.ref a], s1, R1, .cons r1 .nil, ?_⟩⟩
    exact wp_mono (Go.noX g2) (fun _ _ z => z) fun _ _ z => z
  | none =>
    simp only [e] at g2
    obtain ⟨hn, g3⟩ := Go.when g2
    obtain ⟨c1, c2⟩ := hp c hn
    obtain ⟨d', e', q⟩ := Go.opt g3 R1
    refine ⟨p, G.ca c, dx, qs, rfl, hx, by rw [hK]; exact c1, .inl ?_⟩
    rcases ffind_rel (f := f) rx with ⟨z, _⟩ | ⟨d2, v2, z1, z2, z3⟩
    · rw [z] at e'; cases e'
    · rw [z1] at e'
      cases e'
      exact ⟨v2, by rw [hK]; exact c2, z2, q v2 z3⟩
/-- len of one of ours -/
def lenOM (n0 : Nat) (ln : Nat → Option (List D → M D)) (xs : List D) : M D := match xs with
  | [.ref a] => M.bind (M.read a) fun
    | .ins c _ => (match ln c with
      | some g => M.bind (M.noX (g [.ref a])) fun
        | .int n => M.when (decide (0 ≤ n) && decide (n < 4611686018427387904)) (M.pure (.int n))
        | _ => M.fail
      | none => M.fail)
    | _ => lenM n0 xs
  | _ => lenM n0 xs
theorem lenOS {X : Cx} {k : Nat} {ln : Nat → Option (List D → M D)} (hK : X.K = G.K) (hq : ∀ c g, ln c = some g → ∃ a, PySem.W.findIn G.K (.ref (G.ca c)) "__len__" = some (some (.ref a)) ∧ PySem.W.isFn G.K (.ref a) = true ∧ Fk X.prog X.w X.K X.mg X.base k a (spD G g)) :
    CallS G (rLenO X k) (lenOM G.ns.length ln) := by
  intro W σ ι s H es vs Q R r g
  have other : Go G W σ ι H (lenM G.ns.length es) s (fun ι' H' z _ => ∀ u, Rp G ι' H' z u → Q u H') → rLenO X k vs H Q := fun z => .inl (by rw [hK]; exact lenS W σ ι s H es vs Q R r z)
  unfold lenOM at g
  split at g
  · rename_i a
    cases r with
    | cons r1 t =>
      cases t
      obtain ⟨p, rfl, ep⟩ := r1.refE
      obtain ⟨o, ho, g1⟩ := Go.read (Go.bind g) R
      have z := R.at ep ho
      cases o with
      | ins c fs =>
        obtain ⟨dx, qs, hx, rx⟩ := z
        dsimp only at g1
        cases e : ln c with
        | none => simp only [e] at g1; exact (Go.fail g1).elim
        | some gf =>
          simp only [e] at g1
          obtain ⟨b, q1, q2, F⟩ := hq c gf e
          refine .inr ⟨p, G.ca c, dx, qs, b, spD G gf, rfl, hx, by rw [hK]; exact q1, by rw [hK]; exact q2, F, ι, [.ref a], s, R, .cons r1 .nil, ?_⟩
          refine wp_mono (Go.noX (Go.bind g1)) (fun d s' q ι' H' l kk R' v rv => ?_) fun _ _ z => z
          have q' := q ι' H' l kk R'
          cases d with
          | int n =>
            cases rv
            obtain ⟨hn, q2⟩ := Go.when q'
            rw [Bool.and_eq_true, decide_eq_true_eq, decide_eq_true_eq] at hn
            exact ⟨n, rfl, hn.1, hn.2, Go.pure q2 R' _ (.int n)⟩
          | _ => exact (Go.fail q').elim
      | lst ds => exact other (by
          have e : lenM G.ns.length [.ref a] s = lenM G.ns.length [.ref a] s := rfl
          exact g1)
      | dct ds => exact other g1
      | dctL ds => exact other g1
      | deal q => exact other g1
      | dealIn => exact other g1
  · exact other g
/-- is None, is True -/
def isM (d e : D) : M D := match e with
  | .non => M.pure (.bl (decide (d = .non)))
  | .bl b => (match d with
    | .bl a => M.pure (.bl (decide (a = b)))
    | _ => M.fail)
  | _ => M.fail
def isNotM (d e : D) : M D := match e with
  | .non => M.pure (.bl (!decide (d = .non)))
  | .bl b => (match d with
    | .bl a => M.pure (.bl (!decide (a = b)))
    | _ => M.fail)
  | _ => M.fail
def rIsA : R2 := fun x y H Q => (y = .non ∧ Q (.bl (decide (x = .non))) H) ∨ ∃ a b : Bool, x = .bl a ∧ y = .bl b ∧ Q (.bl (decide (a = b))) H
def rIsNotA : R2 := fun x y H Q => (y = .non ∧ Q (.bl (!decide (x = .non))) H) ∨ ∃ a b : Bool, x = .bl a ∧ y = .bl b ∧ Q (.bl (!decide (a = b))) H
theorem op_isA {X : Cx} : OpR X (compareOp .Is) rIsA := fun pins s σ H x y v u Q I r1 r2 h => h.elim (op_isN pins s σ H x y v u Q I r1 r2) (op_is_bl pins s σ H x y v u Q I r1 r2)
theorem op_isNot {X : Cx} : OpR X (compareOp .IsNot) (fun x y H Q => y = .non ∧ Q (.bl (!decide (x = .non))) H) := op_notN
theorem op_isNotA {X : Cx} : OpR X (compareOp .IsNot) rIsNotA := fun pins s σ H x y v u Q I r1 r2 h => h.elim (op_isNot pins s σ H x y v u Q I r1 r2) (op_isnot_bl pins s σ H x y v u Q I r1 r2)
theorem isS : OpS G rIsA isM := by
  intro W σ ι s H d e v w Q R r1 r2 g
  cases e with
  | non => cases r2; exact .inl ⟨rfl, by rw [rp_non r1]; exact Go.pure g R _ (.bl _)⟩
  | bl b =>
    cases r2
    cases d with
    | bl a => cases r1; exact .inr ⟨a, b, rfl, rfl, Go.pure g R _ (.bl _)⟩
    | _ => exact (Go.fail g).elim
  | _ => exact (Go.fail g).elim
theorem isNotS : OpS G rIsNotA isNotM := by
  intro W σ ι s H d e v w Q R r1 r2 g
  cases e with
  | non => cases r2; exact .inl ⟨rfl, by rw [rp_non r1]; exact Go.pure g R _ (.bl _)⟩
  | bl b =>
    cases r2
    cases d with
    | bl a => cases r1; exact .inr ⟨a, b, rfl, rfl, Go.pure g R _ (.bl _)⟩
    | _ => exact (Go.fail g).elim
  | _ => exact (Go.fail g).elim
/-- match over texts -/
def gCases (x : Cs) : List Cs → List (Sl → M Fl) → Sl → M Fl
  | c :: cs, b :: bs => fun σ => if x = c then b σ else gCases x cs bs σ
  | _, _ => gNext
def gMatch (me : Sl → M D) (cs : List Cs) (bs : List (Sl → M Fl)) : Sl → M Fl := fun σ => M.inS σ (me σ) fun
  | .str x => gCases x cs bs σ
  | _ => M.fail
/-- the readings of cases -/
def tCases (G : Gd) (W : WX) : List Cs → List (Sl → M Fl) → Str → TS
  | c :: cs, b :: bs => fun x N σ H => if x = st c then tSD G W b N σ H else tCases G W cs bs x N σ H
  | _, _ => fun _ => tNext
theorem rd_cases {x : Cs} {N : Ends} {σ : L2.St} {H : Hp} : ∀ (cs : List Cs) (bs : List (Sl → M Fl)), tSD G W (gCases x cs bs) N σ H → tCases G W cs bs (st x) N σ H
  | [], _, h => rd_next N σ H h
  | _ :: _, [], h => rd_next N σ H h
  | c :: cs, b :: bs, h => by
    obtain ⟨ι, σd, s, R, w⟩ := h
    unfold tCases
    by_cases e : x = c
    · subst e
      rw [if_pos rfl]
      have w' : wp (if x = x then b σd else gCases x cs bs σd) s (FlOk G W N ι H) (fun _ _ => False) := w
      rw [if_pos rfl] at w'
      exact ⟨ι, σd, s, R, w'⟩
    · rw [if_neg fun z => e (st_inj z)]
      have w' : wp (if x = c then b σd else gCases x cs bs σd) s (FlOk G W N ι H) (fun _ _ => False) := w
      rw [if_neg e] at w'
      exact rd_cases cs bs ⟨ι, σd, s, R, w'⟩
theorem rd_match {cs : List Cs} {bs : List (Sl → M Fl)} (N : Ends) (σ : L2.St) (H : Hp) (h : tSD G W (gMatch me cs bs) N σ H) : tD G W me σ H fun v H1 => ∃ x, v = .str x ∧ tCases G W cs bs x N σ H1 := by
  obtain ⟨ι, σd, s, R, w⟩ := h
  refine ⟨ι, σd, s, R, (go_inS R w).imp fun ι1 H1 d s1 l1 k1 R1 g1 v r1 => ?_⟩
  cases d with
  | str x =>
    obtain ⟨rfl, _⟩ := r1.strE
    exact ⟨_, rfl, rd_cases cs bs ⟨ι1, σd, s1, R.on l1 k1 R1, g1⟩⟩
  | _ => exact g1.elim
end
end Ev

/-! EwQ: == and != by an own __eq__, str by an own __str__. -/
namespace Ev
open PySem PySem.Spec PyProof.Rows L2
section
variable {X : Cx} {k : Nat} {g : Addr} {sp : Sp}
/-- a call, nothing is raised -/
theorem run_fk0 {pins : List (Addr × Obj)} {σ : L2.St} {H : Hp} {s : Shared} {Q : VK} {us : List Value} {vs : List V} {E' : Value → Shared → Prop} (F : Fk X.prog X.w X.K X.mg X.base k g sp) (hr : Room k X.A) (I : Inv X pins σ H s) (r : Vals vs us) (h : sp vs H Q fun _ _ _ => False) :
    wpAny (model X.prog X.w) X.A (call (.ref g) us) (EP X pins σ Q) E' s := by
  refine wpAny_call (codeAny_mono (F.run X.A X.stack s H us vs Q (fun _ _ _ => False) hr I.env0 r h) fun r s' hq => ?_)
  cases r with
  | error er =>
    obtain ⟨_, _, _, _, _, _, _, _, _, _, _, _, z⟩ := hq
    exact z.elim
  | ok fl =>
    cases fl with
    | ret u => exact I.after hq
    | next => exact False.elim hq
    | brk => exact False.elim hq
    | cont => exact False.elim hq
theorem run_in2 {pins : List (Addr × Obj)} {σ : L2.St} {H : Hp} {s : Shared} {Q : VK} {us : List Value} {vs : List V} {E' : Value → Shared → Prop} (F : Fk X.prog X.w X.K X.mg X.base k g sp) (hr : Room (k + 2) X.A) (I : Inv X pins σ H s) (r : Vals vs us) (h : sp vs H Q fun _ _ _ => False) :
    wpAny (model X.prog X.w) X.A.in1.in1 (call (.ref g) us) (EP X pins σ Q) E' s := by
  refine wpAny_call (codeAny_mono (F.run X.A.in1.in1 X.stack s H us vs Q (fun _ _ _ => False) hr.in1.in1 I.env0.in1.in1 r h) fun r s' hq => ?_)
  cases r with
  | error er =>
    obtain ⟨_, _, _, _, _, _, _, _, _, _, _, _, z⟩ := hq
    exact z.elim
  | ok fl =>
    cases fl with
    | ret u => exact I.after hq
    | next => exact False.elim hq
    | brk => exact False.elim hq
    | cont => exact False.elim hq
/-- two instances, the first one's own == -/
def EqOwn (X : Cx) (k : Nat) (x y : V) (H : Hp) (Q : VK) : Prop := ∃ a b C C' dx fs dy gs g sp, x = .ref a ∧ y = .ref b ∧ H a = some (.ins C dx fs) ∧ H b = some (.ins C' dy gs) ∧ PySem.W.notFirst X.K C (.ref C') = true ∧
  PySem.W.findIn X.K (.ref C) "__eq__" = some (some (.ref g)) ∧ PySem.W.isFn X.K (.ref g) = true ∧ Fk X.prog X.w X.K X.mg X.base k g sp ∧ sp [.ref a, .ref b] H Q fun _ _ _ => False
def rEqO (X : Cx) (k : Nat) : R2 := fun x y H Q => EqOwn X k x y H fun v H' => ∃ b, v = .bl b ∧ Q (.bl b) H'
theorem op_eqO (hr : Room (k + 1) X.A) : OpR X (compareOp .Eq) (rEqO X k) := by
  intro pins s σ H x y v u Q I rx ry h
  obtain ⟨a, b, C, C', dx, fs, dy, gs, g, sp, rfl, rfl, ha, hb, hn, hs, hf, F, q⟩ := h
  cases rx
  cases ry
  obtain ⟨mA, J, _⟩ := ins_get I.hok ha
  obtain ⟨mB, J', _⟩ := ins_get I.hok hb
  obtain ⟨od, J, _⟩ := J.look
  obtain ⟨od', J', _⟩ := J'.look
  obtain ⟨m, hF⟩ := I.fr
  show wpAny (model X.prog X.w) X.A (richCompare .Eq (.ref a) (.ref b)) (EP X pins σ Q) X.xe s
  refine PySem.W.cmp_K (op := .Eq) (tb := .ref C') hr.units0 hF I.ok.mod.kin J J'.type hn hs hf ?_
  refine thn (run_fk0 (vs := [.ref a, .ref b]) F (hr.mono (Nat.le_succ _)) I (.cons rfl (.cons rfl .nil)) q) fun r s' hq => ?_
  obtain ⟨v, H', I', rv, bb, rfl, q'⟩ := hq
  obtain rfl : r = Value.bool bb := rv
  exact ⟨.bl bb, H', I', rfl, q'⟩
theorem ifBound_objNe {M : Model} {A : Around} {E : Value → Shared → Prop} {s : Shared} {K : PySem.W.Frag} {x C : Addr} {ox : Obj} {od : Option Obj} {args : List Value} {Q : Option Value → Shared → Prop} (X : K.In s.heap) (I : PySem.W.InstAt s.heap x ox C od) (hs : PySem.W.findIn K (.ref C) "__ne__" = some (some (.builtin "object.__ne__")))
    (h : wpAny M A (call (.builtin "object.__ne__") (.ref x :: args)) (fun v => Q (some v)) E s) : wpAny M A (callSpecialIfBound? (.ref x) "__ne__" args) Q E s := by
  simp only [callSpecialIfBound?, bindSpecialIfBound?]
  refine wpAny_holding (wpAny_bind (wpAny_bind (wpAny_bind (I.type.here ((PySem.W.looks_findIn X hs).here ?_)))))
  refine wpAny_bind (wpAny_askSetting (wpAny_ite ?_))
  have fin : wpAny M A (call (.builtin "object.__ne__") ([.ref x] ++ args) >>= fun v => pure (some v)) Q E s := wpAny_bind (wpAny_mono h (fun v s' h' => wpAny_pure h') fun _ _ h' => h')
  split
  · exact wpAny_bind (wpAny_of_eq (PySem.F.cmp_object.ne.bind _) (wpAny_pure (by exact fin)))
  · exact wpAny_tryCatch (wpAny_bind (wpAny_of_eq (PySem.F.cmp_object.ne.bind _) (wpAny_pure (by exact fin))))
theorem ne_entry {prog : Program} {w : World} {A : Around} {E : Value → Shared → Prop} {s : Shared} {K : PySem.W.Frag} {x y C f : Addr} {ox : Obj} {od : Option Obj} {Q : Fin → Shared → Prop} (X : K.In s.heap) (I : PySem.W.InstAt s.heap x ox C od)
    (hs : PySem.W.findIn K (.ref C) "__eq__" = some (some (.ref f))) (hf : PySem.W.isFn K (.ref f) = true) (hu : A.units < cLine)
    (hcall : wpAny (model prog w) A (call (.ref f) [.ref x, .ref y]) (fun v s' => ∃ b, v = .bool b ∧ Q (.done (.ret (.bool (!b)))) s') E s) :
    wpAny (model prog w) A (Builtin.«object.__ne__» ⟨[.ref x, .ref y], []⟩) Q E s := by
  unfold Builtin.«object.__ne__»
  repeat (first
    | with_reducible refine wpAny_cRoomFor hu ?_
    | (refine wpAny_bind (m := callSpecialIfBound? (.ref x) (Str.ofString "__eq__") [.ref y])
        (PySem.W.ifBound_K X I hs hf (wpAny_mono hcall (fun r s' hr => by
          obtain ⟨b, rfl, hq⟩ := hr
          repeat (first | exact hq | exact wpAny_pure hq | exact wpAny_truthy_bool hq | (refine wpAny_bind (m := truthy (.bool _)) (wpAny_truthy_bool ?_)) | wp_step)) fun _ _ e => e)))
    | wp_step)
def rNeO (X : Cx) (k : Nat) : R2 := fun x y H Q => EqOwn X k x y H (fun v H' => ∃ b, v = .bl b ∧ Q (.bl (!b)) H') ∧ ∀ a C dx fs, x = .ref a → H a = some (.ins C dx fs) → PySem.W.findIn X.K (.ref C) "__ne__" = some (some (.builtin "object.__ne__")) ∧ PySem.W.mroIn X.K C (.type "object") = some true
theorem op_neO (hr : Room (k + 1) X.A) : OpR X (compareOp .NotEq) (rNeO X k) := by
  intro pins s σ H x y v u Q I rx ry h
  obtain ⟨⟨a, b, C, C', dx, fs, dy, gs, g, sp, rfl, rfl, ha, hb, hn, hs, hf, F, q⟩, hne⟩ := h
  obtain ⟨hs', hm⟩ := hne a C dx fs rfl ha
  cases rx
  cases ry
  obtain ⟨mA, J, _⟩ := ins_get I.hok ha
  obtain ⟨mB, J', _⟩ := ins_get I.hok hb
  obtain ⟨od, J, _⟩ := J.look
  obtain ⟨od', J', _⟩ := J'.look
  show wpAny (model X.prog X.w) X.A (richCompare .NotEq (.ref a) (.ref b)) (EP X pins σ Q) X.xe s
  have one : wpAny (model X.prog X.w) X.A (tryCompare (.ref a) "__ne__" (.ref b)) (fun r s' => ∃ v, r = some v ∧ EP X pins σ Q v s') X.xe s := by
    unfold tryCompare
    refine wpAny_bind (ifBound_objNe I.kIn J hs' (wpAny_call (codeAny_call_builtin PySem.F.cmp_object.ne.plain PySem.F.cmpEntry_ne (PySem.W.check_slot PySem.F.cmpKind_ne PySem.F.cmpSplit_ne (J.type.andThen (PySem.W.looks_mroIn I.kIn hm)) (PySem.F.cmpArgs_ne _ _)
      (ne_entry (A := X.A.in1) I.kIn J hs hf hr.in1.units0 (thn (run_in1 (vs := [.ref a, .ref b]) F hr I (.cons rfl (.cons rfl .nil)) q) fun r s' hq => ?_))))))
    obtain ⟨v, H', I', rv, bb, rfl, q'⟩ := hq
    obtain rfl : r = Value.bool bb := rv
    exact ⟨bb, rfl, wpAny_pure ⟨_, rfl, .bl (!bb), H', I', rfl, q'⟩⟩
  unfold richCompare
  simp only [oneThing_ref]
  refine wpAny_holding (wpAny_bind (wpAny_cRoomFor hr.units0 ?_))
  rw [cmpInfo_NotEq]
  refine wpAny_bind (J.type.here (wpAny_bind (J'.type.here ?_)))
  split
  · rename_i q
    have e : PySem.W.subIn X.K (.ref C') (.ref C) = some false := by
      rcases Bool.or_eq_true_iff.mp hn with e | e
      · rw [beq_iff_eq.mp e] at q; simp at q
      · exact beq_iff_eq.mp e
    refine wpAny_bind ((PySem.W.looks_subIn I.kIn e).here ?_)
    simp only [Bool.false_eq_true, if_false]
    refine wpAny_bind (wpAny_mono one (fun r s' z => ?_) fun _ _ e => e)
    obtain ⟨v, rfl, hq⟩ := z
    exact wpAny_pure hq
  · refine wpAny_bind (wpAny_pure ?_)
    simp only [Bool.false_eq_true, if_false]
    refine wpAny_bind (wpAny_mono one (fun r s' z => ?_) fun _ _ e => e)
    obtain ⟨v, rfl, hq⟩ := z
    exact wpAny_pure hq
/-- str of an own thing -/
def rStrO (X : Cx) (k : Nat) : List V → Hp → VK → Prop := fun xs H Q => rStrA xs H Q ∨ ∃ a C dx fs g sp, xs = [V.ref a] ∧ H a = some (.ins C dx fs) ∧ PySem.W.findIn X.K (.ref C) "__str__" = some (some (.ref g)) ∧ PySem.W.isFn X.K (.ref g) = true ∧
  Fk X.prog X.w X.K X.mg X.base k g sp ∧ sp [.ref a] H (fun v H2 => ∃ t, v = .str t ∧ Q (.str t) H2) fun _ _ _ => False
theorem call_strO (hr : Room (k + 2) X.A) : CallR X (.type "str") (rStrO X k) := by
  intro pins s σ H xs us Q I r h
  rcases h with h | ⟨a, C, dx, fs, g, sp, rfl, ea, hs, hf, F, q⟩
  · exact call_strA pins s σ H xs us Q I r h
  · obtain ⟨mA, O, _, _, _, _⟩ := ins_get I.hok ea
    obtain ⟨od, J, _⟩ := O.look
    obtain rfl : us = [Value.ref a] := Vals.ref1 r
    refine callType_newIn PySem.F.called_str (by decide) (PySem.F.typeCall_str_1 _) (PySem.F.newCall_str_1 _) (fun obj => PySem.F.args_object_init_2 obj _) PySem.F.entry_str_new
      (S := fun A R s0 => A = X.A.in1 ∧ s0 = s ∧ ∀ v s', (∃ t tk, v = Value.str t tk ∧ EP X pins σ Q v s') → R (.ok (.ret v)) s') (.of_wp fun A R s0 hh => ?_) ⟨rfl, rfl, fun v s' hv => ?_⟩
    · obtain ⟨rfl, rfl, hR⟩ := hh
      rw [str_new_tree]
      refine wpAny_bind (wpAny_pure ?_)
      refine wpAny_bind (wpAny_of_eq isSubtype_str_str ?_)
      refine wpAny_bind (m := PySem.Builtin.Str.strOf (.ref a)) ?_
      unfold PySem.Builtin.Str.strOf
      have hx : PySem.Builtin.Str.isExactStr (.ref a) = false := rfl
      rw [hx]
      simp only [Bool.false_eq_true, if_false]
      refine wpAny_bind (wpAny_cRoomFor hr.in1.in1.units0 ?_)
      refine wpAny_bind (m := callSpecial? (.ref a) (Str.ofString "__str__")) (PySem.W.special_fn I.kIn J hs (beq_iff_eq.mp hf) (thn (run_in2 (vs := [.ref a]) F hr I (.cons rfl .nil) q) fun r s' hq => ?_))
      obtain ⟨v, H', I3, rv, t, rfl, q3⟩ := hq
      obtain ⟨tk, rfl⟩ : ∃ tk, r = Value.str t tk := rv
      refine wpAny_bind (wpAny_of_eq (show PySem.asStr? (.str t tk) = pure (some t) from rfl) ?_)
      simp only [Option.isNone_some, Bool.false_eq_true, if_false]
      refine wpAny_bind (wpAny_pure (wpAny_pure ?_))
      exact wpAny_pure ⟨_, rfl, hR _ _ ⟨t, tk, rfl, .str t, H', I3, ⟨tk, rfl⟩, q3⟩⟩
    · obtain ⟨t, tk, rfl, hq⟩ := hv
      exact ⟨typeIs_str _ _ _, hq⟩
end
/-! ### the evaluator's own -/
section
variable {G : Gd}
/-- ==, != of two of ours -/
def cmpOM (ne : Bool) (eqf : Nat → Nat → Option (List D → M D)) (other : D → D → M D) (d e : D) : M D := fun s => match d, e with
  | .ref a, .ref b => (match s.get a, s.get b with
    | some (.ins c _), some (.ins c' _) => (match eqf c c' with
      | some g => M.bind (M.noX (g [d, e])) (fun
        | .bl b => M.pure (.bl (if ne then !b else b))
        | _ => M.fail) s
      | none => other d e s)
    | _, _ => other d e s)
  | _, _ => other d e s
theorem OpR.or {X : Cx} {f : Value → Value → Sem Value} {r r' : R2} (h : OpR X f r) (h' : OpR X f r') : OpR X f fun x y H Q => r x y H Q ∨ r' x y H Q :=
  fun pins s σ H x y v u Q I rx ry q => q.elim (h pins s σ H x y v u Q I rx ry) (h' pins s σ H x y v u Q I rx ry)
/-- what is wanted of an own == -/
def EqfOk (X : Cx) (G : Gd) (k : Nat) (eqf : Nat → Nat → Option (List D → M D)) : Prop := ∀ c c' g, eqf c c' = some g → PySem.W.notFirst G.K (G.ca c) (.ref (G.ca c')) = true ∧ PySem.W.findIn G.K (.ref (G.ca c)) "__ne__" = some (some (.builtin "object.__ne__")) ∧ PySem.W.mroIn G.K (G.ca c) (.type "object") = some true ∧
  ∃ a, PySem.W.findIn G.K (.ref (G.ca c)) "__eq__" = some (some (.ref a)) ∧ PySem.W.isFn G.K (.ref a) = true ∧ Fk X.prog X.w X.K X.mg X.base k a (spD G g)
theorem cmpO_own {X : Cx} {k : Nat} {eqf : Nat → Nat → Option (List D → M D)} {ne : Bool} {other : D → D → M D} (hK : X.K = G.K) (hq : EqfOk X G k eqf) {W : WX} {σ : L2.St} {ι : Iota} {s : S} {H : Hp} {d e : D} {v w : V} {Q : VK} (R : RelH G ι s H) (r1 : Rp G ι H d v) (r2 : Rp G ι H e w)
    (g : Go G W σ ι H (cmpOM ne eqf other d e) s (fun ι' H' z _ => ∀ u, Rp G ι' H' z u → Q u H')) :
    Go G W σ ι H (other d e) s (fun ι' H' z _ => ∀ u, Rp G ι' H' z u → Q u H') ∨
    (EqOwn X k v w H (fun z H' => ∃ b, z = .bl b ∧ Q (.bl (if ne then !b else b)) H') ∧ ∀ a C dx fs, v = .ref a → H a = some (.ins C dx fs) → PySem.W.findIn X.K (.ref C) "__ne__" = some (some (.builtin "object.__ne__")) ∧ PySem.W.mroIn X.K C (.type "object") = some true) := by
  have un : cmpOM ne eqf other d e s = other d e s → Go G W σ ι H (other d e) s (fun ι' H' z _ => ∀ u, Rp G ι' H' z u → Q u H') := fun z => by
    unfold Go wp at g ⊢
    rw [z] at g
    exact g
  cases d with
  | ref a =>
    cases e with
    | ref b =>
      cases ha : s.get a with
      | none => exact .inl (un (by simp only [cmpOM, ha]))
      | some oa =>
        cases hb : s.get b with
        | none => exact .inl (un (by cases oa <;> simp only [cmpOM, ha, hb]))
        | some ob =>
          cases oa with
          | ins c fs =>
            cases ob with
            | ins c' fs' =>
              cases he : eqf c c' with
              | none => exact .inl (un (by simp only [cmpOM, ha, hb, he]))
              | some gf =>
                obtain ⟨n1, n2, n3, f, n4, n5, F⟩ := hq c c' gf he
                obtain ⟨p, rfl, ep⟩ := r1.refE
                obtain ⟨p', rfl, ep'⟩ := r2.refE
                obtain ⟨dx, qs, hx, rx⟩ := R.at ep ha
                obtain ⟨dx', qs', hx', rx'⟩ := R.at ep' hb
                refine .inr ⟨⟨p, p', G.ca c, G.ca c', dx, qs, dx', qs', f, spD G gf, rfl, rfl, hx, hx', by rw [hK]; exact n1, by rw [hK]; exact n4, by rw [hK]; exact n5, F, ι, [.ref a, .ref b], s, R, .cons r1 (.cons r2 .nil), ?_⟩, fun a0 C0 dx0 fs0 e0 h0 => ?_⟩
                · have g2 : Go G W σ ι H (M.bind (M.noX (gf [.ref a, .ref b])) (fun
                    | .bl b => M.pure (.bl (if ne then !b else b))
                    | _ => M.fail)) s (fun ι' H' z _ => ∀ u, Rp G ι' H' z u → Q u H') := by
                    unfold Go wp at g ⊢
                    simp only [cmpOM, ha, hb, he] at g
                    exact g
                  refine wp_mono (Go.noX (Go.bind g2)) (fun z s' q ι' H' l kk R' u ru => ?_) fun _ _ z => z
                  have q' := q ι' H' l kk R'
                  cases z with
                  | bl bb => cases ru; exact ⟨bb, rfl, Go.pure q' R' _ (.bl _)⟩
                  | _ => exact (Go.fail q').elim
                · cases e0
                  rw [hx] at h0
                  cases h0
                  rw [hK]
                  exact ⟨n2, n3⟩
            | _ => exact .inl (un (by simp only [cmpOM, ha, hb]))
          | _ => exact .inl (un (by cases ob <;> simp only [cmpOM, ha, hb]))
    | _ => exact .inl (un rfl)
  | _ => exact .inl (un (by cases e <;> rfl))
theorem eqOS {X : Cx} {k : Nat} {eqf : Nat → Nat → Option (List D → M D)} {r : R2} (hK : X.K = G.K) (hq : EqfOk X G k eqf) (ho : OpS G r eqM) : OpS G (fun x y H Q => r x y H Q ∨ rEqO X k x y H Q) (cmpOM false eqf eqM) := by
  intro W σ ι s H d e v w Q R r1 r2 g
  rcases cmpO_own hK hq R r1 r2 g with z | ⟨z, _⟩
  · exact .inl (ho W σ ι s H d e v w Q R r1 r2 z)
  · exact .inr z
theorem neOS {X : Cx} {k : Nat} {eqf : Nat → Nat → Option (List D → M D)} {r : R2} (hK : X.K = G.K) (hq : EqfOk X G k eqf) (ho : OpS G r neM) : OpS G (fun x y H Q => r x y H Q ∨ rNeO X k x y H Q) (cmpOM true eqf neM) := by
  intro W σ ι s H d e v w Q R r1 r2 g
  rcases cmpO_own hK hq R r1 r2 g with z | z
  · exact .inl (ho W σ ι s H d e v w Q R r1 r2 z)
  · exact .inr z
/-- str of one of ours -/
def strOM (sf : Nat → Option (List D → M D)) (xs : List D) : M D := match xs with
  | [.ref a] => M.bind (M.read a) fun
    | .ins c _ => (match sf c with
      | some g => M.bind (M.noX (g [.ref a])) fun
        | .str t => M.pure (.str t)
        | _ => M.fail
      | none => M.fail)
    | _ => M.fail
  | _ => strM xs
theorem strOS {X : Cx} {k : Nat} {sf : Nat → Option (List D → M D)} (hK : X.K = G.K) (hq : ∀ c g, sf c = some g → ∃ a, PySem.W.findIn G.K (.ref (G.ca c)) "__str__" = some (some (.ref a)) ∧ PySem.W.isFn G.K (.ref a) = true ∧ Fk X.prog X.w X.K X.mg X.base k a (spD G g)) :
    CallS G (rStrO X k) (strOM sf) := by
  intro W σ ι s H es vs Q R r g
  unfold strOM at g
  split at g
  · rename_i a
    cases r with
    | cons r1 t =>
      cases t
      obtain ⟨p, rfl, ep⟩ := r1.refE
      obtain ⟨o, ho, g1⟩ := Go.read (Go.bind g) R
      have z := R.at ep ho
      cases o with
      | ins c fs =>
        obtain ⟨dx, qs, hx, rx⟩ := z
        dsimp only at g1
        cases e : sf c with
        | none => simp only [e] at g1; exact (Go.fail g1).elim
        | some gf =>
          simp only [e] at g1
          obtain ⟨b, q1, q2, F⟩ := hq c gf e
          refine .inr ⟨p, G.ca c, dx, qs, b, spD G gf, rfl, hx, by rw [hK]; exact q1, by rw [hK]; exact q2, F, ι, [.ref a], s, R, .cons r1 .nil, ?_⟩
          refine wp_mono (Go.noX (Go.bind g1)) (fun d s' q ι' H' l kk R' v rv => ?_) fun _ _ z => z
          have q' := q ι' H' l kk R'
          cases d with
          | str x =>
            obtain ⟨rfl, tx⟩ := rv.strE
            exact ⟨_, rfl, Go.pure q' R' _ rv⟩
          | _ => exact (Go.fail q').elim
      | _ => exact (Go.fail g1).elim
  · exact .inl (strS W σ ι s H es vs Q R r g)
end
end Ev

/-! EwR: own[i], own + own, x[::-1] of tuples too. -/
namespace Ev
open PySem PySem.Spec PyProof.Rows L2
section
variable {X : Cx} {k : Nat} {a b : Expr} {ta tb : TE} {pos : Pos}
/-- a subscript by values, of ours too -/
def IxR2 (X : Cx) (r : R2) : Prop :=
  ∀ (value slice : Expr) (pins : List (Addr × Obj)) (s : Shared) (σ : L2.St) (H : Hp) (x y : V) (v u : Value) (Q : VK), Inv X pins σ H s → RelV x v → RelV y u → r x y H Q →
    subscripted slice false v u = operate [v, u] (getItem v u) → subscripted slice true v u = runValue (.builtin "lifetime.subscript" ⟨[v, u], []⟩) → wpAny (model X.prog X.w) X.A (subscriptTail value slice v u) (EP X pins σ Q) X.xe s
theorem IxR2.of {r r' : R2} (h : IxR X r) (h' : IxR2 X r') : IxR2 X (fun x y H Q => r x y H Q ∨ r' x y H Q) := by
  intro value slice pins s σ H x y v u Q I rx ry q hs hs'
  rcases q with q | q
  · exact h value slice pins s σ H x y v u Q I rx ry q hs
  · exact h' value slice pins s σ H x y v u Q I rx ry q hs hs'
theorem pe_ix2 {r : R2} (hr : IxR2 X r) (ha : PE X a ta) (hb : PE X b tb) (hs : PlainIx b) (hs' : ∀ o i, subscripted b true o i = runValue (.builtin "lifetime.subscript" ⟨[o, i], []⟩)) : PE X (.Subscript a b pos) (tOp r ta tb) := by
  refine ⟨fun pins s σ H Q I h => ?_⟩
  exact Subscript_ (binT ha hb I h fun v u s2 x y H2 I2 rx ry q => hr a b pins s2 σ H2 x y v u Q I2 rx ry q (hs _ _) (hs' _ _))
def rIxO (X : Cx) (k : Nat) : R2 := fun x y H Q => ∃ a C dx fs g sp, x = .ref a ∧ H a = some (.ins C dx fs) ∧ PySem.W.findIn X.K (.ref C) "__getitem__" = some (some (.ref g)) ∧ PySem.W.fnIn X.K g = true ∧ PySem.W.isFn X.K (.ref g) = true ∧
  Fk X.prog X.w X.K X.mg X.base k g sp ∧ sp [.ref a, y] H Q fun _ _ _ => False
theorem ix_own (hr : Room (k + 1) X.A) : IxR2 X (rIxO X k) := by
  intro value slice pins s σ H x y v u Q I rx ry h hs hs'
  obtain ⟨a, C, dx, fs, g, sp, rfl, ha, h1, h2, h3, F, q⟩ := h
  cases rx
  obtain ⟨mA, J, _⟩ := ins_get I.hok ha
  obtain ⟨od, J, _⟩ := J.look
  obtain ⟨m, hF⟩ := I.fr
  exact PySem.W.sub_K hF I.ok.mod.kin J h1 h2 h3 (run_in1 (vs := [.ref a, y]) F hr I (.cons rfl (.cons ry .nil)) q) hs'
/-- two of one class, its own + -/
def rAddO (X : Cx) (k : Nat) : R2 := fun x y H Q => ∃ a b C dx fs dy gs g sp, x = .ref a ∧ y = .ref b ∧ H a = some (.ins C dx fs) ∧ H b = some (.ins C dy gs) ∧ PySem.W.selfFirst X.K C = true ∧
  PySem.W.findIn X.K (.ref C) "__add__" = some (some (.ref g)) ∧ PySem.W.isFn X.K (.ref g) = true ∧ Fk X.prog X.w X.K X.mg X.base k g sp ∧ sp [.ref a, .ref b] H (fun v H' => ∃ c, v = .ref c ∧ Q (.ref c) H') fun _ _ _ => False
theorem op_addO (hr : Room k X.A) : OpR X (binaryOp .Add) (rAddO X k) := by
  intro pins s σ H x y v u Q I rx ry h
  obtain ⟨a, b, C, dx, fs, dy, gs, g, sp, rfl, rfl, ha, hb, hc, hs, hf, F, q⟩ := h
  cases rx
  cases ry
  obtain ⟨mA, J, _⟩ := ins_get I.hok ha
  obtain ⟨mB, J', _⟩ := ins_get I.hok hb
  obtain ⟨od, J, _⟩ := J.look
  obtain ⟨od', J', _⟩ := J'.look
  obtain ⟨m, hF⟩ := I.fr
  refine PySem.W.binop_K (op := .Add) hF I.ok.mod.kin J J'.type hc hs hf ?_
  refine thn (run_fk0 (vs := [.ref a, .ref b]) F hr I (.cons rfl (.cons rfl .nil)) q) fun r s' hq => ?_
  obtain ⟨v, H', I', rv, c, rfl, q'⟩ := hq
  cases rv
  exact ⟨.ref c, H', I', rfl, q'⟩
end
/-! ### x += y, without an own += -/
def mro2 (K : PySem.W.Frag) (C : Addr) : Bool := match PySem.W.clsIn K C with
  | some cd => (match cd.mro with
    | [.ref D, .type n] => decide (D = C) && (n == "object")
    | _ => false)
  | none => false
theorem noI_object : typeLookup (.type "object") (dunderI "add") = pure none := by rw [typeLookup_type, builtinLookup_eq_fast]; kernel_rfl
theorem fillsI_none {M : Model} {h : Heap} {K : PySem.W.Frag} {C : Addr} (X : K.In h) (hc : mro2 K C = true) (hs : PySem.W.findIn K (.ref C) (dunderI "add") = some none) : PySem.W.Looks M h (fillsInplaceSlot (.ref C) "add" true) false := by
  unfold mro2 at hc
  split at hc
  · rename_i cd hcd
    split at hc
    · rename_i D n hm
      simp only [Bool.and_eq_true, decide_eq_true_eq, beq_iff_eq] at hc
      obtain ⟨rfl, rfl⟩ := hc
      intro A Q E s k q
      unfold fillsInplaceSlot
      refine wpAny_bind ((PySem.W.looks_clsIn X hcd).andThen (f := fun cd => pure cd.mro) .now A _ E s k ?_)
      rw [hm, List.anyM_cons]
      refine wpAny_bind (wpAny_bind ((PySem.W.looks_findIn X hs) A _ E s k ?_))
      refine wpAny_pure ?_
      rw [List.anyM_cons]
      refine wpAny_bind (wpAny_bind (wpAny_of_eq noI_object ?_))
      refine wpAny_pure ?_
      exact wpAny_pure q
    · cases hc
  · cases hc
section
variable {X : Cx} {k : Nat}
def rIAddO (X : Cx) (k : Nat) : R2 := fun x y H Q => ∃ a b C dx fs dy gs g sp, x = .ref a ∧ y = .ref b ∧ H a = some (.ins C dx fs) ∧ H b = some (.ins C dy gs) ∧ PySem.W.selfFirst X.K C = true ∧ mro2 X.K C = true ∧ PySem.W.findIn X.K (.ref C) (dunderI "add") = some none ∧
  PySem.W.findIn X.K (.ref C) "__add__" = some (some (.ref g)) ∧ PySem.W.isFn X.K (.ref g) = true ∧ Fk X.prog X.w X.K X.mg X.base k g sp ∧ sp [.ref a, .ref b] H (fun v H' => ∃ c, v = .ref c ∧ Q (.ref c) H') fun _ _ _ => False
theorem op_iaddO (hr : Room k X.A) : OpR X (inplaceOp .Add) (rIAddO X k) := by
  intro pins s σ H x y v u Q I rx ry h
  obtain ⟨a, b, C, dx, fs, dy, gs, g, sp, rfl, rfl, ha, hb, hc, h2, hi, hs, hf, F, q⟩ := h
  cases rx
  cases ry
  obtain ⟨mA, J, _⟩ := ins_get I.hok ha
  obtain ⟨mB, J', _⟩ := ins_get I.hok hb
  obtain ⟨od, J, _⟩ := J.look
  obtain ⟨od', J', _⟩ := J'.look
  obtain ⟨cd, hcd, hm⟩ := PySem.W.any_some hc
  obtain ⟨rest, hm⟩ : ∃ rest, cd.mro = .ref C :: rest := by
    cases q : cd.mro with
    | nil => rw [q] at hm; cases hm
    | cons a r => rw [q] at hm; exact ⟨r, by rw [List.head?_cons] at hm; cases (beq_iff_eq.mp hm); rfl⟩
  unfold inplaceOp
  refine wpAny_holding (wpAny_bind (J.type.here (wpAny_bind ((fillsI_none I.kIn h2 hi).here ?_))))
  simp only [Bool.false_eq_true, if_false]
  refine wpAny_bind ?_
  unfold binaryOp1
  refine wpAny_bind (J.type.here (wpAny_bind (J'.type.here (wpAny_bind ((PySem.W.fills_K (nm := "add") I.kIn hcd hm (show PySem.W.findIn X.K (.ref C) (PySem.dunder "add") = _ from hs)).here ?_)))))
  simp only [beq_self_eq_true, if_true]
  refine wpAny_bind (wpAny_pure ?_)
  simp only [Bool.and_false, Bool.false_eq_true, if_false, Bool.false_and]
  refine wpAny_bind (wpAny_pure ?_)
  simp only [Bool.false_eq_true, if_false]
  refine wpAny_bind (m := tryMethod (.ref a) _ (.ref b)) ?_
  unfold tryMethod
  refine wpAny_bind (PySem.W.special_fn I.kIn J hs (beq_iff_eq.mp hf) (thn (run_fk0 (vs := [.ref a, .ref b]) F hr I (.cons rfl (.cons rfl .nil)) q) fun r s' hq => ?_))
  obtain ⟨v, H', I', rv, c, rfl, q'⟩ := hq
  cases rv
  exact wpAny_pure (wpAny_pure (wpAny_pure ⟨.ref c, H', I', rfl, q'⟩))
end
/-! ### t[::-1] -/
section
variable {prog : Program} {w : World} {A : Around} {E : Value → Shared → Prop} {s : Shared}
theorem adjust_rev (n : Nat) : Builtin.Slice.sliceAdjust none none (-1) (n : Int) = ((n : Int) - 1, -1) := by
  unfold Builtin.Slice.sliceAdjust
  simp
theorem places_rev (n : Nat) : Builtin.Slice.slicePlaces ((n : Int) - 1) (-1) (-1) = n := by
  unfold Builtin.Slice.slicePlaces
  have h1 : ¬ ((-1 : Int) > 0) := by omega
  simp only [h1, if_false]
  split
  · rw [show -(-1 : Int) = 1 from rfl, Int.ediv_one]; omega
  · omega
theorem sliceApplied_rev {sl : Addr} {vs : Value} {n : Nat} {Q : Int × Int × Nat → Shared → Prop} (hs : s.heap.IsSliceOf sl .none .none vs) (ps : IsPart vs (some (-1)))
    (h : Q ((n : Int) - 1, -1, n) s) : wpAny (model prog w) A (Builtin.Slice.sliceApplied (.ref sl) (pure (n : Int))) Q E s := by
  obtain ⟨os, hos, hcs, hds⟩ := id hs
  unfold Builtin.Slice.sliceApplied Builtin.Slice.sliceFields
  refine wpAny_bind (wpAny_bind (wpAny_field hos hds (x := .none) rfl (wpAny_bind (wpAny_field hos hds (x := .none) rfl (wpAny_bind (wpAny_field hos hds (x := vs) rfl (wpAny_pure ?_)))))))
  refine wpAny_bind (HT.slicePart_ ps ?_)
  show wpAny _ _ (if ((-1 : Int) == 0) = true then _ else _) _ _ s
  rw [if_neg (by decide)]
  refine wpAny_bind (HT.slicePart_ .none (wpAny_bind (HT.slicePart_ .none (wpAny_bind (wpAny_pure ?_)))))
  show wpAny _ _ (match Builtin.Slice.sliceAdjust none none (-1) (n : Int) with | (lo, hi) => pure (lo, (-1 : Int), Builtin.Slice.slicePlaces lo hi (-1))) _ _ s
  rw [adjust_rev n]
  show wpAny _ _ (pure ((n : Int) - 1, (-1 : Int), Builtin.Slice.slicePlaces ((n : Int) - 1) (-1) (-1))) _ _ s
  rw [places_rev]
  exact wpAny_pure h
theorem fm_congr {α β : Type} {f g : α → Option β} : ∀ {l : List α}, (∀ m ∈ l, f m = g m) → l.filterMap f = l.filterMap g
  | [], _ => rfl
  | a :: r, h => by rw [List.filterMap_cons, List.filterMap_cons, h a List.mem_cons_self, fm_congr (l := r) fun m hm => h m (List.mem_cons_of_mem _ hm)]
theorem pick_rev (xs : Array Value) : ((List.range xs.size).filterMap fun (m : Nat) => xs[(((xs.size : Int) - 1) + (m : Int) * (-1)).toNat]?).toArray = xs.toList.reverse.toArray := by
  congr 1
  have e : ∀ m ∈ List.range xs.size, xs[(((xs.size : Int) - 1) + (m : Int) * (-1)).toNat]? = xs.toList.reverse[m]? := by
    intro m hm
    have hm := List.mem_range.mp hm
    rw [List.getElem?_reverse (by simpa using hm), show (((xs.size : Int) - 1) + (m : Int) * (-1)).toNat = xs.size - 1 - m by omega]
    simp
  rw [fm_congr e]
  have : ∀ (l : List Value), (List.range l.length).filterMap (fun m => l[m]?) = l := by
    intro l
    induction l with
    | nil => rfl
    | cons a r ih =>
      rw [List.length_cons, List.range_succ_eq_map, List.filterMap_cons]
      simp only [List.getElem?_cons_zero, List.filterMap_map]
      congr 1
  have h2 := this xs.toList.reverse
  rw [List.length_reverse, Array.length_toList] at h2
  exact h2
theorem getItem_tuple_rev {t sl : Addr} {items : Array Value} {vs : Value} {Q : Value → Shared → Prop} (ht : IsTup s.heap t items) (hs : s.heap.IsSliceOf sl .none .none vs) (ps : IsPart vs (some (-1)))
    (h : Q (.ref s.heap.objs.size) { s with heap := s.heap.push { cls := .type "tuple", data := .seq items.toList.reverse.toArray } })
    (hsz : items.size ≤ sizeLine) : wpAny (model prog w) A (getItem (.ref t) (.ref sl)) Q E s := by
  have htake : sizeOk (.seq items.toList.reverse.toArray) := by
    show items.toList.reverse.toArray.size ≤ sizeLine
    rw [List.size_toArray, List.length_reverse, Array.length_toList]
    exact hsz
  obtain ⟨os, hos, hcs, hds⟩ := id hs
  have hTs : s.TypeIs (.ref sl) "slice" := ⟨os, hos, hcs⟩
  unfold getItem
  try with_reducible refine wpAny_holding ?_
  first | refine wpAny_bind (wpAny_pure ?_) | skip
  refine wpAny_bind (wpAny_sequenceKey ht.typeIs (by decide) ?_)
  refine wpAny_bind (wpAny_callSpecial?_slot (name := Str.ofString "__getitem__") ht.typeIs PyProof.Rows.slot_tuple_getitem
    (wpAny_call_entry PyProof.Rows.slot_tuple_getitem ht.typeIs entry_tuple_getitem ?_ (args_tuple_getitem _ _)))
  show wpAny _ _ (Builtin.Tuple.tupleItemsOf (.ref t) >>= _) _ _ s
  refine wpAny_bind (tupleItemsOf_ ht ?_)
  refine wpAny_bind (wpAny_typeOf hTs ?_)
  rw [if_pos (by decide)]
  refine wpAny_bind (sliceApplied_rev hs ps ?_)
  have hno : ¬ ((((items.size : Int) - 1) == 0 && (-1 : Int) == 1 && items.size == items.size) = true) := by simp
  show wpAny _ _ (if ((((items.size : Int) - 1)) == 0 && (-1 : Int) == 1 && items.size == items.size) = true then _ else _) _ _ s
  rw [if_neg hno, pick_rev]
  first
    | exact wpAny_bind (m := Builtin.Tuple.tupleExact _) (wpAny_newObj_type (wpAny_pure ⟨_, rfl, wpAny_pure h⟩) htake)
    | exact wpAny_bind (m := Builtin.Tuple.tupleExact _) (wpAny_newObj_type (wpAny_bind (wpAny_pure (wpAny_pure ⟨_, rfl, wpAny_pure h⟩))) htake)
    | exact wpAny_bind (wpAny_bind (m := Builtin.Tuple.tupleExact _) (wpAny_newObj_type (wpAny_pure (wpAny_pure ⟨_, rfl, wpAny_pure h⟩)) htake))
    | exact wpAny_bind (wpAny_bind (m := Builtin.Tuple.tupleExact _) (wpAny_newObj_type (wpAny_pure ⟨_, rfl, wpAny_pure h⟩) htake))
end
section
variable {X : Cx}
/-- x[::-1], a list or a tuple -/
def tRevA (K : PySem.W.Frag) (te : TE) : TE := fun σ H Q => te σ H fun x H1 => (∃ a xs, x = .ref a ∧ SqL K H1 a xs ∧ ∀ p, H1 p = none → Q (.ref p) (upd H1 p (.lst xs.reverse))) ∨ ∃ a xs, x = .ref a ∧ SqT K H1 a xs ∧ ∀ p, H1 p = none → Q (.ref p) (upd H1 p (.tup xs.reverse))
theorem pe_revA {e sx : Expr} {te ts : TE} {p3 pos : Pos} (he : PE X e te) (hsx : PE X sx ts) (hts : ∀ σ H Q, Q (.int (-1)) H → ts σ H Q) : PE X (.Subscript e (.Slice none none (some sx) p3) pos) (tRevA X.K te) := by
  refine ⟨fun pins s σ H Q I h => ?_⟩
  refine Subscript_ (thn (he.run pins s σ H _ I h) fun v s1 ⟨x, H1, I1, r1, q1⟩ => ?_)
  have hst : PO X (some sx) (tPart ts) := po_some hsx
  refine wpAny_Slice (thn (po_none.run pins s1 σ H1 (fun o H2 => o = none ∧ H2 = H1) I1 ⟨rfl, rfl⟩) fun vl s2 ⟨l, H2, I2, pl, el, e2⟩ => ?_)
  subst el e2
  refine thn (po_none.run pins s2 σ H2 (fun o H3 => o = none ∧ H3 = H2) I2 ⟨rfl, rfl⟩) fun vu s3 ⟨u, H3, I3, pu, eu, e3⟩ => ?_
  subst eu e3
  refine thn (hst.run pins s3 σ H3 (fun o H4 => o = some (-1) ∧ H4 = H3) I3 (hts _ _ _ ⟨-1, rfl, rfl, rfl⟩)) fun vs s4 ⟨o, H4, I4, ps, eo, e4⟩ => ?_
  subst eo e4
  have I5 : Inv X pins σ H4 { s4 with heap := s4.heap.push { cls := .type "slice", data := .fields #[vl, vu, vs] } } := I4.kept (t' := s4.toks) fun b ob q => Heap.get?_push_of_some _ q
  rcases q1 with ⟨a, xs, ex, hx, q⟩ | ⟨a, xs, ex, hx, q⟩
  · subst ex
    cases r1
    obtain ⟨its, r, ht, hz⟩ := I5.list hx
    have hlen := r.length
    show wpAny (model X.prog X.w) X.A (subscriptTail e (.Slice none none (some sx) p3) (.ref a) (.ref s4.heap.objs.size)) (EP X pins σ Q) X.xe { s4 with heap := s4.heap.push { cls := .type "slice", data := .fields #[vl, vu, vs] } }
    refine tail_any (ops := [.ref a, .ref s4.heap.objs.size]) ht.isList.typeIs (PySem.slot_list_getitem.lookup) ?_ (by with_unfolding_all rfl)
    refine wpAny_getItem_list_slice ht.isList (Heap.IsSliceOf.new _ vl vu vs) pl pu ps (by decide) ?_ (by rw [List.size_toArray]; omega)
    rw [PySem.W.krv_pick]
    refine ⟨.ref _, _, I5.laid (t' := s4.toks) (o := .lst xs.reverse) (fun b ob q => Heap.get?_push_of_some _ q) (Nat.le_refl _) ?_, rfl, q _ (I5.hok.fresh (Nat.le_refl _))⟩
    exact ⟨by rw [List.length_reverse]; exact hz, _, 0, r.reverse, Heap.get?_push_size _ rfl⟩
  · subst ex
    cases r1
    cases pl
    cases pu
    obtain ⟨its, r, ht, hz⟩ := I5.tuple hx
    have hlen := r.length
    show wpAny (model X.prog X.w) X.A (subscriptTail e (.Slice none none (some sx) p3) (.ref a) (.ref s4.heap.objs.size)) (EP X pins σ Q) X.xe { s4 with heap := s4.heap.push { cls := .type "slice", data := .fields #[.none, .none, vs] } }
    refine tail_any (ops := [.ref a, .ref s4.heap.objs.size]) ht.typeIs (PyProof.Rows.slot_tuple_getitem.lookup) ?_ (by with_unfolding_all rfl)
    refine getItem_tuple_rev ht (Heap.IsSliceOf.new _ .none .none vs) ps ?_ (by rw [List.size_toArray]; omega)
    refine ⟨.ref _, _, I5.laid (t' := s4.toks) (o := .tup xs.reverse) (fun b ob q => Heap.get?_push_of_some _ q) (Nat.le_refl _) ?_, rfl, q _ (I5.hok.fresh (Nat.le_refl _))⟩
    exact ⟨by rw [List.length_reverse]; exact hz, _, r.reverse, IsTup.new _ _⟩
end
/-! ### the evaluator's own -/
section
variable {G : Gd}
/-- x[i], of ours too -/
def ixOM (gi : Nat → Option (List D → M D)) (d e : D) : M D := fun s => match d with
  | .ref a => (match s.get a with
    | some (.ins c _) => (match gi c with
      | some g => M.noX (g [d, e]) s
      | none => .ret .fail)
    | _ => ixM d e s)
  | _ => ixM d e s
def GiOk (X : Cx) (G : Gd) (k : Nat) (gi : Nat → Option (List D → M D)) : Prop := ∀ c g, gi c = some g → ∃ a, PySem.W.findIn G.K (.ref (G.ca c)) "__getitem__" = some (some (.ref a)) ∧ PySem.W.fnIn G.K a = true ∧ PySem.W.isFn G.K (.ref a) = true ∧ Fk X.prog X.w X.K X.mg X.base k a (spD G g)
theorem ixOS {X : Cx} {k : Nat} {gi : Nat → Option (List D → M D)} (hK : X.K = G.K) (hq : GiOk X G k gi) : OpS G (fun x y H Q => rIxA X.K x y H Q ∨ rIxO X k x y H Q) (ixOM gi) := by
  intro W σ ι s H d e v w Q R r1 r2 g
  have un : ixOM gi d e s = ixM d e s → rIxA X.K v w H Q := fun z => by
    have g2 : Go G W σ ι H (ixM d e) s (fun ι' H' z _ => ∀ u, Rp G ι' H' z u → Q u H') := by
      unfold Go wp at g ⊢
      rw [z] at g
      exact g
    rw [hK]
    exact ixS W σ ι s H d e v w Q R r1 r2 g2
  cases d with
  | ref a =>
    cases ha : s.get a with
    | none => exact .inl (un (by simp only [ixOM, ha]))
    | some oa =>
      cases oa with
      | ins c fs =>
        cases he : gi c with
        | none =>
          unfold Go wp at g
          simp only [ixOM, ha, he] at g
          exact g.elim
        | some gf =>
          obtain ⟨f, n1, n2, n3, F⟩ := hq c gf he
          obtain ⟨p, rfl, ep⟩ := r1.refE
          obtain ⟨dx, qs, hx, rx⟩ := R.at ep ha
          refine .inr ⟨p, G.ca c, dx, qs, f, spD G gf, rfl, hx, by rw [hK]; exact n1, by rw [hK]; exact n2, by rw [hK]; exact n3, F, ι, [.ref a, e], s, R, .cons r1 (.cons r2 .nil), ?_⟩
          have g2 : Go G W σ ι H (M.noX (gf [.ref a, e])) s (fun ι' H' z _ => ∀ u, Rp G ι' H' z u → Q u H') := by
            unfold Go wp at g ⊢
            simp only [ixOM, ha, he] at g
            exact g
          exact wp_mono (Go.noX g2) (fun z s' q ι' H' l kk R' u ru => q ι' H' l kk R' u ru) fun _ _ z => z
      | _ => exact .inl (un (by simp only [ixOM, ha]))
  | _ => exact .inl (un rfl)
/-- x + y, of ours too -/
def addOM (ad : Nat → Option (List D → M D)) (d e : D) : M D := fun s => match d, e with
  | .ref a, .ref b => (match s.get a, s.get b with
    | some (.ins c _), some (.ins c' _) => (match Nat.beq c c', ad c with
      | true, some g => M.bind (M.noX (g [d, e])) (fun
        | .ref n => M.pure (.ref n)
        | _ => M.fail) s
      | _, _ => .ret .fail)
    | _, _ => addM d e s)
  | _, _ => addM d e s
def AdOk (X : Cx) (G : Gd) (k : Nat) (ad : Nat → Option (List D → M D)) : Prop := ∀ c g, ad c = some g → PySem.W.selfFirst G.K (G.ca c) = true ∧ ∃ a, PySem.W.findIn G.K (.ref (G.ca c)) "__add__" = some (some (.ref a)) ∧ PySem.W.isFn G.K (.ref a) = true ∧ Fk X.prog X.w X.K X.mg X.base k a (spD G g)
theorem addOS {X : Cx} {k : Nat} {ad : Nat → Option (List D → M D)} {r : R2} (hK : X.K = G.K) (hq : AdOk X G k ad) (ho : OpS G r addM) : OpS G (fun x y H Q => r x y H Q ∨ rAddO X k x y H Q) (addOM ad) := by
  intro W σ ι s H d e v w Q R r1 r2 g
  have un : addOM ad d e s = addM d e s → r v w H Q := fun z => by
    have g2 : Go G W σ ι H (addM d e) s (fun ι' H' z _ => ∀ u, Rp G ι' H' z u → Q u H') := by
      unfold Go wp at g ⊢
      rw [z] at g
      exact g
    exact ho W σ ι s H d e v w Q R r1 r2 g2
  cases d with
  | ref a =>
    cases e with
    | ref b =>
      cases ha : s.get a with
      | none => exact .inl (un (by simp only [addOM, ha]))
      | some oa =>
        cases hb : s.get b with
        | none => exact .inl (un (by cases oa <;> simp only [addOM, ha, hb]))
        | some ob =>
          cases oa with
          | ins c fs =>
            cases ob with
            | ins c' fs' =>
              cases hc : Nat.beq c c' with
              | false =>
                unfold Go wp at g
                simp only [addOM, ha, hb, hc] at g
                exact g.elim
              | true =>
                have ec := Nat.eq_of_beq_eq_true hc
                subst ec
                cases he : ad c with
                | none =>
                  unfold Go wp at g
                  simp only [addOM, ha, hb, hc, he] at g
                  exact g.elim
                | some gf =>
                  obtain ⟨n1, f, n2, n3, F⟩ := hq c gf he
                  obtain ⟨p, rfl, ep⟩ := r1.refE
                  obtain ⟨p', rfl, ep'⟩ := r2.refE
                  obtain ⟨dx, qs, hx, rx⟩ := R.at ep ha
                  obtain ⟨dx', qs', hx', rx'⟩ := R.at ep' hb
                  refine .inr ⟨p, p', G.ca c, dx, qs, dx', qs', f, spD G gf, rfl, rfl, hx, hx', by rw [hK]; exact n1, by rw [hK]; exact n2, by rw [hK]; exact n3, F, ι, [.ref a, .ref b], s, R, .cons r1 (.cons r2 .nil), ?_⟩
                  have g2 : Go G W σ ι H (M.bind (M.noX (gf [.ref a, .ref b])) (fun
                    | .ref n => M.pure (.ref n)
                    | _ => M.fail)) s (fun ι' H' z _ => ∀ u, Rp G ι' H' z u → Q u H') := by
                    unfold Go wp at g ⊢
                    simp only [addOM, ha, hb, hc, he] at g
                    exact g
                  refine wp_mono (Go.noX (Go.bind g2)) (fun z s' q ι' H' l kk R' u ru => ?_) fun _ _ z => z
                  have q' := q ι' H' l kk R'
                  cases z with
                  | ref n =>
                    obtain ⟨p2, rfl, ep2⟩ := ru.refE
                    exact ⟨p2, rfl, Go.pure q' R' _ ru⟩
                  | _ => exact (Go.fail q').elim
            | _ => exact .inl (un (by simp only [addOM, ha, hb]))
          | _ => exact .inl (un (by cases ob <;> simp only [addOM, ha, hb]))
    | _ => exact .inl (un rfl)
  | _ => exact .inl (un (by cases e <;> rfl))
/-- x += y of ours -/
def iaddOM (ad : Nat → Option (List D → M D)) (d e : D) : M D := fun s => match d, e with
  | .ref a, .ref b => (match s.get a, s.get b with
    | some (.ins c _), some (.ins c' _) => (match Nat.beq c c', ad c with
      | true, some g => M.bind (M.noX (g [d, e])) (fun
        | .ref n => M.pure (.ref n)
        | _ => M.fail) s
      | _, _ => .ret .fail)
    | _, _ => .ret .fail)
  | _, _ => .ret .fail
def IAdOk (X : Cx) (G : Gd) (k : Nat) (ad : Nat → Option (List D → M D)) : Prop := ∀ c g, ad c = some g → PySem.W.selfFirst G.K (G.ca c) = true ∧ mro2 G.K (G.ca c) = true ∧ PySem.W.findIn G.K (.ref (G.ca c)) (dunderI "add") = some none ∧ ∃ a, PySem.W.findIn G.K (.ref (G.ca c)) "__add__" = some (some (.ref a)) ∧ PySem.W.isFn G.K (.ref a) = true ∧ Fk X.prog X.w X.K X.mg X.base k a (spD G g)
theorem IAdOk.ad {X : Cx} {k : Nat} {ad : Nat → Option (List D → M D)} (h : IAdOk X G k ad) : AdOk X G k ad := fun c g e => ⟨(h c g e).1, (h c g e).2.2.2⟩
theorem iaddOS {X : Cx} {k : Nat} {ad : Nat → Option (List D → M D)} (hK : X.K = G.K) (hq : IAdOk X G k ad) : OpS G (rIAddO X k) (iaddOM ad) := by
  intro W σ ι s H d e v w Q R r1 r2 g
  have no : iaddOM ad d e s = .ret .fail → rIAddO X k v w H Q := fun z => by
    unfold Go wp at g
    rw [z] at g
    exact g.elim
  cases d with
  | ref a =>
    cases e with
    | ref b =>
      cases ha : s.get a with
      | none => exact no (by simp only [iaddOM, ha])
      | some oa =>
        cases hb : s.get b with
        | none => exact no (by cases oa <;> simp only [iaddOM, ha, hb])
        | some ob =>
          cases oa with
          | ins c fs =>
            cases ob with
            | ins c' fs' =>
              cases hc : Nat.beq c c' with
              | false => exact no (by simp only [iaddOM, ha, hb, hc])
              | true =>
                have ec := Nat.eq_of_beq_eq_true hc
                subst ec
                cases he : ad c with
                | none => exact no (by simp only [iaddOM, ha, hb, hc, he])
                | some gf =>
                  obtain ⟨n1, m1, m2, f, n2, n3, F⟩ := hq c gf he
                  obtain ⟨p, rfl, ep⟩ := r1.refE
                  obtain ⟨p', rfl, ep'⟩ := r2.refE
                  obtain ⟨dx, qs, hx, rx⟩ := R.at ep ha
                  obtain ⟨dx', qs', hx', rx'⟩ := R.at ep' hb
                  refine ⟨p, p', G.ca c, dx, qs, dx', qs', f, spD G gf, rfl, rfl, hx, hx', by rw [hK]; exact n1, by rw [hK]; exact m1, by rw [hK]; exact m2, by rw [hK]; exact n2, by rw [hK]; exact n3, F, ι, [.ref a, .ref b], s, R, .cons r1 (.cons r2 .nil), ?_⟩
                  have g2 : Go G W σ ι H (M.bind (M.noX (gf [.ref a, .ref b])) (fun
                    | .ref n => M.pure (.ref n)
                    | _ => M.fail)) s (fun ι' H' z _ => ∀ u, Rp G ι' H' z u → Q u H') := by
                    unfold Go wp at g ⊢
                    simp only [iaddOM, ha, hb, hc, he] at g
                    exact g
                  refine wp_mono (Go.noX (Go.bind g2)) (fun z s' q ι' H' l kk R' u ru => ?_) fun _ _ z => z
                  have q' := q ι' H' l kk R'
                  cases z with
                  | ref n =>
                    obtain ⟨p2, rfl, ep2⟩ := ru.refE
                    exact ⟨p2, rfl, Go.pure q' R' _ ru⟩
                  | _ => exact (Go.fail q').elim
            | _ => exact no (by simp only [iaddOM, ha, hb])
          | _ => exact no (by cases ob <;> simp only [iaddOM, ha, hb])
    | _ => exact no rfl
  | _ => exact no (by cases e <;> rfl)
/-- x[::-1] -/
def revAM (x : D) : M D := match x with
  | .tup ds => M.pure (.tup ds.reverse)
  | x => M.bind (M.lst x) fun p => M.bind (M.new (.lst p.2.reverse)) fun n => M.pure (.ref n)
end
end Ev

/-! EvW: states made smaller; deals seen as lists and back. -/
namespace Ev
open PySem PySem.Spec PyProof.Rows L2

/-! ### what is below an address -/
def rst (ι : Iota) (n0 : Nat) : Iota := fun n => if n < n0 then ι n else none
theorem rst_some {ι : Iota} {n0 n : Nat} {a : Addr} (h : rst ι n0 n = some a) : n < n0 ∧ ι n = some a := by
  unfold rst at h
  split at h
  · exact ⟨by assumption, h⟩
  · cases h
theorem rst_lt {ι : Iota} {n0 n : Nat} {a : Addr} (h : ι n = some a) (hn : n < n0) : rst ι n0 n = some a := by unfold rst; rw [if_pos hn]; exact h
mutual
def D.bd (n0 : Nat) : D → Bool
  | .ref n => decide (n < n0)
  | .tup ds => D.bds n0 ds
  | _ => true
def D.bds (n0 : Nat) : List D → Bool
  | [] => true
  | d :: ds => D.bd n0 d && D.bds n0 ds
end
def bdF (n0 : Nat) : List (Cs × D) → Bool
  | [] => true
  | p :: r => p.2.bd n0 && bdF n0 r
def bdK (n0 : Nat) : List (D × D) → Bool
  | [] => true
  | p :: r => p.2.bd n0 && bdK n0 r
def O.bd (n0 : Nat) : O → Bool
  | .lst ds => D.bds n0 ds
  | .dct kvs => bdK n0 kvs
  | .dctL kvs => bdK n0 kvs
  | .ins _ fs => bdF n0 fs
  | .deal q => decide (q < n0)
  | .dealIn => true
section
variable {G : Gd} {ι : Iota} {H : Hp} {n0 : Nat}
mutual
theorem Rp.rst : ∀ {d : D} {v : V}, Rp G ι H d v → d.bd n0 = true → Rp G (Ev.rst ι n0) H d v
  | _, _, .non, _ => .non
  | _, _, .bl b, _ => .bl b
  | _, _, .int i, _ => .int i
  | _, _, .str x h, _ => .str x h
  | _, _, .tup h r, b => .tup h (RpL.rst r (by rw [D.bd] at b; exact b))
  | _, _, .ref h, b => .ref (rst_lt h (by rw [D.bd] at b; exact of_decide_eq_true b))
  | _, _, .cls c, _ => .cls c
  | _, _, .ty c, _ => .ty c
  | _, _, .scr h, _ => .scr h
theorem RpL.rst : ∀ {d : List D} {v : List V}, RpL G ι H d v → D.bds n0 d = true → RpL G (Ev.rst ι n0) H d v
  | _, _, .nil, _ => .nil
  | _, _, .cons r t, b => by
    rw [D.bds, Bool.and_eq_true] at b
    exact .cons (Rp.rst r b.1) (RpL.rst t b.2)
end
theorem FRel.rst : ∀ {fs : List (Cs × D)} {qs : List (Str × V)}, FRel G ι H fs qs → bdF n0 fs = true → FRel G (Ev.rst ι n0) H fs qs
  | _, _, .nil, _ => .nil
  | _, _, .cons r t, b => by
    rw [bdF, Bool.and_eq_true] at b
    exact .cons ⟨r.1, r.2.rst b.1⟩ (FRel.rst t b.2)
theorem KRel.rst : ∀ {fs : List (D × D)} {qs : List (Key × V)}, KRel G ι H fs qs → bdK n0 fs = true → KRel G (Ev.rst ι n0) H fs qs
  | _, _, .nil, _ => .nil
  | _, _, .cons r t, b => by
    rw [bdK, Bool.and_eq_true] at b
    exact .cons ⟨r.1, r.2.rst b.1⟩ (KRel.rst t b.2)
theorem ORel.rst {a : Addr} {o : O} (h : ORel G ι H a o) (b : o.bd n0 = true) : ORel G (Ev.rst ι n0) H a o := by
  cases o with
  | lst ds => obtain ⟨xs, q, r⟩ := h; exact ⟨xs, q, r.rst b⟩
  | dct ds => obtain ⟨xs, q, r, nd⟩ := h; exact ⟨xs, q, KRel.rst r b, nd⟩
  | dctL ds => obtain ⟨ob, xs, q, r, nd⟩ := h; exact ⟨ob, xs, q, KRel.rst r b, nd⟩
  | ins c fs => obtain ⟨dx, xs, q, r⟩ := h; exact ⟨dx, xs, q, FRel.rst r b⟩
  | deal n => obtain ⟨c, m, q, r⟩ := h; exact ⟨c, m, q, rst_lt r (of_decide_eq_true b)⟩
  | dealIn => exact h
/-- another view of a state, of what is below n0 -/
theorem RelH.view {s s0 : S} (R : RelH G ι s H) (hv : ∀ n o0, s0.get n = some o0 → n < n0 ∧ o0.bd n0 = true ∧ ∃ o, s.get n = some o ∧ ∀ a, ι n = some a → ORel G ι H a o → ORel G ι H a o0)
    (hd : ∀ n o, n < n0 → s.get n = some o → ∃ o0, s0.get n = some o0) : RelH G (Ev.rst ι n0) s0 H where
  obj := fun n a h => by
    obtain ⟨h1, h2⟩ := rst_some h
    obtain ⟨o, g, r⟩ := R.obj n a h2
    obtain ⟨o0, g0⟩ := hd n o h1 g
    obtain ⟨_, b, o', g', c⟩ := hv n o0 g0
    rw [g] at g'
    cases g'
    exact ⟨o0, g0, (c a h2 r).rst b⟩
  dom := fun n o0 g0 => by
    obtain ⟨h1, b, o, g, c⟩ := hv n o0 g0
    obtain ⟨a, h⟩ := R.dom n o g
    exact ⟨a, rst_lt h h1⟩
  inj := fun n m a h1 h2 => R.inj n m a (rst_some h1).2 (rst_some h2).2
end

/-! ### a smaller state, by a check -/
def eqFs : List (Cs × D) → List (Cs × D) → Bool
  | [], [] => true
  | p :: r, q :: t => (p.1 == q.1) && D.beq p.2 q.2 && eqFs r t
  | _, _ => false
def eqKs : List (D × D) → List (D × D) → Bool
  | [], [] => true
  | p :: r, q :: t => D.beq p.1 q.1 && D.beq p.2 q.2 && eqKs r t
  | _, _ => false
theorem eqFs_eq : ∀ {a b : List (Cs × D)}, eqFs a b = true → a = b
  | [], [], _ => rfl
  | [], _ :: _, h => by cases h
  | _ :: _, [], h => by cases h
  | p :: r, q :: t, h => by
    rw [eqFs, Bool.and_eq_true, Bool.and_eq_true, beq_iff_eq] at h
    have e1 : p = q := by
      cases p; cases q
      simp only at h
      rw [h.1.1, D.beq_eq _ _ h.1.2]
    rw [e1, eqFs_eq h.2]
theorem eqKs_eq : ∀ {a b : List (D × D)}, eqKs a b = true → a = b
  | [], [], _ => rfl
  | [], _ :: _, h => by cases h
  | _ :: _, [], h => by cases h
  | p :: r, q :: t, h => by
    rw [eqKs, Bool.and_eq_true, Bool.and_eq_true] at h
    have e1 : p = q := by
      cases p; cases q
      simp only at h
      rw [D.beq_eq _ _ h.1.1, D.beq_eq _ _ h.1.2]
    rw [e1, eqKs_eq h.2]
def O.beq : O → O → Bool
  | .lst a, .lst b => D.beqs a b
  | .dct a, .dct b => eqKs a b
  | .dctL a, .dctL b => eqKs a b
  | .ins c a, .ins d b => (c == d) && eqFs a b
  | .deal a, .deal b => a == b
  | .dealIn, .dealIn => true
  | _, _ => false
theorem O.beq_eq {a b : O} (h : O.beq a b = true) : a = b := by
  cases a <;> cases b <;> first | (cases h; done) | skip
  · rw [O.beq] at h; rw [D.beqs_eq _ _ h]
  · rw [O.beq] at h; rw [eqKs_eq h]
  · rw [O.beq] at h; rw [eqKs_eq h]
  · rw [O.beq, Bool.and_eq_true, beq_iff_eq] at h; rw [h.1, eqFs_eq h.2]
  · rw [O.beq, beq_iff_eq] at h; rw [h]
  · rfl
/-- the heaps agree below n -/
def chkH (s s0 : S) (n0 : Nat) : Nat → Bool
  | 0 => true
  | n + 1 => (match s.get n, s0.get n with
    | some o, some o0 => O.beq o o0 && o.bd n0
    | none, none => true
    | _, _ => false) && chkH s s0 n0 n
def chkS (n0 : Nat) : Sl → Sl → Bool
  | [], [] => true
  | _ :: r, none :: t => chkS n0 r t
  | some d :: r, some e :: t => D.beq d e && d.bd n0 && chkS n0 r t
  | _, _ => false
/-- (σ, s) may be seen as (σ0, s0) -/
def chk (σ : Sl) (s : S) (σ0 : Sl) (s0 : S) : Bool := chkH s s0 s0.n s0.n && chkS s0.n σ σ0
theorem chkH_ok {s s0 : S} {n0 : Nat} : ∀ {n m : Nat}, chkH s s0 n0 n = true → m < n → (s.get m = none ∧ s0.get m = none) ∨ ∃ o, s.get m = some o ∧ s0.get m = some o ∧ o.bd n0 = true
  | 0, m, _, h => absurd h (Nat.not_lt_zero _)
  | n + 1, m, hc, h => by
    rw [chkH, Bool.and_eq_true] at hc
    by_cases e : m = n
    · subst e
      have h1 := hc.1
      split at h1
      · rename_i o o0 e1 e2
        rw [Bool.and_eq_true] at h1
        have := O.beq_eq h1.1
        subst this
        exact .inr ⟨o, e1, e2, h1.2⟩
      · rename_i e1 e2
        exact .inl ⟨e1, e2⟩
      · cases h1
    · exact chkH_ok hc.2 (by omega)
theorem chkS_ok {n0 : Nat} : ∀ {σ σ0 : Sl}, chkS n0 σ σ0 = true → σ.length = σ0.length ∧ ∀ (i : Nat) (d : D), σ0[i]? = some (some d) → σ[i]? = some (some d) ∧ d.bd n0 = true
  | [], [], _ => ⟨rfl, fun i d h => by simp at h⟩
  | [], _ :: _, h => by cases h
  | o :: r, [], h => by cases o <;> cases h
  | o :: r, none :: t, h => by
    have h' : chkS n0 r t = true := by cases o <;> exact h
    obtain ⟨i1, i2⟩ := chkS_ok h'
    refine ⟨by rw [List.length_cons, List.length_cons, i1], fun i d e => ?_⟩
    cases i with
    | zero => simp at e
    | succ i => simpa using i2 i d (by simpa using e)
  | none :: r, some e :: t, h => by cases h
  | some d :: r, some e :: t, h => by
    rw [chkS, Bool.and_eq_true, Bool.and_eq_true] at h
    obtain ⟨i1, i2⟩ := chkS_ok h.2
    have := D.beq_eq _ _ h.1.1
    subst this
    refine ⟨by rw [List.length_cons, List.length_cons, i1], fun i x e => ?_⟩
    cases i with
    | zero => simp at e; subst e; exact ⟨rfl, h.1.2⟩
    | succ i => simpa using i2 i x (by simpa using e)
theorem RelS.less {G : Gd} {ι : Iota} {σd σ0 : Sl} {s s0 : S} {σ : L2.St} {H : Hp} (R : RelS G ι σd s σ H) (h : chk σd s σ0 s0 = true) : ∃ ι', RelS G ι' σ0 s0 σ H := by
  unfold chk at h
  rw [Bool.and_eq_true] at h
  obtain ⟨h1, h2⟩ := h
  obtain ⟨i1, i2⟩ := chkS_ok h2
  refine ⟨Ev.rst ι s0.n, R.hp.view (fun n o0 g0 => ?_) fun n o hn g => ?_, by rw [R.len, i1], fun i d e => ?_⟩
  · have hl := S.get_lt g0
    rcases chkH_ok h1 hl with ⟨_, z⟩ | ⟨o, e1, e2, b⟩
    · rw [z] at g0; cases g0
    · rw [e2] at g0
      cases g0
      exact ⟨hl, b, _, e1, fun _ _ r => r⟩
  · rcases chkH_ok h1 hn with ⟨z, _⟩ | ⟨o', e1, e2, b⟩
    · rw [z] at g; cases g
    · exact ⟨o', e2⟩
  · obtain ⟨e1, b⟩ := i2 i d e
    obtain ⟨v, h3, h4⟩ := R.slot i d e1
    exact ⟨v, h3, h4.rst b⟩
end Ev

/-! EvT: a for loop of which every turn leaves the state as it was, but for slots that are given up and for new things that nobody holds. -/
namespace Ev
open PySem PySem.Spec PyProof.Rows L2
def blank : List Nat → Sl → Sl
  | [], σ => σ
  | i :: r, σ => blank r (σ.set i none)
def turnC (σ0 : Sl) (s1 : S) : Out Fl → T (Out Fl)
  | .ok (.nx σ') s' => if chk σ' s' σ0 s1 = true then .draw 0 (fun _ => .ret .fail) else .ret .fail
  | .ok (.ct σ') s' => if chk σ' s' σ0 s1 = true then .draw 0 (fun _ => .ret .fail) else .ret .fail
  | .ok (.bk σ') s' => .ret (.ok (.nx σ') s')
  | o => .ret o
def gForC (vs : List Nat) (mi : Sl → M ItD) (t : Tg) (body : Sl → M Fl) : Sl → M Fl := fun σ => M.inS σ (mi σ) fun it => fun s1 =>
  .draw (it.len s1 + 1) fun i => match it.at s1 i with
    | none => .ret .fail
    | some none => .ret (.ok (.nx (blank vs σ)) s1)
    | some (some d) => if i < it.len s1 then (M.bind (M.noX (t d (blank vs σ))) body s1).bind (turnC (blank vs σ) s1) else .ret .fail
theorem blank_len : ∀ (vs : List Nat) (σ : Sl), (blank vs σ).length = σ.length
  | [], _ => rfl
  | i :: r, σ => by rw [blank, blank_len r, List.length_set]
theorem blank_get : ∀ {vs : List Nat} {σ : Sl} {i : Nat} {d : D}, (blank vs σ)[i]? = some (some d) → σ[i]? = some (some d)
  | [], _, _, _, h => h
  | j :: r, σ, i, d, h => by
    have := blank_get (vs := r) h
    by_cases e : j = i
    · subst e
      by_cases hl : j < σ.length
      · rw [List.getElem?_set_self hl] at this; cases this
      · rw [List.getElem?_eq_none (by rw [List.length_set]; omega)] at this; cases this
    · rw [List.getElem?_set_ne e] at this; exact this
theorem RelS.blank {G : Gd} {ι : Iota} {σd : Sl} {s : S} {σ : L2.St} {H : Hp} (vs : List Nat) (R : RelS G ι σd s σ H) : RelS G ι (blank vs σd) s σ H :=
  ⟨R.hp, by rw [R.len, blank_len], fun i d e => R.slot i d (blank_get e)⟩
theorem RelS.less' {G : Gd} {ι ι1 : Iota} {σd σ0 : Sl} {s s0 : S} {σ : L2.St} {H H1 : Hp} (R : RelS G ι σd s σ H) (h : chk σd s σ0 s0 = true) (R1 : RelH G ι1 s0 H1) (l : Le ι1 ι) : ∃ ι', Le ι1 ι' ∧ RelS G ι' σ0 s0 σ H := by
  unfold chk at h
  rw [Bool.and_eq_true] at h
  obtain ⟨h1, h2⟩ := h
  obtain ⟨i1, i2⟩ := chkS_ok h2
  refine ⟨Ev.rst ι s0.n, fun n a e => rst_lt (l n a e) (R1.lt e), R.hp.view (fun n o0 g0 => ?_) fun n o hn g => ?_, by rw [R.len, i1], fun i d e => ?_⟩
  · have hl := S.get_lt g0
    rcases chkH_ok h1 hl with ⟨_, z⟩ | ⟨o, e1, e2, b⟩
    · rw [z] at g0; cases g0
    · rw [e2] at g0
      cases g0
      exact ⟨hl, b, _, e1, fun _ _ r => r⟩
  · rcases chkH_ok h1 hn with ⟨z, _⟩ | ⟨o', e1, e2, b⟩
    · rw [z] at g; cases g
    · exact ⟨o', e2⟩
  · obtain ⟨e1, b⟩ := i2 i d e
    obtain ⟨v, h3, h4⟩ := R.slot i d e1
    exact ⟨v, h3, h4.rst b⟩
section
variable {G : Gd} {W : WX}
theorem rd_forC {vs : List Nat} {mi : Sl → M ItD} {t : Tg} {body : Sl → M Fl} (N : Ends) (σ : L2.St) (H : Hp) (h : tSD G W (gForC vs mi t body) N σ H) : tFor (tIt G W mi) (tGD G t) (tSD G W body) N σ H := by
  obtain ⟨ι, σd, s, R, w⟩ := h
  refine ⟨ι, σd, s, R, (go_inS R w).imp fun ι1 H1 it s1 l1 k1 R1 g1 J ok => ?_⟩
  refine ⟨fun i m σ' H' => i + m = it.len s1 + 1 ∧ 0 < m ∧ ∃ ι', Le ι1 ι' ∧ Keep H1 H' ∧ RelS G ι' (blank vs σd) s1 σ' H',
    ⟨it.len s1 + 1, by omega, by omega, ι1, Le.refl _, Keep.refl _, (R.on l1 k1 R1).blank vs⟩, ?_⟩
  rintro i m σ' H' ⟨him, hm, ι', l, k, R'⟩
  have ok' := ok ι' H' s1 i l k R'.hp
  have w' := g1 i (by omega)
  cases e : it.at s1 i with
  | none =>
    simp only [e] at w'
    exact w'.elim
  | some od =>
    cases od with
    | none =>
      simp only [e] at w'
      exact .inl ⟨ok'.1 e, w' ι' σ' H' l k R'⟩
    | some d =>
      obtain ⟨go, yl⟩ := ok'.2 d e
      simp only [e] at w'
      by_cases hi : i < it.len s1
      · rw [if_pos hi] at w'
        refine .inr ⟨go, fun σ2 H2 => ∃ ι', Le ι1 ι' ∧ Keep H1 H2 ∧ RelS G ι' (blank vs σd) s1 σ2 H2, fun σ2 H2 q => ⟨m - 1, by omega, by omega, by omega, q⟩, fun x H2 y => ?_⟩
        obtain ⟨kx, Rx, rx⟩ := yl x H2 y
        have w2 : wp (M.bind (M.noX (t d (blank vs σd))) body) s1 (fun fl s' => (turnC (blank vs σd) s1 (.ok fl s')).All (Out.sat (FlOk G W N ι1 H1) fun _ _ => False)) (fun _ _ => False) := by
          refine T.All.mono (fun o z => ?_) ((T.all_bind _ _).mp w')
          cases o with
          | ok a s' => exact z
          | exc x s' => exact z
          | fail => exact z
        refine ⟨ι', _, s1, d, R'.on (Le.refl _) kx Rx, rx, wp_mono (wp_noX.mp (wp_bind.mp w2)) (fun σd3 s3 q ι3 σ3 H3 l3 k3 R3 => ?_) fun _ _ z => z⟩
        refine ⟨ι3, σd3, s3, R3, wp_mono q (fun fl s4 z => ?_) fun _ _ z => z⟩
        have l13 := l.trans l3
        have k13 := (k.trans kx).trans k3
        have back : ∀ {σd4 : Sl}, (if chk σd4 s4 (blank vs σd) s1 = true then (T.draw 0 (fun _ => T.ret (Out.fail (α := Fl)))) else .ret .fail).All (Out.sat (FlOk G W N ι1 H1) fun _ _ => False) →
            ∀ ι4 σ4 H4, Le ι3 ι4 → Keep H3 H4 → RelS G ι4 σd4 s4 σ4 H4 → ∃ ι', Le ι1 ι' ∧ Keep H1 H4 ∧ RelS G ι' (blank vs σd) s1 σ4 H4 := by
          intro σd4 z ι4 σ4 H4 l4 k4 R4
          by_cases hc : chk σd4 s4 (blank vs σd) s1 = true
          · obtain ⟨ι5, l5, R5⟩ := R4.less' hc R1 (l13.trans l4)
            exact ⟨ι5, l5, k13.trans k4, R5⟩
          · rw [if_neg hc] at z
            exact z.elim
        cases fl with
        | nx σd4 => exact fun ι4 σ4 H4 l4 k4 R4 => back z ι4 σ4 H4 l4 k4 R4
        | ct σd4 => exact fun ι4 σ4 H4 l4 k4 R4 => back z ι4 σ4 H4 l4 k4 R4
        | bk σd4 => exact fun ι4 σ4 H4 l4 k4 R4 => z ι4 σ4 H4 (l13.trans l4) (k13.trans k4) R4
        | rt d4 => exact fun ι4 v4 H4 l4 k4 R4 r4 => z ι4 v4 H4 (l13.trans l4) (k13.trans k4) R4 r4
        | xc x4 σd4 => exact fun ι4 σ4 H4 cls dx l4 k4 R4 r4 => z ι4 σ4 H4 cls dx (l13.trans l4) (k13.trans k4) R4 r4
      · rw [if_neg hi] at w'
        exact w'.elim
/-- for name in range(e), where the name is not read: one turn stands for all -/
def gForU (i : Nat) (vs : List Nat) (me : Sl → M D) (body : Sl → M Fl) : Sl → M Fl := fun σ => M.inS σ (mRng1 me σ) fun it => fun s1 => match it with
  | .rng _ n => if vs.contains i then .draw 2 fun j => if j = 0 then .ret (.ok (.nx (blank vs σ)) s1) else if n = 0 then .draw 0 (fun _ => .ret .fail) else (body (blank vs σ) s1).bind (turnC (blank vs σ) s1) else .ret .fail
  | _ => .ret .fail
theorem blank_none : ∀ {vs : List Nat} {σ : Sl} {i : Nat}, i ∈ vs → ∀ d, (blank vs σ)[i]? ≠ some (some d)
  | [], _, _, h, _, _ => by cases h
  | j :: r, σ, i, h, d, e => by
    rw [blank] at e
    rcases List.mem_cons.mp h with rfl | h
    · have := blank_get e
      by_cases hl : i < σ.length
      · rw [List.getElem?_set_self hl] at this; cases this
      · rw [List.getElem?_eq_none (by rw [List.length_set]; omega)] at this; cases this
    · exact blank_none h d e
/-- a slot that nobody asks for -/
theorem RelS.unask {ι : Iota} {σd : Sl} {s : S} {σ : L2.St} {H : Hp} {i : Nat} {d : D} (h : ∀ d, σd[i]? ≠ some (some d)) (R : RelS G ι (σd.set i (some d)) s σ H) : RelS G ι σd s σ H :=
  ⟨R.hp, by rw [R.len, List.length_set], fun j e q => by
    by_cases hj : i = j
    · subst hj; exact absurd q (h e)
    · exact R.slot j e (by rw [List.getElem?_set_ne hj]; exact q)⟩
theorem rd_forU {i : Nat} {vs : List Nat} {me : Sl → M D} {body : Sl → M Fl} (N : Ends) (σ : L2.St) (H : Hp) (h : tSD G W (gForU i vs me body) N σ H) : tFor (tIt G W (mRng1 me)) (tGD G (gN i)) (tSD G W body) N σ H := by
  obtain ⟨ι, σd, s, R, w⟩ := h
  refine ⟨ι, σd, s, R, (go_inS R w).imp fun ι1 H1 it s1 l1 k1 R1 g1 J ok => ?_⟩
  cases it with
  | rng lo n =>
    by_cases hv : vs.contains i = true
    · have g2 : (T.draw 2 fun j => if j = 0 then T.ret (Out.ok (Fl.nx (blank vs σd)) s1) else if n = 0 then .draw 0 (fun _ => .ret .fail) else (body (blank vs σd) s1).bind (turnC (blank vs σd) s1)).All (Out.sat (FlOk G W N ι1 H1) fun _ _ => False) := by
        have := g1
        unfold wp at this
        simp only [hv, if_true] at this
        exact this
      have mi : i ∈ vs := by simpa using hv
      have e0 := g2 0 (by omega)
      have e1 := g2 1 (by omega)
      simp only [if_true] at e0
      simp only [Nat.one_ne_zero, if_false] at e1
      refine ⟨fun j m σ' H' => j + m = n ∧ ∃ ι', Le ι1 ι' ∧ Keep H1 H' ∧ RelS G ι' (blank vs σd) s1 σ' H',
        ⟨n, by omega, ι1, Le.refl _, Keep.refl _, (R.on l1 k1 R1).blank vs⟩, ?_⟩
      rintro j m σ' H' ⟨him, ι', l, k, R'⟩
      have ok' := ok ι' H' s1 j l k R'.hp
      by_cases hj : j < n
      · have hn : ¬ n = 0 := by omega
        rw [if_neg hn] at e1
        obtain ⟨go, yl⟩ := ok'.2 (.int (lo + j)) (by simp [ItD.at, hj])
        refine .inr ⟨go, fun σ2 H2 => ∃ ι', Le ι1 ι' ∧ Keep H1 H2 ∧ RelS G ι' (blank vs σd) s1 σ2 H2, fun σ2 H2 q => ⟨m - 1, by omega, by omega, q⟩, fun x H2 y => ?_⟩
        obtain ⟨kx, Rx, rx⟩ := yl x H2 y
        refine ⟨ι', _, s1, _, R'.on (Le.refl _) kx Rx, rx, fun ι3 σ3 H3 l3 k3 R3 => ?_⟩
        have w2 : wp (body (blank vs σd)) s1 (fun fl s' => (turnC (blank vs σd) s1 (.ok fl s')).All (Out.sat (FlOk G W N ι1 H1) fun _ _ => False)) (fun _ _ => False) := by
          refine T.All.mono (fun o z => ?_) ((T.all_bind _ _).mp e1)
          cases o with
          | ok a s' => exact z
          | exc x s' => exact z
          | fail => exact z
        refine ⟨ι3, _, s1, R3.unask (blank_none mi), wp_mono w2 (fun fl s4 z => ?_) fun _ _ z => z⟩
        have l13 := l.trans l3
        have k13 := (k.trans kx).trans k3
        have back : ∀ {σd4 : Sl}, (if chk σd4 s4 (blank vs σd) s1 = true then (T.draw 0 (fun _ => T.ret (Out.fail (α := Fl)))) else .ret .fail).All (Out.sat (FlOk G W N ι1 H1) fun _ _ => False) →
            ∀ ι4 σ4 H4, Le ι3 ι4 → Keep H3 H4 → RelS G ι4 σd4 s4 σ4 H4 → ∃ ι', Le ι1 ι' ∧ Keep H1 H4 ∧ RelS G ι' (blank vs σd) s1 σ4 H4 := by
          intro σd4 z ι4 σ4 H4 l4 k4 R4
          by_cases hc : chk σd4 s4 (blank vs σd) s1 = true
          · obtain ⟨ι5, l5, R5⟩ := R4.less' hc R1 (l13.trans l4)
            exact ⟨ι5, l5, k13.trans k4, R5⟩
          · rw [if_neg hc] at z
            exact z.elim
        cases fl with
        | nx σd4 => exact fun ι4 σ4 H4 l4 k4 R4 => back z ι4 σ4 H4 l4 k4 R4
        | ct σd4 => exact fun ι4 σ4 H4 l4 k4 R4 => back z ι4 σ4 H4 l4 k4 R4
        | bk σd4 => exact fun ι4 σ4 H4 l4 k4 R4 => z ι4 σ4 H4 (l13.trans l4) (k13.trans k4) R4
        | rt d4 => exact fun ι4 v4 H4 l4 k4 R4 r4 => z ι4 v4 H4 (l13.trans l4) (k13.trans k4) R4 r4
        | xc x4 σd4 => exact fun ι4 σ4 H4 cls dx l4 k4 R4 r4 => z ι4 σ4 H4 cls dx (l13.trans l4) (k13.trans k4) R4 r4
      · exact .inl ⟨ok'.1 (by simp [ItD.at, hj]), e0 ι' σ' H' l k R'⟩
    · have : (T.ret (Out.fail (α := Fl))).All (Out.sat (FlOk G W N ι1 H1) fun _ _ => False) := by
        have := g1
        unfold wp at this
        simp only [hv, Bool.false_eq_true, if_false] at this
        exact this
      exact this.elim
  | _ => exact g1.elim
end
end Ev

/-! EvP: the evaluator's own terms, and how they run. -/
namespace Ev
open PySem PySem.Spec PyProof.Rows L2

inductive Ex where
  | var (i : Nat) | con (d : D)
  | bin (op : Nat) (a b : Ex)
  | cmp (op : Nat) (a b : Ex)
  | chain (op op' : Nat) (a b c : Ex)
  | and (a b : Ex) | or (a b : Ex) | not (a : Ex) | neg (a : Ex) | one (a : Ex)
  | ite (c a b : Ex)
  | tAnd (a b : Ex) | tOr (a b : Ex) | tNot (a : Ex) | tVal (a : Ex)
  | tup (es : List Ex) | lst (es : List Ex) | star (e : Ex)
  | ix (o i : Ex) | sl (o : Ex) (lo hi : Option Ex) | rev (o : Ex)
  | fld (f : Cs) (o : Ex)
  | callK (j : Nat) (es : List Ex) | call (f : Nat) (es : List Ex) | mk (c : Nat) (es : List Ex) | mkL (i : Nat) (es : List Ex)
  | me (m : Nat) (o : Ex) (es : List Ex) | cme (m : Nat) (o : Ex) (es : List Ex)
  | bi (b : Nat) (es : List Ex) | lenset (e : Ex)
  | bm (m : Nat) (o : Ex) (es : List Ex)
  | fmt (e : Ex) | js (es : List Ex)
  | dict (ks vs : List Ex)
  | lc (k : Nat) (it : List Ex) (p : Pat) (t : Option Ex) (e : Ex) (vs : List Nat)

inductive Tgt where
  | nm (i : Nat) | tp (ts : List Tgt) | at (f : Cs) (o : Ex) | sub (o i : Ex)
inductive Sm where
  | pass | brk | cnt | retN | fail
  | ret (e : Ex) | expr (e : Ex)
  | asg (t : Tgt) (e : Ex)
  | ite (c : Ex) (a b : List Sm)
  | for_ (t : Tgt) (k : Nat) (it : List Ex) (b : List Sm)
  | whl (c : Ex) (b : List Sm)
  | forU (i : Nat) (e : Ex) (b : List Sm) (vs : List Nat)
  | forC (t : Tgt) (k : Nat) (it : List Ex) (b : List Sm) (vs : List Nat)
  | asgL (i k : Nat) (it : List Ex) (p : Pat) (t : Option Ex) (e : Ex) (vs : List Nat)
  | tryN (b : List Sm)
  | mtch (e : Ex) (cs : List Cs) (bs : List (List Sm))

/-- what a program has: defs, methods, classes -/
structure Pg where
  fn : Nat → List D → M D
  fk : Nat → List D → M D
  me : Nat → Nat → Option Nat
  cm : Nat → Nat → Option Nat
  ini : Nat → Option Nat
  kit : TyD → D → Option Bool
  pf : Cs → Nat → Bool
  mn : Nat → Cs
  ns : List Int
  pr : Cs → Nat → Option Nat
  ln : Nat → Option Nat
  eqf : Nat → Nat → Option Nat
  sf : Nat → Option Nat
  gi : Nat → Option Nat
  ad : Nat → Option Nat

def binM (P : Pg) : Nat → D → D → M D
  | 0 => addOM fun c => (P.ad c).map P.fn
  | 1 => subM
  | 2 => mulM
  | 3 => fdivM
  | 4 => modM
  | 5 => powM
  | 6 => iaddOM fun c => (P.ad c).map P.fn
  | _ => fun _ _ => M.fail
def cmpM (P : Pg) : Nat → D → D → M D
  | 0 => ltM
  | 1 => gtM
  | 2 => leM
  | 3 => geM
  | 4 => cmpOM false (fun c c' => (P.eqf c c').map P.fn) eqM
  | 5 => cmpOM true (fun c c' => (P.eqf c c').map P.fn) neM
  | 6 => inM
  | 7 => notInM
  | 8 => isM
  | 9 => isNotM
  | _ => fun _ _ => M.fail
def biM (P : Pg) : Nat → List D → M D
  | 0 => lenOM P.ns.length fun c => (P.ln c).map P.fn
  | 1 => absM
  | 2 => max2M
  | 3 => min2M
  | 4 => intM
  | 5 => strOM fun c => (P.sf c).map P.fn
  | 6 => listM
  | 7 => tupleM
  | 8 => allM
  | 9 => anyM
  | 10 => isiM P.kit
  | 11 => sortedM
  | _ => fun _ => M.fail
/-- methods of built-in types: by the name's number and the type's -/
def bmA : Nat → Nat → Option (D → List D → M D)
  | 0, 3 => some appendM
  | 1, 3 => some extendM
  | 2, 3 => some popM
  | 3, 3 => some insertM
  | 4, 3 => some indexLM
  | 4, 2 => some indexSM
  | 5, 2 => some joinM
  | 6, 2 => some splitM
  | 7, 2 => some startsM'
  | _, _ => none

def iArgs (f : Ex → Sl → M D) : List Ex → Sl → M (List D)
  | [] => mNil
  | e :: r => mCons (f e) (iArgs f r)
def iElts (f : Ex → Sl → M D) : List Ex → Sl → M (List D)
  | [] => mNil
  | .star e :: r => mStar (f e) (iElts f r)
  | e :: r => mCons (f e) (iElts f r)
def iT (f : Ex → Sl → M D) : Nat → Ex → Sl → M Bool
  | 0, _ => fun _ => M.fail
  | n + 1, e => match e with
    | .tAnd a b => mAnd (iT f n a) (iT f n b)
    | .tOr a b => mOr (iT f n a) (iT f n b)
    | .tNot a => mNot (iT f n a)
    | .tVal a => mBool (f a)
    | .one a => iT f n a
    | _ => fun _ => M.fail
def iPairs (f : Ex → Sl → M D) : List Ex → List Ex → List ((Sl → M D) × (Sl → M D))
  | k :: ks, v :: vs => (f k, f v) :: iPairs f ks vs
  | _, _ => []
/-- what is walked: 0 any, 1 enumerate, 2 range of one, 3 range of two, 4 zip -/
def iIt (f : Ex → Sl → M D) : Nat → List Ex → Sl → M ItD
  | 0, [e] => mAny (f e)
  | 1, [e] => mEn (f e)
  | 2, [e] => mRng1 (f e)
  | 3, [a, b] => mRng2 (f a) (f b)
  | 4, [a, b] => mZip (f a) (f b)
  | _, _ => fun _ => M.fail
/-- the dict that a name or a name's field leads to -/
def pathOf : Nat → List Ex → Path
  | 0, [.var i] => fun σ _ => match σ[i]? with
    | some (some (.ref n)) => some n
    | _ => none
  | 0, [.fld f (.var i)] => fun σ s => match σ[i]? with
    | some (some (.ref n)) => match s.get n with
      | some (.ins _ fs) => match ffind fs f with
        | some (.ref m) => some m
        | _ => none
      | _ => none
    | _ => none
  | _, _ => fun _ _ => none
def iTo (f : Ex → Sl → M D) : Option Ex → Sl → M Bool
  | some c => iT f 30 c
  | none => fun _ => M.pure true
/-- the methods of a class, by a name's number -/
def mtOf (P : Pg) (t : Nat → Nat → Option Nat) (m : Nat) : Nat → Option (List D → M D) := fun c => (t c m).map P.fn
def iE (P : Pg) : Nat → Ex → Sl → M D
  | 0, _ => fun _ => M.fail
  | n + 1, e => match e with
    | .var i => mVar i
    | .con d => mC d
    | .bin op a b => m2 (iE P n a) (iE P n b) (binM P op)
    | .cmp op a b => m2 (iE P n a) (iE P n b) (cmpM P op)
    | .chain op op' a b c => mChain (iE P n a) (iE P n b) (iE P n c) (cmpM P op) (cmpM P op')
    | .and a b => mAndV (iE P n a) (iE P n b)
    | .or a b => mOrV (iE P n a) (iE P n b)
    | .not a => mNotV (iE P n a)
    | .neg a => m1 (iE P n a) negM
    | .one a => iE P n a
    | .ite c a b => mIf (iT (iE P n) 30 c) (iE P n a) (iE P n b)
    | .tup es => mA (iElts (iE P n) es) tupM
    | .lst es => mA (iElts (iE P n) es) lstM
    | .ix o i => m2 (iE P n o) (iE P n i) (ixOM fun c => (P.gi c).map P.fn)
    | .sl o lo hi => mSl P.ns (iE P n o) (mPart (lo.map (iE P n))) (mPart (hi.map (iE P n)))
    | .rev o => m1 (iE P n o) revAM
    | .fld f o => m1 (iE P n o) (getMP (P.pf f) (fun c => (P.pr f c).map P.fn) f)
    | .callK j es => mA (iArgs (iE P n) es) (P.fk j)
    | .call f es => mA (iArgs (iE P n) es) (P.fn f)
    | .mk c es => match P.ini c with
      | some f => mMk c (P.fn f) (iArgs (iE P n) es)
      | none => fun _ => M.fail
    | .mkL i es => mMkL i (fun c => (P.ini c).map P.fn) (iArgs (iE P n) es)
    | .me m o es => mMe (iE P n o) (mtOf P P.me m) (P.mn m) (iArgs (iE P n) es)
    | .cme m o es => mCM (iE P n o) (mtOf P P.cm m) (iArgs (iE P n) es)
    | .bi b es => mA (iArgs (iE P n) es) (biM P b)
    | .lenset a => m1 (iE P n a) lenSetM
    | .bm m o es => mMt (iE P n o) (bmA m) (iArgs (iE P n) es)
    | .fmt a => m1 (iE P n a) fmtM
    | .js es => mJoined (es.map (iE P n))
    | .dict ks vs => mDisp (iPairs (iE P n) ks vs)
    | .lc k it p t e vs => mLock (pathOf k it) (mLc (iIt (iE P n) k it) p (iTo (iE P n) t) (iE P n e) vs)
    | _ => fun _ => M.fail
def iG (P : Pg) (m : Nat) : Nat → Tgt → Tg
  | 0, _ => fun _ _ => M.fail
  | n + 1, t => match t with
    | .nm i => gN i
    | .tp ts => gUn ts.length (iGs (iG P m n) ts)
    | .at f o => gAttr (P.pf f) f (iE P m o)
    | .sub o i => gSubT (iE P m o) (iE P m i)
where iGs (f : Tgt → Tg) : List Tgt → Tgs
  | [] => gsNil
  | t :: r => gsCons (f t) (iGs f r)
def iSs (f : Sm → Sl → M Fl) : List Sm → Sl → M Fl
  | [] => gNext
  | s :: r => gSeq (f s) (iSs f r)
/-- m: the fuel for expressions -/
def iS (P : Pg) (m : Nat) : Nat → Sm → Sl → M Fl
  | 0, _ => fun _ => M.fail
  | n + 1, s => match s with
    | .pass => gNext
    | .brk => gBrk
    | .cnt => gCnt
    | .retN => gRetN
    | .fail => fun _ => M.fail
    | .ret e => gRet (iE P m e)
    | .expr e => gExpr (iE P m e)
    | .asg t e => gAsg (iE P m e) (iG P m 10 t)
    | .ite c a b => gIf (iT (iE P m) 30 c) (iSs (iS P m n) a) (iSs (iS P m n) b)
    | .for_ t k it b => gLock (pathOf k it) (gFor (iIt (iE P m) k it) (iG P m 10 t) (iSs (iS P m n) b))
    | .forU i e b vs => gForU i vs (iE P m e) (iSs (iS P m n) b)
    | .forC t k it b vs => gForC vs (iIt (iE P m) k it) (iG P m 10 t) (iSs (iS P m n) b)
    | .whl c b => gWhile 1000000 (iT (iE P m) 30 c) (iSs (iS P m n) b)
    | .asgL i k it p t e vs => gLock (pathOf k it) (gAsg (mLc (iIt (iE P (m - 1)) k it) p (iTo (iE P (m - 1)) t) (iE P (m - 1) e) vs) (gN i))
    | .mtch e cs bs => gMatch (iE P m e) cs (bs.map (iSs (iS P m n)))
    | .tryN b => fun σ => M.fl (iSs (iS P m n) b σ)
/-- a def: how many slots, the defaults, the body -/
structure Fd where
  np : Nat
  ns : Nat
  dfl : List D
  body : List Sm
def slots (np ns : Nat) (dfl : List D) (ds : List D) : Option Sl :=
  let all := ds ++ dfl.drop (dfl.length - (np - ds.length))
  if all.length = np then some (all.map some ++ List.replicate (ns - all.length) none) else none
/-- how a body's end is a call's -/
def outF : Fl → M D
  | .rt d => M.pure d
  | .nx _ => M.pure .non
  | .xc x _ => M.throw x
  | _ => M.fail
def runF (P : Pg) (f : Fd) (ds : List D) : M D := match slots f.np f.ns f.dfl ds with
  | some σ => M.bind (M.noX (iSs (iS P 40 40) f.body σ)) outF
  | none => M.fail
end Ev

/-! EvQ: expressions brought into the evaluator's terms. -/
namespace Ev
open PySem PySem.Spec PyProof.Rows L2

/-! ### what the text must have -/
def isStar : Expr → Bool
  | .Starred _ _ => true
  | _ => false
theorem star_no {e : Expr} {es : List Expr} {env : Env} (h : isStar e = false) : starEach (e :: es) env = (false, eval e env) :: starEach es env := by
  cases e <;> first | rfl | cases h
theorem star_yes {e : Expr} {es : List Expr} {env : Env} {p : Pos} : starEach (.Starred e p :: es) env = (true, eval e env) :: starEach es env := rfl
theorem plain_any {pos : Pos} {env : Env} : ∀ {es : List Expr}, es.all (fun e => !isStar e) = true → (backTo pos (starEach es env)).any (·.1) = false
  | [], _ => rfl
  | e :: es, h => by
    rw [List.all_cons, Bool.and_eq_true] at h
    have h1 : isStar e = false := by simpa using h.1
    have ih := plain_any (pos := pos) (env := env) h.2
    rw [star_no h1]
    show (false || (backTo pos (starEach es env)).any (·.1)) = false
    rw [ih]; rfl
theorem plain_all {pos : Pos} {env : Env} : ∀ {es : List Expr}, es.all (fun e => !isStar e) = true → (backTo pos (starEach es env)).all (fun x => !x.1) = true
  | [], _ => rfl
  | e :: es, h => by
    rw [List.all_cons, Bool.and_eq_true] at h
    have h1 : isStar e = false := by simpa using h.1
    have ih := plain_all (pos := pos) (env := env) h.2
    rw [star_no h1]
    show (true && (backTo pos (starEach es env)).all (fun x => !x.1)) = true
    rw [ih]; rfl
/-- no super() -/
def baseOk : Expr → Bool
  | .Call (.Name _ _) [] [] _ => false
  | _ => true
theorem base_ok {o : Expr} {m : Str} {env : Env} (h : baseOk o = true) : attributeBase o m env (eval o env) = eval o env := by
  unfold attributeBase
  split
  · rename_i id p q e
    cases h
  · rfl

/-! ### tables of a text -/
inductive Gv where
  | fn (i : Nat) | cls (c : Nat) | con (d : D)
structure Tb where
  N : List Str
  sc : Scope
  glob : Str → Option Gv
  mnm : Str → Option Nat
  cmn : Str → Option Nat
  fc : List (Nat × List Nat)
  kwt : Str → List Str → Option Nat
def ixOf : List Str → Str → Option Nat
  | [], _ => none
  | y :: r, x => if y = x then some 0 else (ixOf r x).map (· + 1)
theorem ixOf_get : ∀ {N : List Str} {x : Str} {i : Nat}, ixOf N x = some i → N[i]? = some x
  | [], _, _, h => by cases h
  | y :: r, x, i, h => by
    unfold ixOf at h
    split at h
    · rename_i e
      cases h
      rw [e]; rfl
    · cases e : ixOf r x with
      | none => rw [e] at h; cases h
      | some j =>
        rw [e] at h
        cases h
        simpa using ixOf_get e
def visB (sc : Scope) (x : Str) : Bool := match sc.names.lookup x with
  | some .local => true
  | some .cell => true
  | some .free => true
  | _ => false
theorem visB_ok {sc : Scope} {x : Str} (h : visB sc x = true) : Vis sc x := by
  unfold visB at h
  split at h
  · exact .inl (by assumption)
  · exact .inr (.inl (by assumption))
  · exact .inr (.inr (by assumption))
  · cases h
def glB (sc : Scope) (x : Str) : Bool := match sc.names.lookup x with
  | some .globalImplicit => true
  | _ => false
theorem glB_ok {sc : Scope} {x : Str} (h : glB sc x = true) : sc.names.lookup x = some .globalImplicit := by
  unfold glB at h
  split at h
  · assumption
  · cases h
def okNm (x : Str) : Bool := !(x == ("__debug__" : Str)) && !(x == ("__classdict__" : Str)) && !(x == ("__name__" : Str))
theorem okNm_ok {x : Str} (h : okNm x = true) : (x == ("__debug__" : Str)) = false ∧ (x == ("__classdict__" : Str)) = false ∧ x ≠ "__name__" := by
  unfold okNm at h
  simp only [Bool.and_eq_true, Bool.not_eq_true'] at h
  exact ⟨h.1.1, h.1.2, fun e => by rw [e] at h; simp at h⟩

/-! ### the builtins by their names -/
/-- functions and types that are called -/
def biN : Str → Option Nat := fun x =>
  if x = "len" then some 0 else if x = "abs" then some 1 else if x = "max" then some 2 else if x = "min" then some 3 else if x = "int" then some 4 else if x = "str" then some 5
  else if x = "list" then some 6 else if x = "tuple" then some 7 else if x = "all" then some 8 else if x = "any" then some 9 else if x = "isinstance" then some 10 else if x = "sorted" then some 11 else none
def tyOfN : Str → Option Nat := fun x =>
  if x = "int" then some 0 else if x = "bool" then some 1 else if x = "str" then some 2 else if x = "list" then some 3 else if x = "tuple" then some 4 else if x = "dict" then some 5 else none
def bmN : Str → Option Nat := fun x =>
  if x = "append" then some 0 else if x = "extend" then some 1 else if x = "pop" then some 2 else if x = "insert" then some 3 else if x = "index" then some 4 else if x = "join" then some 5
  else if x = "split" then some 6 else if x = "startswith" then some 7 else none
/-- names that must not be the text's own -/
def bltN : List Str := ["len", "abs", "max", "min", "int", "str", "list", "tuple", "all", "any", "isinstance", "sorted", "set", "range", "enumerate", "zip", "bool", "dict"]

/-! ### the compiler -/
def cConst : Const → Option D
  | .int i => some (.int i)
  | .bool b => some (.bl b)
  | .none => some .non
  | .str x => if decide (x.cps.toList.length ≤ 1000000) && x.cps.toList.all (fun c => decide (c < 128)) then some (.str x.cps.toList) else none
  | _ => none
def cBin : Operator → Option Nat
  | .Add => some 0
  | .Sub => some 1
  | .Mult => some 2
  | .FloorDiv => some 3
  | .Mod => some 4
  | .Pow => some 5
  | _ => none
def cCmp : CmpOp → Option Nat
  | .Lt => some 0
  | .Gt => some 1
  | .LtE => some 2
  | .GtE => some 3
  | .Eq => some 4
  | .NotEq => some 5
  | .In => some 6
  | .NotIn => some 7
  | .Is => some 8
  | .IsNot => some 9
def cAll (f : Expr → Option Ex) : List Expr → Option (List Ex)
  | [] => some []
  | e :: r => if isStar e then none else match f e, cAll f r with
    | some x, some xs => some (x :: xs)
    | _, _ => none
def cElts (f : Expr → Option Ex) : List Expr → Option (List Ex)
  | [] => some []
  | .Starred e _ :: r => match f e, cElts f r with
    | some x, some xs => some (.star x :: xs)
    | _, _ => none
  | e :: r => match f e, cElts f r with
    | some (.star _), _ => none
    | some x, some xs => some (x :: xs)
    | _, _ => none
def cT (f : Expr → Option Ex) : Nat → Expr → Option Ex
  | 0, _ => none
  | n + 1, e => match e with
    | .UnaryOp .Not a _ => (cT f n a).map .tNot
    | .BoolOp _ [a] _ => (cT f n a).map .one
    | .BoolOp .And (a :: b :: r) p => match cT f n a, cT f n (.BoolOp .And (b :: r) p) with
      | some x, some y => some (.tAnd x y)
      | _, _ => none
    | .BoolOp .Or (a :: b :: r) p => match cT f n a, cT f n (.BoolOp .Or (b :: r) p) with
      | some x, some y => some (.tOr x y)
      | _, _ => none
    | .BoolOp _ _ _ => none
    | .IfExp _ _ _ _ => none
    | .Compare a ops cs p => (f (.Compare a ops cs p)).map .tVal
    | e => (f e).map .tVal
/-- slots of a block's own names -/
def ownOf (N : List Str) : List (Str × NameKind) → List (Str × Nat)
  | [] => []
  | y :: r => match y.2, ixOf N y.1 with
    | .local, some i => (y.1, i) :: ownOf N r
    | .cell, some i => (y.1, i) :: ownOf N r
    | _, _ => ownOf N r
def cPat (N : List Str) (sc : Scope) : Nat → Expr → Option Pat
  | 0, _ => none
  | n + 1, e => match e with
    | .Name x _ => match sc.names.lookup x with
      | some .local => (ixOf N x).map .nm
      | _ => none
    | .Tuple es _ _ => (cPats (cPat N sc n) es).map .tp
    | _ => none
where cPats (f : Expr → Option Pat) : List Expr → Option (List Pat)
  | [] => some []
  | e :: r => if isStar e then none else match f e, cPats f r with
    | some x, some xs => some (x :: xs)
    | _, _ => none
def isTuple : Expr → Bool
  | .Tuple _ _ _ => true
  | _ => false
def isRev (lo hi : Option Expr) (sx : Expr) : Bool := lo.isNone && hi.isNone && (match sx with
  | .UnaryOp .USub (.Constant (.int i) _ _) _ => decide (i = 1)
  | .BinOp (.Constant (.int j) _ _) .Sub (.Constant (.int i) _ _) _ => decide (j = 0) && decide (i = 1)
  | _ => false)
theorem isRev_ok {lo hi : Option Expr} {sx : Expr} (h : isRev lo hi sx = true) : lo = none ∧ hi = none ∧ ((∃ k p q, sx = .UnaryOp .USub (.Constant (.int 1) k p) q) ∨ ∃ k p k' p' q, sx = .BinOp (.Constant (.int 0) k p) .Sub (.Constant (.int 1) k' p') q) := by
  unfold isRev at h
  simp only [Bool.and_eq_true, Option.isNone_iff_eq_none] at h
  obtain ⟨⟨rfl, rfl⟩, h⟩ := h
  split at h
  · rename_i i k p q
    have e : i = 1 := of_decide_eq_true h
    subst e
    exact ⟨rfl, rfl, .inl ⟨k, p, q, rfl⟩⟩
  · rename_i j k p i k' p' q
    simp only [Bool.and_eq_true, decide_eq_true_eq] at h
    obtain ⟨rfl, rfl⟩ := h
    exact ⟨rfl, rfl, .inr ⟨k, p, k', p', q, rfl⟩⟩
  · cases h
/-- what is walked -/
def cIt (T : Tb) (f : Expr → Option Ex) (tg : Expr) (e : Expr) : Option (Nat × List Ex) := match e with
  | .Call (.Name x _) args [] _ => match T.sc.names.lookup x, T.glob x with
    | some .globalImplicit, none =>
      if x = "enumerate" then (if isTuple tg then (match args with | [a] => (cAll f [a]).map fun xs => (1, xs) | _ => none) else none)
      else if x = "range" then (match args with
        | [a] => (cAll f [a]).map fun xs => (2, xs)
        | [a, b] => (cAll f [a, b]).map fun xs => (3, xs)
        | _ => none)
      else if x = "zip" then (if isTuple tg then (match args with | [a, b] => (cAll f [a, b]).map fun xs => (4, xs) | _ => none) else none)
      else (f e).map fun x => (0, [x])
    | _, _ => (f e).map fun x => (0, [x])
  | .Set _ _ _ => none
  | _ => (f e).map fun x => (0, [x])
/-- which slots a pattern sets -/
def subN (a b : List Nat) : Bool := a.all fun i => b.contains i
def cE : Nat → Tb → Expr → Option Ex
  | 0, _, _ => none
  | n + 1, T, e => match e with
    | .Name x _ => if okNm x then (if visB T.sc x then (ixOf T.N x).map .var
        else if glB T.sc x then (match T.glob x with
          | some (.con d) => some (.con d)
          | some (.cls c) => some (.con (.cls c))
          | some (.fn _) => none
          | none => (tyOfN x).map fun t => .con (.ty t)) else none) else none
    | .Constant c _ _ => (cConst c).map .con
    | .BinOp a op b _ => match cBin op, cE n T a, cE n T b with
      | some o, some x, some y => some (.bin o x y)
      | _, _, _ => none
    | .UnaryOp .USub a _ => (cE n T a).map .neg
    | .UnaryOp .Not a _ => (cE n T a).map .not
    | .BoolOp _ [a] _ => (cE n T a).map .one
    | .BoolOp .And (a :: b :: r) p => match cE n T a, cE n T (.BoolOp .And (b :: r) p) with
      | some x, some y => some (.and x y)
      | _, _ => none
    | .BoolOp .Or (a :: b :: r) p => match cE n T a, cE n T (.BoolOp .Or (b :: r) p) with
      | some x, some y => some (.or x y)
      | _, _ => none
    | .IfExp c a b _ => match cT (cE n T) 30 c, cE n T a, cE n T b with
      | some z, some x, some y => some (.ite z x y)
      | _, _, _ => none
    | .Compare a [op] [b] _ => if behindInMarks op b then none else match cCmp op, cE n T a, cE n T b with
      | some o, some x, some y => some (.cmp o x y)
      | _, _, _ => none
    | .Compare a [op, op'] [b, c] _ => if lastMarks [op, op'] [b, c] then none else match cCmp op, cCmp op', cE n T a, cE n T b, cE n T c with
      | some o, some o', some x, some y, some z => some (.chain o o' x y z)
      | _, _, _, _, _ => none
    | .Tuple es _ _ => (cElts (cE n T) es).map .tup
    | .List es _ => (cElts (cE n T) es).map .lst
    | .Subscript o (.Slice lo hi (some sx) _) _ => if isRev lo hi sx then (cE n T o).map .rev else none
    | .Subscript o (.Slice lo hi none _) _ => match cE n T o, cOpt (cE n T) lo, cOpt (cE n T) hi with
      | some x, some l, some h => some (.sl x l h)
      | _, _, _ => none
    | .Subscript o i _ => if plainIx i then (match cE n T o, cE n T i with
      | some x, some y => some (.ix x y)
      | _, _ => none) else none
    | .Attribute o f _ => if baseOk o then (cE n T o).map (.fld f.cps.toList) else none
    | .Call (.Name x _) args [] _ => if okNm x then (
        if visB T.sc x then (match ixOf T.N x, args, cAll (cE n T) args with
          | some i, _ :: _, some xs => some (.mkL i xs)
          | _, _, _ => none)
        else if glB T.sc x then (match T.glob x with
          | some (.fn i) => (cAll (cE n T) args).map (.call i)
          | some (.cls c) => (cAll (cE n T) args).map (.mk c)
          | some (.con _) => none
          | none => match setArg T x args with
            | some a => if isStar a then none else (cE n T a).map .lenset
            | none => match biN x, args, cAll (cE n T) args with
              | some b, _ :: _, some xs => some (.bi b xs)
              | _, _, _ => none)
        else none) else none
    | .Call (.Name x _) [] (kw :: kws) _ => if okNm x && (!visB T.sc x && glB T.sc x) then (match kwN (kw :: kws), cAll (cE n T) ((kw :: kws).map (·.value)) with
      | some ks, some xs => (T.kwt x ks).map fun j => .callK j xs
      | _, _ => none) else none
    | .Call (.Attribute o m apos) args [] pos => if baseOk o && (apos.endLine == pos.line) && decide (args.length < 29) then (match cE n T o, cAll (cE n T) args with
      | some x, some xs => match bmN m with
        | some b => some (.bm b x xs)
        | none => match T.cmn m with
          | some j => if args.isEmpty then none else some (.cme j x xs)
          | none => (T.mnm m).map fun j => .me j x xs
      | _, _ => none) else none
    | .JoinedStr [a] _ => (cE n T a).map .one
    | .JoinedStr (a :: b :: r) _ => (cAll (cE n T) (a :: b :: r)).map .js
    | .FormattedValue a (-1) none _ => (cE n T a).map .fmt
    | .Dict ks vs _ => if ks.all (·.isSome) && decide (ks.length = vs.length) && decide (ks.length ≤ 15) then (match cAll (cE n T) (ks.filterMap id), cAll (cE n T) vs with
      | some xs, some ys => some (.dict xs ys)
      | _, _ => none) else none
    | .ListComp elt [⟨tg, iter, ifs, 0⟩] scope _ =>
      let own := ownOf T.N scope.names
      let vs := own.map (·.2)
      let T' : Tb := { T with sc := relS scope T.sc }
      if blkC T.N T.sc scope own then (match cIt T (cE n T) tg iter, cPat T.N T'.sc 10 tg, cE n T' elt with
        | some (k, it), some p, some x => if subN (patS p) vs then (match ifs with
          | [] => some (.lc k it p none x vs)
          | [c] => (cT (cE n T') 30 c).map fun t => .lc k it p (some t) x vs
          | _ => none) else none
        | _, _, _ => none) else none
    | _ => none
where
  cOpt (f : Expr → Option Ex) : Option Expr → Option (Option Ex)
    | none => some none
    | some e => (f e).map some
  plainIx : Expr → Bool
    | .Slice _ _ _ _ => false
    | .Tuple _ _ _ => false
    | _ => true
  /-- len(set(a)) -/
  setArg (T : Tb) (x : Str) : List Expr → Option Expr
    | [.Call (.Name y _) [a] [] _] => if x = "len" ∧ y = "set" ∧ T.sc.names.lookup y = some .globalImplicit ∧ (T.glob y).isNone then some a else none
    | _ => none
end Ev

/-! EvR: the compiler of expressions is right. -/
namespace Ev
open PySem PySem.Spec PyProof.Rows L2

def GvOk (X : Cx) (G : Gd) (P : Pg) (k : Nat) (x : Str) : Gv → Prop
  | .fn i => ∃ f, X.mg x = some (.ref f) ∧ PySem.W.keepIn X.K (.ref f) = true ∧ Fk X.prog X.w X.K X.mg X.base k f (spD G (P.fn i))
  | .cls c => X.mg x = some (.ref (G.ca c))
  | .con d => ∃ v u, X.mg x = some u ∧ RelV v u ∧ ∀ ι H, Rp G ι H d v
/-- what of a program's facts is wanted, at call level k -/
structure Pok (X : Cx) (G : Gd) (P : Pg) (T : Tb) (k : Nat) : Prop where
  glob : ∀ x g, T.glob x = some g → GvOk X G P k x g
  bl : ∀ x, T.glob x = none → x ∈ bltN → X.mg x = none
  me : ∀ m j, T.mnm m = some j → st (P.mn j) = m ∧ ∀ c f, mtOf P P.me j c = some f → Cls G.K (G.ca c) ∧ ∃ g, Meth G.K (G.ca c) m g ∧ Fk X.prog X.w X.K X.mg X.base k g (spD G f)
  cm : ∀ m j, T.cmn m = some j → ∀ c f, mtOf P P.cm j c = some f → ∃ mc q g, ClX.CRead G.K (G.ca c) mc ∧ ClX.CMet G.K (G.ca c) mc m q g ∧ Fk X.prog X.w X.K X.mg X.base k g (spD G f)
  ini : ∀ c f, P.ini c = some f → ∃ g, Mk G.K (G.ca c) g ∧ Fk X.prog X.w X.K X.mg X.base k g (spD G (P.fn f))
  kit : KitOk G P.kit
  pf : ∀ f c, P.pf f c = true → Cls G.K (G.ca c) ∧ NoAttr G.K (G.ca c) (st f)
  n0 : P.ns = G.ns
  kw : ∀ x ks j, T.kwt x ks = some j → ∃ f, X.mg x = some (.ref f) ∧ PySem.W.keepIn X.K (.ref f) = true ∧ FkK X.prog X.w X.K X.mg X.base k f 0 ks (spD G (P.fk j))
  pr : ∀ f c g, (P.pr f c).map P.fn = some g → Cls G.K (G.ca c) ∧ ∃ p a, PropOf G.K (G.ca c) (st f) p a ∧ Fk X.prog X.w X.K X.mg X.base k a (spD G g)
  eqf : EqfOk X G k fun c c' => (P.eqf c c').map P.fn
  sf : ∀ c g, (P.sf c).map P.fn = some g → ∃ a, PySem.W.findIn G.K (.ref (G.ca c)) "__str__" = some (some (.ref a)) ∧ PySem.W.isFn G.K (.ref a) = true ∧ Fk X.prog X.w X.K X.mg X.base k a (spD G g)
  gi : GiOk X G k fun c => (P.gi c).map P.fn
  ad : IAdOk X G k fun c => (P.ad c).map P.fn
  ln : ∀ c g, (P.ln c).map P.fn = some g → ∃ a, PySem.W.findIn G.K (.ref (G.ca c)) "__len__" = some (some (.ref a)) ∧ PySem.W.isFn G.K (.ref a) = true ∧ Fk X.prog X.w X.K X.mg X.base k a (spD G g)
structure Cok (X : Cx) (G : Gd) (W : WX) (P : Pg) (T : Tb) (k : Nat) : Prop where
  K : X.K = G.K
  N : X.N = T.N
  sc : X.env.scope = T.sc
  calm : X.calm = true
  nd : X.N.Nodup
  tk : Takes X W
  room3 : Room (k + 3) X.A
  pk : Pok X G P T k
section
variable {X : Cx} {G : Gd} {W : WX} {P : Pg} {T : Tb} {k : Nat}
theorem Cok.gl (c : Cok X G W P T k) {x : Str} (h : glB T.sc x = true) : Gl X x := by
  show X.env.scope.names.lookup x = _
  rw [c.sc]; exact glB_ok h
theorem Cok.vis (c : Cok X G W P T k) {x : Str} (h : visB T.sc x = true) : Vis X.env.scope x := by rw [c.sc]; exact visB_ok h
theorem Cok.ix (c : Cok X G W P T k) {x : Str} {i : Nat} (h : ixOf T.N x = some i) : X.N[i]? = some x := by rw [c.N]; exact ixOf_get h
theorem Cok.room (c : Cok X G W P T k) : Room (k + 1) X.A := c.room3.mono (by omega)
theorem Cok.units (c : Cok X G W P T k) : X.A.units + 64 < cLine := by have := c.room.un; omega
theorem st_self (x : Str) : st x.cps.toList = x := by
  cases x; simp [st]
/-- in a block -/
theorem Cok.blk (c : Cok X G W P T k) {scope : Scope} {s : Shared} {H : Hp} {C : Addr} {cl : List (Str × Addr)} {fp : List Addr} :
    Cok (X.blk s H scope (compEnvC scope cl C X.env) fp) G W0 P { T with sc := relS scope T.sc } k where
  K := c.K
  N := c.N
  sc := by
    show (compEnvC scope cl C X.env).scope = relS scope T.sc
    rw [← c.sc]; rfl
  calm := c.calm
  nd := c.nd
  tk := takes0
  room3 := c.room3
  pk := ⟨c.pk.glob, c.pk.bl, c.pk.me, c.pk.cm, c.pk.ini, c.pk.kit, c.pk.pf, c.pk.n0, c.pk.kw, c.pk.pr, c.pk.eqf, c.pk.sf, c.pk.gi, c.pk.ad, c.pk.ln⟩

/-! ### constants -/
theorem const_ok {cst : Const} {d : D} {j : Nat} {pos : Pos} (h : cConst cst = some d) : PE X (.Constant cst j pos) (tD G W (mC d)) := by
  cases cst with
  | int i => cases h; exact PE.imp pe_int (rd_C fun ι H => .int i)
  | bool b => cases h; exact PE.imp pe_bl (rd_C fun ι H => .bl b)
  | none => cases h; exact PE.imp pe_non (rd_C fun ι H => .non)
  | str x =>
    simp only [cConst] at h
    split at h
    · rename_i hc
      cases h
      simp only [Bool.and_eq_true, decide_eq_true_eq, List.all_eq_true] at hc
      refine PE.imp pe_str (rd_C fun ι H => ?_)
      have := Rp.str (G := G) (ι := ι) (H := H) x.cps.toList ⟨hc.1, fun c hx => hc.2 c hx⟩
      rw [st_self] at this
      exact this
    · cases h
  | _ => cases h
/-! ### operators -/
theorem bin_ok {op : Operator} {o : Nat} {a b : Expr} {ma mb : Sl → M D} {pos : Pos} (c : Cok X G W P T k) (h : cBin op = some o) (ha : PE X a (tD G W ma)) (hb : PE X b (tD G W mb)) : PE X (.BinOp a op b pos) (tD G W (m2 ma mb (binM P o))) := by
  cases op <;> first
    | (cases h; done)
    | (cases h
       first
       | exact PE.imp (pe_op (OpR.or (by rw [← c.K]; exact op_addA) (op_addO (k := k) (c.room3.mono (by omega)))) ha hb) (lift2 (addOS c.K c.pk.ad.ad addS))
       | exact PE.imp (pe_op op_sub ha hb) (lift2 subS)
       | exact PE.imp (pe_op op_mul ha hb) (lift2 mulS)
       | exact PE.imp (pe_op op_fdiv ha hb) (lift2 fdivS)
       | exact PE.imp (pe_op op_mod ha hb) (lift2 modS)
       | exact PE.imp (pe_op op_pow ha hb) (lift2 powS))
theorem cmp_op {op : CmpOp} {o : Nat} (c : Cok X G W P T k) (h : cCmp op = some o) : ∃ r, OpR X (compareOp op) r ∧ OpS G r (cmpM P o) := by
  have u := c.units
  cases op <;> cases h
  · exact ⟨_, OpR.or (op_eqD (by omega)) (op_eqO c.room), eqOS c.K c.pk.eqf (by rw [c.K]; exact eqS)⟩
  · exact ⟨_, OpR.or (op_neD (by omega)) (op_neO c.room), neOS c.K c.pk.eqf (by rw [c.K]; exact neS)⟩
  · exact ⟨_, op_ltA (by omega), by rw [c.K]; exact ltS⟩
  · exact ⟨_, op_le, leS⟩
  · exact ⟨_, op_gtA, gtS⟩
  · exact ⟨_, op_ge, geS⟩
  · exact ⟨_, op_isA, isS⟩
  · exact ⟨_, op_isNotA, isNotS⟩
  · exact ⟨_, op_inA (by omega), by rw [c.K]; exact inS⟩
  · exact ⟨_, op_notInA (by omega), by rw [c.K]; exact notInS⟩
theorem cmp_ok {op : CmpOp} {o : Nat} {a b : Expr} {ma mb : Sl → M D} {pos : Pos} (c : Cok X G W P T k) (h : cCmp op = some o) (hm : behindInMarks op b = false) (ha : PE X a (tD G W ma)) (hb : PE X b (tD G W mb)) :
    PE X (.Compare a [op] [b] pos) (tD G W (m2 ma mb (cmpM P o))) := by
  obtain ⟨r, h1, h2⟩ := cmp_op c h
  exact PE.imp (pe_cmpR h1 ha hb hm) (lift2 h2)
theorem chain_ok {op op' : CmpOp} {o o' : Nat} {a b d : Expr} {ma mb mc : Sl → M D} {pos : Pos} (c : Cok X G W P T k) (h : cCmp op = some o) (h' : cCmp op' = some o') (hm : lastMarks [op, op'] [b, d] = false) (ha : PE X a (tD G W ma)) (hb : PE X b (tD G W mb)) (hd : PE X d (tD G W mc)) :
    PE X (.Compare a [op, op'] [b, d] pos) (tD G W (mChain ma mb mc (cmpM P o) (cmpM P o'))) := by
  obtain ⟨r, h1, h2⟩ := cmp_op c h
  obtain ⟨r', h3, h4⟩ := cmp_op c h'
  exact PE.imp (pe_chain h1 h3 ha hb hd hm) (rd_chain h2 h4)
/-- a comparison as a test -/
theorem rd_test {te : TE} {me : Sl → M D} (hr : ∀ σ H Q, tD G W me σ H Q → te σ H Q) (σ : L2.St) (H : Hp) (Q : Bool → Hp → Prop) (h : tDT G W (mBool me) σ H Q) : tTest te σ H Q := by
  obtain ⟨ι, σd, s, R, g⟩ := h
  refine hr σ H _ ⟨ι, σd, s, R, (Go.bind g).imp fun ι1 H1 d s1 l1 k1 R1 g1 v r1 => ?_⟩
  cases d with
  | bl b => cases r1; exact ⟨b, rfl, Go.pure g1 R1⟩
  | _ => exact (Go.fail g1).elim
theorem cmp_test {op : CmpOp} {o : Nat} {a b : Expr} {ma mb : Sl → M D} {pos : Pos} (c : Cok X G W P T k) (h : cCmp op = some o) (hm : behindInMarks op b = false) (ha : PE X a (tD G W ma)) (hb : PE X b (tD G W mb)) :
    PT X (.Compare a [op] [b] pos) (tDT G W (mBool (m2 ma mb (cmpM P o)))) := by
  obtain ⟨r, h1, h2⟩ := cmp_op c h
  exact PT.imp (pt_cmpR h1 ha hb hm) (rd_test (lift2 h2))
theorem chain_test {op op' : CmpOp} {o o' : Nat} {a b d : Expr} {ma mb mc : Sl → M D} {pos : Pos} (c : Cok X G W P T k) (h : cCmp op = some o) (h' : cCmp op' = some o') (hm : lastMarks [op, op'] [b, d] = false) (ha : PE X a (tD G W ma)) (hb : PE X b (tD G W mb)) (hd : PE X d (tD G W mc)) :
    PT X (.Compare a [op, op'] [b, d] pos) (tDT G W (mBool (mChain ma mb mc (cmpM P o) (cmpM P o')))) := by
  obtain ⟨r, h1, h2⟩ := cmp_op c h
  obtain ⟨r', h3, h4⟩ := cmp_op c h'
  exact PT.imp (pt_chain h1 h3 ha hb hd hm) (rd_test (rd_chain h2 h4))

/-! ### arguments -/
variable {f : Expr → Option Ex} {g : Ex → Sl → M D}
theorem all_ok (hf : ∀ e x, f e = some x → PE X e (tD G W (g x))) : ∀ {es : List Expr} {xs : List Ex}, cAll f es = some xs → PA X es (tDs G W (iArgs g xs)) ∧ es.all (fun e => !isStar e) = true
  | [], xs, h => by cases h; exact ⟨PA.imp pa_nil rd_nil, rfl⟩
  | e :: r, xs, h => by
    unfold cAll at h
    split at h
    · cases h
    · rename_i hs
      have hs : isStar e = false := by simpa using hs
      split at h
      · rename_i x ys h1 h2
        cases h
        obtain ⟨i1, i2⟩ := all_ok hf h2
        exact ⟨PA.imp (pa_cons (hf e x h1) i1 (star_no hs)) rd_cons, by rw [List.all_cons, hs, i2]; rfl⟩
      · cases h
theorem kws_ok (hf : ∀ e x, f e = some x → PE X e (tD G W (g x))) : ∀ {es : List Keyword} {xs : List Ex}, cAll f (es.map (·.value)) = some xs → PK X es (tDs G W (iArgs g xs)) ∧ xs.length = es.length
  | [], xs, h => by cases h; exact ⟨⟨fun pos pins s σ H Q I z => pk_nil.run pos pins s σ H Q I (rd_nil σ H Q z)⟩, rfl⟩
  | ⟨nm, e, kp⟩ :: r, xs, h => by
    have h : cAll f (e :: r.map (·.value)) = some xs := h
    unfold cAll at h
    split at h
    · cases h
    · split at h
      · rename_i x ys h1 h2
        cases h
        obtain ⟨i1, i2⟩ := kws_ok hf h2
        exact ⟨⟨fun pos pins s σ H Q I z => (pk_cons (hf e x h1) i1).run pos pins s σ H Q I (rd_cons σ H Q z)⟩, by rw [List.length_cons, List.length_cons, i2]⟩
      · cases h
/-- so many as are asked -/
theorem args_len : ∀ (xs : List Ex) (σd : Sl) (s : S) (Q : List D → S → Prop) (E : XV → S → Prop), wp (iArgs g xs σd) s Q E → wp (iArgs g xs σd) s (fun ds s' => ds.length = xs.length ∧ Q ds s') E
  | [], σd, s, Q, E, h => ⟨rfl, h⟩
  | x :: r, σd, s, Q, E, h => by
    have h1 : wp (M.bind (g x σd) fun y => M.bind (iArgs g r σd) fun ys => M.pure (y :: ys)) s Q E := h
    show wp (M.bind (g x σd) fun y => M.bind (iArgs g r σd) fun ys => M.pure (y :: ys)) s _ E
    refine wp_bind.mpr (wp_mono (wp_bind.mp h1) (fun y s1 z => wp_bind.mpr (wp_mono (args_len r σd s1 _ E (wp_bind.mp z)) (fun ys s2 z2 => ?_) fun _ _ z => z)) fun _ _ z => z)
    exact ⟨by rw [List.length_cons, List.length_cons, z2.1], z2.2⟩
theorem tDs_len {xs : List Ex} (σ : L2.St) (H : Hp) (Q : List V → Hp → Prop) (h : tDs G W (iArgs g xs) σ H Q) : tDs G W (iArgs g xs) σ H fun vs H1 => vs.length = xs.length ∧ Q vs H1 := by
  obtain ⟨ι, σd, s, R, w⟩ := h
  refine ⟨ι, σd, s, R, wp_mono (args_len xs σd s _ _ w) (fun ds s' z ι' H' l k R' vs r => ?_) fun _ _ z => z⟩
  exact ⟨by rw [← r.length]; exact z.1, z.2 ι' H' l k R' vs r⟩
theorem elts_ok (c : Cok X G W P T k) (hf : ∀ e x, f e = some x → PE X e (tD G W (g x))) : ∀ {es : List Expr} {xs : List Ex}, cElts f es = some xs → PA X es (tDs G W (iElts g xs))
  | [], xs, h => by cases h; exact PA.imp pa_nil rd_nil
  | e :: r, xs, h => by
    by_cases hs : isStar e = true
    · cases e with
      | Starred a p =>
        simp only [cElts] at h
        split at h
        · rename_i x ys h1 h2
          cases h
          have hr : ∀ σ H Q, tDs G W (mStar (g x) (iElts g ys)) σ H Q → StX.tStar X.K (tD G W (g x)) (tDs G W (iElts g ys)) σ H Q := by rw [c.K]; exact rd_star
          exact PA.imp (StX.pa_star (hf a x h1) (elts_ok c hf h2) rfl) hr
        · cases h
      | _ => cases hs
    · have hs : isStar e = false := by simpa using hs
      have h' : (match f e, cElts f r with
        | some (.star _), _ => none
        | some x, some xs => some (x :: xs)
        | _, _ => none) = some xs := by
        cases e <;> first | exact h | cases hs
      split at h'
      · cases h'
      · rename_i x ys hns h1 h2
        cases h'
        have e2 : iElts g (x :: ys) = mCons (g x) (iElts g ys) := by
          cases x <;> first | rfl | exact absurd rfl (hns _)
        rw [e2]
        exact PA.imp (pa_cons (hf e x h1) (elts_ok c hf h2) (star_no hs)) rd_cons
      · cases h'
/-! ### tests -/
def isBool : Expr → Bool
  | .BoolOp _ _ _ => true
  | _ => false
theorem PW.imp' {e : Expr} {t t' : TT} (h : PW X e t) (i : ∀ σ H Q, t' σ H Q → t σ H Q) : PW X e t' := ⟨fun wh pins s σ H Q I hw => h.run wh pins s σ H Q I (i σ H Q hw)⟩
theorem test_ok (hf : ∀ e x, f e = some x → PE X e (tD G W (g x))) (hc : ∀ a ops cs p x, f (.Compare a ops cs p) = some x → PT X (.Compare a ops cs p) (tDT G W (mBool (g x)))) :
    ∀ (n : Nat) (e : Expr) (x : Ex), cT f n e = some x → PT X e (tDT G W (iT g n x)) ∧ (isBool e = true → PW X e (tDT G W (iT g n x)))
  | 0, _, _, h => by cases h
  | n + 1, e, x, h => by
    have plain : ∀ y, f e = some y → x = .tVal y → (∀ whole, isTrue e X.env whole = (do let v ← whole; standAt e.pos; holding [v] (truthy v))) → PT X e (tDT G W (iT g (n + 1) x)) := fun y hy hx he => by
      subst hx
      exact PT.imp (pt_val (hf e y hy) he) rd_bool
    have mp : ∀ {o : Option Ex} {k : Ex → Ex}, o.map k = some x → ∃ y, o = some y ∧ x = k y := fun {o k} h => by
      cases o with
      | none => cases h
      | some y => exact ⟨y, rfl, (Option.some.inj h).symm⟩
    cases e with
    | UnaryOp op a p =>
      cases op with
      | Not =>
        obtain ⟨y, h1, rfl⟩ := mp (show (cT f n a).map Ex.tNot = some x from h)
        exact ⟨PT.imp (pt_not (test_ok hf hc n a y h1).1) rd_not, fun z => by cases z⟩
      | _ =>
        obtain ⟨y, h1, h2⟩ := mp h
        exact ⟨plain y h1 h2 fun _ => rfl, fun z => by cases z⟩
    | BoolOp op vs p =>
      cases vs with
      | nil => cases op <;> cases h
      | cons a r =>
        cases r with
        | nil =>
          obtain ⟨y, h1, rfl⟩ := mp (show (cT f n a).map Ex.one = some x by cases op <;> exact h)
          have ih := (test_ok hf hc n a y h1).1
          have w : PW X (.BoolOp op [a] p) (tDT G W (iT g n y)) := by
            cases op with
            | And => exact pw_and1 ih
            | Or => exact pw_or1 ih
          exact ⟨w.pt, fun _ => w⟩
        | cons b r =>
          cases op with
          | And =>
            have h' : (match cT f n a, cT f n (.BoolOp .And (b :: r) p) with
              | some x, some y => some (.tAnd x y)
              | _, _ => none) = some x := h
            split at h'
            · rename_i y z h1 h2
              cases h'
              have w := PW.imp' (pw_and (test_ok hf hc n a y h1).1 ((test_ok hf hc n _ z h2).2 rfl)) rd_and
              exact ⟨w.pt, fun _ => w⟩
            · cases h'
          | Or =>
            have h' : (match cT f n a, cT f n (.BoolOp .Or (b :: r) p) with
              | some x, some y => some (.tOr x y)
              | _, _ => none) = some x := h
            split at h'
            · rename_i y z h1 h2
              cases h'
              have w := PW.imp' (pw_or (test_ok hf hc n a y h1).1 ((test_ok hf hc n _ z h2).2 rfl)) rd_or
              exact ⟨w.pt, fun _ => w⟩
            · cases h'
    | IfExp _ _ _ _ => cases h
    | Compare a ops cs p =>
      obtain ⟨y, h1, rfl⟩ := mp (show (f (.Compare a ops cs p)).map Ex.tVal = some x from h)
      exact ⟨hc a ops cs p y h1, fun z => by cases z⟩
    | _ =>
      obtain ⟨y, h1, h2⟩ := mp h
      exact ⟨plain y h1 h2 fun _ => rfl, fun z => by cases z⟩

theorem all_one {a : Expr} {xs : List Ex} (h : cAll f [a] = some xs) : ∃ y, xs = [y] ∧ f a = some y ∧ isStar a = false := by
  unfold cAll at h
  split at h
  · cases h
  · rename_i hs
    split at h
    · rename_i y ys e1 e2
      cases h
      cases e2
      exact ⟨y, rfl, e1, by simpa using hs⟩
    · cases h
theorem all_two {a b : Expr} {xs : List Ex} (h : cAll f [a, b] = some xs) : ∃ y z, xs = [y, z] ∧ isStar a = false ∧ isStar b = false := by
  unfold cAll at h
  split at h
  · cases h
  · rename_i hs
    split at h
    · rename_i y ys e1 e2
      cases h
      obtain ⟨z, rfl, _, hz⟩ := all_one e2
      exact ⟨y, z, rfl, by simpa using hs, hz⟩
    · cases h
/-! ### what is walked -/
theorem it_ok (c : Cok X G W P T k) (hf : ∀ e x, f e = some x → PE X e (tD G W (g x))) {tg e : Expr} {kk : Nat} {it : List Ex} (h : cIt T f tg e = some (kk, it)) : PI X tg e (tIt G W (iIt g kk it)) ∧ ∀ x env, foldedSetIterable e env x = pure x := by
  have mp : ∀ {α β : Type} {o : Option α} {k : α → β} {x : β}, o.map k = some x → ∃ y, o = some y ∧ x = k y := fun {α β o k x} h => by
    cases o with
    | none => cases h
    | some y => exact ⟨y, rfl, (Option.some.inj h).symm⟩
  have any : (f e).map (fun x => (0, [x])) = some (kk, it) → PI X tg e (tIt G W (iIt g kk it)) := fun h => by
    obtain ⟨y, h1, h2⟩ := mp h
    cases h2
    exact PI.imp (pi_any (hf e y h1)) (rd_any c.K)
  have no : ∀ {e}, (∀ es k p, e ≠ .Set es k p) → ∀ x env, foldedSetIterable e env x = pure x := fun {e} hn x env => by
    unfold foldedSetIterable
    split
    · exact absurd rfl (hn _ _ _)
    · rfl
  have tup : isTuple tg = true → ∃ es k p, tg = .Tuple es k p := fun h => by
    cases tg with
    | Tuple es k p => exact ⟨es, k, p, rfl⟩
    | _ => cases h
  cases e with
  | Set _ _ _ => cases h
  | Call fn args kws pos =>
    refine ⟨?_, no fun _ _ _ z => by cases z⟩
    cases fn with
    | Name x p =>
      cases kws with
      | cons _ _ => exact any h
      | nil =>
        simp only [cIt] at h
        split at h
        · rename_i hl hg
          have gl : Gl X x := by
            show X.env.scope.names.lookup x = _
            rw [c.sc]; exact hl
          have bl : x ∈ bltN → X.mg x = none := c.pk.bl x hg
          split at h
          · rename_i hx
            subst hx
            split at h
            · rename_i ht
              obtain ⟨es, tk, tp, rfl⟩ := tup ht
              split at h
              · rename_i a
                obtain ⟨xs, h1, h2⟩ := mp h
                cases h2
                obtain ⟨y, rfl, _, hs⟩ := all_one h1
                exact PI.imp (pi_enumA gl (bl (by decide)) (all_ok hf h1).1 (star_no hs)) (rd_en c.K)
              · cases h
            · cases h
          · split at h
            · rename_i hx
              subst hx
              split at h
              · rename_i a
                obtain ⟨xs, h1, h2⟩ := mp h
                cases h2
                obtain ⟨y, rfl, _, hs⟩ := all_one h1
                exact PI.imp (pi_range1 gl (bl (by decide)) (all_ok hf h1).1 (star_no hs)) rd_rng1
              · rename_i a b
                obtain ⟨xs, h1, h2⟩ := mp h
                cases h2
                obtain ⟨y, z, rfl, s1, s2⟩ := all_two h1
                exact PI.imp (pi_range2 gl (bl (by decide)) (all_ok hf h1).1 (by rw [star_no s1, star_no s2]; rfl) (star_no s2)) rd_rng2
              · cases h
            · split at h
              · rename_i hx
                subst hx
                split at h
                · rename_i ht
                  obtain ⟨es, tk, tp, rfl⟩ := tup ht
                  split at h
                  · rename_i a b
                    obtain ⟨xs, h1, h2⟩ := mp h
                    cases h2
                    obtain ⟨y, z, rfl, s1, s2⟩ := all_two h1
                    exact PI.imp (pi_zip gl (bl (by decide)) (all_ok hf h1).1 (star_no s1) (plain_any (by simp [s2]))) (rd_zip c.K)
                  · cases h
                · cases h
              · exact any h
        · exact any h
    | _ => exact any (by cases kws <;> exact h)
  | _ => exact ⟨any h, no fun _ _ _ z => by cases z⟩
/-! ### patterns -/
theorem mapE {α β : Type} {o : Option α} {k : α → β} {x : β} (h : o.map k = some x) : ∃ y, o = some y ∧ x = k y := by
  cases o with
  | none => cases h
  | some y => exact ⟨y, rfl, (Option.some.inj h).symm⟩
theorem asg_no {e : Expr} {es : List Expr} {env : Env} (h : isStar e = false) : assignEach (e :: es) env = (false, assign e env) :: assignEach es env := by
  cases e <;> first | rfl | cases h
theorem asg_len {env : Env} : ∀ {es : List Expr}, es.all (fun e => !isStar e) = true → (assignEach es env).length = es.length ∧ (assignEach es env).findIdx? (·.1) = none
  | [], _ => ⟨rfl, rfl⟩
  | e :: es, h => by
    rw [List.all_cons, Bool.and_eq_true] at h
    have h1 : isStar e = false := by simpa using h.1
    obtain ⟨i1, i2⟩ := asg_len (env := env) h.2
    rw [asg_no h1]
    refine ⟨by rw [List.length_cons, List.length_cons, i1], ?_⟩
    rw [List.findIdx?_cons, i2]; rfl
theorem pats_len {N : List Str} {h : Expr → Option Pat} : ∀ {es : List Expr} {ps : List Pat}, cPat.cPats h es = some ps → ps.length = es.length ∧ es.all (fun e => !isStar e) = true
  | [], ps, e => by cases e; exact ⟨rfl, rfl⟩
  | a :: r, ps, e => by
    unfold cPat.cPats at e
    split at e
    · cases e
    · rename_i hs
      split at e
      · rename_i x xs h1 h2
        cases e
        obtain ⟨i1, i2⟩ := pats_len (N := N) h2
        exact ⟨by rw [List.length_cons, List.length_cons, i1], by rw [List.all_cons, i2]; simpa using hs⟩
      · cases e
theorem pat_ok (c : Cok X G W P T k) : ∀ (n : Nat) (e : Expr) (p : Pat), cPat T.N T.sc n e = some p → PG X e (patG X.K p)
  | 0, _, _, h => by cases h
  | n + 1, e, p, h => by
    have pats : ∀ {es : List Expr} {ps : List Pat}, cPat.cPats (cPat T.N T.sc n) es = some ps → PGs X es (patGs X.K ps) := fun {es} => by
      induction es with
      | nil => intro ps h; cases h; exact pgs_nil
      | cons a r ih =>
        intro ps h
        unfold cPat.cPats at h
        split at h
        · cases h
        · rename_i hs
          split at h
          · rename_i x xs h1 h2
            cases h
            exact pgs_cons (pat_ok c n a x h1) (ih h2) (by rw [asg_no (by simpa using hs)]; rfl)
          · cases h
    cases e with
    | Name x pos =>
      simp only [cPat] at h
      split at h
      · rename_i hl
        obtain ⟨i, h1, rfl⟩ := mapE h
        have hl' : X.env.scope.names.lookup x = some .local := by rw [c.sc]; exact hl
        exact pg_name c.nd (c.ix h1) (.inl hl') (.inr hl')
      · cases h
    | Tuple es kk pos =>
      obtain ⟨ps, h1, rfl⟩ := mapE (show (cPat.cPats (cPat T.N T.sc n) es).map Pat.tp = some p from h)
      obtain ⟨l1, l2⟩ := pats_len (N := T.N) h1
      obtain ⟨a1, a2⟩ := asg_len (env := X.env) l2
      have hn : (assignEach es X.env).length = ps.length := by rw [a1, l1]
      exact PG.or (pg_tup c.calm (pats h1) hn a2) (pg_lst c.calm (pats h1) hn a2)
    | _ => cases h

/-! ### calls of builtins -/
theorem bi_ok (c : Cok X G W P T k) {x : Str} {b : Nat} {e : Expr} {es : List Expr} {ms : Sl → M (List D)} {p pos : Pos} (hb : biN x = some b) (hg : glB T.sc x = true) (hm : T.glob x = none) (ha : PA X (e :: es) (tDs G W ms)) (hs : (e :: es).all (fun e => !isStar e) = true) :
    PE X (.Call (.Name x p) (e :: es) [] pos) (tD G W (mA ms (biM P b))) := by
  have gl := c.gl hg
  have bl : x ∈ bltN → X.mg x = none := c.pk.bl x hm
  have u := c.units
  rw [List.all_cons, Bool.and_eq_true] at hs
  have h1 : starEach (e :: es) X.env = (false, eval e X.env) :: starEach es X.env := star_no (by simpa using hs.1)
  have h2 : (backTo pos (starEach es X.env)).any (·.1) = false := plain_any hs.2
  unfold biN at hb
  repeat' split at hb
  all_goals first | (cases hb; done) | skip
  all_goals (rename_i hx; subst hx; cases hb)
  · exact PE.imp (pe_callB (call_lenO (k := k) c.room) gl (bl (by decide)) boot_len ha (by decide) (by decide) h1 h2) (liftA (by show CallS G _ (lenOM P.ns.length _); rw [c.pk.n0]; exact lenOS c.K c.pk.ln))
  · exact PE.imp (pe_callB call_abs gl (bl (by decide)) boot_abs ha (by decide) (by decide) h1 h2) (liftA absS)
  · exact PE.imp (pe_callB (call_max2 c.calm) gl (bl (by decide)) boot_max ha (by decide) (by decide) h1 h2) (liftA max2S)
  · exact PE.imp (pe_callB (call_min2 c.calm) gl (bl (by decide)) boot_min ha (by decide) (by decide) h1 h2) (liftA min2S)
  · exact PE.imp (pe_callTy call_intA gl (bl (by decide)) boot_int ha (by decide) (by decide) h1 h2) (liftA intS)
  · exact PE.imp (pe_callTy (call_strO (k := k) (c.room3.mono (by omega))) gl (bl (by decide)) boot_str ha (by decide) (by decide) h1 h2) (liftA (strOS c.K c.pk.sf))
  · exact PE.imp (pe_callTy call_list_of gl (bl (by decide)) boot_list ha (by decide) (by decide) h1 h2) (liftA (by rw [c.K]; exact listS))
  · exact PE.imp (pe_callTy call_tuple_of gl (bl (by decide)) boot_tuple ha (by decide) (by decide) h1 h2) (liftA (by rw [c.K]; exact tupleS))
  · exact PE.imp (pe_callB (cr_all c.calm) gl (bl (by decide)) boot_all ha (by decide) (by decide) h1 h2) (liftA (by rw [c.K]; exact allS))
  · exact PE.imp (pe_callB (cr_any c.calm) gl (bl (by decide)) boot_any ha (by decide) (by decide) h1 h2) (liftA (by rw [c.K]; exact anyS))
  · exact PE.imp (pe_callB call_isiA gl (bl (by decide)) boot_isinstance ha (by decide) (by decide) h1 h2) (liftA (by rw [c.K]; exact isiS c.pk.kit))
  · exact PE.imp (pe_callB cr_sortedS gl (bl (by decide)) boot_sorted ha (by decide) (by decide) h1 h2) (liftA (by rw [c.K]; exact sortedS1))
/-! ### methods of builtins -/
theorem alt_ok (c : Cok X G W P T k) {m : Str} {b : Nat} (hb : bmN m = some b) : AltS X G m (bmA b) := by
  unfold bmN at hb
  repeat' split at hb
  all_goals first | (cases hb; done) | skip
  all_goals (rename_i hx; subst hx; cases hb)
  all_goals intro kk op h
  · match kk, h with
    | 0, h => cases h
    | 1, h => cases h
    | 2, h => cases h
    | 3, h => cases h; exact ⟨⟨"list", "list.append", rAppend, PySem.F.plainAttrs_list, PySem.F.slot_list_append, PySem.F.type_list_append, mt_append⟩, rfl, appendS⟩
    | n + 4, h => cases h
  · match kk, h with
    | 0, h => cases h
    | 1, h => cases h
    | 2, h => cases h
    | 3, h => cases h; exact ⟨⟨"list", "list.extend", rExtend, PySem.F.plainAttrs_list, PySem.F.slot_list_extend, PySem.F.type_list_extend, mt_extend⟩, rfl, extendS⟩
    | n + 4, h => cases h
  · match kk, h with
    | 0, h => cases h
    | 1, h => cases h
    | 2, h => cases h
    | 3, h => cases h; exact ⟨⟨"list", "list.pop", rPopA, PySem.F.plainAttrs_list, PySem.F.slot_list_pop, PySem.F.type_list_pop, mt_popA⟩, rfl, popS⟩
    | n + 4, h => cases h
  · match kk, h with
    | 0, h => cases h
    | 1, h => cases h
    | 2, h => cases h
    | 3, h => cases h; exact ⟨⟨"list", "list.insert", rInsertA, PySem.F.plainAttrs_list, PySem.F.slot_list_insert, PySem.F.type_list_insert, mt_insert⟩, rfl, insertS⟩
    | n + 4, h => cases h
  · match kk, h with
    | 0, h => cases h
    | 1, h => cases h
    | 2, h => cases h; exact ⟨⟨"str", "str.index", rIndexSA, PySem.F.plainAttrs_str, PySem.F.slot_str_index, PySem.F.type_str_index, mt_sindex⟩, rfl, indexSS⟩
    | 3, h => cases h; exact ⟨⟨"list", "list.index", rIndex X.K, PySem.F.plainAttrs_list, PySem.F.slot_list_index, PySem.F.type_list_index, mt_index⟩, rfl, (show MtS G (rIndex X.K) indexLM by rw [c.K]; exact indexLS)⟩
    | n + 4, h => cases h
  · match kk, h with
    | 0, h => cases h
    | 1, h => cases h
    | 2, h => cases h; exact ⟨⟨"str", "str.join", rJoinA X.K, PySem.F.plainAttrs_str, PySem.F.slot_str_join, PySem.F.type_str_join, mt_join⟩, rfl, (show MtS G (rJoinA X.K) joinM by rw [c.K]; exact joinS)⟩
    | 3, h => cases h
    | n + 4, h => cases h
  · match kk, h with
    | 0, h => cases h
    | 1, h => cases h
    | 2, h => cases h; exact ⟨⟨"str", "str.split", rSplitA, PySem.F.plainAttrs_str, PySem.F.slot_str_split, PySem.F.type_str_split, mt_split⟩, rfl, splitS⟩
    | 3, h => cases h
    | n + 4, h => cases h
  · match kk, h with
    | 0, h => cases h
    | 1, h => cases h
    | 2, h => cases h; exact ⟨⟨"str", "str.startswith", _, PySem.F.plainAttrs_str, PySem.F.slot_str_startswith, PySem.F.type_str_startswith, mt_startswith⟩, rfl, startsS⟩
    | 3, h => cases h
    | n + 4, h => cases h
theorem bm_ok (c : Cok X G W P T k) {o : Expr} {m : Str} {b : Nat} {es : List Expr} {mo : Sl → M D} {ms : Sl → M (List D)} {apos pos : Pos} (hb : bmN m = some b) (ho : PE X o (tD G W mo)) (ha : PA X es (tDs G W ms)) (h0 : es = [] → ms = mNil) (hs : es.all (fun e => !isStar e) = true)
    (hbs : baseOk o = true) (hl : (apos.endLine == pos.line) = true) (hn : es.length < 29) : PE X (.Call (.Attribute o m apos) es [] pos) (tD G W (mMt mo (bmA b) ms)) := by
  have as := alt_ok c hb
  cases es with
  | nil =>
    rw [h0 rfl]
    refine PE.imp (pe_alt0 ho (base_ok hbs) hl) fun σ H Q h => ?_
    exact (show tAlt X m (tD G W mo) tNil σ H Q from by
      obtain ⟨ι, σd, s, R, g⟩ := rd_mt c.K as σ H Q h
      refine ⟨ι, σd, s, R, g.imp fun ι1 H1 d s1 l1 k1 R1 g1 v r1 => ?_⟩
      obtain ⟨A, h1, h2⟩ := g1 v r1
      exact ⟨A, h1, rd_nil σ H1 _ h2⟩)
  | cons e es =>
    have hs' := hs
    rw [List.all_cons, Bool.and_eq_true] at hs
    have h1 : starEach (e :: es) X.env = (false, eval e X.env) :: starEach es X.env := star_no (by simpa using hs.1)
    refine PE.imp (pe_alt ho ha (base_ok hbs) ?_ hl h1 (plain_any hs.2)) (rd_mt c.K as)
    have e1 := plain_all (pos := pos) (env := X.env) hs'
    rw [e1]
    simp only [Bool.true_and, Bool.and_eq_true, decide_eq_true_eq]
    exact ⟨rfl, by
      show (e :: es).length + 0 + 0 < 30
      omega⟩
theorem form_ok {es : List Expr} {pos : Pos} (hs : es.all (fun e => !isStar e) = true) (hn : es.length < 29) : methodCallForm (es.length + ([] : List Keyword).length) (backTo pos (starEach es X.env)) (backToKw pos (keywordEach [] X.env)) = true := by
  unfold methodCallForm
  rw [plain_all hs]
  simp only [Bool.true_and, Bool.and_eq_true, decide_eq_true_eq]
  exact ⟨rfl, by
    show es.length + 0 + 0 < 30
    omega⟩
theorem me_ok (c : Cok X G W P T k) {o : Expr} {m : Str} {j : Nat} {es : List Expr} {mo : Sl → M D} {ms : Sl → M (List D)} {apos pos : Pos} (hm : T.mnm m = some j) (ho : PE X o (tD G W mo)) (ha : PA X es (tDs G W ms)) (h0 : es = [] → ms = mNil) (hs : es.all (fun e => !isStar e) = true)
    (hbs : baseOk o = true) (hl : (apos.endLine == pos.line) = true) (hn : es.length < 29) : PE X (.Call (.Attribute o m apos) es [] pos) (tD G W (mMe mo (mtOf P P.me j) (P.mn j) ms)) := by
  obtain ⟨e0, hme⟩ := c.pk.me m j hm
  have rd : ∀ σ H Q, tD G W (mMe mo (mtOf P P.me j) (P.mn j) ms) σ H Q → tM X W k (st (P.mn j)) (tD G W mo) (tDs G W ms) σ H Q := rd_me c.K fun cc f hf => by rw [e0]; exact hme cc f hf
  rw [e0] at rd
  have rm : Room k X.A := c.room.mono (Nat.le_succ _)
  cases es with
  | nil =>
    rw [h0 rfl] at rd ⊢
    refine PE.imp (pe_me0 ho rm c.tk (base_ok hbs) hl) fun σ H Q h => ?_
    obtain ⟨ι, σd, s, R, g⟩ := rd σ H Q h
    refine ⟨ι, σd, s, R, g.imp fun ι1 H1 d s1 l1 k1 R1 g1 v r1 => ?_⟩
    obtain ⟨a, C, dx, fs, g', sp, x1, x2, x3, x4, x5, x6, x7⟩ := g1 v r1
    exact ⟨a, C, dx, fs, g', sp, x1, x2, x3, x4, x5, x6, rd_nil σ H1 _ x7⟩
  | cons e es =>
    have hs' := hs
    rw [List.all_cons, Bool.and_eq_true] at hs
    have h1 : starEach (e :: es) X.env = (false, eval e X.env) :: starEach es X.env := star_no (by simpa using hs.1)
    exact PE.imp (pe_me ho rm c.tk ha h1 (plain_any hs.2) (base_ok hbs) (form_ok hs' hn) hl) rd
theorem cm_ok (c : Cok X G W P T k) {o : Expr} {m : Str} {j : Nat} {e : Expr} {es : List Expr} {mo : Sl → M D} {ms : Sl → M (List D)} {apos pos : Pos} (hm : T.cmn m = some j) (ho : PE X o (tD G W mo)) (ha : PA X (e :: es) (tDs G W ms)) (hs : (e :: es).all (fun e => !isStar e) = true)
    (hbs : baseOk o = true) (hl : (apos.endLine == pos.line) = true) (hn : (e :: es).length < 29) : PE X (.Call (.Attribute o m apos) (e :: es) [] pos) (tD G W (mCM mo (mtOf P P.cm j) ms)) := by
  have hs' := hs
  rw [List.all_cons, Bool.and_eq_true] at hs
  have h1 : starEach (e :: es) X.env = (false, eval e X.env) :: starEach es X.env := star_no (by simpa using hs.1)
  exact PE.imp (pe_cm ho (c.room.mono (Nat.le_succ _)) c.tk ha h1 (plain_any hs.2) (base_ok hbs) (form_ok hs' hn) hl) (rd_cm c.K (c.pk.cm m j hm))
end
end Ev

/-! EvS: the compiler of expressions is right: the theorem. -/
namespace Ev
open PySem PySem.Spec PyProof.Rows L2
section
variable {X : Cx} {G : Gd} {W : WX} {P : Pg} {T : Tb} {k : Nat}
theorem pair2 {α β : Type} {a : Option α} {b : Option β} {γ : Type} {h : α → β → γ} {z : γ} (e : (match a, b with | some x, some y => some (h x y) | _, _ => none) = some z) : ∃ x y, a = some x ∧ b = some y ∧ z = h x y := by
  split at e
  · exact ⟨_, _, rfl, rfl, (Option.some.inj e).symm⟩
  · cases e
theorem ty_ok (c : Cok X G W P T k) {x : Str} {t : Nat} {pos : Pos} (h : tyOfN x = some t) (hg : glB T.sc x = true) (hm : T.glob x = none) : PE X (.Name x pos) (tD G W (mC (.ty t))) := by
  have gl := c.gl hg
  have bl : x ∈ bltN → X.mg x = none := c.pk.bl x hm
  unfold tyOfN at h
  repeat' split at h
  all_goals first | (cases h; done) | skip
  all_goals (rename_i hx; subst hx; cases h)
  · exact PE.imp (pe_bltn gl (bl (by decide)) boot_int (v := .ty "int") rfl) (rd_C fun ι H => .ty 0)
  · exact PE.imp (pe_bltn gl (bl (by decide)) boot_bool (v := .ty "bool") rfl) (rd_C fun ι H => .ty 1)
  · exact PE.imp (pe_bltn gl (bl (by decide)) boot_str (v := .ty "str") rfl) (rd_C fun ι H => .ty 2)
  · exact PE.imp (pe_bltn gl (bl (by decide)) boot_list (v := .ty "list") rfl) (rd_C fun ι H => .ty 3)
  · exact PE.imp (pe_bltn gl (bl (by decide)) boot_tuple (v := .ty "tuple") rfl) (rd_C fun ι H => .ty 4)
  · exact PE.imp (pe_bltn gl (bl (by decide)) boot_dict (v := .ty "dict") rfl) (rd_C fun ι H => .ty 5)
theorem fn_ok (c : Cok X G W P T k) {x : Str} {i : Nat} {es : List Expr} {ms : Sl → M (List D)} {p pos : Pos} (hx : okNm x = true) (hg : glB T.sc x = true) (hm : T.glob x = some (.fn i)) (ha : PA X es (tDs G W ms)) (h0 : es = [] → ms = mNil) (hs : es.all (fun e => !isStar e) = true) :
    PE X (.Call (.Name x p) es [] pos) (tD G W (mA ms (P.fn i))) := by
  obtain ⟨f, h1, h2, F⟩ := c.pk.glob x _ hm
  have gl := c.gl hg
  have rm : Room k X.A := c.room.mono (Nat.le_succ _)
  cases es with
  | nil =>
    rw [h0 rfl]
    refine PE.imp (pe_fn0 F rm gl h1 h2 c.tk (okNm_ok hx).1) fun σ H Q h => ?_
    exact rd_nil σ H _ (rd_fn σ H Q h)
  | cons e es =>
    rw [List.all_cons, Bool.and_eq_true] at hs
    exact PE.imp (pe_fn F rm gl h1 h2 c.tk ha (okNm_ok hx).1 (star_no (by simpa using hs.1)) (plain_any hs.2)) rd_fn
theorem mk_ok (c : Cok X G W P T k) {x : Str} {i fi : Nat} {es : List Expr} {ms : Sl → M (List D)} {p pos : Pos} (hx : okNm x = true) (hg : glB T.sc x = true) (hm : T.glob x = some (.cls i)) (hi : P.ini i = some fi) (ha : PA X es (tDs G W ms)) (h0 : es = [] → ms = mNil) (hs : es.all (fun e => !isStar e) = true) :
    PE X (.Call (.Name x p) es [] pos) (tD G W (mMk i (P.fn fi) ms)) := by
  have h1 := c.pk.glob x _ hm
  obtain ⟨g, N, F⟩ := c.pk.ini i fi hi
  rw [← c.K] at N
  have gl := c.gl hg
  cases es with
  | nil =>
    rw [h0 rfl]
    refine PE.imp (pe_mk0 N F c.room gl h1 c.tk (okNm_ok hx).1) fun σ H Q h => ?_
    exact rd_nil σ H _ (rd_mk σ H Q h)
  | cons e es =>
    rw [List.all_cons, Bool.and_eq_true] at hs
    exact PE.imp (pe_mk N F c.room gl h1 c.tk ha (okNm_ok hx).1 (star_no (by simpa using hs.1)) (plain_any hs.2)) rd_mk
theorem args_nil' {f : Expr → Option Ex} {g : Ex → Sl → M D} {es : List Expr} {xs : List Ex} (h : cAll f es = some xs) (e : es = []) : iArgs g xs = mNil := by
  subst e; cases h; rfl
theorem never {e : Expr} : PE X e (tD G W fun _ => M.fail) := ⟨fun _ _ _ _ _ _ h => by
  obtain ⟨_, _, _, _, g⟩ := h
  exact (Go.fail g).elim⟩
theorem plain_ix2 {i : Expr} (h : cE.plainIx i = true) (o v : Value) : subscripted i true o v = runValue (.builtin "lifetime.subscript" ⟨[o, v], []⟩) := by
  cases i <;> first | rfl | cases h
theorem plain_ix {i : Expr} (h : cE.plainIx i = true) : PlainIx i := by
  intro o v
  cases i <;> first | rfl | cases h
theorem ce_cmp (n : Nat) (c : Cok X G W P T k) (hE : ∀ e x, cE n T e = some x → PE X e (tD G W (iE P n x))) (a : Expr) (ops : List CmpOp) (cs : List Expr) (p : Pos) (x : Ex) (h : cE (n + 1) T (.Compare a ops cs p) = some x) :
    PE X (.Compare a ops cs p) (tD G W (iE P (n + 1) x)) ∧ PT X (.Compare a ops cs p) (tDT G W (mBool (iE P (n + 1) x))) := by
  cases ops with
  | nil => cases cs <;> cases h
  | cons op ops =>
    cases ops with
    | nil =>
      cases cs with
      | nil => cases h
      | cons b cs =>
        cases cs with
        | cons _ _ => cases h
        | nil =>
          simp only [cE] at h
          split at h
          · cases h
          · rename_i hm
            split at h
            · rename_i o y z h1 h2 h3
              cases h
              have hm : behindInMarks op b = false := by simpa using hm
              exact ⟨cmp_ok c h1 hm (hE _ _ h2) (hE _ _ h3), cmp_test c h1 hm (hE _ _ h2) (hE _ _ h3)⟩
            · cases h
    | cons op' ops =>
      cases ops with
      | cons _ _ => cases cs with
        | nil => cases h
        | cons _ cs => cases cs <;> cases h
      | nil =>
        cases cs with
        | nil => cases h
        | cons b cs =>
          cases cs with
          | nil => cases h
          | cons d cs =>
            cases cs with
            | cons _ _ => cases h
            | nil =>
              simp only [cE] at h
              split at h
              · cases h
              · rename_i hm
                split at h
                · rename_i o o' y z u h1 h2 h3 h4 h5
                  cases h
                  have hm : lastMarks [op, op'] [b, d] = false := by simpa using hm
                  exact ⟨chain_ok c h1 h2 hm (hE _ _ h3) (hE _ _ h4) (hE _ _ h5), chain_test c h1 h2 hm (hE _ _ h3) (hE _ _ h4) (hE _ _ h5)⟩
                · cases h
/-- tests at one fuel -/
theorem ct_ok (n : Nat) (c : Cok X G W P T k) (hE : ∀ e x, cE n T e = some x → PE X e (tD G W (iE P n x))) (hC : ∀ a ops cs p x, cE n T (.Compare a ops cs p) = some x → PT X (.Compare a ops cs p) (tDT G W (mBool (iE P n x)))) {e : Expr} {x : Ex} (h : cT (cE n T) 30 e = some x) :
    PT X e (tDT G W (iT (iE P n) 30 x)) := (test_ok hE hC 30 e x h).1
def SndE (n : Nat) : Prop := ∀ (X : Cx) (G : Gd) (W : WX) (P : Pg) (T : Tb) (k : Nat), Cok X G W P T k → (∀ e x, cE n T e = some x → PE X e (tD G W (iE P n x))) ∧ ∀ a ops cs p x, cE n T (.Compare a ops cs p) = some x → PT X (.Compare a ops cs p) (tDT G W (mBool (iE P n x)))
theorem snd_call {n : Nat} (ih : SndE n) (c : Cok X G W P T k) (fn : Expr) (args : List Expr) (kws : List Keyword) (pos : Pos) (x : Ex) (h : cE (n + 1) T (.Call fn args kws pos) = some x) : PE X (.Call fn args kws pos) (tD G W (iE P (n + 1) x)) := by
  have hE := (ih X G W P T k c).1
  cases kws with
  | cons kw kws =>
    cases args with
    | cons _ _ => cases fn <;> cases h
    | nil =>
      cases fn with
      | Name y p =>
        simp only [cE] at h
        split at h
        · rename_i hb
          rw [Bool.and_eq_true, Bool.and_eq_true] at hb
          obtain ⟨hx, hv, hg⟩ := hb
          split at h
          · rename_i ks xs h1 h2
            obtain ⟨j, h3, rfl⟩ := mapE h
            obtain ⟨f, m1, m2, F⟩ := c.pk.kw y ks j h3
            obtain ⟨pk, pl⟩ := kws_ok hE h2
            have nl := (kwN_ok (env := X.env) (pos := pos) h1).2.2.2
            refine PE.imp (pe_fnK F (c.room.mono (Nat.le_succ _)) (c.gl hg) m1 m2 c.tk pk h1 (fun σ H Q z => ?_) (okNm_ok hx).1) rd_fn
            have := tDs_len σ H Q z
            rw [pl, nl] at this
            exact this
          · cases h
        · cases h
      | _ => cases h
  | nil =>
    cases fn with
    | Name y p =>
      simp only [cE] at h
      split at h
      · rename_i hx
        split at h
        · rename_i hv
          cases h1 : ixOf T.N y with
          | none => rw [h1] at h; cases h
          | some i =>
            rw [h1] at h
            cases args with
            | nil => cases h
            | cons a r =>
              cases h3 : cAll (cE n T) (a :: r) with
              | none => rw [h3] at h; cases h
              | some xs =>
                rw [h3] at h
                cases h
                obtain ⟨pa, ps⟩ := all_ok hE h3
                rw [List.all_cons, Bool.and_eq_true] at ps
                refine PE.imp (pe_mkL (i := i) c.room (c.ix h1) (c.vis hv) c.tk pa (okNm_ok hx).1 (okNm_ok hx).2.1 (star_no (by simpa using ps.1)) (plain_any ps.2)) (rd_mkL c.K fun cc f hf => ?_)
                obtain ⟨fi, e1, rfl⟩ := mapE hf
                exact c.pk.ini cc fi e1
        · split at h
          · rename_i hg
            split at h
            · rename_i i hm
              obtain ⟨xs, h1, rfl⟩ := mapE h
              obtain ⟨pa, ps⟩ := all_ok hE h1
              exact fn_ok c hx hg hm pa (args_nil' h1) ps
            · rename_i i hm
              obtain ⟨xs, h1, rfl⟩ := mapE h
              obtain ⟨pa, ps⟩ := all_ok hE h1
              show PE X _ (tD G W (match P.ini i with
                | some f => mMk i (P.fn f) (iArgs (iE P n) xs)
                | none => fun _ => M.fail))
              cases hi : P.ini i with
              | none => exact never
              | some fi => exact mk_ok c hx hg hm hi pa (args_nil' h1) ps
            · cases h
            · rename_i hm
              split at h
              · rename_i a ha
                split at h
                · cases h
                · rename_i hs
                  obtain ⟨z, h1, rfl⟩ := mapE h
                  unfold cE.setArg at ha
                  split at ha
                  · rename_i y2 p2 a2 q2
                    split at ha
                    · rename_i hc
                      cases ha
                      obtain ⟨e1, e2, e3, e4⟩ := hc
                      subst e1 e2
                      have g2 : Gl X "set" := by
                        show X.env.scope.names.lookup _ = _
                        rw [c.sc]; exact e3
                      have m2 : X.mg "set" = none := c.pk.bl _ (by simpa using e4) (by decide)
                      exact PE.imp (pe_lenSetA c.calm (c.gl hg) (c.pk.bl _ hm (by decide)) g2 m2 (hE _ _ h1) (star_no (by simpa using hs)) rfl) (rd_lenSet c.K)
                    · cases ha
                  · cases ha
              · split at h
                · rename_i b e es xs h1 h2 h3
                  cases h
                  obtain ⟨pa, ps⟩ := all_ok hE h3
                  exact bi_ok c h1 hg hm pa ps
                · cases h
          · cases h
      · cases h
    | Attribute o m apos =>
      simp only [cE] at h
      split at h
      · rename_i hb
        simp only [Bool.and_eq_true, decide_eq_true_eq] at hb
        obtain ⟨⟨b1, b2⟩, b3⟩ := hb
        split at h
        · rename_i y xs h1 h2
          obtain ⟨pa, ps⟩ := all_ok hE h2
          split at h
          · rename_i b hbm
            cases h
            exact bm_ok c hbm (hE _ _ h1) pa (args_nil' h2) ps b1 b2 b3
          · split at h
            · rename_i j hj
              split at h
              · cases h
              · rename_i he
                cases h
                cases args with
                | nil => exact absurd rfl he
                | cons e es => exact cm_ok c hj (hE _ _ h1) pa ps b1 b2 b3
            · obtain ⟨j, hj, rfl⟩ := mapE h
              exact me_ok c hj (hE _ _ h1) pa (args_nil' h2) ps b1 b2 b3
        · cases h
      · cases h
    | _ => cases h
theorem js_ok {f : Expr → Option Ex} {g : Ex → Sl → M D} (hf : ∀ e x, f e = some x → PE X e (tD G W (g x))) : ∀ {es : List Expr} {xs : List Ex}, cAll f es = some xs → PJ X es ((xs.map g).map (tD G W))
  | [], xs, h => by cases h; exact .nil
  | e :: r, xs, h => by
    unfold cAll at h
    split at h
    · cases h
    · split at h
      · rename_i x ys h1 h2
        cases h
        exact .cons (hf e x h1) (js_ok hf h2)
      · cases h
theorem pps_ok {f : Expr → Option Ex} {g : Ex → Sl → M D} {pos : Pos} (hf : ∀ e x, f e = some x → PE X e (tD G W (g x))) : ∀ {ks : List (Option Expr)} {vs : List Expr} {xs ys : List Ex}, ks.all (·.isSome) = true → ks.length = vs.length → cAll f (ks.filterMap id) = some xs → cAll f vs = some ys →
    PPs X pos ks vs ((iPairs g xs ys).map fun p => (tD G W p.1, tD G W p.2))
  | [], [], xs, ys, _, _, h1, h2 => by cases h1; cases h2; exact pps_nil
  | [], _ :: _, _, _, _, h, _, _ => by cases h
  | _ :: _, [], _, _, _, h, _, _ => by cases h
  | ok :: ks, v :: vs, xs, ys, ha, hl, h1, h2 => by
    rw [List.all_cons, Bool.and_eq_true] at ha
    cases ok with
    | none => cases ha.1
    | some kx =>
      have h1 : cAll f (kx :: ks.filterMap id) = some xs := h1
      unfold cAll at h1 h2
      split at h1
      · cases h1
      · split at h1
        · rename_i x xs' e1 e2
          cases h1
          split at h2
          · cases h2
          · split at h2
            · rename_i y ys' e3 e4
              cases h2
              exact pps_cons (hf _ _ e1) (hf _ _ e3) (pps_ok hf ha.2 (by simpa using hl) e2 e4)
            · cases h2
        · cases h1
/-- {}: the evaluator's display of no pairs -/
theorem rd_dnew (σ : L2.St) (H : Hp) (Q : VK) (h : tD G W (mDisp []) σ H Q) : tDNewK σ H Q := by
  intro p hp
  obtain ⟨h1, kvs, h2, h3, h4⟩ := rd_disp σ H Q h p hp
  cases kvs with
  | cons _ _ => cases h2
  | nil =>
    have e : upd (upd H p (.dK [])) p (.dK (mergeK [] [])) = upd H p (.dK []) := by
      funext b
      by_cases hb : b = p
      · subst hb; rw [upd_same, upd_same]; rfl
      · rw [upd_ne hb]
    rw [e] at h4
    exact h4
theorem rd_rev {K : PySem.W.Frag} {me : Sl → M D} (hK : K = G.K) (σ : L2.St) (H : Hp) (Q : VK) (h : tD G W (m1 me revAM) σ H Q) : tRevA K (tD G W me) σ H Q := by
  subst hK
  obtain ⟨ι, σd, s, R, g⟩ := h
  refine ⟨ι, σd, s, R, (Go.bind g).imp fun ι1 H1 d s1 l1 k1 R1 g1 v r1 => ?_⟩
  by_cases ht : ∃ ds, d = .tup ds
  · obtain ⟨ds, rfl⟩ := ht
    obtain ⟨p, xs, rfl, hp, rx⟩ := r1.tupE
    exact .inr ⟨p, xs, rfl, hp, fun l hl => Go.tup g1 R1 hl _ (rx.reverse.newTup hl)⟩
  have e : revAM d = M.bind (M.lst d) fun p => M.bind (M.new (.lst p.2.reverse)) fun n => M.pure (.ref n) := by
    unfold revAM
    split
    · exact absurd ⟨_, rfl⟩ ht
    · rfl
  rw [e] at g1
  obtain ⟨a, p, ds, xs, rfl, rfl, ep, _, hx, rx, g2⟩ := Go.lst (Go.bind g1) R1 r1
  refine .inl ⟨p, xs, rfl, SqL.of hx, fun l hl => ?_⟩
  have o2 : ORel G (ext ι1 s1.n l) (upd H1 l (.lst xs.reverse)) l (.lst ds.reverse) := ⟨_, upd_same, rx.reverse.mono (R1.le_ext l) (Keep.new hl)⟩
  exact Go.pure (Go.new (Go.bind g2) R1 hl o2) (R1.new hl o2) _ (.ref (ext_same _ _ _))
theorem rd_yes (σ : L2.St) (H : Hp) (Q : Bool → Hp → Prop) (h : tDT G W (fun _ => M.pure true) σ H Q) : tYes σ H Q := by
  obtain ⟨ι, σd, s, R, g⟩ := h
  exact Go.pure g R.hp
/-- the parts of a comprehension -/
structure LcP (X : Cx) (G : Gd) (W : WX) (P : Pg) (n : Nat) (elt : Expr) (gens : List Comprehension) (scope : Scope) (x : Ex) : Prop where
  ex : ∃ tg iter ifs kk it p t xe, ∃ own : List (Str × Nat), gens = [⟨tg, iter, ifs, 0⟩] ∧ x = .lc kk it p t xe (own.map (·.2)) ∧ PI X tg iter (tIt G W (iIt (iE P n) kk it)) ∧ BlkOk X.N X.env.scope scope own ∧
    (∀ (s : Shared) (H : Hp) (C : Addr) (cl : List (Str × Addr)) (fp : List Addr), PG (X.blk s H scope (compEnvC scope cl C X.env) fp) tg (patG X.K p)) ∧
    (∀ (s : Shared) (H : Hp) (C : Addr) (cl : List (Str × Addr)) (fp : List Addr), PTs (X.blk s H scope (compEnvC scope cl C X.env) fp) ifs (tDT G W0 (iTo (iE P n) t))) ∧
    (∀ (s : Shared) (H : Hp) (C : Addr) (cl : List (Str × Addr)) (fp : List Addr), PE (X.blk s H scope (compEnvC scope cl C X.env) fp) elt (tD G W0 (iE P n xe))) ∧ (∀ x, foldedSetIterable iter X.env x = pure x) ∧ ∀ i ∈ patS p, i ∈ own.map (·.2)
theorem PTs.imp {es : List Expr} {t t' : TT} (h : PTs X es t) (i : ∀ σ H Q, t' σ H Q → t σ H Q) : PTs X es t' := ⟨fun pins s σ H Q I hw => h.run pins s σ H Q I (i σ H Q hw)⟩
theorem sub_ok {a b : List Nat} (h : subN a b = true) : ∀ i ∈ a, i ∈ b := fun i hi => by
  have := List.all_eq_true.mp h i hi
  simpa using this
theorem lc_parts {n : Nat} (ih : SndE n) (c : Cok X G W P T k) (elt : Expr) (gens : List Comprehension) (scope : Scope) (pos : Pos) (x : Ex) (h : cE (n + 1) T (.ListComp elt gens scope pos) = some x) : LcP X G W P n elt gens scope x := by
  cases gens with
  | nil => cases h
  | cons g1 gr =>
    obtain ⟨tg, iter, ifs, asy⟩ := g1
    cases gr with
    | cons _ _ =>
      cases asy with
      | ofNat m => cases m <;> cases h
      | negSucc m => cases h
    | nil =>
      have ha : asy = 0 := by
        cases asy with
        | ofNat m =>
          cases m with
          | zero => rfl
          | succ m => cases h
        | negSucc m => cases h
      subst ha
      simp only [cE] at h
      split at h
      · rename_i hb
        split at h
        · rename_i kk it p xe h1 h2 h3
          split at h
          · rename_i hsub
            have hE := (ih X G W P T k c).1
            obtain ⟨i1, i2⟩ := it_ok c hE h1
            have hB : BlkOk X.N X.env.scope scope (ownOf T.N scope.names) := by rw [c.N, c.sc]; exact blkOk_by hb
            have hG : ∀ (s : Shared) (H : Hp) (C : Addr) (cl : List (Str × Addr)) (fp : List Addr), PG (X.blk s H scope (compEnvC scope cl C X.env) fp) tg (patG X.K p) := fun s H C cl fp => pat_ok (c.blk (s := s) (H := H) (C := C) (cl := cl) (fp := fp)) 10 tg p h2
            have hEl : ∀ (s : Shared) (H : Hp) (C : Addr) (cl : List (Str × Addr)) (fp : List Addr), PE (X.blk s H scope (compEnvC scope cl C X.env) fp) elt (tD G W0 (iE P n xe)) := fun s H C cl fp => (ih _ _ _ _ _ _ c.blk).1 elt xe h3
            split at h
            · cases h
              exact ⟨tg, iter, [], kk, it, p, none, xe, _, rfl, rfl, i1, hB, hG, fun s H C cl fp => PTs.imp pts_nil rd_yes, hEl, fun x => i2 x _, sub_ok hsub⟩
            · rename_i cc
              obtain ⟨t, ht, rfl⟩ := mapE h
              refine ⟨tg, iter, [cc], kk, it, p, some t, xe, _, rfl, rfl, i1, hB, hG, fun s H C cl fp => pts_one ?_, hEl, fun x => i2 x _, sub_ok hsub⟩
              exact ct_ok n c.blk (ih _ _ _ _ _ _ c.blk).1 (ih _ _ _ _ _ _ c.blk).2 ht
            · cases h
          · cases h
        · cases h
      · cases h
theorem snd_lc {n : Nat} (ih : SndE n) (c : Cok X G W P T k) (elt : Expr) (gens : List Comprehension) (scope : Scope) (pos : Pos) (x : Ex) (h : cE (n + 1) T (.ListComp elt gens scope pos) = some x) : PE X (.ListComp elt gens scope pos) (tD G W (iE P (n + 1) x)) := by
  obtain ⟨tg, iter, ifs, kk, it, p, t, xe, own, rfl, rfl, hi, hb, hg, ht, he, hs, hsub⟩ := (lc_parts ih c elt gens scope pos x h).ex
  have base : PE X (.ListComp elt [⟨tg, iter, ifs, 0⟩] scope pos) (tD G W (mLc (iIt (iE P n) kk it) p (iTo (iE P n) t) (iE P n xe) (own.map (·.2)))) := PE.imp (pe_lc c.calm c.nd hi hb hg ht he hs) (rd_lc c.K hsub)
  exact PE.imp (pe_lockA base) rd_lock
theorem snd_all : ∀ n, SndE n
  | 0 => fun _ _ _ _ _ _ _ => ⟨fun _ _ h => (by cases h), fun _ _ _ _ _ h => (by cases h)⟩
  | n + 1 => fun X G W P T k c => by
    have ih := snd_all n
    have hE := (ih X G W P T k c).1
    have hC := (ih X G W P T k c).2
    refine ⟨fun e x h => ?_, fun a ops cs p x h => (ce_cmp n c hE a ops cs p x h).2⟩
    cases e with
    | Compare a ops cs p => exact (ce_cmp n c hE a ops cs p x h).1
    | Call fn args kws pos => exact snd_call ih c fn args kws pos x h
    | ListComp elt gens scope pos => exact snd_lc ih c elt gens scope pos x h
    | Name y pos =>
      simp only [cE] at h
      split at h
      · rename_i hx
        split at h
        · rename_i hv
          obtain ⟨i, h1, rfl⟩ := mapE h
          exact PE.imp (pe_var (c.ix h1) (c.vis hv) (okNm_ok hx).1 (okNm_ok hx).2.1) rd_var
        · split at h
          · rename_i hg
            split at h
            · rename_i d hm
              cases h
              obtain ⟨v, u, h1, h2, h3⟩ := c.pk.glob y _ hm
              exact PE.imp (pe_glob (c.gl hg) h1 h2 (okNm_ok hx).1) (rd_C h3)
            · rename_i cc hm
              cases h
              have h1 := c.pk.glob y _ hm
              exact PE.imp (pe_glob (v := .ref (G.ca cc)) (c.gl hg) h1 rfl (okNm_ok hx).1) (rd_C fun ι H => .cls cc)
            · cases h
            · rename_i hm
              obtain ⟨t, h1, rfl⟩ := mapE h
              exact ty_ok c h1 hg hm
          · cases h
      · cases h
    | Constant cst j pos =>
      obtain ⟨d, h1, rfl⟩ := mapE (show (cConst cst).map Ex.con = some x from h)
      exact const_ok h1
    | BinOp a op b pos =>
      simp only [cE] at h
      split at h
      · rename_i o y z h1 h2 h3
        cases h
        exact bin_ok c h1 (hE _ _ h2) (hE _ _ h3)
      · cases h
    | UnaryOp op a pos =>
      cases op with
      | Not =>
        obtain ⟨y, h1, rfl⟩ := mapE (show (cE n T a).map Ex.not = some x from h)
        exact PE.imp (pe_not (hE _ _ h1)) rd_notV
      | USub =>
        obtain ⟨y, h1, rfl⟩ := mapE (show (cE n T a).map Ex.neg = some x from h)
        exact PE.imp (pe_un un_neg (hE _ _ h1)) (lift1 negS)
      | _ => cases h
    | BoolOp op vs pos =>
      cases vs with
      | nil => cases op <;> cases h
      | cons a r =>
        cases r with
        | nil =>
          obtain ⟨y, h1, rfl⟩ := mapE (show (cE n T a).map Ex.one = some x by cases op <;> exact h)
          exact pe_one (hE _ _ h1)
        | cons b r =>
          cases op with
          | And =>
            simp only [cE] at h
            split at h
            · rename_i y z h1 h2
              cases h
              exact PE.imp (pe_and (hE _ _ h1) (hE _ _ h2)) rd_andV
            · cases h
          | Or =>
            simp only [cE] at h
            split at h
            · rename_i y z h1 h2
              cases h
              exact PE.imp (pe_or (hE _ _ h1) (hE _ _ h2)) rd_orV
            · cases h
    | IfExp cc a b pos =>
      simp only [cE] at h
      split at h
      · rename_i z y w h1 h2 h3
        cases h
        exact PE.imp (pe_ifExp (ct_ok n c hE hC h1) (hE _ _ h2) (hE _ _ h3)) rd_if
      · cases h
    | Tuple es kk pos =>
      obtain ⟨xs, h1, rfl⟩ := mapE (show (cElts (cE n T) es).map Ex.tup = some x from h)
      exact PE.imp (pe_tup (elts_ok c hE h1)) rd_tup
    | List es pos =>
      obtain ⟨xs, h1, rfl⟩ := mapE (show (cElts (cE n T) es).map Ex.lst = some x from h)
      exact PE.imp (pe_lst (elts_ok c hE h1)) rd_lst
    | Attribute o f pos =>
      simp only [cE] at h
      split at h
      · rename_i hb
        obtain ⟨y, h1, rfl⟩ := mapE h
        have rd := rd_fldP (X := X) (k := k) (W := W) (mo := iE P n y) (pf := P.pf f.cps.toList) (pr := fun cc => (P.pr f.cps.toList cc).map P.fn) (f := f.cps.toList) c.K (c.pk.pf f.cps.toList) (c.pk.pr f.cps.toList)
        rw [st_self] at rd
        exact PE.imp (pe_fldP (hE _ _ h1) c.room (base_ok hb)) rd
      · cases h
    | Subscript o i pos =>
      have sub : ∀ y z, cE n T o = some y → cE n T i = some z → cE.plainIx i = true → PE X (.Subscript o i pos) (tD G W (m2 (iE P n y) (iE P n z) (ixOM fun c => (P.gi c).map P.fn))) := fun y z h1 h2 h3 =>
        PE.imp (pe_ix2 (IxR2.of (ix_all (by have := c.units; omega)) (ix_own c.room)) (hE _ _ h1) (hE _ _ h2) (plain_ix h3) (plain_ix2 h3)) (lift2 (ixOS c.K c.pk.gi))
      cases i with
      | Slice lo hi stp p2 =>
        cases stp with
        | some sx =>
          simp only [cE] at h
          split at h
          · rename_i hr
            obtain ⟨rfl, rfl, ⟨kc, pc, pu, rfl⟩ | ⟨kc, pc, kc', pc', pu, rfl⟩⟩ := isRev_ok hr
            · obtain ⟨y, h1, rfl⟩ := mapE h
              exact PE.imp (pe_revA (hE _ _ h1) (pe_un un_neg pe_int) fun σ H Q q => ⟨1, rfl, q⟩) (rd_rev c.K)
            · obtain ⟨y, h1, rfl⟩ := mapE h
              exact PE.imp (pe_revA (hE _ _ h1) (pe_op op_sub pe_int pe_int) fun σ H Q q => ⟨0, 1, rfl, rfl, q⟩) (rd_rev c.K)
          · cases h
        | none =>
          simp only [cE] at h
          split at h
          · rename_i y l u h1 h2 h3
            cases h
            have part : ∀ {oe : Option Expr} {ox : Option Ex}, cE.cOpt (cE n T) oe = some ox → PO X oe (tPartD G W (mPart (ox.map (iE P n)))) := fun {oe ox} h => by
              cases oe with
              | none => cases h; exact d_part0
              | some e =>
                obtain ⟨z, hz, rfl⟩ := mapE (show (cE n T e).map some = some ox from h)
                exact d_part1 (hE _ _ hz)
            show PE X _ (tD G W (mSl P.ns (iE P n y) _ _))
            rw [c.pk.n0]
            exact d_slice c.K (hE _ _ h1) (part h2) (part h3)
          · cases h
      | _ =>
        simp only [cE] at h
        split at h
        · rename_i hp
          split at h
          · rename_i y z h1 h2
            cases h
            exact sub y z h1 h2 hp
          · cases h
        · cases h
    | JoinedStr vs pos =>
      cases vs with
      | nil => cases h
      | cons a r =>
        cases r with
        | nil =>
          obtain ⟨y, h1, rfl⟩ := mapE (show (cE n T a).map Ex.one = some x from h)
          exact pe_joined1 (hE _ _ h1)
        | cons b r =>
          obtain ⟨ys, h1, rfl⟩ := mapE (show (cAll (cE n T) (a :: b :: r)).map Ex.js = some x from h)
          exact PE.imp (pe_joined (js_ok hE h1)) rd_joined
    | FormattedValue a cv sp pos =>
      cases sp with
      | some _ => cases cv <;> first | cases h | (rename_i m; cases m <;> cases h)
      | none =>
        cases cv with
        | ofNat _ => cases h
        | negSucc m =>
          cases m with
          | succ _ => cases h
          | zero =>
            obtain ⟨y, h1, rfl⟩ := mapE (show (cE n T a).map Ex.fmt = some x from h)
            exact PE.imp (pe_fmt (hE _ _ h1)) rd_fmt
    | Dict ks vs pos =>
      simp only [cE] at h
      split at h
      · rename_i hb
        simp only [Bool.and_eq_true, decide_eq_true_eq] at hb
        obtain ⟨⟨b1, b2⟩, b3⟩ := hb
        split at h
        case h_2 => cases h
        rename_i xs ys h1 h2
        cases h
        cases ks with
        | nil =>
          cases vs with
          | cons _ _ => cases b2
          | nil =>
            cases h1
            cases h2
            exact PE.imp pe_dnewK rd_dnew
        | cons kx ks => exact PE.imp (pe_disp (pps_ok hE b1 b2 h1 h2) b1 b2 (by simp) b3) rd_disp
      · cases h
    | _ => cases h
end
end Ev

/-! EvU: statements brought into the evaluator's terms; the compiler of statements is right. -/
namespace Ev
open PySem PySem.Spec PyProof.Rows L2

/-! ### what the text must have -/
def isComp : Expr → Bool
  | .ListComp _ _ _ _ => true
  | .SetComp _ _ _ _ => true
  | .DictComp _ _ _ _ _ => true
  | _ => false
theorem sw_plain {e : Expr} {t : Option Expr} {l : Nat} {env : Env} (h : isComp e = false) : swapsWith e t l env = pure false := by
  cases e <;> first | rfl | cases h
/-- the value of a tree that asks nothing -/
def semV {α : Type} : Sem α → Option α
  | .pure a => some a
  | _ => none
theorem semV_ok {α : Type} {t : Sem α} {a : α} (h : semV t = some a) : t = Pure.pure a := by
  cases t <;> first | (cases h; rfl) | cases h
def env0 (sc : Scope) : Env := { (default : Env) with scope := sc }
/-- is a comprehension stored from within: name = [..] -/
def swB (sc : Scope) (tg e : Expr) : Option Bool := semV (swapsWith e (some tg) 0 (env0 sc))
theorem swB_ok {sc : Scope} {tg e : Expr} {b : Bool} {l : Nat} {env : Env} (hs : env.scope = sc) (h : swB sc tg e = some b) : swapsWith e (some tg) l env = Pure.pure b := by
  have e1 := semV_ok h
  subst hs
  rw [← e1]
  cases e <;> first | rfl | (cases tg <;> rfl)
/-- which names are stored from the right -/
def swN (sc : Scope) (tg v : Expr) : Option (Option (List Str)) := semV (swappedStores [tg] v (env0 sc))
theorem swN_ok {sc : Scope} {tg v : Expr} {r : Option (List Str)} {env : Env} (hs : env.scope = sc) (h : swN sc tg v = some r) : swappedStores [tg] v env = Pure.pure r := by
  have e1 := semV_ok h
  subst hs
  rw [← e1]
  unfold swappedStores
  rfl

/-! ### the compiler -/
def locB (sc : Scope) (x : Str) : Bool := match sc.names.lookup x with
  | some .local => true
  | some .cell => true
  | _ => false
theorem locB_ok {sc : Scope} {x : Str} (h : locB sc x = true) : Loc sc x := by
  unfold locB at h
  split at h
  · exact .inl (by assumption)
  · exact .inr (by assumption)
  · cases h
def cTg (T : Tb) (m : Nat) : Nat → Expr → Option Tgt
  | 0, _ => none
  | n + 1, e => match e with
    | .Name x _ => if locB T.sc x then (ixOf T.N x).map .nm else none
    | .Tuple es _ _ => (cTgs (cTg T m n) es).map .tp
    | .Attribute o f _ => (cE m T o).map (.at f.cps.toList)
    | .Subscript o i _ => if cE.plainIx i then (match cE m T o, cE m T i with
      | some x, some y => some (.sub x y)
      | _, _ => none) else none
    | _ => none
where cTgs (f : Expr → Option Tgt) : List Expr → Option (List Tgt)
  | [] => some []
  | e :: r => if isStar e then none else match f e, cTgs f r with
    | some x, some xs => some (x :: xs)
    | _, _ => none
def cSs (f : Stmt → Option Sm) : List Stmt → Option (List Sm)
  | [] => some []
  | s :: r => match f s, cSs f r with
    | some x, some xs => some (x :: xs)
    | _, _ => none
def cAsg (T : Tb) (tg e : Expr) : Option Sm := match swB T.sc tg e with
  | some true => (match tg, e with
    | .Name x _, .ListComp el gs sc ps => if T.sc.names.lookup x = some .local then (match cE 40 T (.ListComp el gs sc ps), ixOf T.N x with
      | some (.lc k it p t xe vs), some i => some (.asgL i k it p t xe vs)
      | _, _ => none) else none
    | _, _ => none)
  | some false => (match swN T.sc tg e with
    | some none => (match cTg T 40 10 tg, cE 40 T e with
      | some t, some x => some (.asg t x)
      | _, _ => none)
    | some (some ns) => (match tg, e with
      | .Tuple [.Name x _, .Name y _] _ _, .Tuple es _ _ => if ns = [x, y] ∧ T.sc.names.lookup x = some .local ∧ T.sc.names.lookup y = some .local ∧ es.length = 2 then (match ixOf T.N x, ixOf T.N y, cElts (cE 39 T) es with
        | some i, some j, some xs => if i ≠ j then some (.asg (.tp [.nm i, .nm j]) (.tup xs)) else none
        | _, _, _ => none) else none
      | .Tuple [.Name x _, .Name y _, .Name z _] _ _, .Tuple es _ _ => if ns = [x, y, z] ∧ T.sc.names.lookup x = some .local ∧ T.sc.names.lookup y = some .local ∧ T.sc.names.lookup z = some .local ∧ es.length = 3 then (match ixOf T.N x, ixOf T.N y, ixOf T.N z, cElts (cE 39 T) es with
        | some i, some j, some l, some xs => if i ≠ j ∧ i ≠ l ∧ j ≠ l then some (.asg (.tp [.nm i, .nm j, .nm l]) (.tup xs)) else none
        | _, _, _, _ => none) else none
      | _, _ => none)
    | none => none)
  | none => none
/-- the cases of a match: texts, and what is done -/
def cCs (f : List Stmt → Option (List Sm)) : List MatchCase → Option (List Cs × List (List Sm))
  | [] => some ([], [])
  | ⟨.MatchValue (.Constant cst _ _) _, none, body⟩ :: r => (match cConst cst, f body, cCs f r with
    | some (.str x), some b, some p => some (x :: p.1, b :: p.2)
    | _, _, _ => none)
  | _ => none
/-- the first slot that a target fills -/
def Tgt.fst : Tgt → Nat
  | .nm i => i
  | .tp (.nm i :: _) => i
  | _ => 1000000
/-- one turn for all, or turn by turn -/
def forW : Tgt → Nat → List Ex → List Sm → List Nat → Sm
  | .nm i, 2, [e], b, v :: vs => if v = 999999 then .forU i e b vs else .forC (.nm i) 2 [e] b (v :: vs)
  | t, k, it, b, vs => .forC t k it b vs
/-- what says that an operator does not take its operands: such an end is not followed -/
def isNI : Expr → Bool
  | .Name x _ => x == ("NotImplemented" : Str)
  | _ => false
def cS (T : Tb) : Nat → Stmt → Option Sm
  | 0, _ => none
  | n + 1, s => match s with
    | .Pass _ => some .pass
    | .Break _ => some .brk
    | .Continue _ => some .cnt
    | .Return none _ => some .retN
    | .Return (some e) _ => if isNI e then some .fail else (cE 40 T e).map .ret
    | .AugAssign (.Name x _) .Add e _ => if T.sc.names.lookup x = some .local then (match ixOf T.N x, cE 39 T e with
      | some i, some y => some (.asg (.nm i) (.bin 6 (.var i) y))
      | _, _ => none) else none
    | .Expr e _ => if isComp e then none else (cE 40 T e).map .expr
    | .Assign [tg] e _ => cAsg T tg e
    | .If c a b _ => match cT (cE 40 T) 30 c, cSs (cS T n) a, cSs (cS T n) b with
      | some x, some y, some z => some (.ite x y z)
      | _, _, _ => none
    | .For tg iter body [] _ => match cIt T (cE 40 T) tg iter, cTg T 40 10 tg, cSs (cS T n) body with
      | some (k, it), some t, some b => some (match T.fc.lookup t.fst with
        | some vs => forW t k it b vs
        | none => .for_ t k it b)
      | _, _, _ => none
    | .While c body [] _ => match cT (cE 40 T) 30 c, cSs (cS T n) body with
      | some x, some b => some (.whl x b)
      | _, _ => none
    | .Match subject cases _ => match cE 40 T subject, cCs (cSs (cS T n)) cases with
      | some x, some p => some (.mtch x p.1 p.2)
      | _, _ => none
    | .Raise _ _ _ => some .fail
    | .Try body (_ :: _) [] [] _ => (cSs (cS T n) body).map .tryN
    | _ => none

/-! ### it is right -/
structure Sok (X : Cx) (G : Gd) (W : WX) (P : Pg) (T : Tb) (k : Nat) : Prop extends Cok X G W P T k where
  own : PassesOwn (model X.prog X.w) X.A X.env X.xe
  fn : ∀ x, X.fn x = true
  kind : T.sc.kind = .function
section
variable {X : Cx} {G : Gd} {W : WX} {P : Pg} {T : Tb} {k : Nat}
theorem Sok.eE (c : Sok X G W P T k) {n : Nat} {e : Expr} {x : Ex} (h : cE n T e = some x) : PE X e (tD G W (iE P n x)) := (snd_all n X G W P T k c.toCok).1 e x h
theorem Sok.eT (c : Sok X G W P T k) {n : Nat} {e : Expr} {x : Ex} (h : cT (cE n T) 30 e = some x) : PT X e (tDT G W (iT (iE P n) 30 x)) :=
  ct_ok n c.toCok (fun _ _ => c.eE) (snd_all n X G W P T k c.toCok).2 h
theorem Sok.nox (c : Sok X G W P T k) : Sok X.nox G W0 P T k where
  K := c.K
  N := c.N
  sc := c.sc
  calm := c.calm
  nd := c.nd
  tk := takes0
  room3 := c.room3
  pk := ⟨c.pk.glob, c.pk.bl, c.pk.me, c.pk.cm, c.pk.ini, c.pk.kit, c.pk.pf, c.pk.n0, c.pk.kw, c.pk.pr, c.pk.eqf, c.pk.sf, c.pk.gi, c.pk.ad, c.pk.ln⟩
  own := fun _ _ z => z.elim
  fn := c.fn
  kind := c.kind
theorem tgs_len {f : Expr → Option Tgt} : ∀ {es : List Expr} {ts : List Tgt}, cTg.cTgs f es = some ts → ts.length = es.length ∧ es.all (fun e => !isStar e) = true
  | [], ts, e => by cases e; exact ⟨rfl, rfl⟩
  | a :: r, ts, e => by
    unfold cTg.cTgs at e
    split at e
    · cases e
    · rename_i hs
      split at e
      · rename_i x xs h1 h2
        cases e
        obtain ⟨i1, i2⟩ := tgs_len h2
        exact ⟨by rw [List.length_cons, List.length_cons, i1], by rw [List.all_cons, i2]; simpa using hs⟩
      · cases e
theorem tg_ok (c : Sok X G W P T k) (m : Nat) : ∀ (n : Nat) (e : Expr) (t : Tgt), cTg T m n e = some t → PG X e (tGD G (iG P m n t))
  | 0, _, _, h => by cases h
  | n + 1, e, t, h => by
    have tgs : ∀ {es : List Expr} {ts : List Tgt}, cTg.cTgs (cTg T m n) es = some ts → PGs X es (tGDs G (iG.iGs (iG P m n) ts)) := fun {es} => by
      induction es with
      | nil => intro ts h; cases h; exact PGs.imp pgs_nil rd_gsNil
      | cons a r ih =>
        intro ts h
        unfold cTg.cTgs at h
        split at h
        · cases h
        · rename_i hs
          split at h
          · rename_i x xs h1 h2
            cases h
            exact PGs.imp (pgs_cons (tg_ok c m n a x h1) (ih h2) (by rw [asg_no (by simpa using hs)]; rfl)) rd_gsCons
          · cases h
    cases e with
    | Name x pos =>
      simp only [cTg] at h
      split at h
      · rename_i hl
        obtain ⟨i, h1, rfl⟩ := mapE h
        exact PG.imp (pg_name c.nd (c.toCok.ix h1) (by rw [c.sc]; exact locB_ok hl) (.inl (c.fn x))) rd_gN
      · cases h
    | Tuple es kk pos =>
      obtain ⟨ts, h1, rfl⟩ := mapE (show (cTg.cTgs (cTg T m n) es).map Tgt.tp = some t from h)
      obtain ⟨l1, l2⟩ := tgs_len h1
      obtain ⟨a1, a2⟩ := asg_len (env := X.env) l2
      have hn : (assignEach es X.env).length = ts.length := by rw [a1, l1]
      exact PG.imp (PG.or (pg_tup c.calm (tgs h1) hn a2) (pg_lst c.calm (tgs h1) hn a2)) (by rw [c.K]; exact rd_gUn)
    | Attribute o f pos =>
      obtain ⟨y, h1, rfl⟩ := mapE (show (cE m T o).map (Tgt.at f.cps.toList) = some t from h)
      have rd := rd_gAttr (K := X.K) (G := G) (W := W) (mo := iE P m y) (pf := P.pf f.cps.toList) (f := f.cps.toList) c.K (c.pk.pf f.cps.toList)
      rw [st_self] at rd
      exact PG.imp (pg_attr (c.eE h1)) rd
    | Subscript o i pos =>
      simp only [cTg] at h
      split at h
      · rename_i hp
        split at h
        · rename_i y z h1 h2
          cases h
          exact PG.imp (pg_sub (c.eE h1) (c.eE h2) (set_all (by have := c.toCok.units; omega)) (fun v => by cases i <;> first | rfl | cases hp)) rd_gSub
        · cases h
      · cases h
    | _ => cases h
theorem rd_aug {G : Gd} {W : WX} {i : Nat} {me : Sl → M D} {op : D → D → M D} {r : R2} (ho : OpS G r op) (N : Ends) (σ : L2.St) (H : Hp) (h : tSD G W (gAsg (m2 (mVar i) me op) (gN i)) N σ H) : tAug i (tD G W me) r N σ H := by
  obtain ⟨ι, σd, s, R, w⟩ := h
  obtain ⟨d, e, g⟩ := Go.opt (Go.bind (Go.bind (go_inS R w))) R.hp
  have e' : σd[i]? = some (some d) := by
    cases e2 : σd[i]? with
    | none => rw [e2] at e; cases e
    | some o => rw [e2] at e; cases o with
      | none => cases e
      | some z => cases e; rfl
  obtain ⟨v, h1, h2⟩ := R.slot i d e'
  refine ⟨v, h1, ι, σd, s, R, (Go.bind g).imp fun ι1 H1 y s1 l1 k1 R1 g1 u r1 => ?_⟩
  refine ho W σ ι1 s1 H1 d y v u _ R1 (h2.mono l1 k1) r1 (g1.imp fun ι2 H2 z s2 l2 k2 R2 g2 zv rz => ?_)
  have q := wp_noX.mp g2
  exact q ι2 H2 (Le.refl _) (Keep.refl _) R2 ι2 _ H2 (Le.refl _) (Keep.refl _) (((R.on l1 k1 R1).on l2 k2 R2).set rz)
theorem rd_never (N : Ends) (σ : L2.St) (H : Hp) (h : tSD G W (fun _ => M.fail) N σ H) : tNever N σ H := by
  obtain ⟨_, _, _, _, w⟩ := h
  exact w.elim
theorem rd_fl {g : Sl → M Fl} (N : Ends) (σ : L2.St) (H : Hp) (h : tSD G W (fun σ => M.fl (g σ)) N σ H) : tSD G W0 g N σ H := by
  obtain ⟨ι, σd, s, R, w⟩ := h
  refine ⟨ι, σd, s, R, wp_mono (wp_bind.mp w) (fun fl s' q => ?_) fun _ _ z => z⟩
  cases fl with
  | nx σd' => exact q
  | rt d => exact q
  | bk σd' => exact q
  | ct σd' => exact q
  | xc x σd' => exact q.elim
theorem tD_mono {me : Sl → M D} {σ : L2.St} {H : Hp} {Q Q' : VK} (h : tD G W me σ H Q) (i : ∀ v H, Q v H → Q' v H) : tD G W me σ H Q' := by
  obtain ⟨ι, σd, s, R, g⟩ := h
  exact ⟨ι, σd, s, R, g.imp fun _ _ _ _ _ _ _ z v r => i _ _ (z v r)⟩
/-- name = [..], stored from within -/
theorem asgL_ok (c : Sok X G W P T k) {x : Str} {i n : Nat} {elt : Expr} {gens : List Comprehension} {scope : Scope} {p1 : Pos} {kk : Nat} {it : List Ex} {p : Pat} {t : Option Ex} {xe : Ex} {vs : List Nat} {px pos : Pos} (hsw : swB T.sc (.Name x px) (.ListComp elt gens scope p1) = some true)
    (hl : T.sc.names.lookup x = some .local) (hi : ixOf T.N x = some i) (h : cE 40 T (.ListComp elt gens scope p1) = some (.lc kk it p t xe vs)) :
    PS X (.Assign [.Name x px] (.ListComp elt gens scope p1) pos) (tSD G W (iS P 40 (n + 1) (.asgL i kk it p t xe vs))) := by
  obtain ⟨tg, iter, ifs, kk', it', p', t', xe', own, rfl, ex, qi, qb, qg, qt, qe, qs, qsub⟩ := (lc_parts (snd_all 39) c.toCok elt gens scope p1 _ h).ex
  cases ex
  have sw := swB_ok (l := pos.line) c.sc hsw
  have hyl : X.env.scope.names.lookup x = some .local := by rw [c.sc]; exact hl
  have base : PS X (.Assign [.Name x px] (.ListComp elt [⟨tg, iter, ifs, 0⟩] scope p1) pos) (tSD G W (gAsg (mLc (iIt (iE P 39) kk it) p (iTo (iE P 39) t) (iE P 39 xe) (own.map (·.2))) (gN i))) :=
    PS.imp (ps_setLc (i := i) c.calm c.nd (c.toCok.ix hi) hyl sw qi qb qg qt qe qs) fun D σ H h =>
      rd_lc c.K qsub σ H _ (tD_mono (rd_asg D σ H h) fun v H1 z => rd_gN v σ H1 _ z)
  exact PS.imp (ps_lockA base) rd_lockS
theorem assign1 {tg : Expr} {env : Env} (h : isStar tg = false) : (assignEach [tg] env).map (·.2) = [assign tg env] := by rw [asg_no h]; rfl
theorem tg_star {m n : Nat} {tg : Expr} {t : Tgt} (h : cTg T m n tg = some t) : isStar tg = false := by
  cases n with
  | zero => cases h
  | succ n => cases tg <;> first | rfl | cases h
theorem asg_ok (c : Sok X G W P T k) {tg e : Expr} {x : Sm} {n : Nat} {pos : Pos} (h : cAsg T tg e = some x) : PS X (.Assign [tg] e pos) (tSD G W (iS P 40 (n + 1) x)) := by
  unfold cAsg at h
  split at h
  · rename_i hsw
    split at h
    · rename_i y py el gs sc ps
      split at h
      · rename_i hl
        split at h
        · rename_i kk it p t xe vs i h1 h2
          cases h
          exact asgL_ok c hsw hl h2 h1
        · cases h
      · cases h
    · cases h
  · rename_i hsw
    have sw : swapsWithSole [tg] e pos.line X.env = Pure.pure false := swB_ok c.sc hsw
    split at h
    · rename_i h1
      split at h
      · rename_i t y h2 h3
        cases h
        exact PS.imp (ps_asg (c.eE h3) (tg_ok c 40 10 tg t h2) sw (swN_ok c.sc h1) (assign1 (tg_star h2))) rd_asg
      · cases h
    · rename_i ns h1
      have hw := swN_ok (env := X.env) c.sc h1
      split at h
      · rename_i y py z pz kt pt es ke pe
        split at h
        · rename_i hc
          obtain ⟨rfl, l1, l2, le⟩ := hc
          split at h
          · rename_i i j xs x1 x2 x3
            split at h
            · rename_i hij
              cases h
              have hl1 : X.env.scope.names.lookup y = some .local := by rw [c.sc]; exact l1
              have hl2 : X.env.scope.names.lookup z = some .local := by rw [c.sc]; exact l2
              have pa := elts_ok c.toCok (fun _ _ h => c.eE h) x3
              match es, le with
              | [a, b], _ => exact PS.imp (ps_par c.calm c.nd (c.toCok.ix x1) (c.toCok.ix x2) hij hl1 hl2 pa hw sw) rd_par
            · cases h
          · cases h
        · cases h
      · rename_i y py z pz u pu kt pt es ke pe
        split at h
        · rename_i hc
          obtain ⟨rfl, l1, l2, l3, le⟩ := hc
          split at h
          · rename_i i j l xs x1 x2 x3 x4
            split at h
            · rename_i hij
              cases h
              have hl1 : X.env.scope.names.lookup y = some .local := by rw [c.sc]; exact l1
              have hl2 : X.env.scope.names.lookup z = some .local := by rw [c.sc]; exact l2
              have hl3 : X.env.scope.names.lookup u = some .local := by rw [c.sc]; exact l3
              have pa := elts_ok c.toCok (fun _ _ h => c.eE h) x4
              match es, le with
              | [a, b, d], _ => exact PS.imp (ps_par3 c.calm c.nd (c.toCok.ix x1) (c.toCok.ix x2) (c.toCok.ix x3) hij.1 hij.2.1 hij.2.2 hl1 hl2 hl3 pa hw sw) rd_par3
            · cases h
          · cases h
        · cases h
      · cases h
    · cases h
  · cases h
theorem ss_ok {f : Stmt → Option Sm} {g : Sm → Sl → M Fl} (hf : ∀ s x, f s = some x → PS X s (tSD G W (g x))) : ∀ {ss : List Stmt} {xs : List Sm}, cSs f ss = some xs → PSs X ss (tSD G W (iSs g xs))
  | [], xs, h => by cases h; exact PSs.imp pss_nil rd_next
  | s :: r, xs, h => by
    unfold cSs at h
    split at h
    · rename_i x ys h1 h2
      cases h
      exact PSs.imp (pss_cons (hf s x h1) (ss_ok hf h2)) rd_seq
    · cases h
theorem cst_str {cst : Const} {x : Cs} {j : Nat} {p : Pos} (h : cConst cst = some (.str x)) : PE X (.Constant cst j p) (tC (.str (st x))) := by
  cases cst with
  | str y =>
    simp only [cConst] at h
    split at h
    · cases h
      rw [st_self]
      exact pe_str
    · cases h
  | _ => cases h
theorem pc_ok {f : List Stmt → Option (List Sm)} {g : List Sm → Sl → M Fl} (hf : ∀ b x, f b = some x → PSs X b (tSD G W (g x))) : ∀ {cs : List MatchCase} {p : List Cs × List (List Sm)}, cCs f cs = some p → PC X cs (tCases G W p.1 (p.2.map g))
  | [], p, h => by cases h; exact pc_nil
  | ⟨pat, gd, body⟩ :: r, p, h => by
    unfold cCs at h
    split at h
    · rename_i heq; cases heq
    · rename_i cst j p1 p2 body' r' heq
      cases heq
      split at h
      · rename_i x b q h1 h2 h3
        cases h
        exact pc_cons (cst_str h1) (hf _ _ h2) (pc_ok hf h3)
      · cases h
    · cases h
theorem cs_ok : ∀ (n : Nat) {X : Cx} {G : Gd} {W : WX} {P : Pg} {T : Tb} {k : Nat} (c : Sok X G W P T k) (s : Stmt) (x : Sm), cS T n s = some x → PS X s (tSD G W (iS P 40 n x))
  | 0, _, _, _, _, _, _, _, _, _, h => by cases h
  | n + 1, X, G, W, P, T, k, c, s, x, h => by
    have ih := cs_ok n c
    cases s with
    | Pass pos => cases h; exact PS.imp ps_pass rd_next
    | Break pos => cases h; exact PS.imp ps_break rd_brk
    | Continue pos => cases h; exact PS.imp ps_continue rd_cnt
    | Return v pos =>
      cases v with
      | none => cases h; exact PS.imp ps_retN rd_retN
      | some e =>
        simp only [cS] at h
        split at h
        · cases h; exact PS.imp ps_never rd_never
        · obtain ⟨y, h1, rfl⟩ := mapE h
          exact PS.imp (ps_ret (c.eE h1)) rd_ret
    | AugAssign tg op e pos =>
      cases tg with
      | Name y p =>
        cases op with
        | Add =>
          simp only [cS] at h
          split at h
          · rename_i hl
            split at h
            · rename_i i z h1 h2
              cases h
              have hl' : X.env.scope.names.lookup y = some .local := by rw [c.sc]; exact hl
              exact PS.imp (ps_aug c.nd (c.toCok.ix h1) (.inl hl') (c.eE h2) (op_iaddO (k := k) (c.room3.mono (by omega))) (.inr hl')) (rd_aug (iaddOS c.K c.pk.ad))
            · cases h
          · cases h
        | _ => cases h
      | _ => cases h
    | Expr e pos =>
      simp only [cS] at h
      split at h
      · cases h
      · rename_i hc
        obtain ⟨y, h1, rfl⟩ := mapE h
        exact PS.imp (ps_expr (c.eE h1) (sw_plain (by simpa using hc))) rd_expr
    | Assign ts e pos =>
      cases ts with
      | nil => cases h
      | cons tg r =>
        cases r with
        | cons _ _ => cases h
        | nil => exact asg_ok c h
    | If cc a b pos =>
      simp only [cS] at h
      split at h
      · rename_i y z w h1 h2 h3
        cases h
        exact PS.imp (ps_if (c.eT h1) (ss_ok ih h2) (ss_ok ih h3)) rd_ifS
      · cases h
    | For tg iter body orelse pos =>
      cases orelse with
      | cons _ _ => cases h
      | nil =>
        simp only [cS] at h
        split at h
        · rename_i kk it t b h1 h2 h3
          obtain ⟨i1, i2⟩ := it_ok c.toCok (fun _ _ h => c.eE h) h1
          have base := ps_for (pos := pos) c.own c.calm i1 (tg_ok c 40 10 tg t h2) (ss_ok ih h3) fun x => i2 x _
          cases hf : T.fc.lookup t.fst with
          | some vs =>
            simp only [hf] at h
            cases h
            unfold forW
            split
            · split
              · exact PS.imp base rd_forU
              · exact PS.imp base rd_forC
            · exact PS.imp base rd_forC
          | none =>
            simp only [hf] at h
            cases h
            exact PS.imp (ps_lockA (PS.imp base rd_for)) rd_lockS
        · cases h
    | While cc body orelse pos =>
      cases orelse with
      | cons _ _ => cases h
      | nil =>
        simp only [cS] at h
        split at h
        · rename_i y b h1 h2
          cases h
          exact PS.imp (ps_while c.own (c.eT h1) (ss_ok ih h2)) rd_while
        · cases h
    | Match subject cs pos =>
      simp only [cS] at h
      split at h
      · rename_i y p h1 h2
        cases h
        exact PS.imp (ps_match (c.eE h1) (pc_ok (W := W) (g := iSs (iS P 40 n)) (fun b x hb => ss_ok ih hb) h2)) rd_match
      · cases h
    | Raise a b pos => cases h; exact PS.imp ps_never rd_never
    | Try body hs orelse fin pos =>
      cases hs with
      | nil => cases h
      | cons h0 hs =>
        cases orelse with
        | cons _ _ => cases h
        | nil =>
          cases fin with
          | cons _ _ => cases h
          | nil =>
            obtain ⟨b, h1, rfl⟩ := mapE (show (cSs (cS T n) body).map Sm.tryN = some x from h)
            exact PS.imp (ps_try_thru0 (ss_ok (cs_ok n c.nox) h1)) rd_fl
    | _ => cases h
end
end Ev

/-! EvV: defs of the text keep what the evaluator tells. -/
namespace Ev
open PySem PySem.Spec PyProof.Rows L2

/-- the facts of a program, apart from a context -/
structure Fc where
  P : Program
  w : World
  K : PySem.W.Frag
  mg : Str → Option Value
  base : Heap
/-- what of a program's facts is wanted, at call level k -/
structure Pk (F : Fc) (G : Gd) (P : Pg) (glob : Str → Option Gv) (mnm cmn : Str → Option Nat) (kwt : Str → List Str → Option Nat) (k : Nat) : Prop where
  K : F.K = G.K
  fn : ∀ x i, glob x = some (.fn i) → ∃ f, F.mg x = some (.ref f) ∧ PySem.W.keepIn F.K (.ref f) = true ∧ Fk F.P F.w F.K F.mg F.base k f (spD G (P.fn i))
  cls : ∀ x c, glob x = some (.cls c) → F.mg x = some (.ref (G.ca c))
  con : ∀ x d, glob x = some (.con d) → ∃ v u, F.mg x = some u ∧ RelV v u ∧ ∀ ι H, Rp G ι H d v
  bl : ∀ x, glob x = none → x ∈ bltN → F.mg x = none
  me : ∀ m j, mnm m = some j → st (P.mn j) = m ∧ ∀ c f, mtOf P P.me j c = some f → Cls G.K (G.ca c) ∧ ∃ g, Meth G.K (G.ca c) m g ∧ Fk F.P F.w F.K F.mg F.base k g (spD G f)
  cm : ∀ m j, cmn m = some j → ∀ c f, mtOf P P.cm j c = some f → ∃ mc q g, ClX.CRead G.K (G.ca c) mc ∧ ClX.CMet G.K (G.ca c) mc m q g ∧ Fk F.P F.w F.K F.mg F.base k g (spD G f)
  ini : ∀ c f, P.ini c = some f → ∃ g, Mk G.K (G.ca c) g ∧ Fk F.P F.w F.K F.mg F.base k g (spD G (P.fn f))
  kit : KitOk G P.kit
  pf : ∀ f c, P.pf f c = true → Cls G.K (G.ca c) ∧ NoAttr G.K (G.ca c) (st f)
  n0 : P.ns = G.ns
  kw : ∀ x ks j, kwt x ks = some j → ∃ f, F.mg x = some (.ref f) ∧ PySem.W.keepIn F.K (.ref f) = true ∧ FkK F.P F.w F.K F.mg F.base k f 0 ks (spD G (P.fk j))
  pr : ∀ f c g, (P.pr f c).map P.fn = some g → Cls G.K (G.ca c) ∧ ∃ p a, PropOf G.K (G.ca c) (st f) p a ∧ Fk F.P F.w F.K F.mg F.base k a (spD G g)
  eqf : ∀ X : Cx, X.prog = F.P → X.w = F.w → X.K = F.K → X.mg = F.mg → X.base = F.base → EqfOk X G k fun c c' => (P.eqf c c').map P.fn
  sf : ∀ c g, (P.sf c).map P.fn = some g → ∃ a, PySem.W.findIn G.K (.ref (G.ca c)) "__str__" = some (some (.ref a)) ∧ PySem.W.isFn G.K (.ref a) = true ∧ Fk F.P F.w F.K F.mg F.base k a (spD G g)
  gi : ∀ X : Cx, X.prog = F.P → X.w = F.w → X.K = F.K → X.mg = F.mg → X.base = F.base → GiOk X G k fun c => (P.gi c).map P.fn
  ad : ∀ X : Cx, X.prog = F.P → X.w = F.w → X.K = F.K → X.mg = F.mg → X.base = F.base → IAdOk X G k fun c => (P.ad c).map P.fn
  ln : ∀ c g, (P.ln c).map P.fn = some g → ∃ a, PySem.W.findIn G.K (.ref (G.ca c)) "__len__" = some (some (.ref a)) ∧ PySem.W.isFn G.K (.ref a) = true ∧ Fk F.P F.w F.K F.mg F.base k a (spD G g)
/-- how arguments are bound, the defaults behind -/
def Bnd (K : PySem.W.Frag) (fd : FuncData) (ps : List Str) (dvs : List V) : Prop := ∀ n, n ≤ ps.length → ps.length - n ≤ dvs.length → ∃ ds, Vals (dvs.drop (dvs.length - (ps.length - n))) ds ∧ Binds K fd ps ds
/-- the defaults' data -/
def DfR (G : Gd) (dfl : List D) (dvs : List V) : Prop := ∀ ι H, RpL G ι H dfl dvs
theorem slots_ok {np ns : Nat} {dfl ds : List D} {σ : Sl} (h : slots np ns dfl ds = some σ) : ∃ all, all = ds ++ dfl.drop (dfl.length - (np - ds.length)) ∧ all.length = np ∧ σ = all.map some ++ List.replicate (ns - all.length) none := by
  unfold slots at h
  simp only at h
  split at h
  · rename_i e
    cases h
    exact ⟨_, rfl, e, rfl⟩
  · cases h
theorem rel_start {G : Gd} {ι : Iota} {s : S} {H : Hp} {N : List Str} {ds : List D} {vs : List V} (R : RelH G ι s H) (r : RpL G ι H ds vs) : RelS G ι (ds.map some ++ List.replicate (N.length - ds.length) none) s (L2.start N vs) H where
  hp := R
  len := by
    unfold L2.start
    simp only [List.length_append, List.length_map, List.length_replicate, r.length]
  slot := fun i d e => by
    unfold L2.start
    by_cases hi : i < ds.length
    · rw [List.getElem?_append_left (by simpa using hi)] at e
      rw [List.getElem?_append_left (by rw [List.length_map, ← r.length]; exact hi)]
      rw [List.getElem?_map] at e ⊢
      cases e2 : ds[i]? with
      | none => rw [e2] at e; cases e
      | some d' =>
        rw [e2] at e
        cases e
        obtain ⟨v, h1, h2⟩ := r.get e2
        exact ⟨v, by rw [h1]; rfl, h2⟩
    · rw [List.getElem?_append_right (by simpa using hi)] at e
      rw [List.getElem?_replicate] at e
      split at e <;> cases e
section
variable {F : Fc} {G : Gd} {P : Pg} {glob : Str → Option Gv} {mnm cmn : Str → Option Nat} {k : Nat} {fc : List (Nat × List Nat)} {kwt : Str → List Str → Option Nat}
theorem Pk.ctx (p : Pk F G P glob mnm cmn kwt k) {N : List Str} {qual : Str} {scope : Scope} {f : Addr} {cd : Value} {A : Around} {outer : List Env} {s : Shared} {H : Hp} {E : XK} (hr : Room (k + 3) (A.deeper (envOfC qual scope s.heap.objs.size f cd))) (nd : N.Nodup) (hk : scope.kind = .function) :
    Sok (cxOf (L2.CX F.P F.w) F.P F.w F.K F.mg F.base N qual scope f cd A outer s H E) G (fun cls d _ H => E cls d H) P ⟨N, scope, glob, mnm, cmn, fc, kwt⟩ k where
  K := p.K
  N := rfl
  sc := rfl
  calm := rfl
  nd := nd
  tk := takes_of rfl rfl rfl rfl
  room3 := hr
  pk := ⟨fun x g h => by
    cases g with
    | fn i => exact p.fn x i h
    | cls c => exact p.cls x c h
    | con d => exact p.con x d h, p.bl, p.me, p.cm, p.ini, p.kit, p.pf, p.n0, p.kw, p.pr, p.eqf _ rfl rfl rfl rfl rfl, p.sf, p.gi _ rfl rfl rfl rfl rfl, p.ad _ rfl rfl rfl rfl rfl, p.ln⟩
  own := passes_of rfl
  fn := fun _ => rfl
  kind := hk
/-- the rule for a def, all arguments given -/
theorem fo_ok (p : Pk F G P glob mnm cmn kwt k) {x qual : Str} {params : Arguments} {body : List Stmt} {scope : Scope} {dvs : List V} {f : Addr} {fd : FuncData} {N ps : List Str} {b : List Sm} {dfl : List D} (D : FunD F.K x qual params body scope dvs [] f fd) (S : FnScope N ps scope)
    (hb : cSs (cS ⟨N, scope, glob, mnm, cmn, fc, kwt⟩ 40) body = some b) : FnOk F.P F.w F.K F.mg F.base (L2.CX F.P F.w) (k + 3 + 1) f fd ps (fun vs H Q E => vs.length = ps.length ∧ spD G (runF P ⟨ps.length, N.length, dfl, b⟩) vs H Q E) := by
  refine D.ok S (fun vs H Q E h => h.1) fun cdv A outer s H vs Q E hr h => ?_
  obtain ⟨hl, ι, ds, sd, R, r, w⟩ := h
  refine ⟨_, ss_ok (cs_ok 40 (p.ctx hr S.nd S.kind)) hb, ?_⟩
  have hd : ds.length = ps.length := by rw [r.length, hl]
  have e1 : runF P ⟨ps.length, N.length, dfl, b⟩ ds = M.bind (M.noX (iSs (iS P 40 40) b (ds.map some ++ List.replicate (N.length - ds.length) none))) outF := by
    have : slots ps.length N.length dfl ds = some (ds.map some ++ List.replicate (N.length - ds.length) none) := by
      unfold slots
      simp only [hd, Nat.sub_self, Nat.sub_zero, List.drop_length, List.append_nil, if_true]
    unfold runF
    simp only [this]
  rw [e1] at w
  refine ⟨ι, _, sd, rel_start R r, wp_mono (wp_noX.mp (wp_bind.mp w)) (fun fl s' q => ?_) fun _ _ z => z⟩
  cases fl with
  | nx σd => exact fun ι' σ' H' l kk R' => q ι' H' l kk R'.hp .non .non
  | rt d => exact fun ι' v H' l kk R' r' => q ι' H' l kk R' v r'
  | bk σd => exact q.elim
  | ct σd => exact q.elim
  | xc x σd => exact fun ι' σ' H' cls dx l kk R' xr => q ι' H' cls dx l kk R'.hp xr
/-- THE RULE for a def -/
theorem fk_ok (p : Pk F G P glob mnm cmn kwt k) {x qual : Str} {params : Arguments} {body : List Stmt} {scope : Scope} {dvs : List V} {f : Addr} {fd : FuncData} {N ps : List Str} {b : List Sm} {dfl : List D} (D : FunD F.K x qual params body scope dvs [] f fd) (S : FnScope N ps scope) (B : Bnd F.K fd ps dvs)
    (dr : DfR G dfl dvs) (hb : cSs (cS ⟨N, scope, glob, mnm, cmn, fc, kwt⟩ 40) body = some b) : Fk F.P F.w F.K F.mg F.base (k + 4) f (spD G (runF P ⟨ps.length, N.length, dfl, b⟩)) := by
  have fo := fo_ok (dfl := dfl) p D S hb
  refine ⟨fun A outer s H us vs Q E hr e0 r h => ?_⟩
  obtain ⟨ι, ds, sd, R, rd, w⟩ := h
  cases hs : slots ps.length N.length dfl ds with
  | none =>
    have : runF P ⟨ps.length, N.length, dfl, b⟩ ds = M.fail := by unfold runF; simp only [hs]
    rw [this] at w
    exact w.elim
  | some σ =>
    obtain ⟨all, ea, la, es⟩ := slots_ok hs
    have ln : ds.length ≤ ps.length := by
      rw [← la, ea, List.length_append]; omega
    have ld : dfl.length = dvs.length := (dr ι H).length
    have ld2 : ps.length - ds.length ≤ dvs.length := by
      have h1 : all.length = ds.length + (dfl.length - (dfl.length - (ps.length - ds.length))) := by rw [ea, List.length_append, List.length_drop]
      omega
    have lv : ds.length = vs.length := rd.length
    obtain ⟨dd, rdd, bb⟩ := B vs.length (by omega) (by omega)
    have KX : F.K.In s.heap := e0.mod.kin.keeps fun b o e => (e0.bs b o e).1
    have rall : RpL G ι H all (vs ++ dvs.drop (dvs.length - (ps.length - vs.length))) := by
      rw [ea, ld, lv]
      exact rd.append ((dr ι H).drop _)
    have ruu := Vals.append r rdd
    have hlen : (us ++ dd).length = ps.length := by rw [← ruu.length, ← rall.length, la]
    have e2 : runF P ⟨ps.length, N.length, dfl, b⟩ all = runF P ⟨ps.length, N.length, dfl, b⟩ ds := by
      have : slots ps.length N.length dfl all = some σ := by
        unfold slots
        simp only [la, Nat.sub_self, Nat.sub_zero, List.drop_length, List.append_nil, if_true, es]
      unfold runF
      simp only [this, hs]
    exact fo.run A outer s H ⟨us, []⟩ (us ++ dd) _ Q E hr e0 (bb s us KX hlen) ruu ⟨by rw [← rall.length, la], ι, all, sd, R, rall, by rw [e2]; exact w⟩
end
end Ev

/-! EvX: a law's tables, what the head tells of them, the facts of all defs at all levels. -/
namespace Ev
open PySem PySem.Spec PyProof.Rows L2

/-- one def: where it stands (0 a global, 1 a method, 2 a classmethod), and its text; its slots' names, parameters, defaults as data, and its body in the evaluator's terms -/
structure Df where
  kd : Nat
  own : Str
  name : Str
  qual : Str
  params : Arguments
  body : List Stmt
  scope : Scope
  dfl : List He.Dv
  dD : List D
  N : List Str
  ps : List Str
  ir : List Sm
  fc : List (Nat × List Nat)
  gc : Bool
/-- a law's tables -/
structure Lw where
  cls : List Str
  defs : List Df
  globs : List (Str × Gv)
  mets : List (Nat × Nat × Nat)
  cms : List (Nat × Nat × Nat)
  inis : List (Nat × Nat)
  mns : List Str
  cmn : List Str
  flds : List (Cs × List Nat)
  kits : List (TyD × D × Bool)
  kws : List (Str × List Str × Nat × List Nat)
  props : List (Cs × Nat × Nat)
  lens : List (Nat × Nat)
  eqs : List (Nat × Nat × Nat)
  txs : List (Nat × Nat)
  gis : List (Nat × Nat)
  ads : List (Nat × Nat)
def cmRec (K : PySem.W.Frag) (C : Addr) (m : Str) : Addr := match PySem.W.recIn K (He.ma K C m) "classmethod" with
  | some (.ref g :: _) => g
  | _ => 0
def prRec (K : PySem.W.Frag) (C : Addr) (m : Str) : Addr := match PySem.W.recIn K (He.ma K C m) "property" with
  | some (.ref g :: _) => g
  | _ => 0
def Df.ad (K : PySem.W.Frag) (d : Df) : Addr := match d.kd with
  | 0 => He.ga K d.name
  | 1 => He.ma K (He.ga K d.own) d.name
  | 3 => prRec K (He.ga K d.own) d.name
  | _ => cmRec K (He.ga K d.own) d.name
def fnAt (K : PySem.W.Frag) (a : Addr) : He.FnW := match K.lookup a with
  | some ⟨_, _, .func fd, _⟩ => some (fd.name, fd.qualname, fd.params, fd.body, fd.scope, fd.globals, fd.closure, fd.builtins)
  | _ => none
def Df.val (d : Df) : He.FnW := some (d.name, d.qual, d.params, .stmts d.body, d.scope, mainGlobals, [], builtinsNs)
def Df.dvs (K : PySem.W.Frag) (d : Df) : List V := d.dfl.map (He.Dv.v K)
def Df.ok (K : PySem.W.Frag) (d : Df) : Bool := PySem.W.keepIn K (.ref (d.ad K)) && (match K.lookup (d.ad K) with
  | some ⟨_, _, .func fd, _⟩ => PySem.W.codeIn K fd.code d.qual && (He.dflB K fd.defaults (d.dvs K) && He.kwdB K fd.kwdefaults [])
  | _ => false)
theorem Df.funD {K : PySem.W.Frag} {d : Df} (e : fnAt K (d.ad K) = d.val) (c : d.ok K = true) : ∃ fd, FunD K d.name d.qual d.params d.body d.scope (d.dvs K) [] (d.ad K) fd := by
  obtain ⟨kp, c2⟩ := He.ba c
  unfold fnAt at e
  cases q : K.lookup (d.ad K) with
  | none => rw [q] at c2; cases c2
  | some o =>
    obtain ⟨oc, od, dt, osl⟩ := o
    rw [q] at c2 e
    cases dt with
    | func fd =>
      obtain ⟨n1, n2, n3, n4, n5, n6, n7, n8, n9, n10, n11, n12, n13, n14, n15⟩ := fd
      have e2 : (some (n1, n2, n3, n4, n5, n6, n7, n15) : He.FnW) = some (d.name, d.qual, d.params, .stmts d.body, d.scope, mainGlobals, [], builtinsNs) := e
      simp only [Option.some.injEq, Prod.mk.injEq] at e2
      obtain ⟨h1, h2, h3, h4, h5, h6, h7, h8⟩ := e2
      subst h1 h2 h3 h4 h5 h6 h7 h8
      have c3 : (PySem.W.codeIn K n13 d.qual && (He.dflB K n8 (d.dvs K) && He.kwdB K n9 [])) = true := c2
      obtain ⟨k1, k2⟩ := He.ba c3
      obtain ⟨k3, k4⟩ := He.ba k2
      exact ⟨_, ⟨oc, od, n8, n9, n10, n11, n12, n13, n14, osl, rfl, q, k1, He.dflB_ok k3, He.kwdB_ok k4⟩, kp⟩
    | _ => cases c2

/-! ### constants of the top -/
/-- data that stand in the written part -/
def conV (K : PySem.W.Frag) : Nat → D → Value → Bool
  | 0, _, _ => false
  | n + 1, d, u => match d, u with
    | .non, .none => true
    | .bl b, .bool c => b == c
    | .int i, .int j _ => decide (i = j)
    | .str x, .str y _ => decide (y = st x) && (decide (x.length ≤ 1000000) && x.all fun c => decide (c < 128))
    | .tup ds, .ref a => (match K.lookup a with
      | some ⟨.type c, none, .seq its _, _⟩ => decide (c = "tuple") && (decide (its.size ≤ sizeLine) && conVs (conV K n) ds its.toList)
      | _ => false)
    | _, _ => false
where conVs (f : D → Value → Bool) : List D → List Value → Bool
  | [], [] => true
  | d :: ds, u :: us => f d u && conVs f ds us
  | _, _ => false
theorem conV_ok {G : Gd} : ∀ (n : Nat) (d : D) (u : Value), conV G.K n d u = true → ∃ v, RelV v u ∧ ∀ ι H, Rp G ι H d v
  | 0, _, _, h => by cases h
  | n + 1, d, u, h => by
    have all : ∀ {ds : List D} {us : List Value}, conV.conVs (conV G.K n) ds us = true → ∃ vs, Vals vs us ∧ ∀ ι H, RpL G ι H ds vs := fun {ds} => by
      induction ds with
      | nil =>
        intro us h
        cases us with
        | nil => exact ⟨[], .nil, fun _ _ => .nil⟩
        | cons _ _ => cases h
      | cons d ds ih =>
        intro us h
        cases us with
        | nil => cases h
        | cons u us =>
          have h' : (conV G.K n d u && conV.conVs (conV G.K n) ds us) = true := h
          rw [Bool.and_eq_true] at h'
          obtain ⟨v, h1, h2⟩ := conV_ok n d u h'.1
          obtain ⟨vs, h3, h4⟩ := ih h'.2
          exact ⟨v :: vs, .cons h1 h3, fun ι H => .cons (h2 ι H) (h4 ι H)⟩
    unfold conV at h
    split at h
    · exact ⟨.non, rfl, fun _ _ => .non⟩
    · rename_i b c
      have e : b = c := by simpa using h
      subst e
      exact ⟨.bl b, rfl, fun _ _ => .bl b⟩
    · rename_i i j t
      have e : i = j := of_decide_eq_true h
      subst e
      exact ⟨.int i, ⟨t, rfl⟩, fun _ _ => .int i⟩
    · rename_i x y t
      simp only [Bool.and_eq_true, decide_eq_true_eq, List.all_eq_true] at h
      obtain ⟨rfl, h1, h2⟩ := h
      exact ⟨.str (st x), ⟨t, rfl⟩, fun _ _ => .str x ⟨h1, h2⟩⟩
    · rename_i ds a
      split at h
      · rename_i c its m sl lk
        simp only [Bool.and_eq_true, decide_eq_true_eq] at h
        obtain ⟨rfl, h1, h2⟩ := h
        obtain ⟨vs, h3, h4⟩ := all h2
        exact ⟨.ref a, rfl, fun ι H => .tup (.inr ⟨_, its, m, lk, rfl, rfl, h1, h3⟩) (h4 ι H)⟩
      · cases h
    · cases h
/-- the defaults of a def, as data -/
def dfB (K : PySem.W.Frag) : List D → List V → Bool
  | [], [] => true
  | d :: ds, v :: vs => (match d, v with
    | .non, .non => true
    | .bl b, .bl c => b == c
    | .int i, .int j => decide (i = j)
    | .tup [], .ref a => (match K.lookup a with
      | some ⟨.type c, none, .seq its _, _⟩ => decide (c = "tuple") && decide (its.toList = [])
      | _ => false)
    | _, _ => false) && dfB K ds vs
  | _, _ => false
theorem dfB_ok {G : Gd} : ∀ (ds : List D) (vs : List V), dfB G.K ds vs = true → ∀ ι H, RpL G ι H ds vs
  | [], [], _, _, _ => .nil
  | [], _ :: _, h, _, _ => by cases h
  | _ :: _, [], h, _, _ => by cases h
  | d :: ds, v :: vs, h, ι, H => by
    unfold dfB at h
    rw [Bool.and_eq_true] at h
    refine .cons ?_ (dfB_ok ds vs h.2 ι H)
    have h1 := h.1
    split at h1
    · exact .non
    · have e := beq_iff_eq.mp h1; subst e; exact .bl _
    · have e := of_decide_eq_true h1; subst e; exact .int _
    · rename_i a
      split at h1
      · rename_i c its m sl lk
        simp only [Bool.and_eq_true, decide_eq_true_eq] at h1
        obtain ⟨rfl, h3⟩ := h1
        refine .tup (xs := []) (.inr ⟨_, its, m, lk, rfl, rfl, ?_, by rw [h3]; exact .nil⟩) .nil
        have : its.size = 0 := by rw [← Array.length_toList, h3]; rfl
        rw [this]; exact Nat.zero_le _
      · cases h1
    · cases h1
/-! ### what the head is asked -/
abbrev clsA (L : Lw) (K : PySem.W.Frag) (c : Nat) : Addr := He.ga K (L.cls.getD c Str.empty)
def insTyB (K : PySem.W.Frag) (C : Addr) : Bool := decide (PySem.W.findIn K (.ref C) "__class__" = some (some (.builtin "object.__class__"))) && (decide (PySem.W.specialIn K (.builtin "object.__class__") "__get__" = some (some (.builtin "getset_descriptor.__get__"))) &&
  (decide (PySem.W.takesIn K (.builtin "object.__class__") = some true) && decide (PySem.W.mroIn K C (.type "object") = some true)))
/-- the addresses' own Gd -/
def gdOf (L : Lw) (K : PySem.W.Frag) (ns : List Int) : Gd := ⟨K, clsA L K, fun c => .ref (clsA L K c), ns⟩
def dAt (L : Lw) (K : PySem.W.Frag) (i : Nat) : Addr := match L.defs[i]? with
  | some d => d.ad K
  | none => 0
def gvB (L : Lw) (K : PySem.W.Frag) (x : Str) : Gv → Bool
  | .fn i => decide (PySem.W.nsIn K mainGlobals x = some (some (.ref (dAt L K i)))) && decide (i < L.defs.length)
  | .cls c => decide (PySem.W.nsIn K mainGlobals x = some (some (.ref (clsA L K c))))
  | .con d => (match PySem.W.nsIn K mainGlobals x with
    | some (some u) => conV K 6 d u
    | _ => false)
def clsB (K : PySem.W.Frag) (C : Addr) : Bool := PySem.W.plainGet K C Str.empty && (PySem.W.hasDictIn K C && (PySem.W.plainOver K C && He.eqO (PySem.W.findIn K (.ref C) "__setattr__") (some (some (.builtin "object.__setattr__")))))
def tyVal (L : Lw) (K : PySem.W.Frag) : TyD → Value
  | .bi t => .type (tyS t)
  | .own c => .ref (clsA L K c)
def clV (L : Lw) (K : PySem.W.Frag) : D → Option Value
  | .ty t => some (.type (tyN t))
  | .cls c => some (.ref (clsA L K c))
  | _ => none
def tabB (L : Lw) (K : PySem.W.Frag) : Bool :=
  (L.defs.all fun d => d.ok K && dfB K d.dD (d.dvs K)) && ((L.globs.all fun q => gvB L K q.1 q.2) && ((bltN.all fun x => (L.globs.lookup x).isSome || decide (PySem.W.nsIn K mainGlobals x = some none)) &&
  ((L.mets.all fun q => clsB K (clsA L K q.1) && (He.eqO (PySem.W.findIn K (.ref (clsA L K q.1)) (L.mns.getD q.2.1 Str.empty)) (some (some (.ref (dAt L K q.2.2)))) && (PySem.W.isFn K (.ref (dAt L K q.2.2)) && (PySem.W.keepIn K (.ref (dAt L K q.2.2)) && decide (q.2.2 < L.defs.length))))) &&
  ((L.cms.all fun q => decide (PySem.W.readsIn K (clsA L K q.1) (.type "type") = true) && (decide (PySem.W.specialIn K (.ref (clsA L K q.1)) "__getattribute__" = some (some (.builtin "type.__getattribute__"))) &&
    (cmB K (clsA L K q.1) (L.cmn.getD q.2.1 Str.empty) (dAt L K q.2.2) && decide (q.2.2 < L.defs.length)))) &&
  ((L.inis.all fun q => PySem.W.makesIn K (clsA L K q.1) && (He.eqO (PySem.W.findIn K (.ref (clsA L K q.1)) "__init__") (some (some (.ref (dAt L K q.2)))) && (PySem.W.isFn K (.ref (dAt L K q.2)) && (PySem.W.keepIn K (.ref (clsA L K q.1)) && decide (q.2 < L.defs.length))))) &&
  ((L.flds.all fun q => q.2.all fun c => clsB K (clsA L K c) && He.eqO (PySem.W.findIn K (.ref (clsA L K c)) (st q.1)) (some none)) &&
  ((L.kits.all fun q => (match clV L K q.2.1 with
    | some u => decide (PySem.W.kitOne K (tyVal L K q.1) u = some q.2.2)
    | none => false) && (match q.1 with
    | .own c => clsB K (clsA L K c) && insTyB K (clsA L K c)
    | .bi _ => true)) && ((L.props.all fun q => clsB K (clsA L K q.2.1) && (propB K (clsA L K q.2.1) (st q.1) (dAt L K q.2.2) && decide (q.2.2 < L.defs.length))) &&
  ((L.lens.all fun q => He.eqO (PySem.W.findIn K (.ref (clsA L K q.1)) "__len__") (some (some (.ref (dAt L K q.2)))) && (PySem.W.isFn K (.ref (dAt L K q.2)) && decide (q.2 < L.defs.length))) &&
  ((L.eqs.all fun q => PySem.W.notFirst K (clsA L K q.1) (.ref (clsA L K q.2.1)) && (He.eqO (PySem.W.findIn K (.ref (clsA L K q.1)) "__ne__") (some (some (.builtin "object.__ne__"))) && (decide (PySem.W.mroIn K (clsA L K q.1) (.type "object") = some true) &&
    (He.eqO (PySem.W.findIn K (.ref (clsA L K q.1)) "__eq__") (some (some (.ref (dAt L K q.2.2)))) && (PySem.W.isFn K (.ref (dAt L K q.2.2)) && decide (q.2.2 < L.defs.length)))))) &&
  ((L.txs.all fun q => He.eqO (PySem.W.findIn K (.ref (clsA L K q.1)) "__str__") (some (some (.ref (dAt L K q.2)))) && (PySem.W.isFn K (.ref (dAt L K q.2)) && decide (q.2 < L.defs.length))) &&
  ((L.gis.all fun q => He.eqO (PySem.W.findIn K (.ref (clsA L K q.1)) "__getitem__") (some (some (.ref (dAt L K q.2)))) && (PySem.W.fnIn K (dAt L K q.2) && (PySem.W.isFn K (.ref (dAt L K q.2)) && decide (q.2 < L.defs.length)))) &&
  (L.ads.all fun q => PySem.W.selfFirst K (clsA L K q.1) && (mro2 K (clsA L K q.1) && (He.eqO (PySem.W.findIn K (.ref (clsA L K q.1)) (dunderI "add")) (some none) && (He.eqO (PySem.W.findIn K (.ref (clsA L K q.1)) "__add__") (some (some (.ref (dAt L K q.2)))) && (PySem.W.isFn K (.ref (dAt L K q.2)) && decide (q.2 < L.defs.length))))))))))))))))))
where
  propB (K : PySem.W.Frag) (C : Addr) (f : Str) (g : Addr) : Bool := (match PySem.W.findIn K (.ref C) f with
    | some (some (.ref p)) => decide (PySem.W.specialIn K (.ref p) "__get__" = some (some (.builtin "property.__get__"))) && (decide (PySem.W.takesIn K (.ref p) = some true) && (match PySem.W.recIn K p "property" with
      | some (.ref g' :: _) => decide (g' = g)
      | _ => false))
    | _ => false)
  cmB (K : PySem.W.Frag) (C : Addr) (m : Str) (g : Addr) : Bool := (match PySem.W.findCls K (.ref C) (.type "type") m with
    | some (.get (.builtin b) (.ref p) .none (.ref c)) => decide (b = "classmethod.__get__") && (decide (c = C) && (match PySem.W.recIn K p "classmethod" with
      | some (.ref g' :: _) => decide (g' = g)
      | _ => false))
    | _ => false) && PySem.W.fnIn K g
/-- what is observed at the head's end -/
abbrev AlE : Type := Bool × List He.FnW
def obsEv (L : Lw) (K : PySem.W.Frag) : AlE := (tabB L K, L.defs.map fun d => fnAt K (d.ad K))
def valEv (L : Lw) : AlE := (true, L.defs.map Df.val)
def SaysEv (L : Lw) (K : PySem.W.Frag) : Prop := obsEv L K = valEv L
/-- what can be reached in so many steps: the seen ones as bits of a number -/
def newB : Nat → List Addr → List Addr → (Nat → List Addr → List Addr) → List Addr
  | seen, [], acc, k => k seen acc
  | seen, a :: r, acc, k => bif Nat.beq (Nat.land (Nat.shiftRight seen a) 1) 1 then newB seen r acc k else newB (Nat.lor seen (Nat.shiftLeft 1 a)) r (a :: acc) k
def growB (g : Addr → Option Obj) : Nat → Nat → List Addr → List Addr
  | 0, _, fr => fr
  | n + 1, seen, fr => fr ++ newB seen (fr.flatMap fun a => match g a with
    | some o => He.refsD o
    | none => []) [] fun seen' fr' => growB g n seen' fr'
def obsEG (n : Nat) (L : Lw) (g : Addr → Option Obj) : AlE := obsEv L (He.frG g (growB g n (Nat.shiftLeft 1 mainGlobals) [mainGlobals] ++ [cStatics]))
def hookEv (n : Nat) (L : Lw) : PySem.W.Hook where
  α := AlE
  obs := fun s => obsEG n L s.heap.get?
  val := fun _ => valEv L
  says := fun _ h => ∃ K : PySem.W.Frag, K.In h ∧ SaysEv L K
  of := fun _ _ e => ⟨_, He.frG_in, e⟩
  keeps := fun _ _ _ ⟨K, hK, c⟩ k => ⟨K, PySem.W.Frag.In.keeps hK k, c⟩
theorem obsEG_eq {n : Nat} {L : Lw} {g : Addr → Option Obj} {s : Shared} (h : ∀ a, g a = s.heap.get? a) : obsEG n L g = (hookEv n L).obs s := by
  have e : g = s.heap.get? := funext h
  rw [e] <;> rfl
/-! ### the program at a level -/
def find3 : List (Nat × Nat × Nat) → Nat → Nat → Option Nat
  | [], _, _ => none
  | q :: r, c, m => if q.1 = c ∧ q.2.1 = m then some q.2.2 else find3 r c m
def find2 : List (Nat × Nat) → Nat → Option Nat
  | [], _ => none
  | q :: r, c => if q.1 = c then some q.2 else find2 r c
theorem find3_mem : ∀ {l : List (Nat × Nat × Nat)} {c m i : Nat}, find3 l c m = some i → (c, m, i) ∈ l
  | [], _, _, _, h => by cases h
  | q :: r, c, m, i, h => by
    unfold find3 at h
    split at h
    · rename_i e
      cases h
      obtain ⟨e1, e2⟩ := e
      subst e1 e2
      exact List.mem_cons_self
    · exact List.mem_cons_of_mem _ (find3_mem h)
theorem find2_mem : ∀ {l : List (Nat × Nat)} {c i : Nat}, find2 l c = some i → (c, i) ∈ l
  | [], _, _, h => by cases h
  | q :: r, c, i, h => by
    unfold find2 at h
    split at h
    · rename_i e
      cases h
      subst e
      exact List.mem_cons_self
    · exact List.mem_cons_of_mem _ (find2_mem h)
def TyD.beq : TyD → TyD → Bool
  | .bi a, .bi b => a == b
  | .own a, .own b => a == b
  | _, _ => false
theorem TyD.beq_eq {a b : TyD} (h : TyD.beq a b = true) : a = b := by
  cases a <;> cases b <;> first | (cases h; done) | (rw [TyD.beq, beq_iff_eq] at h; rw [h])
def findK : List (TyD × D × Bool) → TyD → D → Option Bool
  | [], _, _ => none
  | q :: r, t, d => if TyD.beq q.1 t && D.beq q.2.1 d then some q.2.2 else findK r t d
theorem findK_mem : ∀ {l : List (TyD × D × Bool)} {t : TyD} {d : D} {b : Bool}, findK l t d = some b → (t, d, b) ∈ l
  | [], _, _, _, h => by cases h
  | q :: r, t, d, b, h => by
    unfold findK at h
    split at h
    · rename_i e
      rw [Bool.and_eq_true] at e
      have e1 := TyD.beq_eq e.1
      have e2 := D.beq_eq _ _ e.2
      cases h
      subst e1 e2
      exact List.mem_cons_self
    · exact List.mem_cons_of_mem _ (findK_mem h)
def findF : List (Cs × List Nat) → Cs → Nat → Bool
  | [], _, _ => false
  | q :: r, f, c => if q.1 = f then q.2.contains c else findF r f c
theorem findF_mem : ∀ {l : List (Cs × List Nat)} {f : Cs} {c : Nat}, findF l f c = true → ∃ cs, (f, cs) ∈ l ∧ c ∈ cs
  | [], _, _, h => by cases h
  | q :: r, f, c, h => by
    unfold findF at h
    split at h
    · rename_i e
      subst e
      exact ⟨q.2, List.mem_cons_self, by simpa using h⟩
    · obtain ⟨cs, h1, h2⟩ := findF_mem h
      exact ⟨cs, List.mem_cons_of_mem _ h1, h2⟩
def findP : List (Cs × Nat × Nat) → Cs → Nat → Option Nat
  | [], _, _ => none
  | q :: r, f, c => if q.1 = f ∧ q.2.1 = c then some q.2.2 else findP r f c
theorem findP_mem : ∀ {l : List (Cs × Nat × Nat)} {f : Cs} {c i : Nat}, findP l f c = some i → (f, c, i) ∈ l
  | [], _, _, _, h => by cases h
  | q :: r, f, c, i, h => by
    unfold findP at h
    split at h
    · rename_i e
      cases h
      obtain ⟨e1, e2⟩ := e
      subst e1 e2
      exact List.mem_cons_self
    · exact List.mem_cons_of_mem _ (findP_mem h)
/-- arguments by their sources: below 1000 those that are given, behind the defaults -/
def permL {α : Type} : List Nat → List α → List α → Option (List α)
  | [], _, _ => some []
  | c :: r, zs, ds => match (if c < 1000 then zs[c]? else ds[c - 1000]?), permL r zs ds with
    | some x, some xs => some (x :: xs)
    | _, _ => none
def fkOf (L : Lw) (fn : Nat → List D → M D) (j : Nat) : List D → M D := match L.kws[j]? with
  | some q => (match L.defs[q.2.2.1]? with
    | some d => fun zs => (match permL q.2.2.2 zs d.dD with
      | some ds => fn q.2.2.1 ds
      | none => M.fail)
    | none => fun _ => M.fail)
  | none => fun _ => M.fail
theorem permL_cons {α : Type} {c : Nat} {r : List Nat} {zs ds a : List α} (h : permL (c :: r) zs ds = some a) : ∃ x xs, (if c < 1000 then zs[c]? else ds[c - 1000]?) = some x ∧ permL r zs ds = some xs ∧ a = x :: xs := by
  unfold permL at h
  split at h
  · rename_i x xs h1 h2
    cases h
    exact ⟨x, xs, h1, h2, rfl⟩
  · cases h
theorem permL_rp {G : Gd} {ι : Iota} {H : Hp} {ds es : List D} {zs vs : List V} (r : RpL G ι H ds zs) (r' : RpL G ι H es vs) : ∀ {pm : List Nat} {a : List D}, permL pm ds es = some a → ∃ b, permL pm zs vs = some b ∧ RpL G ι H a b
  | [], a, h => by cases h; exact ⟨[], rfl, .nil⟩
  | c :: pm, a, h => by
    obtain ⟨x, xs, h1, h2, rfl⟩ := permL_cons h
    obtain ⟨b, h3, h4⟩ := permL_rp r r' h2
    by_cases hc : c < 1000
    · rw [if_pos hc] at h1
      obtain ⟨v, e1, e2⟩ := r.get h1
      exact ⟨v :: b, by unfold permL; rw [if_pos hc, e1, h3], .cons e2 h4⟩
    · rw [if_neg hc] at h1
      obtain ⟨v, e1, e2⟩ := r'.get h1
      exact ⟨v :: b, by unfold permL; rw [if_neg hc, e1, h3], .cons e2 h4⟩
theorem permL_vals {zs vs : List V} {ws us : List Value} (r : Vals zs ws) (r' : Vals vs us) : ∀ {pm : List Nat} {a : List V}, permL pm zs vs = some a → ∃ b, permL pm ws us = some b ∧ Vals a b
  | [], a, h => by cases h; exact ⟨[], rfl, .nil⟩
  | c :: pm, a, h => by
    obtain ⟨x, xs, h1, h2, rfl⟩ := permL_cons h
    obtain ⟨b, h3, h4⟩ := permL_vals r r' h2
    by_cases hc : c < 1000
    · rw [if_pos hc] at h1
      obtain ⟨v, e1, e2⟩ := r.get h1
      exact ⟨v :: b, by unfold permL; rw [if_pos hc, e1, h3], .cons e2 h4⟩
    · rw [if_neg hc] at h1
      obtain ⟨v, e1, e2⟩ := r'.get h1
      exact ⟨v :: b, by unfold permL; rw [if_neg hc, e1, h3], .cons e2 h4⟩
def isFnI : Option Gv → Nat → Bool
  | some (.fn i), j => i == j
  | _, _ => false
/-- which call with names -/
def kwF (L : Lw) (x : Str) (ks : List Str) : Nat → List (Str × List Str × Nat × List Nat) → Option Nat
  | _, [] => none
  | j, q :: r => if q.1 = x ∧ q.2.1 = ks ∧ isFnI (L.globs.lookup x) q.2.2.1 = true then some j else kwF L x ks (j + 1) r
def kwtT (L : Lw) (x : Str) (ks : List Str) : Option Nat := kwF L x ks 0 L.kws
theorem kwF_ok {L : Lw} {x : Str} {ks : List Str} : ∀ {l : List (Str × List Str × Nat × List Nat)} {j0 j : Nat}, kwF L x ks j0 l = some j → ∃ q, j0 ≤ j ∧ l[j - j0]? = some q ∧ q.1 = x ∧ q.2.1 = ks ∧ L.globs.lookup x = some (.fn q.2.2.1)
  | [], _, _, h => by cases h
  | q :: r, j0, j, h => by
    unfold kwF at h
    split at h
    · rename_i hc
      cases h
      obtain ⟨h1, h2, h3⟩ := hc
      refine ⟨q, Nat.le_refl _, by rw [Nat.sub_self]; rfl, h1, h2, ?_⟩
      unfold isFnI at h3
      split at h3
      · rename_i i j e
        rw [e, beq_iff_eq.mp h3]
      · cases h3
    · obtain ⟨q', h1, h2, h3⟩ := kwF_ok h
      refine ⟨q', by omega, ?_, h3⟩
      have : j - j0 = (j - (j0 + 1)) + 1 := by omega
      rw [this]; exact h2
def pgOf (L : Lw) (ns : List Int) (fn : Nat → List D → M D) : Pg where
  fn := fn
  fk := fkOf L fn
  me := find3 L.mets
  cm := find3 L.cms
  ini := find2 L.inis
  kit := findK L.kits
  pf := findF L.flds
  mn := fun j => (L.mns.getD j Str.empty).cps.toList
  ns := ns
  pr := findP L.props
  ln := find2 L.lens
  eqf := find3 L.eqs
  sf := find2 L.txs
  gi := find2 L.gis
  ad := find2 L.ads
/-- a call whose answer holds no reference and that leaves what was there as it was: what it has laid is given up -/
def gcF (f : List D → M D) (ds : List D) : M D := fun s => (f ds s).bind fun
  | .ok v s' => if (D.bd 0 v && chkH s' s s.n s.n) = true then .ret (.ok v s) else .ret (.ok v s')
  | o => .ret o
def gcIf (b : Bool) (f : List D → M D) : List D → M D := match b with
  | true => gcF f
  | false => f
mutual
theorem D.bd_up {m n : Nat} (h : m ≤ n) : ∀ d : D, D.bd m d = true → D.bd n d = true
  | .ref k, e => by
    rw [D.bd, decide_eq_true_eq] at e ⊢
    omega
  | .tup ds, e => by rw [D.bd] at e ⊢; exact D.bds_up h ds e
  | .non, _ => rfl
  | .bl _, _ => rfl
  | .int _, _ => rfl
  | .str _, _ => rfl
  | .cls _, _ => rfl
  | .ty _, _ => rfl
  | .scr, _ => rfl
theorem D.bds_up {m n : Nat} (h : m ≤ n) : ∀ ds : List D, D.bds m ds = true → D.bds n ds = true
  | [], _ => rfl
  | d :: r, e => by
    rw [D.bds, Bool.and_eq_true] at e ⊢
    exact ⟨D.bd_up h d e.1, D.bds_up h r e.2⟩
end
theorem sp_gc {G : Gd} {f : List D → M D} {vs : List V} {H : Hp} {Q : VK} {E : XK} (h : spD G (gcF f) vs H Q E) : spD G f vs H Q E := by
  obtain ⟨ι, ds, s, R, r, w⟩ := h
  refine ⟨ι, ds, s, R, r, ?_⟩
  refine T.All.mono (fun o z => ?_) ((T.all_bind _ _).mp w)
  cases o with
  | ok v s' =>
    dsimp only at z
    by_cases hc : (D.bd 0 v && chkH s' s s.n s.n) = true
    · rw [if_pos hc] at z
      rw [Bool.and_eq_true] at hc
      intro ι' H' l k R' v' rv
      have bs : D.bd s.n v = true := D.bd_up (Nat.zero_le _) v hc.1
      refine z (Ev.rst ι' s.n) H' (fun n a e => rst_lt (l n a e) (R.lt e)) k (R'.view (fun n o0 g0 => ?_) fun n o hn g => ?_) v' (rv.rst bs)
      · have hl := S.get_lt g0
        rcases chkH_ok hc.2 hl with ⟨_, z⟩ | ⟨o, e1, e2, b⟩
        · rw [z] at g0; cases g0
        · rw [e2] at g0
          cases g0
          exact ⟨hl, b, _, e1, fun _ _ r => r⟩
      · rcases chkH_ok hc.2 hn with ⟨z, _⟩ | ⟨o', e1, e2, b⟩
        · rw [z] at g; cases g
        · exact ⟨o', e2⟩
    · rw [if_neg hc] at z
      exact z
  | exc x s' => exact z
  | fail => exact z
theorem sp_gcIf {G : Gd} {b : Bool} {f : List D → M D} {vs : List V} {H : Hp} {Q : VK} {E : XK} (h : spD G (gcIf b f) vs H Q E) : spD G f vs H Q E := by
  cases b with
  | true => exact sp_gc h
  | false => exact h
def fnL (L : Lw) (ns : List Int) (prim : Nat → Option (List D → M D)) : Nat → Nat → List D → M D
  | 0, _ => fun _ => M.fail
  | j + 1, i => match prim i with
    | some f => if j < 3 then fun _ => M.fail else f
    | none => match L.defs[i]? with
      | some d => gcIf d.gc (runF (pgOf L ns (fnL L ns prim j)) ⟨d.ps.length, d.N.length, d.dD, d.ir⟩)
      | none => fun _ => M.fail
def globT (L : Lw) : Str → Option Gv := fun x => L.globs.lookup x
def mnmT (L : Lw) : Str → Option Nat := ixOf L.mns
def cmnT (L : Lw) : Str → Option Nat := ixOf L.cmn
theorem clsB_ok {K : PySem.W.Frag} {C : Addr} (c : clsB K C = true) : Cls K C := by
  obtain ⟨c1, c⟩ := He.ba c
  obtain ⟨c2, c⟩ := He.ba c
  obtain ⟨c3, c4⟩ := He.ba c
  exact ⟨c1, c2, c3, He.eqO_ok c4⟩
theorem insTyB_ok {K : PySem.W.Frag} {C : Addr} (h : clsB K C = true) (c : insTyB K C = true) : InsTy K C := by
  unfold insTyB at c
  simp only [Bool.and_eq_true, decide_eq_true_eq] at c
  exact ⟨clsB_ok h, c.1, c.2.1, c.2.2.1, c.2.2.2⟩
/-- the facts that do not hang on a level -/
theorem lookup_mem' {α : Type} {x : Str} {g : α} : ∀ {l : List (Str × α)}, l.lookup x = some g → (x, g) ∈ l := fun h => PySem.mem_of_lookup h
theorem getD_ix {l : List Str} {m : Str} {j : Nat} (h : ixOf l m = some j) : l.getD j Str.empty = m := by
  rw [List.getD_eq_getElem?_getD, ixOf_get h]; rfl
section
variable {L : Lw} {F : Fc} {ns : List Int} {fn : Nat → List D → M D} {k : Nat} {h : Heap}
theorem pk_of (c : tabB L F.K = true) (X : F.K.In h) (Gn : h.Ns mainGlobals F.mg) (hf : ∀ i, i < L.defs.length → Fk F.P F.w F.K F.mg F.base k (dAt L F.K i) (spD (gdOf L F.K ns) (fn i)))
    (hkf : ∀ (j : Nat) (q : Str × List Str × Nat × List Nat), L.kws[j]? = some q → FkK F.P F.w F.K F.mg F.base k (dAt L F.K q.2.2.1) 0 q.2.1 (spD (gdOf L F.K ns) (fkOf L fn j))) :
    Pk F (gdOf L F.K ns) (pgOf L ns fn) (globT L) (mnmT L) (cmnT L) (kwtT L) k := by
  unfold tabB at c
  simp only [Bool.and_eq_true, List.all_eq_true] at c
  obtain ⟨c1, c2, c3, c4, c5, c6, c7, c8, c9, c10, c11, c12, c13, c14⟩ := c
  have kp : ∀ i, i < L.defs.length → PySem.W.keepIn F.K (.ref (dAt L F.K i)) = true := fun i hi => by
    have e : L.defs[i]? = some L.defs[i] := List.getElem?_eq_getElem hi
    have := c1 _ (List.getElem_mem hi)
    unfold dAt
    rw [e]
    exact (He.ba this.1).1
  refine ⟨rfl, fun x i hx => ?_, fun x cc hx => ?_, fun x d hx => ?_, fun x hx hb => ?_, fun m j hm => ⟨?_, fun cc f hcf => ?_⟩, fun m j hm cc f hcf => ?_, fun cc f hcf => ?_, ?_, fun f cc hf' => ?_, rfl, fun x ks j hj => ?_, fun f cc g hg => ?_, fun X' e1 e2 e3 e4 e5 cc cc' g hg => ?_, fun cc g hg => ?_, fun X' e1 e2 e3 e4 e5 cc g hg => ?_, fun X' e1 e2 e3 e4 e5 cc g hg => ?_, fun cc g hg => ?_⟩
  · have z := c2 _ (lookup_mem' hx)
    simp only [gvB, Bool.and_eq_true, decide_eq_true_eq] at z
    exact ⟨_, PySem.W.mg_of X Gn z.1, kp i z.2, hf i z.2⟩
  · have z := c2 _ (lookup_mem' hx)
    simp only [gvB, decide_eq_true_eq] at z
    exact PySem.W.mg_of X Gn z
  · have z := c2 _ (lookup_mem' hx)
    simp only [gvB] at z
    split at z
    · rename_i u hu
      obtain ⟨v, h1, h2⟩ := conV_ok (G := gdOf L F.K ns) 6 d u z
      exact ⟨v, u, PySem.W.mg_of X Gn hu, h1, h2⟩
    · cases z
  · have z := c3 x hb
    have hx' : L.globs.lookup x = none := hx
    rw [hx'] at z
    simp only [Option.isSome_none, Bool.false_or, decide_eq_true_eq] at z
    exact PySem.W.mg_none_of X Gn z
  · show st ((L.mns.getD j Str.empty).cps.toList) = m
    rw [getD_ix hm]
    exact st_self m
  · obtain ⟨i, h1, rfl⟩ := mapE (show (find3 L.mets cc j).map fn = some f from hcf)
    have z := c4 _ (find3_mem h1)
    simp only [Bool.and_eq_true, decide_eq_true_eq] at z
    obtain ⟨z1, z2, z3, z4, z5⟩ := z
    rw [getD_ix hm] at z2
    exact ⟨clsB_ok z1, _, ⟨He.eqO_ok z2, z3, z4⟩, hf i z5⟩
  · obtain ⟨i, h1, rfl⟩ := mapE (show (find3 L.cms cc j).map fn = some f from hcf)
    have z := c5 _ (find3_mem h1)
    simp only [Bool.and_eq_true, decide_eq_true_eq] at z
    obtain ⟨z1, z2, z3, z5⟩ := z
    rw [getD_ix hm] at z3
    unfold tabB.cmB at z3
    rw [Bool.and_eq_true] at z3
    obtain ⟨y1, y2⟩ := z3
    split at y1
    · rename_i b p c0 hfc
      simp only [Bool.and_eq_true, decide_eq_true_eq] at y1
      obtain ⟨rfl, rfl, y3⟩ := y1
      split at y3
      · rename_i g' rest hr
        have e : g' = _ := of_decide_eq_true y3
        subst e
        exact ⟨.type "type", p, _, ⟨z1, z2⟩, ⟨hfc, ⟨rest, hr⟩, y2⟩, hf i z5⟩
      · cases y3
    · cases y1
  · have z := c6 _ (find2_mem hcf)
    simp only [Bool.and_eq_true, decide_eq_true_eq] at z
    obtain ⟨z1, z2, z3, z4, z5⟩ := z
    exact ⟨_, ⟨z1, He.eqO_ok z2, z3, z4⟩, hf f z5⟩
  · refine ⟨fun t d b hk => ?_, fun t d b hk => ?_, fun cc d b hk => ?_⟩
    · have z := c8 _ (findK_mem hk)
      simp only [Bool.and_eq_true] at z
      have z1 := z.1
      cases d with
      | ty n => exact .inl ⟨n, rfl⟩
      | cls n => exact .inr ⟨n, rfl⟩
      | _ => cases z1
    · have z := c8 _ (findK_mem hk)
      simp only [Bool.and_eq_true] at z
      have z1 := z.1
      have tv : t.val (gdOf L F.K ns) = tyVal L F.K t := by cases t <;> rfl
      cases d with
      | ty n => rw [tv]; exact of_decide_eq_true z1
      | cls n => rw [tv]; exact of_decide_eq_true z1
      | _ => cases z1
    · have z := c8 _ (findK_mem hk)
      simp only [Bool.and_eq_true] at z
      exact insTyB_ok z.2.1 z.2.2
  · obtain ⟨cs, h1, h2⟩ := findF_mem hf'
    have z := c7 _ h1 cc h2
    exact ⟨clsB_ok z.1, He.eqO_ok z.2⟩
  · obtain ⟨q, _, h2, h3, h4, h5⟩ := kwF_ok hj
    have z := c2 _ (lookup_mem' h5)
    simp only [gvB, Bool.and_eq_true, decide_eq_true_eq] at z
    subst h3 h4
    exact ⟨_, PySem.W.mg_of X Gn z.1, kp _ z.2, hkf j q h2⟩
  · obtain ⟨i, h1, rfl⟩ := mapE (show (findP L.props f cc).map fn = some g from hg)
    have z := c9 _ (findP_mem h1)
    simp only [Bool.and_eq_true, decide_eq_true_eq] at z
    obtain ⟨z1, z2, z3⟩ := z
    unfold tabB.propB at z2
    split at z2
    · rename_i p hp
      simp only [Bool.and_eq_true, decide_eq_true_eq] at z2
      obtain ⟨y1, y2, y3⟩ := z2
      split at y3
      · rename_i g' rest hr
        have e : g' = _ := of_decide_eq_true y3
        subst e
        exact ⟨clsB_ok z1, p, _, ⟨hp, y1, y2, rest, hr⟩, hf i z3⟩
      · cases y3
    · cases z2
  · obtain ⟨i, h1, rfl⟩ := mapE (show (find3 L.eqs cc cc').map fn = some g from hg)
    have z := c11 _ (find3_mem h1)
    simp only [Bool.and_eq_true, decide_eq_true_eq] at z
    obtain ⟨z1, z2, z3, z4, z5, z6⟩ := z
    refine ⟨z1, He.eqO_ok z2, z3, _, He.eqO_ok z4, z5, ?_⟩
    rw [e1, e2, e3, e4, e5]
    exact hf i z6
  · obtain ⟨i, h1, rfl⟩ := mapE (show (find2 L.txs cc).map fn = some g from hg)
    have z := c12 _ (find2_mem h1)
    simp only [Bool.and_eq_true, decide_eq_true_eq] at z
    exact ⟨_, He.eqO_ok z.1, z.2.1, hf i z.2.2⟩
  · obtain ⟨i, h1, rfl⟩ := mapE (show (find2 L.gis cc).map fn = some g from hg)
    have z := c13 _ (find2_mem h1)
    simp only [Bool.and_eq_true, decide_eq_true_eq] at z
    refine ⟨_, He.eqO_ok z.1, z.2.1, z.2.2.1, ?_⟩
    rw [e1, e2, e3, e4, e5]
    exact hf i z.2.2.2
  · obtain ⟨i, h1, rfl⟩ := mapE (show (find2 L.ads cc).map fn = some g from hg)
    have z := c14 _ (find2_mem h1)
    simp only [Bool.and_eq_true, decide_eq_true_eq] at z
    refine ⟨z.1, z.2.1, He.eqO_ok z.2.2.1, _, He.eqO_ok z.2.2.2.1, z.2.2.2.2.1, ?_⟩
    rw [e1, e2, e3, e4, e5]
    exact hf i z.2.2.2.2.2
  · obtain ⟨i, h1, rfl⟩ := mapE (show (find2 L.lens cc).map fn = some g from hg)
    have z := c10 _ (find2_mem h1)
    simp only [Bool.and_eq_true, decide_eq_true_eq] at z
    exact ⟨_, He.eqO_ok z.1, z.2.1, hf i z.2.2⟩
/-- how a call with names is bound -/
def KBd (K : PySem.W.Frag) (d : Df) (ks : List Str) (pm : List Nat) : Prop := ∀ fd, FunD K d.name d.qual d.params d.body d.scope (d.dvs K) [] (d.ad K) fd →
  ∃ its, Vals (d.dvs K) its ∧ ∀ (s : Shared) (ws : List Value), K.In s.heap → ws.length = ks.length → ∃ full, permL pm ws its = some full ∧ full.length = d.ps.length ∧ BindsTo s fd ⟨[], ks.zip ws⟩ (d.ps.zip full)
/-- what is to be seen of one def's text -/
structure DOk (L : Lw) (K : PySem.W.Frag) (d : Df) : Prop where
  cmp : cSs (cS ⟨d.N, d.scope, globT L, mnmT L, cmnT L, d.fc, kwtT L⟩ 40) d.body = some d.ir
  sc : FnScope d.N d.ps d.scope
  bnd : ∀ fd, FunD K d.name d.qual d.params d.body d.scope (d.dvs K) [] (d.ad K) fd → Bnd K fd d.ps (d.dvs K)
theorem fk_fail {P : Program} {w : World} {K : PySem.W.Frag} {mg : Str → Option Value} {base : Heap} {k : Nat} {f : Addr} {G : Gd} : Fk P w K mg base k f (spD G fun _ => M.fail) := ⟨fun A outer s H us vs Q E hr e0 r h => by
  obtain ⟨_, _, _, _, _, w⟩ := h
  exact w.elim⟩
theorem fkK_fail {P : Program} {w : World} {K : PySem.W.Frag} {mg : Str → Option Value} {base : Heap} {k : Nat} {f : Addr} {G : Gd} {n : Nat} {ks : List Str} {g : List D → M D} (hg : ∀ ds, g ds = M.fail) : FkK P w K mg base k f n ks (spD G g) := ⟨fun A outer s H us ws vs zs Q E hr e0 l1 l2 r rz h => by
  obtain ⟨_, ds, _, _, _, w⟩ := h
  rw [hg ds] at w
  exact w.elim⟩
theorem fk_full {h : Heap} {d : Df} {i j0 : Nat} {q : Str × List Str × Nat × List Nat} (c : SaysEv L F.K) (X : F.K.In h) (e : L.defs[i]? = some d) : ∃ fd, FunD F.K d.name d.qual d.params d.body d.scope (d.dvs F.K) [] (d.ad F.K) fd ∧ dfB F.K d.dD (d.dvs F.K) = true := by
  have c1 : tabB L F.K = true := congrArg (fun z : AlE => z.1) c
  have e2 : L.defs.map (fun d => fnAt F.K (d.ad F.K)) = L.defs.map Df.val := congrArg (fun z : AlE => z.2) c
  have hi : i < L.defs.length := (List.getElem?_eq_some_iff.mp e).1
  have ei : L.defs[i] = d := (List.getElem?_eq_some_iff.mp e).2
  have e3 : fnAt F.K (d.ad F.K) = d.val := by
    have := congrArg (fun l => l[i]?) e2
    simpa [List.getElem?_map, e] using this
  unfold tabB at c1
  rw [Bool.and_eq_true] at c1
  have c2 := He.ba (List.all_eq_true.mp c1.1 d (ei ▸ List.getElem_mem hi))
  obtain ⟨fd, FD⟩ := Df.funD e3 c2.1
  exact ⟨fd, FD, c2.2⟩
theorem levels {prim : Nat → Option (List D → M D)} (c : SaysEv L F.K) (X : F.K.In h) (Gn : h.Ns mainGlobals F.mg) (dok : ∀ i d, L.defs[i]? = some d → prim i = none → DOk L F.K d)
    (pok : ∀ i f, prim i = some f → ∀ k, 8 ≤ k → Fk F.P F.w F.K F.mg F.base k (dAt L F.K i) (spD (gdOf L F.K ns) f))
    (kok : ∀ (j : Nat) (q : Str × List Str × Nat × List Nat), L.kws[j]? = some q → prim q.2.2.1 = none ∧ ∃ d, L.defs[q.2.2.1]? = some d ∧ KBd F.K d q.2.1 q.2.2.2) :
    ∀ j, (∀ i, i < L.defs.length → Fk F.P F.w F.K F.mg F.base (4 * j) (dAt L F.K i) (spD (gdOf L F.K ns) (fnL L ns prim j i))) ∧
      ∀ (jj : Nat) (q : Str × List Str × Nat × List Nat), L.kws[jj]? = some q → FkK F.P F.w F.K F.mg F.base (4 * j) (dAt L F.K q.2.2.1) 0 q.2.1 (spD (gdOf L F.K ns) (fkOf L (fnL L ns prim j) jj))
  | 0 => ⟨fun i _ => fk_fail, fun jj q e => fkK_fail fun ds => by
      unfold fkOf
      rw [e]
      dsimp only
      cases hd : L.defs[q.2.2.1]? with
      | none => rfl
      | some d =>
        dsimp only
        cases permL q.2.2.2 ds d.dD <;> rfl⟩
  | j + 1 => by
    have c1 : tabB L F.K = true := congrArg (fun z : AlE => z.1) c
    obtain ⟨lv, lk⟩ := levels c X Gn dok pok kok j
    have pk := pk_of (ns := ns) c1 X Gn lv lk
    refine ⟨fun i hi => ?_, fun jj q eq => ?_⟩
    · unfold fnL
      cases hp : prim i with
      | some f =>
        dsimp only
        split
        · exact fk_fail
        · exact pok i f hp _ (by omega)
      | none =>
        dsimp only
        have e : L.defs[i]? = some L.defs[i] := List.getElem?_eq_getElem hi
        rw [e]
        dsimp only
        have ok := dok i _ e hp
        obtain ⟨fd, FD, c3⟩ := fk_full (j0 := 0) (q := ("", [], 0, [])) c X e
        have ea : dAt L F.K i = (L.defs[i]).ad F.K := by unfold dAt; rw [e]
        rw [ea]
        have fk := fk_ok pk FD ok.sc (ok.bnd fd FD) (fun ι H => dfB_ok (G := gdOf L F.K ns) _ _ c3 ι H) ok.cmp
        exact ⟨fun A outer s H us vs Q E hr e0 r q => fk.run A outer s H us vs Q E hr e0 r (sp_gcIf q)⟩
    · obtain ⟨hp, d, e, kb⟩ := kok jj q eq
      have ok := dok _ d e hp
      obtain ⟨fd, FD, c3⟩ := fk_full (j0 := 0) (q := ("", [], 0, [])) c X e
      have ea : dAt L F.K q.2.2.1 = d.ad F.K := by unfold dAt; rw [e]
      rw [ea]
      have fo := fo_ok (dfl := d.dD) pk FD ok.sc ok.cmp
      obtain ⟨its, ri, bi⟩ := kb fd FD
      refine ⟨fun A outer s H us ws vs zs Q E hr e0 l1 l2 r rz hh => ?_⟩
      have eu : us = [] := List.length_eq_zero_iff.mp l1
      subst eu
      cases r
      obtain ⟨ι, ds, sd, R, rd, w⟩ := hh
      have ef : fkOf L (fnL L ns prim (j + 1)) jj ds = (match permL q.2.2.2 ds d.dD with
        | some ds => gcIf d.gc (runF (pgOf L ns (fnL L ns prim j)) ⟨d.ps.length, d.N.length, d.dD, d.ir⟩) ds
        | none => M.fail) := by
        unfold fkOf
        rw [eq]
        dsimp only
        rw [e]
        dsimp only
        unfold fnL
        rw [hp]
        dsimp only
        rw [e]
      rw [ef] at w
      cases hq : permL q.2.2.2 ds d.dD with
      | none => rw [hq] at w; exact w.elim
      | some fs =>
        rw [hq] at w
        obtain ⟨fv, h1, h2⟩ := permL_rp rd (dfB_ok (G := gdOf L F.K ns) _ _ c3 ι H) hq
        obtain ⟨fu, h3, h4⟩ := permL_vals rz ri h1
        have KX : F.K.In s.heap := e0.mod.kin.keeps fun b o e => (e0.bs b o e).1
        obtain ⟨full, b1, b2, b3⟩ := bi s ws KX l2
        rw [h3] at b1
        cases b1
        exact fo.run A outer s H ⟨[], q.2.1.zip ws⟩ fu fv Q E hr e0 b3 h4 ⟨by rw [h4.length, b2], sp_gcIf (b := d.gc) ⟨ι, fs, sd, R, h2, w⟩⟩
end
end Ev

/-! EvY: the draws of a law: `_law_draw` is a choice, `_law_deal` lays a deal. (under way) -/
namespace Ev
open PySem PySem.Spec PyProof.Rows L2
def exQ : Ex := .ix (.var 0) (.con (.int 0))
def exM : Ex := .ix (.var 0) (.con (.int 1))
/-- the body of `_law_draw` -/
def drawB (mu ad dv : Int) : List Sm := [.whl (.tAnd (.tVal (.cmp 5 exQ (.lst []))) (.one (.tVal (.cmp 4 (.ix exQ (.neg (.con (.int 1)))) (.con (.int 0)))))) [.expr (.bm 2 exQ [])],
  .ite (.tVal (.cmp 5 exQ (.lst []))) [.asg (.nm 2) (.bm 2 exQ []), .expr (.bm 0 exQ [.bin 3 (.var 2) (.var 1)]), .ret (.bin 4 (.bi 4 [.var 2]) (.var 1))] [],
  .asg (.sub (.var 0) (.con (.int 1))) (.bin 4 (.bi 4 [.bin 0 (.bin 2 exM (.con (.int mu))) (.con (.int ad))]) (.con (.int 2147483647))),
  .ret (.bin 4 (.bi 4 [.bin 3 exM (.con (.int dv))]) (.var 1))]
/-- a draw's numbers -/
structure DrC (mu dv : Int) : Prop where
  mu : (decide (-(2 ^ 64) < mu) && decide (mu < 2 ^ 64)) = true
  dv : (decide (0 < dv) && decide (dv < 1073741824)) = true
section
variable {P : Pg} {σ : Sl} {s : S} {d q : Nat} {m : Int} {is : List Int} {mu ad dv : Int}
theorem e_q {k : Nat} (h0 : σ[0]? = some (some (.ref d))) (hd : s.get d = some (.lst [.ref q, .int m])) : iE P (k + 2) exQ σ s = .ret (.ok (.ref q) s) := by
  have e : ixB s (.ref d) (.int 0) = some (.ref q) := by
    simp only [ixB, hd]
    rfl
  simp [exQ, iE, m2, mVar, mC, M.bind, M.ofOpt, M.pure, T.bind, ixOM, hd, ixM, h0, e]
theorem e_m {k : Nat} (h0 : σ[0]? = some (some (.ref d))) (hd : s.get d = some (.lst [.ref q, .int m])) : iE P (k + 2) exM σ s = .ret (.ok (.int m) s) := by
  have e : ixB s (.ref d) (.int 1) = some (.int m) := by
    simp only [ixB, hd]
    rfl
  simp [exM, iE, m2, mVar, mC, M.bind, M.ofOpt, M.pure, T.bind, ixOM, hd, ixM, h0, e]
/-- q != []: a new empty list is laid -/
theorem toPy_ints (s : S) (n : Nat) : ∀ is : List Int, pyL (toPy s n) (is.map D.int) = some (is.map PyData.int)
  | [] => by cases n <;> rfl
  | i :: r => by
    have ih := toPy_ints s n r
    have e : toPy s n (.int i) = some (.int i) := by cases n <;> rfl
    simp only [List.map_cons, pyL, e, ih]
    rfl
/-- is it a deal's state: d the deal, q its cells -/
structure DealSt (s : S) (d q : Nat) (m : Int) (is : List Int) : Prop where
  hd : s.get d = some (.lst [.ref q, .int m])
  hq : s.get q = some (.lst (is.map D.int))
  ne : d ≠ q
theorem DealSt.new (h : DealSt s d q m is) (o : O) : DealSt (s.new o) d q m is :=
  ⟨by rw [S.get_new_lt (S.get_lt h.hd)]; exact h.hd, by rw [S.get_new_lt (S.get_lt h.hq)]; exact h.hq, h.ne⟩
theorem DealSt.setQ (h : DealSt s d q m is) (js : List Int) : DealSt (s.set q (.lst (js.map D.int))) d q m js :=
  ⟨by rw [S.get_set_ne h.ne]; exact h.hd, S.get_set_same (S.get_lt h.hq), h.ne⟩
theorem DealSt.setM (h : DealSt s d q m is) (m' : Int) : DealSt (s.set d (.lst [.ref q, .int m'])) d q m' is :=
  ⟨S.get_set_same (S.get_lt h.hd), by rw [S.get_set_ne (Ne.symm h.ne)]; exact h.hq, h.ne⟩
/-- q != [] -/
theorem e_ne {k : Nat} (h0 : σ[0]? = some (some (.ref d))) (h : DealSt s d q m is) : iE P (k + 3) (.cmp 5 exQ (.lst [])) σ s = .ret (.ok (.bl (!is.isEmpty)) (s.new (.lst []))) := by
  have e1 : iE P (k + 2) exQ σ s = .ret (.ok (.ref q) s) := e_q h0 h.hd
  have e2 : iE P (k + 2) (.lst []) σ s = .ret (.ok (.ref s.n) (s.new (.lst []))) := by
    simp [iE, mA, iElts, mNil, M.bind, M.pure, T.bind, lstM, M.new]
  have h2 := h.new (.lst [])
  have e3 : eqB (s.new (.lst [])) (.ref q) (.ref s.n) = some is.isEmpty := by
    have t1 : toPy (s.new (.lst [])) 60 (.ref q) = some (.list (is.map PyData.int)) := by
      simp only [toPy, h2.hq, toPy_ints]
      rfl
    have t2 : toPy (s.new (.lst [])) 60 (.ref s.n) = some (.list []) := by
      simp only [toPy, S.get_new_same]
      rfl
    show ((toPy (s.new (.lst [])) 60 (.ref q)).bind fun p => (toPy (s.new (.lst [])) 60 (.ref s.n)).map fun q => PyData.eqv p q) = some is.isEmpty
    rw [t1, t2]
    cases is with
    | nil => rfl
    | cons _ _ => rfl
  have e4 : iE P (k + 3) (.cmp 5 exQ (.lst [])) σ s = (M.bind (iE P (k + 2) exQ σ) fun x => M.bind (iE P (k + 2) (.lst []) σ) fun y => cmpOM true (fun c c' => (P.eqf c c').map P.fn) neM x y) s := rfl
  have hnew : (s.new (.lst [])).get s.n = some (.lst []) := S.get_new_same
  rw [e4]
  simp only [M.bind, e1, e2, T.bind, cmpOM, h2.hq, hnew, neM, M.ofOpt, e3, M.pure]
theorem atI_last {js : List Int} {j : Int} : atI ((js ++ [j]).map D.int) (-1) = some (.int j) := by
  unfold atI
  have e : ixN ((js ++ [j]).map D.int).length (-1) = some js.length := by
    unfold ixN
    simp
    omega
  rw [e]
  simp
/-- q[-1] == 0 -/
theorem e_zero {k : Nat} {js : List Int} {j : Int} (h0 : σ[0]? = some (some (.ref d))) (h : DealSt s d q m (js ++ [j])) : iE P (k + 4) (.cmp 4 (.ix exQ (.neg (.con (.int 1)))) (.con (.int 0))) σ s = .ret (.ok (.bl (decide (j = 0))) s) := by
  have e1 : iE P (k + 2) exQ σ s = .ret (.ok (.ref q) s) := e_q h0 h.hd
  have e2 : ixB s (.ref q) (.int (-1)) = some (.int j) := by
    simp only [ixB, h.hq]
    exact atI_last
  have e3 : iE P (k + 3) (.ix exQ (.neg (.con (.int 1)))) σ s = .ret (.ok (.int j) s) := by
    have e : iE P (k + 3) (.ix exQ (.neg (.con (.int 1)))) σ s = (M.bind (iE P (k + 2) exQ σ) fun x => M.bind (iE P (k + 2) (.neg (.con (.int 1))) σ) fun y => ixOM (fun c => (P.gi c).map P.fn) x y) s := rfl
    have e' : iE P (k + 2) (.neg (.con (.int 1))) σ s = .ret (.ok (.int (-1)) s) := rfl
    rw [e]
    simp only [M.bind, e1, e', T.bind, ixOM, h.hq, ixM, M.ofOpt, e2, M.pure]
  have e4 : iE P (k + 4) (.cmp 4 (.ix exQ (.neg (.con (.int 1)))) (.con (.int 0))) σ s = (M.bind (iE P (k + 3) (.ix exQ (.neg (.con (.int 1)))) σ) fun x => M.bind (iE P (k + 3) (.con (.int 0)) σ) fun y => cmpOM false (fun c c' => (P.eqf c c').map P.fn) eqM x y) s := rfl
  have e5 : iE P (k + 3) (.con (.int 0)) σ s = .ret (.ok (.int 0) s) := rfl
  rw [e4]
  simp only [M.bind, e3, e5, T.bind, cmpOM, eqM, eqB, M.ofOpt, M.pure]
/-- q.pop() -/
theorem e_pop {k : Nat} {js : List Int} {j : Int} (h0 : σ[0]? = some (some (.ref d))) (h : DealSt s d q m (js ++ [j])) : iE P (k + 3) (.bm 2 exQ []) σ s = .ret (.ok (.int j) (s.set q (.lst (js.map D.int)))) := by
  have e1 : iE P (k + 2) exQ σ s = .ret (.ok (.ref q) s) := e_q h0 h.hd
  have e4 : iE P (k + 3) (.bm 2 exQ []) σ s = (M.bind (iE P (k + 2) exQ σ) fun x => M.bind (kindM x) fun k => match bmA 2 k with
    | some op => M.bind (mNil σ) (op x)
    | none => M.fail) s := rfl
  have hl : ((js ++ [j]).map D.int)[((js ++ [j]).map D.int).length - 1]? = some (.int j) := by simp
  have hd' : ((js ++ [j]).map D.int).dropLast = js.map D.int := by simp
  rw [e4]
  simp only [M.bind, e1, T.bind, kindM, M.read, h.hq, M.pure, bmA, mNil, popM, M.lst, M.ofOpt, hl, hd', M.write, O.isL, Bool.false_eq_true, if_false]
/-- the test of the loop -/
theorem e_test {k : Nat} (h0 : σ[0]? = some (some (.ref d))) (h : DealSt s d q m is) : iT (iE P (k + 4)) 30 (.tAnd (.tVal (.cmp 5 exQ (.lst []))) (.one (.tVal (.cmp 4 (.ix exQ (.neg (.con (.int 1)))) (.con (.int 0)))))) σ s =
    .ret (.ok (match is.getLast? with
      | some j => decide (j = 0)
      | none => false) (s.new (.lst []))) := by
  have e1 : iE P (k + 4) (.cmp 5 exQ (.lst [])) σ s = .ret (.ok (.bl (!is.isEmpty)) (s.new (.lst []))) := e_ne (k := k + 1) h0 h
  have e0 : ∀ s, iT (iE P (k + 4)) 30 (.tAnd (.tVal (.cmp 5 exQ (.lst []))) (.one (.tVal (.cmp 4 (.ix exQ (.neg (.con (.int 1)))) (.con (.int 0)))))) σ s = (M.bind (mBool (iE P (k + 4) (.cmp 5 exQ (.lst []))) σ) fun b => if b = true then mBool (iE P (k + 4) (.cmp 4 (.ix exQ (.neg (.con (.int 1)))) (.con (.int 0)))) σ else M.pure false) s := fun s => rfl
  rw [e0]
  by_cases hn : is = []
  · subst hn
    have e1' : iE P (k + 4) (.cmp 5 exQ (.lst [])) σ s = .ret (.ok (.bl false) (s.new (.lst []))) := e1
    simp only [M.bind, mBool, e1', T.bind, M.pure, Bool.false_eq_true, if_false, List.getLast?_nil]
  · obtain ⟨js, j, rfl⟩ : ∃ js j, is = js ++ [j] := ⟨is.dropLast, is.getLast hn, (List.dropLast_concat_getLast hn).symm⟩
    have e1' : iE P (k + 4) (.cmp 5 exQ (.lst [])) σ s = .ret (.ok (.bl true) (s.new (.lst []))) := by
      rw [e1]
      have : (js ++ [j]).isEmpty = false := by simp
      rw [this]; rfl
    have e2 : iE P (k + 4) (.cmp 4 (.ix exQ (.neg (.con (.int 1)))) (.con (.int 0))) σ (s.new (.lst [])) = .ret (.ok (.bl (decide (j = 0))) (s.new (.lst []))) := e_zero h0 (h.new _)
    simp only [M.bind, mBool, e1', e2, T.bind, M.pure, if_true, List.getLast?_append, List.getLast?_singleton, Option.some_or]
/-- all but the deal stands as it did -/
structure Agr (s s' : S) (d q : Nat) : Prop where
  n : s.n ≤ s'.n
  at_ : ∀ a, a < s.n → a ≠ d → a ≠ q → s'.get a = s.get a
theorem Agr.refl (s : S) (d q : Nat) : Agr s s d q := ⟨Nat.le_refl _, fun _ _ _ _ => rfl⟩
theorem Agr.trans {s1 s2 s3 : S} {d q : Nat} (a : Agr s1 s2 d q) (b : Agr s2 s3 d q) : Agr s1 s3 d q :=
  ⟨Nat.le_trans a.n b.n, fun x h h1 h2 => (b.at_ x (Nat.lt_of_lt_of_le h a.n) h1 h2).trans (a.at_ x h h1 h2)⟩
theorem Agr.new (s : S) (o : O) (d q : Nat) : Agr s (s.new o) d q := ⟨by rw [S.new_n]; omega, fun a h _ _ => S.get_new_lt h⟩
theorem Agr.setQ (s : S) (o : O) (d q : Nat) : Agr s (s.set q o) d q := ⟨Nat.le_refl _, fun a _ _ h => S.get_set_ne h⟩
theorem Agr.setD (s : S) (o : O) (d q : Nat) : Agr s (s.set d o) d q := ⟨Nat.le_refl _, fun a _ h _ => S.get_set_ne h⟩
abbrev loopT : Ex := .tAnd (.tVal (.cmp 5 exQ (.lst []))) (.one (.tVal (.cmp 4 (.ix exQ (.neg (.con (.int 1)))) (.con (.int 0)))))
theorem e_loop {k j : Nat} (h0 : σ[0]? = some (some (.ref d))) : ∀ (n : Nat) (s : S) (is : List Int), is.length < n → DealSt s d q m is →
    ∃ s' is', loopW (iT (iE P (k + 4)) 30 loopT) (iSs (iS P (k + 4) (j + 1)) [.expr (.bm 2 exQ [])]) n σ s = .ret (.ok (.nx σ) s') ∧ DealSt s' d q m is' ∧ Agr s s' d q ∧ is'.length ≤ is.length
  | 0, s, is, h, _ => absurd h (Nat.not_lt_zero _)
  | n + 1, s, is, hl, h => by
    have et := e_test (P := P) (k := k) h0 h
    have eu : ∀ s, loopW (iT (iE P (k + 4)) 30 loopT) (iSs (iS P (k + 4) (j + 1)) [.expr (.bm 2 exQ [])]) (n + 1) σ s = M.inS σ (iT (iE P (k + 4)) 30 loopT σ) (fun b => if b = true then M.bind (iSs (iS P (k + 4) (j + 1)) [.expr (.bm 2 exQ [])] σ) (fun
      | .nx σ' => loopW (iT (iE P (k + 4)) 30 loopT) (iSs (iS P (k + 4) (j + 1)) [.expr (.bm 2 exQ [])]) n σ'
      | .ct σ' => loopW (iT (iE P (k + 4)) 30 loopT) (iSs (iS P (k + 4) (j + 1)) [.expr (.bm 2 exQ [])]) n σ'
      | .bk σ' => M.pure (.nx σ')
      | o => M.pure o) else M.pure (.nx σ)) s := fun s => rfl
    have hstop : ∀ b, (match is.getLast? with
      | some j => decide (j = 0)
      | none => false) = b → b = false → ∃ s' is', loopW (iT (iE P (k + 4)) 30 loopT) (iSs (iS P (k + 4) (j + 1)) [.expr (.bm 2 exQ [])]) (n + 1) σ s = .ret (.ok (.nx σ) s') ∧ DealSt s' d q m is' ∧ Agr s s' d q ∧ is'.length ≤ is.length := fun b e1 e2 => by
      refine ⟨s.new (.lst []), is, ?_, h.new _, Agr.new _ _ _ _, Nat.le_refl _⟩
      rw [eu]
      simp only [M.inS, et, T.bind, e1, e2, Bool.false_eq_true, if_false, M.pure]
    by_cases hn : is = []
    · subst hn
      exact hstop false rfl rfl
    · obtain ⟨js, z, rfl⟩ : ∃ js j, is = js ++ [j] := ⟨is.dropLast, is.getLast hn, (List.dropLast_concat_getLast hn).symm⟩
      have gl : (js ++ [z]).getLast? = some z := by simp
      by_cases hz : z = 0
      · subst hz
        have hp : DealSt (s.new (.lst [])) d q m (js ++ [0]) := h.new _
        have ep := e_pop (P := P) (k := k + 1) h0 hp
        obtain ⟨s', is', r1, r2, r3, r4⟩ := e_loop (k := k) (j := j) h0 n ((s.new (.lst [])).set q (.lst (js.map D.int))) js (by simp at hl; omega) (hp.setQ js)
        refine ⟨s', is', ?_, r2, (Agr.new _ _ _ _).trans ((Agr.setQ _ _ _ _).trans r3), by simp; omega⟩
        have eb : iSs (iS P (k + 4) (j + 1)) [.expr (.bm 2 exQ [])] σ (s.new (.lst [])) = .ret (.ok (.nx σ) ((s.new (.lst [])).set q (.lst (js.map D.int)))) := by
          have e9 : iSs (iS P (k + 4) (j + 1)) [.expr (.bm 2 exQ [])] σ (s.new (.lst [])) = M.bind (M.inS σ (iE P (k + 4) (.bm 2 exQ []) σ) fun _ => M.pure (.nx σ)) (fun
            | .nx σ' => gNext σ'
            | o => M.pure o) (s.new (.lst [])) := rfl
          rw [e9]
          simp only [M.bind, M.inS, ep, T.bind, M.pure, gNext]
        rw [eu]
        simp only [M.inS, et, gl, decide_true, T.bind, if_true, M.bind, eb]
        exact r1
      · exact hstop false (by rw [gl]; exact decide_eq_false hz) rfl
/-- q.append(left // many) -/
theorem e_app {k : Nat} {l n : Int} (h0 : σ[0]? = some (some (.ref d))) (h1 : σ[1]? = some (some (.int n))) (h2 : σ[2]? = some (some (.int l))) (hn : 0 < n) (hn2 : n < 1073741824) (hl : is.length < 1000000) (h : DealSt s d q m is) :
    iE P (k + 3) (.bm 0 exQ [.bin 3 (.var 2) (.var 1)]) σ s = .ret (.ok .non (s.set q (.lst ((is ++ [l / n]).map D.int)))) := by
  have e1 : iE P (k + 2) exQ σ s = .ret (.ok (.ref q) s) := e_q h0 h.hd
  have e4 : iE P (k + 3) (.bm 0 exQ [.bin 3 (.var 2) (.var 1)]) σ s = (M.bind (iE P (k + 2) exQ σ) fun x => M.bind (kindM x) fun k' => match bmA 0 k' with
    | some op => M.bind (mCons (iE P (k + 2) (.bin 3 (.var 2) (.var 1))) mNil σ) (op x)
    | none => M.fail) s := rfl
  have e5 : iE P (k + 2) (.bin 3 (.var 2) (.var 1)) σ s = .ret (.ok (.int (l / n)) s) := by
    have e : iE P (k + 2) (.bin 3 (.var 2) (.var 1)) σ s = (M.bind (mVar 2 σ) fun x => M.bind (mVar 1 σ) fun y => fdivM x y) s := rfl
    rw [e]
    simp [M.bind, mVar, h1, h2, M.ofOpt, M.pure, T.bind, fdivM, hn, hn2]
  have hl' : (is.map D.int).length < 1000000 := by simpa using hl
  have ha : is.map D.int ++ [.int (l / n)] = (is ++ [l / n]).map D.int := by simp
  rw [e4]
  simp only [M.bind, e1, T.bind, kindM, M.read, h.hq, M.pure, bmA, mCons, mNil, e5, appendM, M.lst, M.when, hl', decide_true, if_true, M.write, O.isL, Bool.false_eq_true, if_false, ha]
/-- the mixed number, new -/
def mixN (mu ad m : Int) : Int := (m * mu + ad) % 2147483647
theorem e_mix {k : Nat} (hc : DrC mu dv) (h0 : σ[0]? = some (some (.ref d))) (h : DealSt s d q m is) : iE P (k + 6) (.bin 4 (.bi 4 [.bin 0 (.bin 2 exM (.con (.int mu))) (.con (.int ad))]) (.con (.int 2147483647))) σ s = .ret (.ok (.int (mixN mu ad m)) s) := by
  have e1 : iE P (k + 2) exM σ s = .ret (.ok (.int m) s) := e_m h0 h.hd
  have e2 : iE P (k + 3) (.bin 2 exM (.con (.int mu))) σ s = .ret (.ok (.int (m * mu)) s) := by
    have e : iE P (k + 3) (.bin 2 exM (.con (.int mu))) σ s = (M.bind (iE P (k + 2) exM σ) fun x => M.bind (mC (.int mu) σ) fun y => mulM x y) s := rfl
    have ok : mulOk m mu = true := by unfold mulOk; rw [hc.mu, Bool.or_true]
    rw [e]
    simp only [M.bind, e1, T.bind, mC, M.pure, mulM, ok, if_true]
  have e3 : iE P (k + 4) (.bin 0 (.bin 2 exM (.con (.int mu))) (.con (.int ad))) σ s = .ret (.ok (.int (m * mu + ad)) s) := by
    have e : iE P (k + 4) (.bin 0 (.bin 2 exM (.con (.int mu))) (.con (.int ad))) σ s = (M.bind (iE P (k + 3) (.bin 2 exM (.con (.int mu))) σ) fun x => M.bind (mC (.int ad) σ) fun y => addOM (fun c => (P.ad c).map P.fn) x y) s := rfl
    rw [e]
    simp only [M.bind, e2, T.bind, mC, M.pure, addOM, addM]
  have e4 : iE P (k + 5) (.bi 4 [.bin 0 (.bin 2 exM (.con (.int mu))) (.con (.int ad))]) σ s = .ret (.ok (.int (m * mu + ad)) s) := by
    have e : iE P (k + 5) (.bi 4 [.bin 0 (.bin 2 exM (.con (.int mu))) (.con (.int ad))]) σ s = (M.bind (mCons (iE P (k + 4) (.bin 0 (.bin 2 exM (.con (.int mu))) (.con (.int ad)))) mNil σ) intM) s := rfl
    rw [e]
    simp only [M.bind, mCons, mNil, e3, T.bind, M.pure, intM]
  have e : iE P (k + 6) (.bin 4 (.bi 4 [.bin 0 (.bin 2 exM (.con (.int mu))) (.con (.int ad))]) (.con (.int 2147483647))) σ s = (M.bind (iE P (k + 5) (.bi 4 [.bin 0 (.bin 2 exM (.con (.int mu))) (.con (.int ad))]) σ) fun x => M.bind (mC (.int 2147483647) σ) fun y => modM x y) s := rfl
  rw [e]
  simp only [M.bind, e4, T.bind, mC, M.pure, modM]
  rfl
theorem e_low {k : Nat} {n : Int} (hc : DrC mu dv) (h0 : σ[0]? = some (some (.ref d))) (h1 : σ[1]? = some (some (.int n))) (hn : 0 < n) (h : DealSt s d q m is) : iE P (k + 5) (.bin 4 (.bi 4 [.bin 3 exM (.con (.int dv))]) (.var 1)) σ s = .ret (.ok (.int (m / dv % n)) s) := by
  have e1 : iE P (k + 2) exM σ s = .ret (.ok (.int m) s) := e_m h0 h.hd
  have e2 : iE P (k + 3) (.bin 3 exM (.con (.int dv))) σ s = .ret (.ok (.int (m / dv)) s) := by
    have e : iE P (k + 3) (.bin 3 exM (.con (.int dv))) σ s = (M.bind (iE P (k + 2) exM σ) fun x => M.bind (mC (.int dv) σ) fun y => fdivM x y) s := rfl
    rw [e]
    simp only [M.bind, e1, T.bind, mC, M.pure, fdivM, hc.dv, if_true]
  have e4 : iE P (k + 4) (.bi 4 [.bin 3 exM (.con (.int dv))]) σ s = .ret (.ok (.int (m / dv)) s) := by
    have e : iE P (k + 4) (.bi 4 [.bin 3 exM (.con (.int dv))]) σ s = (M.bind (mCons (iE P (k + 3) (.bin 3 exM (.con (.int dv)))) mNil σ) intM) s := rfl
    rw [e]
    simp only [M.bind, mCons, mNil, e2, T.bind, M.pure, intM]
  have e : iE P (k + 5) (.bin 4 (.bi 4 [.bin 3 exM (.con (.int dv))]) (.var 1)) σ s = (M.bind (iE P (k + 4) (.bi 4 [.bin 3 exM (.con (.int dv))]) σ) fun x => M.bind (mVar 1 σ) fun y => modM x y) s := rfl
  rw [e]
  simp [M.bind, e4, T.bind, mVar, h1, M.ofOpt, M.pure, modM, hn]
theorem e_high {k : Nat} {n l : Int} (h1 : σ[1]? = some (some (.int n))) (h2 : σ[2]? = some (some (.int l))) (hn : 0 < n) : iE P (k + 4) (.bin 4 (.bi 4 [.var 2]) (.var 1)) σ s = .ret (.ok (.int (l % n)) s) := by
  have e4 : iE P (k + 3) (.bi 4 [.var 2]) σ s = .ret (.ok (.int l) s) := by
    have e : iE P (k + 3) (.bi 4 [.var 2]) σ s = (M.bind (mCons (mVar 2) mNil σ) intM) s := rfl
    rw [e]
    simp [M.bind, mCons, mNil, mVar, h2, M.ofOpt, T.bind, M.pure, intM]
  have e : iE P (k + 4) (.bin 4 (.bi 4 [.var 2]) (.var 1)) σ s = (M.bind (iE P (k + 3) (.bi 4 [.var 2]) σ) fun x => M.bind (mVar 1 σ) fun y => modM x y) s := rfl
  rw [e]
  simp [M.bind, e4, T.bind, mVar, h1, M.ofOpt, M.pure, modM, hn]
theorem e_draw {n : Int} (hc : DrC mu dv) (hn : 0 < n) (hn2 : n < 1073741824) (hl : is.length ≤ 63) (h : DealSt s d q m is) : ∃ i s' m' is', runF P ⟨2, 3, [], drawB mu ad dv⟩ [.ref d, .int n] s = .ret (.ok (.int i) s') ∧ 0 ≤ i ∧ i < n ∧ DealSt s' d q m' is' ∧ Agr s s' d q ∧ is'.length ≤ 63 := by
  obtain ⟨s1, is1, r1, r2, r3, r4⟩ := e_loop (P := P) (σ := [some (.ref d), some (.int n), none]) (k := 36) (j := 38) rfl 1000000 s is (by omega) h
  have e0 : runF P ⟨2, 3, [], drawB mu ad dv⟩ [.ref d, .int n] s = M.bind (M.noX (M.bind (loopW (iT (iE P 40) 30 loopT) (iSs (iS P 40 39) [.expr (.bm 2 exQ [])]) 1000000 [some (.ref d), some (.int n), none]) fun
      | .nx σ' => iSs (iS P 40 40) ((drawB mu ad dv).drop 1) σ'
      | o => M.pure o)) outF s := rfl
  have eN : iE P 40 (.cmp 5 exQ (.lst [])) [some (.ref d), some (.int n), none] s1 = .ret (.ok (.bl (!is1.isEmpty)) (s1.new (.lst []))) := e_ne (k := 37) rfl r2
  have h2 : DealSt (s1.new (.lst [])) d q m is1 := r2.new _
  have e6 : iSs (iS P 40 40) ((drawB mu ad dv).drop 1) [some (.ref d), some (.int n), none] s1 = M.bind (M.inS [some (.ref d), some (.int n), none] (mBool (iE P 40 (.cmp 5 exQ (.lst []))) [some (.ref d), some (.int n), none]) fun b => if b = true then iSs (iS P 40 39) [.asg (.nm 2) (.bm 2 exQ []), .expr (.bm 0 exQ [.bin 3 (.var 2) (.var 1)]), .ret (.bin 4 (.bi 4 [.var 2]) (.var 1))] [some (.ref d), some (.int n), none] else gNext [some (.ref d), some (.int n), none]) (fun
      | .nx σ' => iSs (iS P 40 40) ((drawB mu ad dv).drop 2) σ'
      | o => M.pure o) s1 := rfl
  by_cases hne : is1 = []
  · subst hne
    have e7 : iSs (iS P 40 40) ((drawB mu ad dv).drop 2) [some (.ref d), some (.int n), none] (s1.new (.lst [])) = .ret (.ok (.rt (.int (mixN mu ad m / dv % n))) ((s1.new (.lst [])).set d (.lst [.ref q, .int (mixN mu ad m)]))) := by
      have a1 : iE P 40 (.bin 4 (.bi 4 [.bin 0 (.bin 2 exM (.con (.int mu))) (.con (.int ad))]) (.con (.int 2147483647))) [some (.ref d), some (.int n), none] (s1.new (.lst [])) = .ret (.ok (.int (mixN mu ad m)) (s1.new (.lst []))) := e_mix (k := 34) hc rfl h2
      have a2 : iE P 40 (.bin 4 (.bi 4 [.bin 3 exM (.con (.int dv))]) (.var 1)) [some (.ref d), some (.int n), none] ((s1.new (.lst [])).set d (.lst [.ref q, .int (mixN mu ad m)])) = .ret (.ok (.int (mixN mu ad m / dv % n)) ((s1.new (.lst [])).set d (.lst [.ref q, .int (mixN mu ad m)]))) := e_low (k := 35) hc rfl rfl hn (h2.setM _)
      have a3 : iG P 40 10 (.sub (.var 0) (.con (.int 1))) (.int (mixN mu ad m)) [some (.ref d), some (.int n), none] (s1.new (.lst [])) = .ret (.ok [some (.ref d), some (.int n), none] ((s1.new (.lst [])).set d (.lst [.ref q, .int (mixN mu ad m)]))) := by
        have b : iG P 40 10 (.sub (.var 0) (.con (.int 1))) (.int (mixN mu ad m)) [some (.ref d), some (.int n), none] (s1.new (.lst [])) = M.noX (M.bind (setM (.ref d) (.int 1) (.int (mixN mu ad m))) fun _ => M.pure [some (.ref d), some (.int n), none]) (s1.new (.lst [])) := rfl
        have c : ixN 2 1 = some 1 := rfl
        rw [b]
        simp [M.noX, M.bind, setM, M.read, h2.hd, T.bind, c, M.ofOpt, M.pure, M.write, O.isL]
      have a4 : iSs (iS P 40 40) ((drawB mu ad dv).drop 2) [some (.ref d), some (.int n), none] (s1.new (.lst [])) = M.bind (M.inS [some (.ref d), some (.int n), none] (M.bind (iE P 40 (.bin 4 (.bi 4 [.bin 0 (.bin 2 exM (.con (.int mu))) (.con (.int ad))]) (.con (.int 2147483647))) [some (.ref d), some (.int n), none]) fun v => M.noX (iG P 40 10 (.sub (.var 0) (.con (.int 1))) v [some (.ref d), some (.int n), none])) fun σ' => M.pure (.nx σ')) (fun
        | .nx σ' => M.bind (M.inS σ' (iE P 40 (.bin 4 (.bi 4 [.bin 3 exM (.con (.int dv))]) (.var 1)) σ') fun v => M.pure (.rt v)) (fun
          | .nx σ' => gNext σ'
          | o => M.pure o)
        | o => M.pure o) (s1.new (.lst [])) := rfl
      rw [a4]
      simp only [M.bind, M.inS, M.noX, a1, T.bind, a3, M.pure, a2]
    refine ⟨mixN mu ad m / dv % n, _, mixN mu ad m, [], ?_, Int.emod_nonneg _ (by omega), Int.emod_lt_of_pos _ hn, h2.setM _, r3.trans ((Agr.new _ _ _ _).trans (Agr.setD _ _ _ _)), by simp⟩
    have eN' : iE P 40 (.cmp 5 exQ (.lst [])) [some (.ref d), some (.int n), none] s1 = .ret (.ok (.bl false) (s1.new (.lst []))) := eN
    rw [e0]
    simp only [M.bind, M.noX, r1, T.bind, e6, M.inS, mBool, eN', M.pure, Bool.false_eq_true, if_false, gNext, e7, outF]
  · obtain ⟨js, l, rfl⟩ : ∃ js j, is1 = js ++ [j] := ⟨is1.dropLast, is1.getLast hne, (List.dropLast_concat_getLast hne).symm⟩
    have eN' : iE P 40 (.cmp 5 exQ (.lst [])) [some (.ref d), some (.int n), none] s1 = .ret (.ok (.bl true) (s1.new (.lst []))) := by
      rw [eN]
      have : (js ++ [l]).isEmpty = false := by simp
      rw [this]; rfl
    have a1 : iE P 40 (.bm 2 exQ []) [some (.ref d), some (.int n), none] (s1.new (.lst [])) = .ret (.ok (.int l) ((s1.new (.lst [])).set q (.lst (js.map D.int)))) := e_pop (k := 37) rfl h2
    have h3 := h2.setQ js
    have a2 : iE P 40 (.bm 0 exQ [.bin 3 (.var 2) (.var 1)]) [some (.ref d), some (.int n), some (.int l)] ((s1.new (.lst [])).set q (.lst (js.map D.int))) = .ret (.ok .non (((s1.new (.lst [])).set q (.lst (js.map D.int))).set q (.lst ((js ++ [l / n]).map D.int)))) := e_app (k := 37) rfl rfl rfl hn hn2 (by simp at r4; omega) h3
    have a3 : iE P 40 (.bin 4 (.bi 4 [.var 2]) (.var 1)) [some (.ref d), some (.int n), some (.int l)] (((s1.new (.lst [])).set q (.lst (js.map D.int))).set q (.lst ((js ++ [l / n]).map D.int))) = .ret (.ok (.int (l % n)) (((s1.new (.lst [])).set q (.lst (js.map D.int))).set q (.lst ((js ++ [l / n]).map D.int)))) := e_high (k := 36) rfl rfl hn
    have a4 : ∀ s, iSs (iS P 40 39) [.asg (.nm 2) (.bm 2 exQ []), .expr (.bm 0 exQ [.bin 3 (.var 2) (.var 1)]), .ret (.bin 4 (.bi 4 [.var 2]) (.var 1))] [some (.ref d), some (.int n), none] s = M.bind (M.inS [some (.ref d), some (.int n), none] (M.bind (iE P 40 (.bm 2 exQ []) [some (.ref d), some (.int n), none]) fun v => M.noX (M.pure [some (.ref d), some (.int n), some v])) fun σ' => M.pure (.nx σ')) (fun
        | .nx σ' => M.bind (M.inS σ' (iE P 40 (.bm 0 exQ [.bin 3 (.var 2) (.var 1)]) σ') fun _ => M.pure (.nx σ')) (fun
          | .nx σ' => M.bind (M.inS σ' (iE P 40 (.bin 4 (.bi 4 [.var 2]) (.var 1)) σ') fun v => M.pure (.rt v)) (fun
            | .nx σ' => gNext σ'
            | o => M.pure o)
          | o => M.pure o)
        | o => M.pure o) s := fun s => rfl
    refine ⟨l % n, _, m, js ++ [l / n], ?_, Int.emod_nonneg _ (by omega), Int.emod_lt_of_pos _ hn, h3.setQ _, r3.trans ((Agr.new _ _ _ _).trans ((Agr.setQ _ _ _ _).trans (Agr.setQ _ _ _ _))), by simp at r4 ⊢; omega⟩
    rw [e0]
    simp only [M.bind, M.noX, r1, T.bind, e6, M.inS, mBool, eN', M.pure, if_true, a4, a1, a2, a3, outF]
end
end Ev

/-! EvZ: `_law_draw` is a choice. -/
namespace Ev
open PySem PySem.Spec PyProof.Rows L2
section
variable {G : Gd} {ι : Iota} {H : Hp} {n0 : Nat}
mutual
theorem Rp.bd (hι : ∀ n a, ι n = some a → n < n0) : ∀ {d : D} {v : V}, Rp G ι H d v → d.bd n0 = true
  | _, _, .non => rfl
  | _, _, .bl b => rfl
  | _, _, .int i => rfl
  | _, _, .str x h => rfl
  | _, _, .tup h r => by rw [D.bd]; exact RpL.bd hι r
  | _, _, .ref h => by rw [D.bd]; exact decide_eq_true (hι _ _ h)
  | _, _, .cls c => rfl
  | _, _, .ty c => rfl
  | _, _, .scr h => rfl
theorem RpL.bd (hι : ∀ n a, ι n = some a → n < n0) : ∀ {d : List D} {v : List V}, RpL G ι H d v → D.bds n0 d = true
  | _, _, .nil => rfl
  | _, _, .cons r t => by rw [D.bds, Rp.bd hι r, RpL.bd hι t]; rfl
end
theorem FRel.bd (hι : ∀ n a, ι n = some a → n < n0) : ∀ {fs : List (Cs × D)} {qs : List (Str × V)}, FRel G ι H fs qs → bdF n0 fs = true
  | _, _, .nil => rfl
  | _, _, .cons r t => by rw [bdF, r.2.bd hι, FRel.bd hι t]; rfl
theorem KRel.bd (hι : ∀ n a, ι n = some a → n < n0) : ∀ {fs : List (D × D)} {qs : List (Key × V)}, KRel G ι H fs qs → bdK n0 fs = true
  | _, _, .nil => rfl
  | _, _, .cons r t => by rw [bdK, r.2.bd hι, KRel.bd hι t]; rfl
theorem ORel.bd (hι : ∀ n a, ι n = some a → n < n0) {a : Addr} {o : O} (h : ORel G ι H a o) : o.bd n0 = true := by
  cases o with
  | lst ds => obtain ⟨xs, q, r⟩ := h; exact r.bd hι
  | dct ds => obtain ⟨xs, q, r, nd⟩ := h; exact KRel.bd hι r
  | dctL ds => obtain ⟨ob, xs, q, r, nd⟩ := h; exact KRel.bd hι r
  | ins c fs => obtain ⟨dx, xs, q, r⟩ := h; exact FRel.bd hι r
  | deal n => obtain ⟨c, m, q, r⟩ := h; exact decide_eq_true (hι _ _ r)
  | dealIn => rfl
theorem upd_id {a : Addr} {u : HO} (h : H a = some u) : upd H a u = H := by
  funext b
  by_cases e : b = a
  · subst e; rw [upd_same, h]
  · rw [upd_ne e]
end
/-- a draw -/
def drawM : List D → M D
  | [.ref d, .int n] => M.bind (M.read d) fun
    | .deal q => M.bind (M.read q) fun
      | .dealIn => M.when (decide (0 < n) && decide (n < 1073741824)) (M.bind (M.draw n.toNat) fun i => M.pure (.int i))
      | _ => M.fail
    | _ => M.fail
  | _ => M.fail
theorem RpL.intsE {G : Gd} {ι : Iota} {H : Hp} : ∀ {is : List Int} {vs : List V}, RpL G ι H (is.map D.int) vs → vs = is.map V.int := fun h => RpL.ints h
theorem sp_draw {mu ad dv : Int} {G : Gd} {P : Pg} {vs : List V} {H : Hp} {Q : VK} {E : XK} (hcc : DrC mu dv) (h : spD G drawM vs H Q E) : spD G (runF P ⟨2, 3, [], drawB mu ad dv⟩) vs H Q E := by
  obtain ⟨ι, ds, s, R, r, w⟩ := h
  match ds, r, w with
  | [.ref d, .int n], r, w =>
    obtain ⟨o, g1, w1⟩ := wp_read.mp (wp_bind.mp w)
    cases o with
    | deal q =>
      obtain ⟨o2, g2, w2⟩ := wp_read.mp (wp_bind.mp w1)
      cases o2 with
      | dealIn =>
        by_cases hc : (decide (0 < n) && decide (n < 1073741824)) = true
        · simp only [M.when, hc, if_true] at w2
          have w3 := wp_draw.mp (wp_bind.mp w2)
          rw [Bool.and_eq_true, decide_eq_true_eq, decide_eq_true_eq] at hc
          obtain ⟨a, ea⟩ := R.dom d _ g1
          obtain ⟨b, eb⟩ := R.dom q _ g2
          obtain ⟨b', m, ha, eb'⟩ := R.at ea g1
          rw [eb] at eb'
          cases eb'
          obtain ⟨is, hb, hlen⟩ := R.at eb g2
          have ne : d ≠ q := fun z => by subst z; rw [g1] at g2; cases g2
          have Ra : RelH G ι (s.set d (.lst [.ref q, .int m])) H := by
            have := (R.write (u := .lst [.ref b, .int m]) (o := .lst [.ref q, .int m]) ea ⟨_, upd_same, .cons (.ref eb) (.one (.int m))⟩).1
            rw [upd_id ha] at this
            exact this
          have Rb : RelH G ι ((s.set d (.lst [.ref q, .int m])).set q (.lst (is.map D.int))) H := by
            have := (Ra.write (u := .lst (is.map V.int)) (o := .lst (is.map D.int)) eb ⟨_, upd_same, RpL.ofInts is⟩).1
            rw [upd_id hb] at this
            exact this
          have dl : d < s.n := S.get_lt g1
          have ql : q < s.n := S.get_lt g2
          have DS : DealSt ((s.set d (.lst [.ref q, .int m])).set q (.lst (is.map D.int))) d q m is :=
            ⟨by rw [S.get_set_ne ne]; exact S.get_set_same dl, S.get_set_same ql, ne⟩
          obtain ⟨i, s', m', is', e1, i0, i1, D2, A2, l2⟩ := e_draw (P := P) (ad := ad) hcc hc.1 hc.2 hlen DS
          refine ⟨ι, _, _, Rb, r, ?_⟩
          unfold wp
          rw [e1]
          intro ι' H' l k R' v rv
          have hi : i = ((i.toNat : Nat) : Int) := by omega
          have q3 := w3 i.toNat (by omega)
          have hι : ∀ n a, ι n = some a → n < s.n := fun n a e => R.lt e
          have old : ∀ x, x < s.n → x ≠ d → x ≠ q → s'.get x = s.get x := fun x hx h1 h2 => by
            rw [A2.at_ x hx h1 h2, S.get_set_ne h2, S.get_set_ne h1]
          have Rv : RelH G (Ev.rst ι' s.n) s H' := by
            refine R'.view (fun x o0 g0 => ?_) fun x o hx g => ?_
            · have hx := S.get_lt g0
              obtain ⟨ax, ex⟩ := R.dom x _ g0
              refine ⟨hx, (R.at ex g0).bd hι, ?_⟩
              by_cases xd : x = d
              · subst xd
                rw [g1] at g0; cases g0
                refine ⟨_, D2.hd, fun a' ea' ro => ?_⟩
                obtain ⟨xs, h1, h2⟩ := ro
                cases h2 with
                | cons ra rt =>
                  cases rt with
                  | cons rb rn =>
                    cases rn
                    cases ra with
                    | ref eq' => cases rb; exact ⟨_, _, h1, eq'⟩
              · by_cases xq : x = q
                · subst xq
                  rw [g2] at g0; cases g0
                  refine ⟨_, D2.hq, fun a' ea' ro => ?_⟩
                  obtain ⟨xs, h1, h2⟩ := ro
                  rw [RpL.ints h2] at h1
                  exact ⟨is', h1, l2⟩
                · exact ⟨o0, by rw [old x hx xd xq]; exact g0, fun _ _ ro => ro⟩
            · by_cases xd : x = d
              · subst xd; exact ⟨_, g1⟩
              · by_cases xq : x = q
                · subst xq; exact ⟨_, g2⟩
                · exact ⟨o, by rw [← old x hx xd xq]; exact g⟩
          have ll : Le ι (Ev.rst ι' s.n) := fun x a e => rst_lt (l _ _ e) (R.lt e)
          cases rv
          have := q3 (Ev.rst ι' s.n) H' ll k Rv (.int i) (by rw [hi]; exact .int _)
          exact this
        · have : (decide (0 < n) && decide (n < 1073741824)) = false := by simpa using hc
          simp only [M.when, this, Bool.false_eq_true, if_false] at w2
          exact w2.elim
      | _ => exact w2.elim
    | _ => exact w1.elim
end Ev

/-! EwA: `_law_deal` lays a deal. -/
namespace Ev
open PySem PySem.Spec PyProof.Rows L2
/-- the test of a cell -/
def bigT : Ex := .tVal (.cmp 3 (.var 2) (.bin 5 (.con (.int 10)) (.con (.int 18))))
def bigLc : Ex := .lc 0 [.var 3] (.nm 2) (some bigT) (.var 2) [5, 2]
def cutE (hi : Int) : Ex := .sl (.var 0) (some (.var 1)) (some (.con (.int hi)))
/-- the body of `_law_deal` -/
def dealB (elt : Ex) (hi c0 c1 : Int) (stp : Ex) : List Sm :=
  [.asgL 3 0 [cutE hi] (.nm 2) none elt [5, 2],
   .asg (.nm 4) (.bin 0 (.con (.int c0)) (.bin 2 (.con (.int c1)) (.var 1))),
   .for_ (.nm 2) 0 [.var 3] [.asg (.nm 4) stp],
   .ret (.lst [.rev bigLc, .var 4])]
section
variable {P : Pg} {s : S}
theorem loopC_ints {a n : Nat} {σ : Sl} {mt : Sl → M Bool} {me : Sl → M D} {f : Int → Int} {t : Int → Bool} (hme : ∀ (i : Int) s, me (σ.set 2 (some (.int i))) s = .ret (.ok (.int (f i)) s))
    (hmt : ∀ (i : Int) s, mt (σ.set 2 (some (.int i))) s = .ret (.ok (t i) s)) (ne : a ≠ n) : ∀ (rest pre acc : List Int) (s : S), s.get a = some (.lst ((pre ++ rest).map D.int)) → s.get n = some (.lst (acc.map D.int)) → acc.length + rest.length < 1000000 →
    ∃ s', loopC (.lst a) (.nm 2) mt me n σ (rest.length + 1) pre.length s = .ret (.ok (.ref n) s') ∧ s'.get n = some (.lst ((acc ++ (rest.filter t).map f).map D.int)) ∧ s'.n = s.n ∧ ∀ b, b ≠ n → s'.get b = s.get b
  | [], pre, acc, s, ha, hn, hl => by
    refine ⟨s, ?_, by simpa using hn, rfl, fun _ _ => rfl⟩
    have : ((pre ++ []).map D.int)[pre.length]? = none := by simp
    rw [loopC]
    simp only [ItD.at, ha, this]
  | x :: rest, pre, acc, s, ha, hn, hl => by
    have hx : ((pre ++ x :: rest).map D.int)[pre.length]? = some (.int x) := by simp
    have hpl : (pre ++ [x]).length = pre.length + 1 := by simp
    have hap : pre ++ x :: rest = (pre ++ [x]) ++ rest := by simp
    have e0 : loopC (.lst a) (.nm 2) mt me n σ ((x :: rest).length + 1) pre.length s = M.bind (M.noX (mt (σ.set 2 (some (.int x))))) (fun b => if b = true then M.bind (M.noX (me (σ.set 2 (some (.int x))))) (fun y => M.bind (M.read n) fun
          | .lst acc => M.when (decide (acc.length < 1000000)) (M.bind (M.write n (.lst (acc ++ [y]))) fun _ => loopC (.lst a) (.nm 2) mt me n σ (rest.length + 1) (pre.length + 1))
          | _ => M.fail) else loopC (.lst a) (.nm 2) mt me n σ (rest.length + 1) (pre.length + 1)) s := by
      rw [List.length_cons, loopC]
      simp only [ItD.at, ha, hx, patM] <;> rfl
    by_cases ht : t x = true
    · have hs : ((s.set n (.lst ((acc ++ [f x]).map D.int))).get a) = some (.lst (((pre ++ [x]) ++ rest).map D.int)) := by
        rw [S.get_set_ne ne, ha, hap]
      obtain ⟨s', r1, r2, r3, r4⟩ := loopC_ints hme hmt ne rest (pre ++ [x]) (acc ++ [f x]) (s.set n (.lst ((acc ++ [f x]).map D.int))) hs (S.get_set_same (S.get_lt hn)) (by simp at hl ⊢; omega)
      refine ⟨s', ?_, ?_, by rw [r3]; rfl, fun b hb => by rw [r4 b hb, S.get_set_ne hb]⟩
      · have hl2 : (acc.map D.int).length < 1000000 := by simp at hl ⊢; omega
        have hm : acc.map D.int ++ [.int (f x)] = (acc ++ [f x]).map D.int := by simp
        rw [e0]
        simp only [M.bind, M.noX, hmt, hme, ht, T.bind, if_true, M.read, hn, M.when, hl2, decide_true, M.write, O.isL, Bool.false_eq_true, if_false, hm]
        rw [← hpl]
        exact r1
      · rw [r2]
        simp [List.filter_cons, ht]
    · have ht' : t x = false := by simpa using ht
      obtain ⟨s', r1, r2, r3, r4⟩ := loopC_ints hme hmt ne rest (pre ++ [x]) acc s (by rw [ha, hap]) hn (by simp at hl ⊢; omega)
      refine ⟨s', ?_, ?_, r3, r4⟩
      · rw [e0]
        simp only [M.bind, M.noX, hmt, ht', T.bind, Bool.false_eq_true, if_false]
        rw [← hpl]
        exact r1
      · rw [r2]
        simp [List.filter_cons, ht']
theorem loopF_ints {b : Int} {c : Nat} {stp : Ex} {g : Int → Int → Int} (hst : ∀ (m i : Int) s, iE P 40 stp [some .scr, some (.int b), some (.int i), some (.ref c), some (.int m), none] s = .ret (.ok (.int (g m i)) s)) :
    ∀ (rest pre : List Int) (m : Int) (x : Option D) (s : S), s.get c = some (.lst ((pre ++ rest).map D.int)) →
    ∃ m' x', loopF (.lst c) (iG P 40 10 (.nm 2)) (iSs (iS P 40 39) [.asg (.nm 4) stp]) (rest.length + 1) pre.length [some .scr, some (.int b), x, some (.ref c), some (.int m), none] s = .ret (.ok (.nx [some .scr, some (.int b), x', some (.ref c), some (.int m'), none]) s)
  | [], pre, m, x, s, hc => by
    refine ⟨m, x, ?_⟩
    have : ((pre ++ []).map D.int)[pre.length]? = none := by simp
    rw [List.length_nil, loopF]
    simp only [ItD.at, hc, this]
  | y :: rest, pre, m, x, s, hc => by
    have hx : ((pre ++ y :: rest).map D.int)[pre.length]? = some (.int y) := by simp
    have hpl : (pre ++ [y]).length = pre.length + 1 := by simp
    have hap : pre ++ y :: rest = (pre ++ [y]) ++ rest := by simp
    obtain ⟨m', x', r⟩ := loopF_ints hst rest (pre ++ [y]) (g m y) (some (.int y)) s (by rw [hc, hap])
    refine ⟨m', x', ?_⟩
    have eb : iSs (iS P 40 39) [.asg (.nm 4) stp] [some .scr, some (.int b), some (.int y), some (.ref c), some (.int m), none] s = .ret (.ok (.nx [some .scr, some (.int b), some (.int y), some (.ref c), some (.int (g m y)), none]) s) := by
      have e : iSs (iS P 40 39) [.asg (.nm 4) stp] [some .scr, some (.int b), some (.int y), some (.ref c), some (.int m), none] s = M.bind (M.inS [some .scr, some (.int b), some (.int y), some (.ref c), some (.int m), none] (M.bind (iE P 40 stp [some .scr, some (.int b), some (.int y), some (.ref c), some (.int m), none]) fun v => M.noX (M.pure [some .scr, some (.int b), some (.int y), some (.ref c), some v, none])) fun σ' => M.pure (.nx σ')) (fun
        | .nx σ' => gNext σ'
        | o => M.pure o) s := rfl
      rw [e]
      simp only [M.bind, M.inS, M.noX, hst, T.bind, M.pure, gNext]
    have e0 : loopF (.lst c) (iG P 40 10 (.nm 2)) (iSs (iS P 40 39) [.asg (.nm 4) stp]) ((y :: rest).length + 1) pre.length [some .scr, some (.int b), x, some (.ref c), some (.int m), none] s = M.bind (M.noX (M.pure [some .scr, some (.int b), some (.int y), some (.ref c), some (.int m), none])) (fun σ1 => M.bind (iSs (iS P 40 39) [.asg (.nm 4) stp] σ1) fun
      | .nx σ' => loopF (.lst c) (iG P 40 10 (.nm 2)) (iSs (iS P 40 39) [.asg (.nm 4) stp]) (rest.length + 1) (pre.length + 1) σ'
      | .ct σ' => loopF (.lst c) (iG P 40 10 (.nm 2)) (iSs (iS P 40 39) [.asg (.nm 4) stp]) (rest.length + 1) (pre.length + 1) σ'
      | .bk σ' => M.pure (.nx σ')
      | o => M.pure o) s := by
      rw [List.length_cons, loopF]
      simp only [ItD.at, hc, hx] <;> rfl
    rw [e0]
    simp only [M.bind, M.noX, M.pure, T.bind, eb]
    rw [← hpl]
    exact r
theorem cut_len {α : Type} (xs : List α) (lo : Option Int) (hi : Int) (h0 : 0 ≤ hi) : ((cutD xs lo (some hi)).length : Int) ≤ hi := by
  unfold cutD
  rw [List.length_take]
  have : HT.sIx xs.length xs.length (some hi) ≤ hi.toNat := by
    simp only [HT.sIx]
    rw [if_neg (by omega)]
    omega
  omega
theorem cut_map {α β : Type} (f : α → β) (xs : List α) (lo hi : Option Int) : cutD (xs.map f) lo hi = (cutD xs lo hi).map f := by
  unfold cutD
  simp only [List.length_map, List.map_take, List.map_drop]
/-- old things stand -/
structure Old (s s' : S) : Prop where
  n : s.n ≤ s'.n
  at_ : ∀ a, a < s.n → s'.get a = s.get a
theorem Old.trans {s1 s2 s3 : S} (a : Old s1 s2) (b : Old s2 s3) : Old s1 s3 := ⟨Nat.le_trans a.n b.n, fun x h => (b.at_ x (Nat.lt_of_lt_of_le h a.n)).trans (a.at_ x h)⟩
theorem Old.new (s : S) (o : O) : Old s (s.new o) := ⟨by rw [S.new_n]; omega, fun a h => S.get_new_lt h⟩
theorem e_deal {elt stp : Ex} {hi c0 c1 b : Int} {f : Int → Int} {g : Int → Int → Int} (h0 : 0 ≤ hi) (h63 : hi ≤ 63) (hc1 : (decide (-(2 ^ 64) < c1) && decide (c1 < 2 ^ 64)) = true)
    (hel : ∀ (i : Int) s, iE P 39 elt [some .scr, some (.int b), some (.int i), none, none, none] s = .ret (.ok (.int (f i)) s))
    (hst : ∀ (c : Nat) (m i : Int) s, iE P 40 stp [some .scr, some (.int b), some (.int i), some (.ref c), some (.int m), none] s = .ret (.ok (.int (g m i)) s)) :
    ∃ d q m is s', runF P ⟨2, 6, [], dealB elt hi c0 c1 stp⟩ [.scr, .int b] s = .ret (.ok (.ref d) s') ∧ DealSt s' d q m is ∧ s.n ≤ d ∧ s.n ≤ q ∧ Old s s' ∧ is.length ≤ 63 := by
  -- the cells
  let cs := cutD P.ns (some b) (some hi)
  have hcs : cs.length ≤ 63 := by
    have := cut_len P.ns (some b) hi h0
    show (cutD P.ns (some b) (some hi)).length ≤ 63
    omega
  have hcm : cutD (P.ns.map D.int) (some b) (some hi) = cs.map D.int := cut_map _ _ _ _
  let s1 := s.new (.lst (cs.map D.int))
  let s2 := s1.new (.lst [])
  have n2 : s2.get s.n = some (.lst (([] ++ cs).map D.int)) := by
    show ((s.new (.lst (cs.map D.int))).new (.lst [])).get s.n = _
    rw [S.get_new_lt (by rw [S.new_n]; omega), S.get_new_same]
    rfl
  have n3 : s2.get s1.n = some (.lst (([] : List Int).map D.int)) := S.get_new_same
  have ne1 : s.n ≠ s1.n := by show s.n ≠ s.n + 1; omega
  obtain ⟨s3, r1, r2, r3, r4⟩ := loopC_ints (σ := [some .scr, some (.int b), none, none, none, none]) (mt := fun _ => M.pure true) (me := iE P 39 elt) (f := f) (t := fun _ => true) (fun i s => hel i s) (fun _ _ => rfl) ne1 cs [] [] s2 n2 n3 (by simp; omega)
  have hft : cs.filter (fun _ => true) = cs := List.filter_eq_self.mpr fun _ _ => rfl
  rw [hft, List.nil_append] at r2
  let ds := cs.map f
  have hds : ds.length ≤ 63 := by show (cs.map f).length ≤ 63; simpa using hcs
  have o3 : Old s s3 := ⟨by rw [r3]; show s.n ≤ s.n + 1 + 1; omega, fun a ha => by
    rw [r4 a (by show a ≠ s.n + 1; omega)]
    show ((s.new (.lst (cs.map D.int))).new (.lst [])).get a = _
    rw [S.get_new_lt (by rw [S.new_n]; omega), S.get_new_lt ha]⟩
  have t1 : iS P 40 40 (.asgL 3 0 [cutE hi] (.nm 2) none elt [5, 2]) [some .scr, some (.int b), none, none, none, none] s = .ret (.ok (.nx [some .scr, some (.int b), none, some (.ref s1.n), none, none]) s3) := by
    have e : iS P 40 40 (.asgL 3 0 [cutE hi] (.nm 2) none elt [5, 2]) [some .scr, some (.int b), none, none, none, none] s = M.inS [some .scr, some (.int b), none, none, none, none] (M.bind (M.bind (M.bind (M.bind (M.new (.lst (cutD (P.ns.map D.int) (some b) (some hi)))) fun n => M.pure (.ref n)) walkM) fun it => M.bind (M.new (.lst [])) fun n => fun s =>
      loopC it (.nm 2) (fun _ => M.pure true) (iE P 39 elt) n [some .scr, some (.int b), none, none, none, none] (it.len s + 1) 0 s) fun d => M.noX (M.pure [some .scr, some (.int b), none, some d, none, none])) (fun σ' => M.pure (.nx σ')) s := rfl
    have hlen : ItD.len s2 (.lst s.n) = cs.length := by simp [ItD.len, n2]
    rw [e]
    simp only [M.inS, M.bind, M.new, M.pure, T.bind, hcm, walkM, M.read]
    have g1 : (s.new (.lst (cs.map D.int))).get s.n = some (.lst (cs.map D.int)) := S.get_new_same
    simp only [g1, T.bind]
    have hr : loopC (.lst s.n) (.nm 2) (fun _ => M.pure true) (iE P 39 elt) (s.new (.lst (cs.map D.int))).n [some .scr, some (.int b), none, none, none, none] (ItD.len ((s.new (.lst (cs.map D.int))).new (.lst [])) (.lst s.n) + 1) 0 ((s.new (.lst (cs.map D.int))).new (.lst [])) = .ret (.ok (.ref s1.n) s3) := by
      have h9 : ItD.len ((s.new (.lst (cs.map D.int))).new (.lst [])) (.lst s.n) = cs.length := hlen
      rw [h9]
      exact r1
    simp only [hr, T.bind, M.noX, M.pure]
  have t2 : ∀ (s : S), iS P 40 40 (.asg (.nm 4) (.bin 0 (.con (.int c0)) (.bin 2 (.con (.int c1)) (.var 1)))) [some .scr, some (.int b), none, some (.ref s1.n), none, none] s = .ret (.ok (.nx [some .scr, some (.int b), none, some (.ref s1.n), some (.int (c0 + c1 * b)), none]) s) := fun s => by
    have ok : mulOk c1 b = true := by unfold mulOk; rw [hc1, Bool.true_or]
    have e : iS P 40 40 (.asg (.nm 4) (.bin 0 (.con (.int c0)) (.bin 2 (.con (.int c1)) (.var 1)))) [some .scr, some (.int b), none, some (.ref s1.n), none, none] s = M.inS [some .scr, some (.int b), none, some (.ref s1.n), none, none] (M.bind (M.bind (M.pure (.int c0)) fun x => M.bind (M.bind (M.pure (.int c1)) fun x => M.bind (M.pure (.int b)) fun y => mulM x y) fun y => addM x y) fun d => M.noX (M.pure [some .scr, some (.int b), none, some (.ref s1.n), some d, none])) (fun σ' => M.pure (.nx σ')) s := rfl
    rw [e]
    simp only [M.inS, M.bind, M.pure, T.bind, mulM, ok, if_true, addM, M.noX]
  have g3 : s3.get s1.n = some (.lst (([] ++ ds).map D.int)) := r2
  obtain ⟨m', x', r5⟩ := loopF_ints (P := P) (b := b) (c := s1.n) (g := g) (hst s1.n) ds [] (c0 + c1 * b) none s3 g3
  have t3 : iS P 40 40 (.for_ (.nm 2) 0 [.var 3] [.asg (.nm 4) stp]) [some .scr, some (.int b), none, some (.ref s1.n), some (.int (c0 + c1 * b)), none] s3 = .ret (.ok (.nx [some .scr, some (.int b), x', some (.ref s1.n), some (.int m'), none]) s3) := by
    have e : iS P 40 40 (.for_ (.nm 2) 0 [.var 3] [.asg (.nm 4) stp]) [some .scr, some (.int b), none, some (.ref s1.n), some (.int (c0 + c1 * b)), none] s3 = (match s3.get s1.n with
      | some (.dct _) => M.locked s1.n (M.fl (gFor (mAny (mVar 3)) (iG P 40 10 (.nm 2)) (iSs (iS P 40 39) [.asg (.nm 4) stp]) [some .scr, some (.int b), none, some (.ref s1.n), some (.int (c0 + c1 * b)), none])) s3
      | _ => M.inS [some .scr, some (.int b), none, some (.ref s1.n), some (.int (c0 + c1 * b)), none] (M.bind (M.pure (.ref s1.n)) walkM) (fun it => fun s => loopF it (iG P 40 10 (.nm 2)) (iSs (iS P 40 39) [.asg (.nm 4) stp]) (it.len s + 1) 0 [some .scr, some (.int b), none, some (.ref s1.n), some (.int (c0 + c1 * b)), none] s) s3) := rfl
    have hlen : ItD.len s3 (.lst s1.n) = ds.length := by simp [ItD.len, g3]
    rw [e]
    simp only [g3, M.inS, M.bind, M.pure, T.bind, walkM, M.read]
    rw [hlen]
    exact r5
  -- the end
  let s4 := s3.new (.lst [])
  have h34 : s1.n < s3.n := S.get_lt g3
  have n4 : s4.get s1.n = some (.lst (([] ++ ds).map D.int)) := by
    show (s3.new (.lst [])).get s1.n = _
    rw [S.get_new_lt h34, g3]
  have n5 : s4.get s3.n = some (.lst (([] : List Int).map D.int)) := S.get_new_same
  obtain ⟨s5, q1, q2, q3, q4⟩ := loopC_ints (σ := [some .scr, some (.int b), none, some (.ref s1.n), some (.int m'), none]) (mt := iT (iE P 37) 30 bigT) (me := iE P 37 (.var 2)) (f := fun i => i) (t := fun i => decide (1000000000000000000 ≤ i)) (fun i s => rfl) (fun _ _ => rfl) (Nat.ne_of_lt h34) ds [] [] s4 n4 n5 (by simp; omega)
  let es := ((ds.filter fun i => decide (1000000000000000000 ≤ i)).map fun i => i)
  have hes : es.length ≤ 63 := by
    have := List.length_filter_le (fun i : Int => decide (1000000000000000000 ≤ i)) ds
    show ((ds.filter _).map _).length ≤ 63
    rw [List.length_map]
    omega
  have q2' : s5.get s3.n = some (.lst (es.map D.int)) := q2
  let s6 := s5.new (.lst (es.map D.int).reverse)
  let s7 := s6.new (.lst [.ref s5.n, .int m'])
  have t4 : iS P 40 40 (.ret (.lst [.rev bigLc, .var 4])) [some .scr, some (.int b), x', some (.ref s1.n), some (.int m'), none] s3 = .ret (.ok (.rt (.ref s6.n)) s7) := by
    have e1 : iE P 38 bigLc [some .scr, some (.int b), x', some (.ref s1.n), some (.int m'), none] s3 = (match s3.get s1.n with
      | some (.dct kvs) => M.locked s1.n (mLc (mAny (mVar 3)) (.nm 2) (iT (iE P 37) 30 bigT) (iE P 37 (.var 2)) [5, 2] [some .scr, some (.int b), x', some (.ref s1.n), some (.int m'), none]) s3
      | _ => (M.bind (M.bind (M.pure (.ref s1.n)) walkM) fun it => M.bind (M.new (.lst [])) fun n => fun s => loopC it (.nm 2) (iT (iE P 37) 30 bigT) (iE P 37 (.var 2)) n [some .scr, some (.int b), none, some (.ref s1.n), some (.int m'), none] (it.len s + 1) 0 s) s3) := by
      show M.locked s1.n _ s3 = _
      unfold M.locked
      rw [g3]
      rfl
    have hlen : ItD.len s4 (.lst s1.n) = ds.length := by simp [ItD.len, n4]
    have hlen' : ItD.len (s3.new (.lst [])) (.lst s1.n) = ds.length := hlen
    have e2 : iE P 38 bigLc [some .scr, some (.int b), x', some (.ref s1.n), some (.int m'), none] s3 = .ret (.ok (.ref s3.n) s5) := by
      rw [e1]
      simp only [g3, M.bind, M.pure, T.bind, walkM, M.read, M.new, hlen']
      exact q1
    have e3 : iS P 40 40 (.ret (.lst [.rev bigLc, .var 4])) [some .scr, some (.int b), x', some (.ref s1.n), some (.int m'), none] s3 = M.inS [some .scr, some (.int b), x', some (.ref s1.n), some (.int m'), none] (M.bind (M.bind (M.bind (iE P 38 bigLc [some .scr, some (.int b), x', some (.ref s1.n), some (.int m'), none]) revAM) fun x => M.bind (M.bind (M.pure (.int m')) fun x => M.bind (M.pure []) fun xs => M.pure (x :: xs)) fun xs => M.pure (x :: xs)) lstM) (fun d => M.pure (.rt d)) s3 := rfl
    rw [e3]
    simp only [M.inS, M.bind, e2, T.bind, revAM, M.lst, M.read, q2', M.new, M.pure, lstM]
    rfl
  have ln5 : s5.n = s3.n + 1 := q3
  have o5 : Old s3 s5 := ⟨by omega, fun a ha => by
    rw [q4 a (by omega)]
    exact S.get_new_lt ha⟩
  have oo : Old s s7 := (o3.trans o5).trans ((Old.new s5 _).trans (Old.new s6 _))
  have l3 := o3.n
  have l5 := o5.n
  have g6 : s7.get s6.n = some (.lst [.ref s5.n, .int m']) := S.get_new_same
  have g5 : s7.get s5.n = some (.lst (es.reverse.map D.int)) := by
    show (s6.new _).get s5.n = _
    rw [S.get_new_lt (by show s5.n < s5.n + 1; omega)]
    show (s5.new _).get s5.n = _
    rw [S.get_new_same, List.map_reverse]
  refine ⟨s6.n, s5.n, m', es.reverse, s7, ?_, ⟨g6, g5, by show s5.n + 1 ≠ s5.n; omega⟩, by show s.n ≤ s5.n + 1; omega, by omega, oo, by simpa using hes⟩
  have ee : runF P ⟨2, 6, [], dealB elt hi c0 c1 stp⟩ [.scr, .int b] s = M.bind (M.noX (M.bind (iS P 40 40 (.asgL 3 0 [cutE hi] (.nm 2) none elt [5, 2]) [some .scr, some (.int b), none, none, none, none]) fun
    | .nx σ' => M.bind (iS P 40 40 (.asg (.nm 4) (.bin 0 (.con (.int c0)) (.bin 2 (.con (.int c1)) (.var 1)))) σ') fun
      | .nx σ' => M.bind (iS P 40 40 (.for_ (.nm 2) 0 [.var 3] [.asg (.nm 4) stp]) σ') fun
        | .nx σ' => M.bind (iS P 40 40 (.ret (.lst [.rev bigLc, .var 4])) σ') fun
          | .nx σ' => gNext σ'
          | o => M.pure o
        | o => M.pure o
      | o => M.pure o
    | o => M.pure o)) outF s := rfl
  rw [ee]
  simp only [M.bind, M.noX, t1, t2, t3, t4, T.bind, M.pure, outF]
end
/-- a deal is laid -/
def dealM : List D → M D
  | [.scr, .int _] => M.bind (M.new .dealIn) fun q => M.bind (M.new (.deal q)) fun d => M.pure (.ref d)
  | _ => M.fail
def swp (ι : Iota) (n q d : Nat) : Iota := fun m => if m < n then ι m else if m = n then ι q else if m = n + 1 then ι d else none
theorem sp_deal {F : Fd} {G : Gd} {P : Pg} {vs : List V} {H : Hp} {Q : VK} {E : XK}
    (he : ∀ (b : Int) (s : S), ∃ d q m is s', runF P F [.scr, .int b] s = .ret (.ok (.ref d) s') ∧ DealSt s' d q m is ∧ s.n ≤ d ∧ s.n ≤ q ∧ Old s s' ∧ is.length ≤ 63) (h : spD G dealM vs H Q E) : spD G (runF P F) vs H Q E := by
  obtain ⟨ι, ds, s, R, r, w⟩ := h
  match ds, r, w with
  | [.scr, .int b], r, w =>
    obtain ⟨d, q, m, is, s', e1, DS, hd, hq, od, hl⟩ := he b s
    refine ⟨ι, _, s, R, r, ?_⟩
    unfold wp
    rw [e1]
    intro ι' H' l k R' v rv
    have w' : ∀ ι' H', Le ι ι' → Keep H H' → RelH G ι' ((s.new .dealIn).new (.deal s.n)) H' → ∀ v, Rp G ι' H' (.ref (s.n + 1)) v → Q v H' := w
    have a0 : ∀ x a, x < s.n → ι' x = some a → swp ι' s.n q d x = some a := fun x a hx e => by unfold swp; rw [if_pos hx]; exact e
    have a1 : swp ι' s.n q d s.n = ι' q := by unfold swp; rw [if_neg (Nat.lt_irrefl _), if_pos rfl]
    have a2 : swp ι' s.n q d (s.n + 1) = ι' d := by unfold swp; rw [if_neg (by omega), if_neg (by omega), if_pos rfl]
    have a3 : ∀ x a, swp ι' s.n q d x = some a → (x < s.n ∧ ι' x = some a) ∨ (x = s.n ∧ ι' q = some a) ∨ (x = s.n + 1 ∧ ι' d = some a) := fun x a e => by
      unfold swp at e
      by_cases h1 : x < s.n
      · rw [if_pos h1] at e; exact .inl ⟨h1, e⟩
      · rw [if_neg h1] at e
        by_cases h2 : x = s.n
        · rw [if_pos h2] at e; exact .inr (.inl ⟨h2, e⟩)
        · rw [if_neg h2] at e
          by_cases h3 : x = s.n + 1
          · rw [if_pos h3] at e; exact .inr (.inr ⟨h3, e⟩)
          · rw [if_neg h3] at e; cases e
    have hι : ∀ n a, ι n = some a → n < s.n := fun n a e => R.lt e
    have lr : Le (Ev.rst ι' s.n) (swp ι' s.n q d) := fun x a e => a0 x a (rst_some e).1 (rst_some e).2
    have RR : RelH G (swp ι' s.n q d) ((s.new .dealIn).new (.deal s.n)) H' := by
      refine ⟨fun x a e => ?_, fun x o g => ?_, fun x y a e1 e2 => ?_⟩
      · rcases a3 x a e with ⟨hx, e'⟩ | ⟨rfl, e'⟩ | ⟨rfl, e'⟩
        · obtain ⟨o, g, ro⟩ := R'.obj x a e'
          rw [od.at_ x hx] at g
          obtain ⟨ax, ex⟩ := R.dom x _ g
          have hb := (R.at ex g).bd hι
          refine ⟨o, ?_, (ro.rst hb).mono lr (fun b o h _ => h) rfl⟩
          rw [S.get_new_lt (by rw [S.new_n]; omega), S.get_new_lt hx]
          exact g
        · refine ⟨.dealIn, ?_, ?_⟩
          · rw [S.get_new_lt (by rw [S.new_n]; omega), S.get_new_same]
          · obtain ⟨xs, h1, h2⟩ := R'.at e' DS.hq
            rw [RpL.ints h2] at h1
            exact ⟨is, h1, hl⟩
        · refine ⟨.deal s.n, S.get_new_same, ?_⟩
          obtain ⟨xs, h1, h2⟩ := R'.at e' DS.hd
          cases h2 with
          | cons ra rt =>
            cases rt with
            | cons rb rn =>
              cases rn
              cases ra with
              | ref eq' => cases rb; exact ⟨_, _, h1, a1.trans eq'⟩
      · by_cases h1 : x < s.n
        · rw [S.get_new_lt (by rw [S.new_n]; omega), S.get_new_lt h1] at g
          obtain ⟨a, e⟩ := R.dom x _ g
          exact ⟨a, a0 x a h1 (l _ _ e)⟩
        · have h2 : x < s.n + 1 + 1 := S.get_lt g
          by_cases h3 : x = s.n
          · subst h3
            obtain ⟨a, e⟩ := R'.dom q _ DS.hq
            exact ⟨a, a1.trans e⟩
          · have h4 : x = s.n + 1 := by omega
            subst h4
            obtain ⟨a, e⟩ := R'.dom d _ DS.hd
            exact ⟨a, a2.trans e⟩
      · have ne := DS.ne
        rcases a3 x a e1 with ⟨hx, f1⟩ | ⟨hx, f1⟩ | ⟨hx, f1⟩ <;> rcases a3 y a e2 with ⟨hy, f2⟩ | ⟨hy, f2⟩ | ⟨hy, f2⟩ <;> have := R'.inj _ _ a f1 f2 <;> omega
    refine w' (swp ι' s.n q d) H' (fun x a e => a0 x a (R.lt e) (l _ _ e)) k RR v ?_
    cases rv with
    | ref e => exact .ref (a2.trans e)
end Ev

/-! EwB: a law's end: from the tables and a run of the evaluator to what the walk wants. -/
namespace Ev
open PySem PySem.Spec PyProof.Rows L2
theorem Fk.imp {P : Program} {w : World} {K : PySem.W.Frag} {mg : Str → Option Value} {base : Heap} {k : Nat} {f : Addr} {sp sp' : Sp} (h : Fk P w K mg base k f sp) (i : ∀ vs H Q E, sp' vs H Q E → sp vs H Q E) : Fk P w K mg base k f sp' :=
  ⟨fun A outer s H us vs Q E hr e0 r q => h.run A outer s H us vs Q E hr e0 r (i _ _ _ _ q)⟩
theorem Fk.mono {P : Program} {w : World} {K : PySem.W.Frag} {mg : Str → Option Value} {base : Heap} {j k : Nat} {f : Addr} {sp : Sp} (h : Fk P w K mg base j f sp) (l : j ≤ k) : Fk P w K mg base k f sp :=
  ⟨fun A outer s H us vs Q E hr => h.run A outer s H us vs Q E (hr.mono l)⟩
/-- a def that is told by a shorter word -/
def PrOk (L : Lw) (i : Nat) (f : List D → M D) : Prop := ∃ d, L.defs[i]? = some d ∧ d.gc = false ∧ ∀ (P : Pg) (G : Gd) vs H Q E, spD G f vs H Q E → spD G (runF P ⟨d.ps.length, d.N.length, d.dD, d.ir⟩) vs H Q E
section
variable {L : Lw} {F : Fc} {ns : List Int} {h : Heap} {prim : Nat → Option (List D → M D)}
theorem levelsP (c : SaysEv L F.K) (X : F.K.In h) (Gn : h.Ns mainGlobals F.mg) (dok : ∀ (i : Nat) (d : Df), L.defs[i]? = some d → DOk L F.K d) (pr : ∀ i f, prim i = some f → PrOk L i f) (kok : ∀ (j : Nat) (q : Str × List Str × Nat × List Nat), L.kws[j]? = some q → prim q.2.2.1 = none ∧ ∃ d, L.defs[q.2.2.1]? = some d ∧ KBd F.K d q.2.1 q.2.2.2) :
    ∀ j, (∀ i, i < L.defs.length → Fk F.P F.w F.K F.mg F.base (4 * j) (dAt L F.K i) (spD (gdOf L F.K ns) (fnL L ns prim j i))) ∧
      ∀ (jj : Nat) (q : Str × List Str × Nat × List Nat), L.kws[jj]? = some q → FkK F.P F.w F.K F.mg F.base (4 * j) (dAt L F.K q.2.2.1) 0 q.2.1 (spD (gdOf L F.K ns) (fkOf L (fnL L ns prim j) jj)) := by
  refine levels c X Gn (fun i d e _ => dok i d e) (fun i f hp k hk => ?_) kok
  obtain ⟨d, e, hgc, im⟩ := pr i f hp
  have hi : i < L.defs.length := (List.getElem?_eq_some_iff.mp e).1
  have z := levels (ns := ns) (F := F) (prim := fun _ => none) c X Gn (fun i d e _ => dok i d e) (fun _ _ q => by cases q) (fun j q e => ⟨rfl, (kok j q e).2⟩) 1
  have z := z.1 i hi
  unfold fnL at z
  simp only [e, hgc, gcIf] at z
  exact (z.imp fun vs H Q E q => im _ _ vs H Q E q).mono (by omega)
theorem law_fn {i j : Nat} {d : Df} (c : SaysEv L F.K) (X : F.K.In h) (Gn : h.Ns mainGlobals F.mg) (dok : ∀ (i : Nat) (d : Df), L.defs[i]? = some d → DOk L F.K d) (pr : ∀ i f, prim i = some f → PrOk L i f) (kok : ∀ (j : Nat) (q : Str × List Str × Nat × List Nat), L.kws[j]? = some q → prim q.2.2.1 = none ∧ ∃ d, L.defs[q.2.2.1]? = some d ∧ KBd F.K d q.2.1 q.2.2.2) (e : L.defs[i]? = some d) {fd : FuncData}
    (FD : FunD F.K d.name d.qual d.params d.body d.scope (d.dvs F.K) [] (dAt L F.K i) fd) :
    FnOk F.P F.w F.K F.mg F.base CX0 (4 * j + 3 + 1) (dAt L F.K i) fd d.ps (fun vs H Q E => vs.length = d.ps.length ∧ spD (gdOf L F.K ns) (runF (pgOf L ns (fnL L ns prim j)) ⟨d.ps.length, d.N.length, d.dD, d.ir⟩) vs H Q fun _ _ _ => False) := by
  have c1 : tabB L F.K = true := congrArg (fun z : AlE => z.1) c
  obtain ⟨lv, lk⟩ := levelsP (ns := ns) c X Gn dok pr kok j
  have pk := pk_of (ns := ns) c1 X Gn lv lk
  have ok := dok i d e
  have fo := fo_ok (dfl := d.dD) pk FD ok.sc ok.cmp
  refine ⟨fun vs H Q E q => q.1, fun A outer s H args us vs Q E hr e0 hb r q => ?_⟩
  refine codeAny_mono (fo.run A outer s H args us vs Q (fun _ _ _ => False) hr e0 hb r q) fun r s' z => ?_
  cases r with
  | ok fl => cases fl <;> exact z
  | error u =>
    obtain ⟨_, _, _, _, _, _, _, _, _, _, _, _, f⟩ := z
    exact f
end
theorem RelH.empty {G : Gd} {H : Hp} : RelH G (fun _ => none) S.empty H where
  obj := fun _ _ h => by cases h
  dom := fun n o h => absurd (show n < 0 from S.get_lt h) (Nat.not_lt_zero _)
  inj := fun _ _ _ h => by cases h
/-- what the walk asks of a law's def -/
theorem law_F {P : Program} {L : Lw} {prim : Nat → Option (List D → M D)} {J i : Nat} {d : Df} {x : Str} (hd : L.defs[i]? = some d) (hps : d.ps = [x]) (hdf : d.dfl = []) (hdD : d.dD = []) (hg : L.globs.lookup d.name = some (.fn i))
    (dok : ∀ (K : PySem.W.Frag) (i : Nat) (d : Df), L.defs[i]? = some d → DOk L K d) (pr : ∀ i f, prim i = some f → PrOk L i f) (kok : ∀ (K : PySem.W.Frag) (j : Nat) (q : Str × List Str × Nat × List Nat), L.kws[j]? = some q → prim q.2.2.1 = none ∧ ∃ d, L.defs[q.2.2.1]? = some d ∧ KBd K d q.2.1 q.2.2.2)
    (hb : ∀ (kV doc pm : Value) (an : Option Addr) (cdv ct : Value) (us : List Value), us.length = [x].length → bindArgs (PySem.W.fnOf d.name d.qual d.params d.body d.scope .none kV doc pm an cdv ct) ⟨us, []⟩ = pure ([x].zip us))
    (run : ∀ ns : List Int, ns.length ≤ 63 → wp (runF (pgOf L ns (fnL L ns prim J)) ⟨1, d.N.length, [], d.ir⟩ [.scr]) S.empty (fun v _ => v = .bl true) fun _ _ => False)
    (w : World) (mg : Str → Option Value) (fa : Addr) (h : Heap) (Y : ∃ K : PySem.W.Frag, K.In h ∧ SaysEv L K) (Gn : h.Ns mainGlobals mg) (hmg : mg d.name = some (.ref fa)) :
    ∃ (K : PySem.W.Frag) (fd : FuncData) (sp : Sp), K.In h ∧ (∀ (s : Shared) (u : Value), BindsTo s fd ⟨[u], []⟩ [(x, u)]) ∧
        (∀ (H : Hp) (a : Addr) (ns : List Int), ns.length ≤ 63 → Only H → SqL K H a (ns.map V.int) → sp [.ref a] H (fun v _ => v = .bl true) fun _ _ _ => False) ∧
        ∀ base : Heap, K.In base → base.Ns mainGlobals mg → FnOk P w K mg base CX0 (4 * J + 3 + 1) fa fd [x] sp := by
  obtain ⟨K, KX, c⟩ := Y
  have c1 : tabB L K = true := congrArg (fun z : AlE => z.1) c
  have hi : i < L.defs.length := (List.getElem?_eq_some_iff.mp hd).1
  have ei : L.defs[i] = d := (List.getElem?_eq_some_iff.mp hd).2
  have e2 : L.defs.map (fun d => fnAt K (d.ad K)) = L.defs.map Df.val := congrArg (fun z : AlE => z.2) c
  have e3 : fnAt K (d.ad K) = d.val := by
    have := congrArg (fun l => l[i]?) e2
    simpa [List.getElem?_map, hd] using this
  have c0 := c1
  unfold tabB at c0
  rw [Bool.and_eq_true, Bool.and_eq_true] at c0
  have c2 : d.ok K = true := (He.ba (List.all_eq_true.mp c0.1 d (ei ▸ List.getElem_mem hi))).1
  obtain ⟨fd, FD⟩ := Df.funD e3 c2
  have ea : dAt L K i = d.ad K := by unfold dAt; rw [hd]
  rw [← ea] at FD
  have hfa : fa = dAt L K i := by
    have z := List.all_eq_true.mp c0.2.1 _ (lookup_mem' hg)
    simp only [gvB, Bool.and_eq_true, decide_eq_true_eq] at z
    have := hmg.symm.trans (PySem.W.mg_of KX Gn z.1)
    cases this
    rfl
  subst hfa
  have dv : d.dvs K = [] := by unfold Df.dvs; rw [hdf]; rfl
  have FD0 : FunD K d.name d.qual d.params d.body d.scope [] [] (dAt L K i) fd := by rw [← dv]; exact FD
  refine ⟨K, fd, fun vs H Q E => ∃ ns : List Int, vs.length = d.ps.length ∧ spD (gdOf L K ns) (runF (pgOf L ns (fnL L ns prim J)) ⟨d.ps.length, d.N.length, d.dD, d.ir⟩) vs H Q fun _ _ _ => False, KX, ?_, ?_, ?_⟩
  · intro s u
    exact FD0.bindsA (ps := [x]) hb s [u] rfl
  · intro H a ns hl hO hS
    refine ⟨ns, by rw [hps]; rfl, fun _ => none, [.scr], S.empty, RelH.empty, ?_, ?_⟩
    · refine .cons (.scr ?_) .nil
      rcases hS with (hS | ⟨o, hS⟩) | hS
      · rcases hO a with e | ⟨o, xs, e⟩
        · rw [e] at hS; cases hS
        · rw [e] at hS; cases hS
      · exact .inl ⟨o, hS⟩
      · exact .inr hS
    · have e : d.ps.length = 1 := by rw [hps]; rfl
      rw [e, hdD]
      refine wp_mono (run ns hl) (fun v s' e ι' H' _ _ _ u ru => ?_) fun _ _ z => z.elim
      subst e
      cases ru
      rfl
  · intro base KB GB
    have hF := fun ns => law_fn (F := ⟨P, w, K, mg, base⟩) (ns := ns) (j := J) c KX Gn (dok K) pr (kok K) hd FD
    rw [hps] at hF
    refine ⟨fun vs H Q E q => by obtain ⟨ns, q, _⟩ := q; rw [hps] at q; exact q, fun A outer s H args us vs Q E hr e0 hb r q => ?_⟩
    obtain ⟨ns, q⟩ := q
    rw [hps] at q
    exact (hF ns).run A outer s H args us vs Q E hr e0 hb r q
/-! ### a run by evaluation -/
def allN : Nat → (Nat → Bool) → Bool
  | 0, _ => true
  | n + 1, f => f n && allN n f
theorem allN_ok {f : Nat → Bool} : ∀ {n i : Nat}, allN n f = true → i < n → f i = true
  | 0, i, _, h => absurd h (Nat.not_lt_zero _)
  | n + 1, i, h, hi => by
    rw [allN, Bool.and_eq_true] at h
    by_cases e : i = n
    · subst e; exact h.1
    · exact allN_ok h.2 (by omega)
def T.allB {α : Type} (p : α → Bool) : T α → Bool
  | .ret a => p a
  | .draw n k => allN n fun i => (k i).allB p
theorem T.allB_ok {α : Type} {p : α → Bool} : ∀ {t : T α}, t.allB p = true → t.All fun a => p a = true
  | .ret a, h => h
  | .draw n k, h => fun i hi => T.allB_ok (t := k i) (allN_ok (f := fun i => (k i).allB p) h hi)
def isT : Out D → Bool
  | .ok (.bl true) _ => true
  | _ => false
theorem run_ok {m : M D} (h : (m S.empty).allB isT = true) : wp m S.empty (fun v _ => v = .bl true) fun _ _ => False := by
  refine T.All.mono (fun o z => ?_) (T.allB_ok h)
  unfold isT at z
  split at z
  · rfl
  · cases z
end Ev

/-! EwC: bindings of defs; the shapes of deals; all defs. -/
namespace Ev
open PySem PySem.Spec PyProof.Rows L2
section
variable {K : PySem.W.Frag} {x qual : Str} {params : Arguments} {body : List Stmt} {scope : Scope} {dvs : List V} {f : Addr} {fd : FuncData} {ps : List Str}
theorem bndN (F : FunD K x qual params body scope [] [] f fd)
    (h : ∀ (kV doc pm : Value) (an : Option Addr) (cdv ct : Value) (us : List Value), us.length = ps.length → bindArgs (PySem.W.fnOf x qual params body scope .none kV doc pm an cdv ct) ⟨us, []⟩ = pure (ps.zip us)) : Bnd K fd ps [] :=
  fun _ _ _ => ⟨[], by simp [Vals]; exact .nil, F.bindsN h⟩
theorem bndD (F : FunD K x qual params body scope dvs [] f fd) (hd : dvs ≠ [])
    (h : ∀ (T : Addr) (kV doc pm : Value) (an : Option Addr) (cdv ct : Value) (us its : List Value), its.length = dvs.length → us.length ≤ ps.length → ps.length ≤ us.length + dvs.length →
      ∃ k, bindArgs (PySem.W.fnOf x qual params body scope (.ref T) kV doc pm an cdv ct) ⟨us, []⟩ = seqItems? (.ref T) >>= k ∧ k (some its.toArray) = pure (ps.zip (us ++ its.drop (dvs.length - (ps.length - us.length))))) : Bnd K fd ps dvs := by
  intro n h1 h2
  refine F.binds1 n (dvs.length - (ps.length - n)) hd (by omega) fun T kV doc pm an cdv ct us its hu hi => ?_
  have := h T kV doc pm an cdv ct us its hi (by omega) (by omega)
  rw [hu] at this
  exact this
end
def DAll (L : Lw) (K : PySem.W.Frag) : List Df → Prop
  | [] => True
  | d :: r => DOk L K d ∧ DAll L K r
theorem dall {L : Lw} {K : PySem.W.Frag} : ∀ {l : List Df}, DAll L K l → ∀ (i : Nat) (d : Df), l[i]? = some d → DOk L K d
  | [], _, i, d, h => by simp at h
  | x :: r, h, 0, d, e => by simp at e; subst e; exact h.1
  | x :: r, h, i + 1, d, e => dall h.2 i d (by simpa using e)
def KAll (L : Lw) (prim : Nat → Option (List D → M D)) (K : PySem.W.Frag) : List (Str × List Str × Nat × List Nat) → Prop
  | [] => True
  | q :: r => (prim q.2.2.1 = none ∧ ∃ d, L.defs[q.2.2.1]? = some d ∧ KBd K d q.2.1 q.2.2.2) ∧ KAll L prim K r
theorem kall {L : Lw} {prim : Nat → Option (List D → M D)} {K : PySem.W.Frag} : ∀ {l : List (Str × List Str × Nat × List Nat)}, KAll L prim K l → ∀ (j : Nat) (q : Str × List Str × Nat × List Nat), l[j]? = some q → prim q.2.2.1 = none ∧ ∃ d, L.defs[q.2.2.1]? = some d ∧ KBd K d q.2.1 q.2.2.2
  | [], _, i, d, h => by simp at h
  | x :: r, h, 0, d, e => by simp at e; subst e; exact h.1
  | x :: r, h, i + 1, d, e => kall h.2 i d (by simpa using e)
theorem kbdN {K : PySem.W.Frag} {d : Df} {ks : List Str} {pm : List Nat} (hd : d.dfl = [])
    (h : ∀ (kV doc pmv : Value) (an : Option Addr) (cdv ct : Value) (ws : List Value), ws.length = ks.length → ∃ full, permL pm ws ([] : List Value) = some full ∧ full.length = d.ps.length ∧ bindArgs (PySem.W.fnOf d.name d.qual d.params d.body d.scope .none kV doc pmv an cdv ct) ⟨[], ks.zip ws⟩ = pure (d.ps.zip full)) : KBd K d ks pm := by
  intro fd F
  have dv : d.dvs K = [] := by unfold Df.dvs; rw [hd]; rfl
  rw [dv] at F ⊢
  obtain ⟨oc, od, dV, kV, doc, pmv, an, cdv, ct, osl, rfl, lk, hcd, hD, hK⟩ := F.ex
  rcases hD with ⟨_, rfl⟩ | ⟨e, _⟩
  · refine ⟨[], .nil, fun s ws _ hl => ?_⟩
    obtain ⟨full, h1, h2, h3⟩ := h kV doc pmv an cdv ct ws hl
    exact ⟨full, h1, h2, .of_eq h3⟩
  · exact absurd rfl e
theorem kbdD {K : PySem.W.Frag} {d : Df} {ks : List Str} {pm : List Nat} (hd : d.dfl ≠ [])
    (h : ∀ (T : Addr) (kV doc pmv : Value) (an : Option Addr) (cdv ct : Value) (ws its : List Value), ws.length = ks.length → its.length = d.dfl.length → ∃ full k, permL pm ws its = some full ∧ full.length = d.ps.length ∧
      bindArgs (PySem.W.fnOf d.name d.qual d.params d.body d.scope (.ref T) kV doc pmv an cdv ct) ⟨[], ks.zip ws⟩ = seqItems? (.ref T) >>= k ∧ k (some its.toArray) = pure (d.ps.zip full)) : KBd K d ks pm := by
  intro fd F
  obtain ⟨oc, od, dV, kV, doc, pmv, an, cdv, ct, osl, rfl, lk, hcd, hD, hK⟩ := F.ex
  rcases hD with ⟨e, _⟩ | ⟨_, T, o, its, m, rfl, lT, oT, rT⟩
  · unfold Df.dvs at e
    exact absurd (List.map_eq_nil_iff.mp e) hd
  · refine ⟨its, rT, fun s ws X hl => ?_⟩
    have li : its.length = d.dfl.length := by rw [← rT.length]; unfold Df.dvs; rw [List.length_map]
    obtain ⟨full, k, h1, h2, h3, h4⟩ := h T kV doc pmv an cdv ct ws its hl li
    refine ⟨full, h1, h2, BindsTo.of_looks fun M => ?_⟩
    rw [h3]
    exact looks_items X lT oT (.of_pure h4)
/-! ### deals -/
def eltA : Ex := .bi 1 [.var 2]
def eltB : Ex := .bi 1 [.bi 4 [.var 2]]
def stpA (mu : Int) : Ex := .bin 4 (.bi 4 [.bin 0 (.bin 2 (.var 4) (.con (.int mu))) (.bin 4 (.bi 4 [.var 2]) (.con (.int 2147483629)))]) (.con (.int 2147483647))
def stpB (mu ad : Int) : Ex := .bin 4 (.bi 4 [.bin 0 (.bin 0 (.bin 2 (.var 4) (.con (.int mu))) (.bin 4 (.bi 4 [.var 2]) (.con (.int 2147483629)))) (.con (.int ad))]) (.con (.int 2147483647))
section
variable {P : Pg} {b m i mu ad : Int} {c : Nat} {s : S}
theorem hmul (hmu : (decide (-(2 ^ 64) < mu) && decide (mu < 2 ^ 64)) = true) : mulM (.int m) (.int mu) = M.pure (.int (m * mu)) := by
  have ok : mulOk m mu = true := by unfold mulOk; rw [hmu, Bool.or_true]
  simp only [mulM, ok, if_true]
theorem h_stpA (hmu : (decide (-(2 ^ 64) < mu) && decide (mu < 2 ^ 64)) = true) : iE P 40 (stpA mu) [some .scr, some (.int b), some (.int i), some (.ref c), some (.int m), none] s = .ret (.ok (.int ((m * mu + i % 2147483629) % 2147483647)) s) := by
  have e : iE P 40 (stpA mu) [some .scr, some (.int b), some (.int i), some (.ref c), some (.int m), none] s = (M.bind (M.bind (M.bind (M.bind (mulM (.int m) (.int mu)) fun x => M.bind (M.pure (.int (i % 2147483629))) fun y => addOM (fun c => (P.ad c).map P.fn) x y) fun x => M.bind (M.pure []) fun xs => M.pure (x :: xs)) intM) fun x => M.bind (M.pure (.int 2147483647)) fun y => modM x y) s := rfl
  rw [e, hmul hmu]
  rfl
theorem h_stpB (hmu : (decide (-(2 ^ 64) < mu) && decide (mu < 2 ^ 64)) = true) : iE P 40 (stpB mu ad) [some .scr, some (.int b), some (.int i), some (.ref c), some (.int m), none] s = .ret (.ok (.int ((m * mu + i % 2147483629 + ad) % 2147483647)) s) := by
  have e : iE P 40 (stpB mu ad) [some .scr, some (.int b), some (.int i), some (.ref c), some (.int m), none] s = (M.bind (M.bind (M.bind (M.bind (M.bind (mulM (.int m) (.int mu)) fun x => M.bind (M.pure (.int (i % 2147483629))) fun y => addOM (fun c => (P.ad c).map P.fn) x y) fun x => M.bind (M.pure (.int ad)) fun y => addOM (fun c => (P.ad c).map P.fn) x y) fun x => M.bind (M.pure []) fun xs => M.pure (x :: xs)) intM) fun x => M.bind (M.pure (.int 2147483647)) fun y => modM x y) s := rfl
  rw [e, hmul hmu]
  rfl
end
section
variable {P : Pg} {G : Gd} {vs : List V} {H : Hp} {Q : VK} {E : XK} {hi c0 c1 mu ad : Int}
theorem sp_dealAA (h0 : (decide (0 ≤ hi) && decide (hi ≤ 63)) = true) (hc1 : (decide (-(2 ^ 64) < c1) && decide (c1 < 2 ^ 64)) = true) (hmu : (decide (-(2 ^ 64) < mu) && decide (mu < 2 ^ 64)) = true) (h : spD G dealM vs H Q E) : spD G (runF P ⟨2, 6, [], dealB eltA hi c0 c1 (stpA mu)⟩) vs H Q E := by
  rw [Bool.and_eq_true, decide_eq_true_eq, decide_eq_true_eq] at h0
  exact sp_deal (fun b s => e_deal (f := fun i => if i < 0 then -i else i) h0.1 h0.2 hc1 (fun i s => rfl) fun c m i s => h_stpA hmu) h
theorem sp_dealBB (h0 : (decide (0 ≤ hi) && decide (hi ≤ 63)) = true) (hc1 : (decide (-(2 ^ 64) < c1) && decide (c1 < 2 ^ 64)) = true) (hmu : (decide (-(2 ^ 64) < mu) && decide (mu < 2 ^ 64)) = true) (h : spD G dealM vs H Q E) : spD G (runF P ⟨2, 6, [], dealB eltB hi c0 c1 (stpB mu ad)⟩) vs H Q E := by
  rw [Bool.and_eq_true, decide_eq_true_eq, decide_eq_true_eq] at h0
  exact sp_deal (fun b s => e_deal (f := fun i => if i < 0 then -i else i) h0.1 h0.2 hc1 (fun i s => rfl) fun c m i s => h_stpB hmu) h
end
end Ev

/-! EwD: defs whose bodies are written out, for quicker runs. -/
namespace Ev
open PySem PySem.Spec PyProof.Rows L2
/-- an instance is made -/
def mMkI (P : Pg) (c : Nat) (ms : Sl → M (List D)) : Sl → M D := match P.ini c with
  | some f => mMk c (P.fn f) ms
  | none => fun _ => M.fail
structure Bd where
  np : Nat
  ns : Nat
  dfl : List D
  b : Pg → Sl → M Fl
  gc : Bool
def runB0 (P : Pg) (q : Bd) (ds : List D) : M D := match slots q.np q.ns q.dfl ds with
  | some σ => M.bind (M.noX (q.b P σ)) outF
  | none => M.fail
def runB (P : Pg) (q : Bd) : List D → M D := gcIf q.gc (runB0 P q)
def fnB (L : Lw) (ns : List Int) (prim : Nat → Option (List D → M D)) (tb : List Bd) : Nat → Nat → List D → M D
  | 0, _ => fun _ => M.fail
  | j + 1, i => match prim i with
    | some f => if j < 3 then fun _ => M.fail else f
    | none => match tb[i]? with
      | some q => runB (pgOf L ns (fnB L ns prim tb j)) q
      | none => fun _ => M.fail
structure BdOk (d : Df) (q : Bd) : Prop where
  np : q.np = d.ps.length
  ns : q.ns = d.N.length
  dfl : q.dfl = d.dD
  b : ∀ P, iSs (iS P 40 40) d.ir = q.b P
  gc : q.gc = d.gc
def BdAll : List Df → List Bd → Prop
  | [], [] => True
  | d :: ds, q :: qs => BdOk d q ∧ BdAll ds qs
  | _, _ => False
theorem BdAll.at : ∀ {ds : List Df} {qs : List Bd}, BdAll ds qs → ∀ i : Nat, (ds[i]? = none ∧ qs[i]? = none) ∨ ∃ d q, ds[i]? = some d ∧ qs[i]? = some q ∧ BdOk d q
  | [], [], _, i => .inl ⟨by simp, by simp⟩
  | [], _ :: _, h, _ => h.elim
  | _ :: _, [], h, _ => h.elim
  | d :: ds, q :: qs, h, 0 => .inr ⟨d, q, rfl, rfl, h.1⟩
  | d :: ds, q :: qs, h, i + 1 => by simpa using BdAll.at h.2 i
theorem runB0_eq {P : Pg} {d : Df} {q : Bd} (h : BdOk d q) : runB0 P q = runF P ⟨d.ps.length, d.N.length, d.dD, d.ir⟩ := by
  funext ds
  unfold runB0 runF
  dsimp only
  rw [h.np, h.ns, h.dfl, ← h.b P] <;> first | done | rfl | (cases slots d.ps.length d.N.length d.dD ds <;> rfl)
theorem runB_eq {P : Pg} {d : Df} {q : Bd} (h : BdOk d q) : runB P q = gcIf d.gc (runF P ⟨d.ps.length, d.N.length, d.dD, d.ir⟩) := by
  unfold runB
  rw [h.gc, runB0_eq h]
theorem fnB_eq {L : Lw} {ns : List Int} {prim : Nat → Option (List D → M D)} {tb : List Bd} (h : BdAll L.defs tb) : ∀ j, fnB L ns prim tb j = fnL L ns prim j
  | 0 => rfl
  | j + 1 => by
    funext i
    have ih := fnB_eq (ns := ns) (prim := prim) h j
    unfold fnB fnL
    cases prim i with
    | some f => rfl
    | none =>
      dsimp only
      rcases h.at i with ⟨e1, e2⟩ | ⟨d, q, e1, e2, ok⟩
      · rw [e1, e2]
      · rw [e1, e2]
        dsimp only
        rw [ih, runB_eq ok]
/-! ### answers that are known -/
def oBeq : Option O → Option O → Bool
  | some x, some y => O.beq x y
  | none, none => true
  | _, _ => false
theorem oBeq_eq {a b : Option O} (h : oBeq a b = true) : a = b := by
  cases a <;> cases b <;> first | rfl | (cases h; done) | (rw [O.beq_eq (show O.beq _ _ = true from h)])
def Tr.beq : Tr → Tr → Bool
  | .nil, .nil => true
  | .node a l r, .node b l' r' => oBeq a b && (Tr.beq l l' && Tr.beq r r')
  | _, _ => false
theorem Tr.beq_eq : ∀ {a b : Tr}, Tr.beq a b = true → a = b
  | .nil, .nil, _ => rfl
  | .nil, .node _ _ _, h => by cases h
  | .node _ _ _, .nil, h => by cases h
  | .node a l r, .node b l' r', h => by
    rw [Tr.beq, Bool.and_eq_true, Bool.and_eq_true] at h
    obtain ⟨h1, h2, h3⟩ := h
    rw [Tr.beq_eq h2, Tr.beq_eq h3, oBeq_eq h1]
def S.beq (a b : S) : Bool := Nat.beq a.n b.n && Tr.beq a.tr b.tr
theorem S.beq_eq {a b : S} (h : S.beq a b = true) : a = b := by
  rw [S.beq, Bool.and_eq_true] at h
  have h1 := Nat.eq_of_beq_eq_true h.1
  have h2 := Tr.beq_eq h.2
  cases a
  cases b
  simp only at h1 h2
  subst h1 h2
  rfl
structure En where
  i : Nat
  ds : List D
  s : S
  v : D
  s' : S
def lookE : List En → Nat → List D → S → Option (D × S)
  | [], _, _, _ => none
  | e :: r, i, ds, s => if (Nat.beq e.i i && (D.beqs e.ds ds && S.beq e.s s)) = true then some (e.v, e.s') else lookE r i ds s
def fnO (es : List En) (fn : Nat → List D → M D) : Nat → List D → M D := fun i ds s => match lookE es i ds s with
  | some p => .ret (.ok p.1 p.2)
  | none => fn i ds s
def EnAll (fn : Nat → List D → M D) : List En → Prop
  | [] => True
  | e :: r => fn e.i e.ds e.s = .ret (.ok e.v e.s') ∧ EnAll fn r
theorem lookE_ok {fn : Nat → List D → M D} : ∀ {es : List En}, EnAll fn es → ∀ {i : Nat} {ds : List D} {s : S} {p : D × S}, lookE es i ds s = some p → fn i ds s = .ret (.ok p.1 p.2)
  | [], _, _, _, _, _, h => by cases h
  | e :: r, hh, i, ds, s, p, h => by
    unfold lookE at h
    split at h
    · rename_i hc
      simp only [Bool.and_eq_true] at hc
      obtain ⟨h1, h2, h3⟩ := hc
      cases h
      have e1 := Nat.eq_of_beq_eq_true h1
      have e2 := D.beqs_eq _ _ h2
      have e3 := S.beq_eq h3
      subst e1 e2 e3
      exact hh.1
    · exact lookE_ok hh.2 h
theorem fnO_eq {es : List En} {fn : Nat → List D → M D} (h : EnAll fn es) : fnO es fn = fn := by
  funext i ds s
  unfold fnO
  cases e : lookE es i ds s with
  | none => rfl
  | some p => exact (lookE_ok h e).symm
theorem runs_of {L : Lw} {ns : List Int} {prim : Nat → Option (List D → M D)} {tb : List Bd} {es : List En} {J : Nat} {d : Df} {q : Bd} (h : BdAll L.defs tb) (hq : BdOk d q) (h1 : d.ps.length = 1) (h2 : d.dD = []) (h3 : d.gc = false) (he : EnAll (fnB L ns prim tb J) es)
    (e : (runB (pgOf L ns (fnO es (fnB L ns prim tb J))) q [.scr] S.empty).allB isT = true) : wp (runF (pgOf L ns (fnL L ns prim J)) ⟨1, d.N.length, [], d.ir⟩ [.scr]) S.empty (fun v _ => v = .bl true) fun _ _ => False := by
  rw [fnO_eq he, fnB_eq h, runB_eq hq, h1, h2, h3] at e
  exact run_ok e
end Ev

/-! EwS: plain reasoning about what a text's defs do: one rule for each way of putting pieces together. -/
namespace Ev
open PySem PySem.Spec PyProof.Rows L2
/-- every way ends well, nothing is raised -/
def wq {α : Type} (m : M α) (s : S) (Q : α → S → Prop) : Prop := wp m s Q fun _ _ => False
section
variable {α β : Type} {s : S} {σ : Sl}
theorem wq_mono {m : M α} {Q Q' : α → S → Prop} (h : wq m s Q) (k : ∀ a s', Q a s' → Q' a s') : wq m s Q' := wp_mono h k fun _ _ z => z
theorem wq_bind {m : M α} {f : α → M β} {Q : β → S → Prop} (h : wq m s fun a s' => wq (f a) s' Q) : wq (M.bind m f) s Q := wp_bind.mpr h
theorem wq_pure {a : α} {Q : α → S → Prop} (h : Q a s) : wq (M.pure a) s Q := h
theorem wq_new {o : O} {Q : Nat → S → Prop} (h : Q s.n (s.new o)) : wq (M.new o) s Q := h
theorem wq_read {a : Nat} {o : O} {Q : O → S → Prop} (e : s.get a = some o) (h : Q o s) : wq (M.read a) s Q := wp_read.mpr ⟨o, e, h⟩
theorem wq_write {a : Nat} {o u : O} {Q : Unit → S → Prop} (e : s.get a = some u) (l : u.isL = false) (h : Q () (s.set a o)) : wq (M.write a o) s Q := wp_write.mpr ⟨⟨u, e, l⟩, h⟩
theorem wq_opt {o : Option α} {a : α} {Q : α → S → Prop} (e : o = some a) (h : Q a s) : wq (M.ofOpt o) s Q := wp_opt.mpr ⟨a, e, h⟩
theorem wq_draw {n : Nat} {Q : Nat → S → Prop} (h : ∀ i, i < n → Q i s) : wq (M.draw n) s Q := wp_draw.mpr h
theorem wq_when {b : Bool} {m : M α} {Q : α → S → Prop} (e : b = true) (h : wq m s Q) : wq (M.when b m) s Q := by
  unfold M.when
  rw [if_pos e]
  exact h
theorem wq_inS {m : M α} {f : α → M Fl} {Q : Fl → S → Prop} (h : wq m s fun a s' => wq (f a) s' Q) : wq (M.inS σ m f) s Q := by
  unfold wq wp M.inS at *
  rw [T.all_bind]
  refine T.All.mono (fun o z => ?_) h
  cases o with
  | ok a s' => exact z
  | exc x s' => exact z.elim
  | fail => exact z
theorem wq_noX {m : M α} {Q : α → S → Prop} (h : wq m s Q) : wq (M.noX m) s Q := by
  unfold wq wp M.noX at *
  rw [T.all_bind]
  refine T.All.mono (fun o z => ?_) h
  cases o with
  | ok a s' => exact z
  | exc x s' => exact z.elim
  | fail => exact z
/-! ### tests -/
def kB (T F : S → Prop) : D → S → Prop := fun d s => match d with
  | .bl b => if b = true then T s else F s
  | _ => False
def kT (T F : S → Prop) : Bool → S → Prop := fun b s => if b = true then T s else F s
theorem kB_t {T F : S → Prop} (h : T s) : kB T F (.bl true) s := h
theorem kB_f {T F : S → Prop} (h : F s) : kB T F (.bl false) s := by show (if false = true then T s else F s); rw [if_neg Bool.false_ne_true]; exact h
theorem kB_b {T F : S → Prop} {b : Bool} (ht : b = true → T s) (hf : b = false → F s) : kB T F (.bl b) s := by
  cases b with
  | true => exact kB_t (ht rfl)
  | false => exact kB_f (hf rfl)
theorem kT_t {T F : S → Prop} (h : T s) : kT T F true s := h
theorem kT_f {T F : S → Prop} (h : F s) : kT T F false s := by show (if false = true then T s else F s); rw [if_neg Bool.false_ne_true]; exact h
theorem kT_b {T F : S → Prop} {b : Bool} (ht : b = true → T s) (hf : b = false → F s) : kT T F b s := by
  cases b with
  | true => exact kT_t (ht rfl)
  | false => exact kT_f (hf rfl)
/-! ### expressions -/
theorem wq_m2 {ma mb : Sl → M D} {op : D → D → M D} {Q : D → S → Prop} (h : wq (ma σ) s fun x s1 => wq (mb σ) s1 fun y s2 => wq (op x y) s2 Q) : wq (m2 ma mb op σ) s Q := wq_bind (wq_mono h fun _ _ z => wq_bind z)
theorem wq_m1 {ma : Sl → M D} {op : D → M D} {Q : D → S → Prop} (h : wq (ma σ) s fun x s1 => wq (op x) s1 Q) : wq (m1 ma op σ) s Q := wq_bind h
theorem wq_mA {ms : Sl → M (List D)} {op : List D → M D} {Q : D → S → Prop} (h : wq (ms σ) s fun x s1 => wq (op x) s1 Q) : wq (mA ms op σ) s Q := wq_bind h
theorem wq_var {i : Nat} {d : D} {Q : D → S → Prop} (e : σ[i]?.join = some d) (h : Q d s) : wq (mVar i σ) s Q := wq_opt e h
theorem wq_C {d : D} {Q : D → S → Prop} (h : Q d s) : wq (mC d σ) s Q := h
theorem wq_nil {Q : List D → S → Prop} (h : Q [] s) : wq (mNil σ) s Q := h
theorem wq_cons {ma : Sl → M D} {mr : Sl → M (List D)} {Q : List D → S → Prop} (h : wq (ma σ) s fun x s1 => wq (mr σ) s1 fun xs s2 => Q (x :: xs) s2) : wq (mCons ma mr σ) s Q := wq_bind (wq_mono h fun _ _ z => wq_bind z)
theorem wq_star {ma : Sl → M D} {mr : Sl → M (List D)} {Q : List D → S → Prop} (h : wq (ma σ) s fun x s1 => wq (M.seq x) s1 fun ds s2 => wq (mr σ) s2 fun xs s3 => Q (ds ++ xs) s3) : wq (mStar ma mr σ) s Q := wq_bind (wq_mono h fun _ _ z => wq_bind (wq_mono z fun _ _ y => wq_bind y))
theorem wq_and {ma mb : Sl → M Bool} {Q : Bool → S → Prop} (h : wq (ma σ) s (kT (fun s1 => wq (mb σ) s1 Q) fun s1 => Q false s1)) : wq (mAnd ma mb σ) s Q := wq_bind (wq_mono h fun b s1 z => by
  cases b with
  | true => exact z
  | false => exact z)
theorem wq_or {ma mb : Sl → M Bool} {Q : Bool → S → Prop} (h : wq (ma σ) s (kT (fun s1 => Q true s1) fun s1 => wq (mb σ) s1 Q)) : wq (mOr ma mb σ) s Q := wq_bind (wq_mono h fun b s1 z => by
  cases b with
  | true => exact z
  | false => exact z)
theorem wq_not {ma : Sl → M Bool} {Q : Bool → S → Prop} (h : wq (ma σ) s fun b s1 => Q (!b) s1) : wq (mNot ma σ) s Q := wq_bind h
def kV (Q : Bool → S → Prop) : D → S → Prop := fun d s => match d with
  | .bl b => Q b s
  | _ => False
theorem kV_b {Q : Bool → S → Prop} {b : Bool} (h : Q b s) : kV Q (.bl b) s := h
theorem wq_bool {ma : Sl → M D} {Q : Bool → S → Prop} (h : wq (ma σ) s (kV Q)) : wq (mBool ma σ) s Q := wq_bind (wq_mono h fun d s1 z => by
  cases d with
  | bl b => exact z
  | _ => exact z.elim)
theorem wq_true {Q : Bool → S → Prop} (h : Q true s) : wq ((fun _ : Sl => M.pure true) σ) s Q := h
theorem wq_if {mt : Sl → M Bool} {ma mb : Sl → M D} {Q : D → S → Prop} (h : wq (mt σ) s (kT (fun s1 => wq (ma σ) s1 Q) fun s1 => wq (mb σ) s1 Q)) : wq (mIf mt ma mb σ) s Q := wq_bind (wq_mono h fun b s1 z => by
  cases b with
  | true => exact z
  | false => exact z)
theorem wq_ifC {mt : Sl → M Bool} {a b : D} {Q : D → S → Prop} (h : wq (mt σ) s fun c s1 => Q (bif c then a else b) s1) : wq (mIf mt (mC a) (mC b) σ) s Q := wq_bind (wq_mono h fun c s1 z => by
  cases c with
  | true => exact z
  | false => exact z)
theorem wq_andP {ma mb : Sl → M Bool} {x y : Bool} {Q : Bool → S → Prop} (h1 : wq (ma σ) s fun b s1 => b = x ∧ s1 = s) (h2 : x = true → wq (mb σ) s fun b s1 => b = y ∧ s1 = s) (q : Q (x && y) s) : wq (mAnd ma mb σ) s Q := wq_and (wq_mono h1 fun b s1 ⟨e, e'⟩ => by
  subst e e'
  cases b with
  | true => exact wq_mono (h2 rfl) fun b s1 ⟨e, e'⟩ => by subst e e'; exact q
  | false => exact q)
theorem wq_orP {ma mb : Sl → M Bool} {x y : Bool} {Q : Bool → S → Prop} (h1 : wq (ma σ) s fun b s1 => b = x ∧ s1 = s) (h2 : x = false → wq (mb σ) s fun b s1 => b = y ∧ s1 = s) (q : Q (x || y) s) : wq (mOr ma mb σ) s Q := wq_or (wq_mono h1 fun b s1 ⟨e, e'⟩ => by
  subst e e'
  cases b with
  | true => exact q
  | false => exact wq_mono (h2 rfl) fun b s1 ⟨e, e'⟩ => by subst e e'; exact q)
theorem wq_andV {ma mb : Sl → M D} {Q : D → S → Prop} (h : wq (ma σ) s (kB (fun s1 => wq (mb σ) s1 Q) fun s1 => Q (.bl false) s1)) : wq (mAndV ma mb σ) s Q := wq_bind (wq_mono h fun d s1 z => by
  cases d with
  | bl b => cases b <;> exact z
  | _ => exact z.elim)
theorem wq_orV {ma mb : Sl → M D} {Q : D → S → Prop} (h : wq (ma σ) s (kB (fun s1 => Q (.bl true) s1) fun s1 => wq (mb σ) s1 Q)) : wq (mOrV ma mb σ) s Q := wq_bind (wq_mono h fun d s1 z => by
  cases d with
  | bl b => cases b <;> exact z
  | _ => exact z.elim)
theorem wq_notV {ma : Sl → M D} {Q : D → S → Prop} (h : wq (ma σ) s (kV fun b s1 => Q (.bl (!b)) s1)) : wq (mNotV ma σ) s Q := wq_bind (wq_mono h fun d s1 z => by
  cases d with
  | bl b => exact z
  | _ => exact z.elim)
theorem wq_chain {ma mb mc : Sl → M D} {op op' : D → D → M D} {Q : D → S → Prop} (h : wq (ma σ) s fun x s1 => wq (mb σ) s1 fun y s2 => wq (op x y) s2 (kB (fun s3 => wq (mc σ) s3 fun z s4 => wq (op' y z) s4 Q) fun s3 => Q (.bl false) s3)) : wq (mChain ma mb mc op op' σ) s Q :=
  wq_bind (wq_mono h fun _ _ z => wq_bind (wq_mono z fun _ _ y => wq_bind (wq_mono y fun d s1 z => by
    cases d with
    | bl b =>
      cases b with
      | true => exact wq_bind z
      | false => exact z
    | _ => exact z.elim)))
/-! ### statements -/
def kS (g : Sl → M Fl) (Q : Fl → S → Prop) : Fl → S → Prop := fun f s => match f with
  | .nx σ' => wq (g σ') s Q
  | o => Q o s
theorem kS_nx {g : Sl → M Fl} {Q : Fl → S → Prop} (h : wq (g σ) s Q) : kS g Q (.nx σ) s := h
theorem kS_rt {g : Sl → M Fl} {d : D} {Q : Fl → S → Prop} (h : Q (.rt d) s) : kS g Q (.rt d) s := h
theorem kS_ct {g : Sl → M Fl} {Q : Fl → S → Prop} (h : Q (.ct σ) s) : kS g Q (.ct σ) s := h
theorem kS_bk {g : Sl → M Fl} {Q : Fl → S → Prop} (h : Q (.bk σ) s) : kS g Q (.bk σ) s := h
theorem wq_seq {f g : Sl → M Fl} {Q : Fl → S → Prop} (h : wq (f σ) s (kS g Q)) : wq (gSeq f g σ) s Q := wq_bind (wq_mono h fun o s1 z => by cases o <;> exact z)
theorem wq_next {Q : Fl → S → Prop} (h : Q (.nx σ) s) : wq (gNext σ) s Q := h
theorem wq_brk {Q : Fl → S → Prop} (h : Q (.bk σ) s) : wq (gBrk σ) s Q := h
theorem wq_cnt {Q : Fl → S → Prop} (h : Q (.ct σ) s) : wq (gCnt σ) s Q := h
theorem wq_expr {me : Sl → M D} {Q : Fl → S → Prop} (h : wq (me σ) s fun _ s1 => Q (.nx σ) s1) : wq (gExpr me σ) s Q := wq_inS h
theorem wq_ret {me : Sl → M D} {Q : Fl → S → Prop} (h : wq (me σ) s fun d s1 => Q (.rt d) s1) : wq (gRet me σ) s Q := wq_inS h
theorem wq_retN {Q : Fl → S → Prop} (h : Q (.rt .non) s) : wq (gRetN σ) s Q := h
theorem wq_gif {mt : Sl → M Bool} {f g : Sl → M Fl} {Q : Fl → S → Prop} (h : wq (mt σ) s (kT (fun s1 => wq (f σ) s1 Q) fun s1 => wq (g σ) s1 Q)) : wq (gIf mt f g σ) s Q := wq_inS (wq_mono h fun b s1 z => by
  cases b with
  | true => exact z
  | false => exact z)
/-- where the text would raise -/
theorem wq_gifF {mt : Sl → M Bool} {g : Sl → M Fl} {Q : Fl → S → Prop} (h : wq (mt σ) s fun b s1 => b = false ∧ wq (g σ) s1 Q) : wq (gIf mt (gSeq (fun _ => M.fail) gNext) g σ) s Q := wq_gif (wq_mono h fun b s1 ⟨e, z⟩ => by
  subst e
  exact kT_f z)
theorem wq_asg {me : Sl → M D} {t : Tg} {Q : Fl → S → Prop} (h : wq (me σ) s fun d s1 => wq (t d σ) s1 fun σ' s2 => Q (.nx σ') s2) : wq (gAsg me t σ) s Q := wq_inS (wq_bind (wq_mono h fun _ _ z => wq_noX z))
theorem wq_gN {i : Nat} {d : D} {Q : Sl → S → Prop} (h : Q (σ.set i (some d)) s) : wq (gN i d σ) s Q := h
theorem wq_gAttr {pf : Nat → Bool} {f : Cs} {mo : Sl → M D} {d : D} {Q : Sl → S → Prop} (h : wq (mo σ) s fun x s1 => wq (setFM pf f x d) s1 fun _ s2 => Q σ s2) : wq (gAttr pf f mo d σ) s Q := wq_noX (wq_bind (wq_mono h fun _ _ z => wq_bind z))
theorem wq_gsNil {Q : Sl → S → Prop} (h : Q σ s) : wq (gsNil [] σ) s Q := h
theorem wq_gsCons {t : Tg} {u : Tgs} {d : D} {ds : List D} {Q : Sl → S → Prop} (h : wq (t d σ) s fun σ1 s1 => wq (u ds σ1) s1 Q) : wq (gsCons t u (d :: ds) σ) s Q := wq_bind h
theorem wq_gUn {n : Nat} {t : Tgs} {d : D} {Q : Sl → S → Prop} (h : wq (M.seq d) s fun ds s1 => ds.length = n ∧ wq (t ds σ) s1 Q) : wq (gUn n t d σ) s Q := wq_bind (wq_mono h fun ds s1 z => wq_when (decide_eq_true z.1) z.2)
/-! ### calls -/
def kO (Q : D → S → Prop) : Fl → S → Prop := fun f s => match f with
  | .rt d => Q d s
  | .nx _ => Q .non s
  | _ => False
theorem kO_rt {d : D} {Q : D → S → Prop} (h : Q d s) : kO Q (.rt d) s := h
theorem kO_nx {Q : D → S → Prop} (h : Q .non s) : kO Q (.nx σ) s := h
theorem wq_call {L : Lw} {ns : List Int} {prim : Nat → Option (List D → M D)} {tb : List Bd} {j i : Nat} {q : Bd} {ds : List D} {Q : D → S → Prop} (hp : prim i = none) (hq : tb[i]? = some q) (hg : q.gc = false) (hs : slots q.np q.ns q.dfl ds = some σ)
    (h : wq (q.b (pgOf L ns (fnB L ns prim tb j)) σ) s (kO Q)) : wq (fnB L ns prim tb (j + 1) i ds) s Q := by
  unfold fnB
  rw [hp]
  dsimp only
  rw [hq]
  dsimp only
  unfold runB runB0
  rw [hg]
  unfold gcIf
  dsimp only
  rw [hs]
  refine wq_bind (wq_noX (wq_mono h fun f s1 z => ?_))
  cases f with
  | rt d => exact z
  | nx σ' => exact z
  | _ => exact z.elim
/-- the same, not to be opened -/
@[irreducible] def fnI (L : Lw) (ns : List Int) (prim : Nat → Option (List D → M D)) (tb : List Bd) (j : Nat) : Nat → List D → M D := fnB L ns prim tb j
theorem fnI_eq {L : Lw} {ns : List Int} {prim : Nat → Option (List D → M D)} {tb : List Bd} {j : Nat} : fnI L ns prim tb j = fnB L ns prim tb j := by
  delta fnI
  rfl
theorem wq_fnB {L : Lw} {ns : List Int} {prim : Nat → Option (List D → M D)} {tb : List Bd} {j i np nv : Nat} {dfl ds : List D} {c : Pg → Sl → M Fl} {Q : D → S → Prop} (hp : prim i = none) (hq : tb[i]? = some ⟨np, nv, dfl, c, false⟩) (hs : slots np nv dfl ds = some σ)
    (h : wq (c (pgOf L ns (fnI L ns prim tb j)) σ) s (kO Q)) : wq (fnI L ns prim tb (j + 1) i ds) s Q := by
  rw [fnI_eq] at h ⊢
  exact wq_call hp hq rfl hs h
/-! ### what stands -/
theorem Old.rfl {s : S} : Old s s := ⟨Nat.le_refl _, fun _ _ => _root_.rfl⟩
theorem Old.get {s s' : S} (h : Old s s') {a : Nat} {o : O} (e : s.get a = some o) : s'.get a = some o := (h.at_ a (S.get_lt e)).trans e
theorem Old.newer {s s' : S} (h : Old s s') (o : O) : Old s (s'.new o) := h.trans (Old.new s' o)
theorem Old.put {s s' : S} (h : Old s s') {a : Nat} (l : s.n ≤ a) (o : O) : Old s (s'.set a o) := ⟨h.n, fun b hb => by rw [S.get_set_ne (by omega)]; exact h.at_ b hb⟩
/-- all but one thing stand -/
structure OldX (n : Nat) (s s' : S) : Prop where
  n_ : s.n ≤ s'.n
  at_ : ∀ a, a < s.n → a ≠ n → s'.get a = s.get a
theorem OldX.get {n : Nat} {s s' : S} (h : OldX n s s') {a : Nat} {o : O} (e : s.get a = some o) (k : a ≠ n) : s'.get a = some o := (h.at_ a (S.get_lt e) k).trans e
theorem Old.x {s s' : S} (h : Old s s') (n : Nat) : OldX n s s' := ⟨h.n, fun a l _ => h.at_ a l⟩
theorem OldX.set {n : Nat} {s : S} {o : O} : OldX n s (s.set n o) := ⟨Nat.le_refl _, fun a _ k => S.get_set_ne k⟩
theorem OldX.trans {n : Nat} {s1 s2 s3 : S} (a : OldX n s1 s2) (b : OldX n s2 s3) : OldX n s1 s3 := ⟨Nat.le_trans a.n_ b.n_, fun x h k => (b.at_ x (Nat.lt_of_lt_of_le h a.n_) k).trans (a.at_ x h k)⟩
theorem wq_of_eq {m m' : M α} {Q : α → S → Prop} (e : m s = m' s) (h : wq m' s Q) : wq m s Q := by
  unfold wq wp at *
  rw [e]
  exact h
/-! ### list comprehensions -/
theorem loopC_stop {it : ItD} {p : Pat} {mt : Sl → M Bool} {me : Sl → M D} {n m i : Nat} (e : it.at s i = some none) : loopC it p mt me n σ (m + 1) i s = M.pure (.ref n) s := by
  simp only [loopC, e]
  rfl
theorem loopC_go {it : ItD} {p : Pat} {mt : Sl → M Bool} {me : Sl → M D} {n m i : Nat} {d : D} {σ2 : Sl} (e : it.at s i = some (some d)) (h : patM s p d σ = some σ2) : loopC it p mt me n σ (m + 1) i s = M.bind (M.noX (mt σ2)) (fun b => if b = true then M.bind (M.noX (me σ2)) (fun y => M.bind (M.read n) fun
          | .lst acc => M.when (decide (acc.length < 1000000)) (M.bind (M.write n (.lst (acc ++ [y]))) fun _ => loopC it p mt me n σ m (i + 1))
          | _ => M.fail) else loopC it p mt me n σ m (i + 1)) s := by
  simp only [loopC, e, h] <;> rfl
theorem loopC_ok {it : ItD} {p : Pat} {mt : Sl → M Bool} {me : Sl → M D} {n : Nat} {items : List D} {Iv : Nat → List D → S → Prop} {Q : D → S → Prop} {s1 : S} (hn : s1.n = n)
    (hat : ∀ s', Old s1 s' → ∀ i, it.at s' i = some items[i]?)
    (step : ∀ i d acc s', items[i]? = some d → Old s1 s' → s'.get n = some (.lst acc) → Iv i acc s' → ∃ σ2, patM s' p d σ = some σ2 ∧ wq (mt σ2) s' fun b s2 => Old s' s2 ∧ (b = true → wq (me σ2) s2 fun y s3 => Old s2 s3 ∧ acc.length < 1000000 ∧ ∀ s4, OldX n s3 s4 → s4.get n = some (.lst (acc ++ [y])) → Iv (i + 1) (acc ++ [y]) s4) ∧ (b = false → Iv (i + 1) acc s2))
    (fin : ∀ acc s', Old s1 s' → s'.get n = some (.lst acc) → Iv items.length acc s' → Q (.ref n) s') :
    ∀ (m i : Nat) (acc : List D) (s' : S), m + i = items.length + 1 → i ≤ items.length → Old s1 s' → s'.get n = some (.lst acc) → Iv i acc s' → wq (loopC it p mt me n σ m i) s' Q
  | 0, i, acc, s', hm, hi, _, _, _ => by omega
  | m + 1, i, acc, s', hm, hi, ho, hg, I => by
    have e := hat s' ho i
    cases hd : items[i]? with
    | none =>
      rw [hd] at e
      refine wq_of_eq (loopC_stop e) (wq_pure ?_)
      have : i = items.length := by
        have := List.getElem?_eq_none_iff.mp hd
        omega
      subst this
      exact fin acc s' ho hg I
    | some d =>
      rw [hd] at e
      obtain ⟨σ2, hp, w⟩ := step i d acc s' hd ho hg I
      have hi2 : i < items.length := (List.getElem?_eq_some_iff.mp hd).1
      refine wq_of_eq (loopC_go e hp) (wq_bind (wq_noX (wq_mono w fun b s2 ⟨o2, ht, hf⟩ => ?_)))
      cases b with
      | false =>
        simp only [Bool.false_eq_true, if_false]
        exact loopC_ok hn hat step fin m (i + 1) acc s2 (by omega) (by omega) (ho.trans o2) (o2.get hg) (hf rfl)
      | true =>
        simp only [if_true]
        refine wq_bind (wq_noX (wq_mono (ht rfl) fun y s3 ⟨o3, hl, hI⟩ => ?_))
        have g3 := o3.get (o2.get hg)
        refine wq_bind (wq_read g3 ?_)
        dsimp only
        have g4 : (s3.set n (.lst (acc ++ [y]))).get n = some (.lst (acc ++ [y])) := S.get_set_same (S.get_lt g3)
        refine wq_when (decide_eq_true hl) (wq_bind (wq_write g3 rfl ?_))
        exact loopC_ok hn hat step fin m (i + 1) (acc ++ [y]) _ (by omega) (by omega) (((ho.trans o2).trans o3).put (by omega) _) g4 (hI _ OldX.set g4)
/-- a list comprehension by an invariant -/
theorem wq_lc {mi : Sl → M ItD} {p : Pat} {mt : Sl → M Bool} {me : Sl → M D} {vs : List Nat} {Q : D → S → Prop} (h : wq (mi σ) s fun it s1 => ∃ (items : List D) (Iv : Nat → List D → S → Prop), it.len (s1.new (.lst [])) = items.length ∧
    (∀ s', Old s1 s' → ∀ i, it.at s' i = some items[i]?) ∧ Iv 0 [] (s1.new (.lst [])) ∧
    (∀ i d acc s', items[i]? = some d → Old s1 s' → s'.get s1.n = some (.lst acc) → Iv i acc s' → ∃ σ2, patM s' p d (wipeD σ vs) = some σ2 ∧ wq (mt σ2) s' fun b s2 => Old s' s2 ∧ (b = true → wq (me σ2) s2 fun y s3 => Old s2 s3 ∧ acc.length < 1000000 ∧ ∀ s4, OldX s1.n s3 s4 → s4.get s1.n = some (.lst (acc ++ [y])) → Iv (i + 1) (acc ++ [y]) s4) ∧ (b = false → Iv (i + 1) acc s2)) ∧
    ∀ acc s', Old s1 s' → s'.get s1.n = some (.lst acc) → Iv items.length acc s' → Q (.ref s1.n) s') : wq (mLc mi p mt me vs σ) s Q := by
  refine wq_bind (wq_mono h fun it s1 ⟨items, Iv, hl, hat, h0, step, fin⟩ => wq_bind (wq_new ?_))
  show wq (fun s => loopC it p mt me s1.n (wipeD σ vs) (it.len s + 1) 0 s) (s1.new (.lst [])) Q
  refine wq_of_eq (m' := loopC it p mt me s1.n (wipeD σ vs) (it.len (s1.new (.lst [])) + 1) 0) rfl ?_
  rw [hl]
  exact loopC_ok (s1 := s1) rfl hat step fin _ 0 [] _ (by omega) (by omega) (Old.new _ _) S.get_new_same h0
/-- where each turn is plain -/
theorem wq_lcP {mi : Sl → M ItD} {p : Pat} {mt : Sl → M Bool} {me : Sl → M D} {vs : List Nat} {Q : D → S → Prop} (t : D → Bool) (f : D → D) (h : wq (mi σ) s fun it s1 => ∃ items : List D, it.len (s1.new (.lst [])) = items.length ∧ items.length < 1000000 ∧
    (∀ s', Old s1 s' → ∀ i, it.at s' i = some items[i]?) ∧
    (∀ d s', d ∈ items → Old s1 s' → ∃ σ2, patM s' p d (wipeD σ vs) = some σ2 ∧ wq (mt σ2) s' fun b s2 => Old s' s2 ∧ b = t d ∧ (b = true → wq (me σ2) s2 fun y s3 => Old s2 s3 ∧ y = f d)) ∧
    ∀ s', Old s1 s' → s'.get s1.n = some (.lst ((items.filter t).map f)) → Q (.ref s1.n) s') : wq (mLc mi p mt me vs σ) s Q := by
  refine wq_lc (wq_mono h fun it s1 ⟨items, hl, hz, hat, step, fin⟩ => ⟨items, fun i acc _ => acc = ((items.take i).filter t).map f, hl, hat, rfl, fun i d acc s' hd ho hg hI => ?_, fun acc s' ho hg hI => ?_⟩)
  · obtain ⟨σ2, hp, w⟩ := step d s' (List.mem_of_getElem? hd) ho
    have tk : items.take (i + 1) = items.take i ++ [d] := by rw [List.take_succ, hd]; rfl
    refine ⟨σ2, hp, wq_mono w fun b s2 ⟨o2, hb, hm⟩ => ⟨o2, fun e => wq_mono (hm e) fun y s3 ⟨o3, hy⟩ => ⟨o3, ?_, fun s4 _ _ => ?_⟩, fun e => ?_⟩⟩
    · rw [show acc = _ from hI, List.length_map]
      have := List.length_filter_le t (items.take i)
      have := List.length_take_le i items
      have : (items.take i).length ≤ items.length := by rw [List.length_take]; omega
      omega
    · show acc ++ [y] = ((items.take (i + 1)).filter t).map f
      rw [tk, List.filter_append, List.map_append, ← show acc = _ from hI, hy]
      rw [e] at hb
      simp [List.filter, ← hb]
    · show acc = ((items.take (i + 1)).filter t).map f
      rw [tk, List.filter_append, List.map_append, ← show acc = _ from hI]
      rw [e] at hb
      simp [List.filter, ← hb]
  · have hI' : acc = ((items.take items.length).filter t).map f := hI
    rw [List.take_length] at hI'
    rw [hI'] at hg
    exact fin s' ho hg
inductive All2 (R : D → D → Prop) : List D → List D → Prop
  | nil : All2 R [] []
  | cons {d y : D} {ds ys : List D} : R d y → All2 R ds ys → All2 R (d :: ds) (y :: ys)
theorem All2.snoc {R : D → D → Prop} {d y : D} : ∀ {ds ys : List D}, All2 R ds ys → R d y → All2 R (ds ++ [d]) (ys ++ [y])
  | _, _, .nil, h => .cons h .nil
  | _, _, .cons a b, h => .cons a (b.snoc h)
theorem All2.mono {R R' : D → D → Prop} (k : ∀ d y, R d y → R' d y) : ∀ {ds ys : List D}, All2 R ds ys → All2 R' ds ys
  | _, _, .nil => .nil
  | _, _, .cons a b => .cons (k _ _ a) (b.mono k)
theorem All2.length {R : D → D → Prop} : ∀ {ds ys : List D}, All2 R ds ys → ys.length = ds.length
  | _, _, .nil => rfl
  | _, _, .cons _ b => by rw [List.length_cons, List.length_cons, b.length]
theorem All2.at {R : D → D → Prop} : ∀ {ds ys : List D}, All2 R ds ys → ∀ {i : Nat} {d : D}, ds[i]? = some d → ∃ y, ys[i]? = some y ∧ R d y
  | _, _, .nil, i, d, h => by simp at h
  | _, _, .cons a b, 0, d, h => by simp at h; subst h; exact ⟨_, rfl, a⟩
  | _, _, .cons a b, i + 1, d, h => by simpa using b.at (by simpa using h)
/-- without a test, each turn's value by a relation that stands -/
theorem wq_lcR {mi : Sl → M ItD} {p : Pat} {me : Sl → M D} {vs : List Nat} {Q : D → S → Prop} (R : D → D → S → Prop) (h : wq (mi σ) s fun it s1 => ∃ items : List D, it.len (s1.new (.lst [])) = items.length ∧ items.length < 1000000 ∧
    (∀ s', Old s1 s' → ∀ i, it.at s' i = some items[i]?) ∧
    (∀ d y s' s'' acc, s'.get s1.n = some (.lst acc) → OldX s1.n s' s'' → R d y s' → R d y s'') ∧
    (∀ d s', d ∈ items → Old s1 s' → s1.n < s'.n → ∃ σ2, patM s' p d (wipeD σ vs) = some σ2 ∧ wq (me σ2) s' fun y s3 => Old s' s3 ∧ R d y s3) ∧
    ∀ ys s', Old s1 s' → s'.get s1.n = some (.lst ys) → All2 (fun d y => R d y s') items ys → Q (.ref s1.n) s') : wq (mLc mi p (fun _ => M.pure true) me vs σ) s Q := by
  refine wq_lc (wq_mono h fun it s1 ⟨items, hl, hz, hat, hR, step, fin⟩ => ⟨items, fun i acc s' => All2 (fun d y => R d y s') (items.take i) acc, hl, hat, .nil, fun i d acc s' hd ho hg hI => ?_, fun acc s' ho hg hI => ?_⟩)
  · obtain ⟨σ2, hp, w⟩ := step d s' (List.mem_of_getElem? hd) ho (S.get_lt hg)
    have tk : items.take (i + 1) = items.take i ++ [d] := by rw [List.take_succ, hd]; rfl
    refine ⟨σ2, hp, wq_pure ⟨.rfl, fun _ => wq_mono w fun y s3 ⟨o3, hy⟩ => ⟨o3, ?_, fun s4 o4 _ => ?_⟩, fun e => by cases e⟩⟩
    · have l := All2.length (show All2 (fun d y => R d y s') (items.take i) acc from hI)
      have : (items.take i).length ≤ items.length := by rw [List.length_take]; omega
      omega
    · show All2 (fun d y => R d y s4) (items.take (i + 1)) (acc ++ [y])
      rw [tk]
      exact ((show All2 (fun d y => R d y s') (items.take i) acc from hI).mono fun d y z => hR d y s' s4 _ hg ((o3.x _).trans o4) z).snoc (hR d y s3 s4 _ (o3.get hg) o4 hy)
  · have hI' : All2 (fun d y => R d y s') (items.take items.length) acc := hI
    rw [List.take_length] at hI'
    exact fin acc s' ho hg hI'
/-! ### for -/
def kL (N : Sl → S → Prop) (Q : Fl → S → Prop) : Fl → S → Prop := fun f s => match f with
  | .nx σ' => N σ' s
  | .ct σ' => N σ' s
  | .bk σ' => Q (.nx σ') s
  | .rt d => Q (.rt d) s
  | .xc _ _ => False
theorem kL_nx {N : Sl → S → Prop} {Q : Fl → S → Prop} (h : N σ s) : kL N Q (.nx σ) s := h
theorem kL_ct {N : Sl → S → Prop} {Q : Fl → S → Prop} (h : N σ s) : kL N Q (.ct σ) s := h
theorem kL_rt {N : Sl → S → Prop} {Q : Fl → S → Prop} {d : D} (h : Q (.rt d) s) : kL N Q (.rt d) s := h
theorem loopF_stop {it : ItD} {t : Tg} {body : Sl → M Fl} {m i : Nat} (e : it.at s i = some none) : loopF it t body (m + 1) i σ s = M.pure (.nx σ) s := by
  simp only [loopF, e]
  rfl
theorem loopF_go {it : ItD} {t : Tg} {body : Sl → M Fl} {m i : Nat} {d : D} (e : it.at s i = some (some d)) : loopF it t body (m + 1) i σ s = M.bind (M.noX (t d σ)) (fun σ1 => M.bind (body σ1) fun
      | .nx σ' => loopF it t body m (i + 1) σ'
      | .ct σ' => loopF it t body m (i + 1) σ'
      | .bk σ' => M.pure (.nx σ')
      | o => M.pure o) s := by
  simp only [loopF, e] <;> rfl
theorem loopF_ok {it : ItD} {t : Tg} {body : Sl → M Fl} {items : List D} {Iv : Nat → Sl → S → Prop} {Q : Fl → S → Prop}
    (hat : ∀ i σ' s', i ≤ items.length → Iv i σ' s' → it.at s' i = some items[i]?)
    (step : ∀ i d σ' s', items[i]? = some d → Iv i σ' s' → wq (t d σ') s' fun σ1 s2 => wq (body σ1) s2 (kL (Iv (i + 1)) Q))
    (fin : ∀ σ' s', Iv items.length σ' s' → Q (.nx σ') s') :
    ∀ (m i : Nat) (σ' : Sl) (s' : S), m + i = items.length + 1 → i ≤ items.length → Iv i σ' s' → wq (loopF it t body m i σ') s' Q
  | 0, i, σ', s', hm, hi, _ => by omega
  | m + 1, i, σ', s', hm, hi, I => by
    have e := hat i σ' s' hi I
    cases hd : items[i]? with
    | none =>
      rw [hd] at e
      refine wq_of_eq (loopF_stop e) (wq_pure ?_)
      have : i = items.length := by
        have := List.getElem?_eq_none_iff.mp hd
        omega
      subst this
      exact fin σ' s' I
    | some d =>
      rw [hd] at e
      have hi2 : i < items.length := (List.getElem?_eq_some_iff.mp hd).1
      refine wq_of_eq (loopF_go e) (wq_bind (wq_noX (wq_mono (step i d σ' s' hd I) fun σ1 s2 w => wq_bind (wq_mono w fun f s3 z => ?_))))
      cases f with
      | nx σ2 => exact loopF_ok hat step fin m (i + 1) σ2 s3 (by omega) (by omega) z
      | ct σ2 => exact loopF_ok hat step fin m (i + 1) σ2 s3 (by omega) (by omega) z
      | bk σ2 => exact z
      | rt d => exact z
      | xc _ _ => exact z.elim
theorem wq_for {mi : Sl → M ItD} {t : Tg} {body : Sl → M Fl} {Q : Fl → S → Prop} (h : wq (mi σ) s fun it s1 => ∃ (items : List D) (Iv : Nat → Sl → S → Prop), it.len s1 = items.length ∧ Iv 0 σ s1 ∧ (∀ i σ' s', i ≤ items.length → Iv i σ' s' → it.at s' i = some items[i]?) ∧
    (∀ i d σ' s', items[i]? = some d → Iv i σ' s' → wq (t d σ') s' fun σ1 s2 => wq (body σ1) s2 (kL (Iv (i + 1)) Q)) ∧ ∀ σ' s', Iv items.length σ' s' → Q (.nx σ') s') : wq (gFor mi t body σ) s Q := by
  refine wq_inS (wq_mono h fun it s1 ⟨items, Iv, hl, h0, hat, step, fin⟩ => ?_)
  refine wq_of_eq (m' := loopF it t body (it.len s1 + 1) 0 σ) rfl ?_
  rw [hl]
  exact loopF_ok hat step fin _ 0 σ s1 (by omega) (by omega) h0
/-! ### locks -/
theorem wq_lock0 {p : Path} {me : Sl → M D} {Q : D → S → Prop} (e : p σ s = none) (h : wq (me σ) s Q) : wq (mLock p me σ) s Q := wq_of_eq (by simp only [mLock, e]) h
theorem wq_lock1 {p : Path} {me : Sl → M D} {n : Nat} {xs : List D} {Q : D → S → Prop} (e : p σ s = some n) (g : s.get n = some (.lst xs)) (h : wq (me σ) s Q) : wq (mLock p me σ) s Q := wq_of_eq (by simp only [mLock, e, M.locked, g]) h
theorem wq_glock0 {p : Path} {g : Sl → M Fl} {Q : Fl → S → Prop} (e : p σ s = none) (h : wq (g σ) s Q) : wq (gLock p g σ) s Q := wq_of_eq (by simp only [gLock, e]) h
theorem wq_glock1 {p : Path} {g : Sl → M Fl} {n : Nat} {xs : List D} {Q : Fl → S → Prop} (e : p σ s = some n) (k : s.get n = some (.lst xs)) (h : wq (g σ) s Q) : wq (gLock p g σ) s Q := wq_of_eq (by simp only [gLock, e, k]) h
/-! ### what is walked -/
theorem at_lst {a : Nat} {xs : List D} (g : s.get a = some (.lst xs)) (i : Nat) : (ItD.lst a).at s i = some xs[i]? := by simp only [ItD.at, g]
theorem len_lst {a : Nat} {xs : List D} (g : s.get a = some (.lst xs)) : (ItD.lst a).len s = xs.length := by simp only [ItD.len, g]
def enumD (xs : List D) : List D := xs.zipIdx.map fun p => .tup [.int (p.2 : Nat), p.1]
theorem at_enL {a : Nat} {xs : List D} (g : s.get a = some (.lst xs)) (i : Nat) : (ItD.enL a).at s i = some (enumD xs)[i]? := by
  simp only [ItD.at, g, enumD, List.getElem?_map, List.getElem?_zipIdx]
  cases xs[i]? <;> simp
theorem len_enum (xs : List D) : (enumD xs).length = xs.length := by simp [enumD]
theorem len_enL {a : Nat} {xs : List D} (g : s.get a = some (.lst xs)) : (ItD.enL a).len s = (enumD xs).length := by simp only [ItD.len, g, len_enum]
def rngD (lo : Int) (n : Nat) : List D := (List.range n).map fun i => .int (lo + (i : Nat))
theorem at_rng {lo : Int} {n i : Nat} : (ItD.rng lo n).at s i = some (rngD lo n)[i]? := by
  simp only [ItD.at, rngD, List.getElem?_map]
  by_cases h : i < n
  · rw [if_pos h, List.getElem?_range h]
    rfl
  · rw [if_neg h, List.getElem?_eq_none (by simpa using h)]
    rfl
theorem len_rng {lo : Int} {n : Nat} : (rngD lo n).length = n := by simp [rngD]
def zipD (xs ys : List D) : List D := (xs.zip ys).map fun p => .tup [p.1, p.2]
theorem at_zipL {a b : Nat} {xs ys : List D} (g : s.get a = some (.lst xs)) (g' : s.get b = some (.lst ys)) (i : Nat) : (ItD.zipL a b).at s i = some (zipD xs ys)[i]? := by
  simp only [ItD.at, g, g', zipD, List.getElem?_map, List.zip, List.getElem?_zipWith]
  cases xs[i]? <;> cases ys[i]? <;> simp
end
end Ev

/-! EwT: plain reasoning, the pieces' own rules. -/
namespace Ev
open PySem PySem.Spec PyProof.Rows L2
section
variable {α β : Type} {s : S} {σ : Sl}
/-! ### what a thing is -/
inductive TyIs (s : S) : D → TyD → Prop
  | non : TyIs s .non (.bi 6)
  | bl {b : Bool} : TyIs s (.bl b) (.bi 1)
  | int {i : Int} : TyIs s (.int i) (.bi 0)
  | str {x : Cs} : TyIs s (.str x) (.bi 2)
  | tup {ds : List D} : TyIs s (.tup ds) (.bi 4)
  | lst {a : Nat} {ds : List D} : s.get a = some (.lst ds) → TyIs s (.ref a) (.bi 3)
  | ins {a c : Nat} {fs : List (Cs × D)} : s.get a = some (.ins c fs) → TyIs s (.ref a) (.own c)
theorem wq_ty {x : D} {t : TyD} {Q : TyD → S → Prop} (h : TyIs s x t) (q : Q t s) : wq (tyM x) s Q := by
  cases h with
  | lst g => exact wq_bind (wq_read g q)
  | ins g => exact wq_bind (wq_read g q)
  | _ => exact q
theorem wq_isiT {kit : TyD → D → Option Bool} {x : D} {t : TyD} {cs : List D} {b : Bool} {Q : D → S → Prop} (ht : TyIs s x t) (h1 : (!cs.isEmpty && cs.all fun d => (kit t d).isSome) = true) (h2 : kitAnyD kit t cs = some b) (h : Q (.bl b) s) : wq (isiM kit [x, .tup cs]) s Q :=
  wq_bind (wq_ty ht (wq_when h1 (wq_bind (wq_opt h2 h))))
theorem wq_isiC {kit : TyD → D → Option Bool} {x : D} {t : TyD} {c : Nat} {b : Bool} {Q : D → S → Prop} (ht : TyIs s x t) (h2 : kit t (.cls c) = some b) (h : Q (.bl b) s) : wq (isiM kit [x, .cls c]) s Q :=
  wq_bind (wq_ty ht (wq_bind (wq_opt h2 h)))
theorem wq_isiY {kit : TyD → D → Option Bool} {x : D} {t : TyD} {c : Nat} {b : Bool} {Q : D → S → Prop} (ht : TyIs s x t) (h2 : kit t (.ty c) = some b) (h : Q (.bl b) s) : wq (isiM kit [x, .ty c]) s Q :=
  wq_bind (wq_ty ht (wq_bind (wq_opt h2 h)))
inductive SeqIs (s : S) : D → List D → Prop
  | tup {ds : List D} : SeqIs s (.tup ds) ds
  | lst {a : Nat} {ds : List D} : s.get a = some (.lst ds) → SeqIs s (.ref a) ds
theorem SeqIs.old {s s' : S} {v : D} {ds : List D} (h : SeqIs s v ds) (o : Old s s') : SeqIs s' v ds := by
  cases h with
  | tup => exact .tup
  | lst g => exact .lst (o.get g)
theorem wq_seqv {v : D} {ds : List D} {Q : List D → S → Prop} (h : SeqIs s v ds) (q : Q ds s) : wq (M.seq v) s Q := by
  cases h with
  | tup => exact q
  | lst g => exact wq_bind (wq_bind (wq_read g q))
theorem wq_lst {a : Nat} {ds : List D} {Q : Nat × List D → S → Prop} (g : s.get a = some (.lst ds)) (q : Q (a, ds) s) : wq (M.lst (.ref a)) s Q := wq_bind (wq_read g q)
theorem wq_walk {v : D} {ds : List D} {Q : ItD → S → Prop} (h : SeqIs s v ds) (q : ∀ it : ItD, (∀ s', Old s s' → ∀ i, it.at s' i = some ds[i]?) → (∀ s', Old s s' → it.len s' = ds.length) → Q it s) : wq (walkM v) s Q := by
  cases h with
  | tup => exact q (.tup ds) (fun _ _ _ => rfl) fun _ _ => rfl
  | lst g => exact wq_bind (wq_read g (q (.lst _) (fun s' o i => at_lst (o.get g) i) fun s' o => len_lst (o.get g)))
theorem wq_any {me : Sl → M D} {Q : ItD → S → Prop} (h : wq (me σ) s fun v s1 => wq (walkM v) s1 Q) : wq (mAny me σ) s Q := wq_bind h
theorem wq_rng1 {me : Sl → M D} {Q : ItD → S → Prop} (h : wq (me σ) s fun v s1 => ∃ j : Nat, v = .int j ∧ j < 1000000 ∧ Q (.rng 0 j) s1) : wq (mRng1 me σ) s Q := wq_bind (wq_mono h fun v s1 ⟨j, e, hj, q⟩ => by
  subst e
  have hb : (decide (-(2 ^ 62) ≤ (j : Int)) && decide ((j : Int) < 2 ^ 62)) = true := by
    rw [Bool.and_eq_true, decide_eq_true_eq, decide_eq_true_eq]
    have h62 : (2 : Int) ^ 62 = 4611686018427387904 := by decide
    rw [h62]
    omega
  unfold rng1M
  dsimp only
  unfold M.when
  rw [if_pos hb, Int.toNat_natCast]
  exact wq_pure q)
theorem wq_lockV {i : Nat} {v : D} {ds : List D} {me : Sl → M D} {Q : D → S → Prop} (e : σ[i]?.join = some v) (hv : SeqIs s v ds) (h : wq (me σ) s Q) : wq (mLock (pathOf 0 [.var i]) me σ) s Q := by
  have e' : σ[i]? = some (some v) := by
    cases hx : σ[i]? with
    | none => rw [hx] at e; cases e
    | some o => rw [hx] at e; cases o with
      | none => cases e
      | some z => cases e; rfl
  cases hv with
  | tup => exact wq_lock0 (by simp only [pathOf, e']) h
  | lst g => exact wq_lock1 (by simp only [pathOf, e']) g h
theorem wq_glockV {i : Nat} {v : D} {ds : List D} {me : Sl → M Fl} {Q : Fl → S → Prop} (e : σ[i]?.join = some v) (hv : SeqIs s v ds) (h : wq (me σ) s Q) : wq (gLock (pathOf 0 [.var i]) me σ) s Q := by
  have e' : σ[i]? = some (some v) := by
    cases hx : σ[i]? with
    | none => rw [hx] at e; cases e
    | some o => rw [hx] at e; cases o with
      | none => cases e
      | some z => cases e; rfl
  cases hv with
  | tup => exact wq_glock0 (by simp only [pathOf, e']) h
  | lst g => exact wq_glock1 (by simp only [pathOf, e']) g h
theorem wq_lockN {me : Sl → M D} {Q : D → S → Prop} (h : wq (me σ) s Q) : wq (mLock (fun _ _ => none) me σ) s Q := h
theorem wq_glockN {g : Sl → M Fl} {Q : Fl → S → Prop} (h : wq (g σ) s Q) : wq (gLock (fun _ _ => none) g σ) s Q := h
/-! ### lists of texts, of truth values -/
theorem bls_map (bs : List Bool) : bls? (bs.map D.bl) = some bs := by
  induction bs with
  | nil => rfl
  | cons b r ih => rw [List.map_cons, bls?, ih]; rfl
theorem strs_map (ws : List Cs) : strs? (ws.map D.str) = some ws := by
  induction ws with
  | nil => rfl
  | cons b r ih => rw [List.map_cons, strs?, ih]; rfl
theorem strsD_map (ws : List Cs) : strsD (ws.map D.str) = some ws := by
  induction ws with
  | nil => rfl
  | cons b r ih => rw [List.map_cons, strsD, ih]; rfl
theorem wq_all {n : Nat} {bs : List Bool} {Q : D → S → Prop} (g : s.get n = some (.lst (bs.map .bl))) (q : Q (.bl (bs.all id)) s) : wq (allM [.ref n]) s Q := wq_bind (wq_lst g (wq_bind (wq_opt (bls_map bs) q)))
theorem wq_anyL {n : Nat} {bs : List Bool} {Q : D → S → Prop} (g : s.get n = some (.lst (bs.map .bl))) (q : Q (.bl (bs.any id)) s) : wq (anyM [.ref n]) s Q := wq_bind (wq_lst g (wq_bind (wq_opt (bls_map bs) q)))
theorem wq_tuple {v : D} {ds : List D} {Q : D → S → Prop} (h : SeqIs s v ds) (q : Q (.tup ds) s) : wq (tupleM [v]) s Q := wq_bind (wq_seqv h q)
theorem wq_list {v : D} {ds : List D} {Q : D → S → Prop} (h : SeqIs s v ds) (q : Q (.ref s.n) (s.new (.lst ds))) : wq (listM [v]) s Q := wq_bind (wq_seqv h q)
theorem wq_tup {ds : List D} {Q : D → S → Prop} (hl : ds.length ≤ 1000000) (q : Q (.tup ds) s) : wq (tupM ds) s Q := by
  unfold tupM
  rw [if_pos (decide_eq_true hl)]
  exact q
theorem wq_lstM {ds : List D} {Q : D → S → Prop} (hl : ds.length ≤ 1000000) (q : Q (.ref s.n) (s.new (.lst ds))) : wq (lstM ds) s Q := by
  unfold lstM
  rw [if_pos (decide_eq_true hl)]
  exact q
theorem sum_le {c : Nat} : ∀ {ws : List Cs}, (∀ w ∈ ws, w.length ≤ c) → (ws.map (·.length)).sum ≤ ws.length * c
  | [], _ => Nat.zero_le _
  | w :: r, h => by
    have h1 := h w List.mem_cons_self
    have h2 := sum_le (ws := r) fun x hx => h x (List.mem_cons_of_mem _ hx)
    rw [List.map_cons, List.sum_cons, List.length_cons, Nat.add_mul, Nat.one_mul]
    omega
theorem join_len (t : Cs) : ∀ ws : List Cs, (TL.joinL t ws).length ≤ (ws.map (·.length)).sum + ws.length * t.length
  | [] => Nat.zero_le _
  | [p] => by simp [TL.joinL]
  | p :: q :: r => by
    have := join_len t (q :: r)
    rw [TL.joinL, List.length_append, List.length_append, List.map_cons, List.sum_cons, List.length_cons (as := q :: r), Nat.add_mul, Nat.one_mul]
    omega
theorem flat_map (ws : List Cs) : (ws.map D.str).all flatD = true := by
  induction ws with
  | nil => rfl
  | cons b r ih => rw [List.map_cons, List.all_cons, ih]; rfl
theorem inF_map (x : Cs) (ws : List Cs) : inF (.str x) (ws.map D.str) = decide (x ∈ ws) := by
  induction ws with
  | nil => rfl
  | cons b r ih =>
    have e : inF (.str x) ((b :: r).map D.str) = (eqF (.str b) (.str x) || inF (.str x) (r.map D.str)) := by
      simp [inF]
    rw [e, ih]
    by_cases h : x = b
    · subst h; simp [eqF]
    · have : ¬ b = x := fun z => h z.symm
      simp [eqF, h, this]
theorem wq_inT {x : Cs} {ws : List Cs} {Q : D → S → Prop} (q : Q (.bl (decide (x ∈ ws))) s) : wq (inM (.str x) (.tup (ws.map .str))) s Q := by
  have e : inB s (.str x) (.tup (ws.map .str)) = some (decide (x ∈ ws)) := by
    show (if (flatD (.str x) && (ws.map D.str).all flatD) = true then some (inF (.str x) (ws.map D.str)) else none) = _
    rw [flat_map, inF_map]
    rfl
  exact wq_of_eq (m' := M.bind (M.ofOpt (inB s (.str x) (.tup (ws.map .str)))) fun b => M.pure (.bl b)) rfl (wq_bind (wq_opt e (wq_pure q)))
theorem wq_eqS {f : Nat → Nat → Option (List D → M D)} {x y : Cs} {Q : D → S → Prop} (q : Q (.bl (decide (x = y))) s) : wq (cmpOM false f eqM (.str x) (.str y)) s Q := q
theorem wq_neS {f : Nat → Nat → Option (List D → M D)} {x y : Cs} {Q : D → S → Prop} (q : Q (.bl (!decide (x = y))) s) : wq (cmpOM true f neM (.str x) (.str y)) s Q := q
theorem wq_eqI {f : Nat → Nat → Option (List D → M D)} {x y : Int} {Q : D → S → Prop} (q : Q (.bl (decide (x = y))) s) : wq (cmpOM false f eqM (.int x) (.int y)) s Q := q
theorem wq_addS {f : Nat → Option (List D → M D)} {x y : Cs} {Q : D → S → Prop} (h : (x ++ y).length ≤ 1000000) (q : Q (.str (x ++ y)) s) : wq (addOM f (.str x) (.str y)) s Q := by
  have e : addM (.str x) (.str y) = M.pure (.str (x ++ y)) := by
    show (if small (x ++ y) then M.pure (D.str (x ++ y)) else M.fail) = _
    rw [if_pos (show small (x ++ y) = true from decide_eq_true h)]
  exact wq_of_eq (m' := M.pure (.str (x ++ y))) (show addM (.str x) (.str y) s = _ by rw [e]) (wq_pure q)
theorem wq_addI {f : Nat → Option (List D → M D)} {x y : Int} {Q : D → S → Prop} (q : Q (.int (x + y)) s) : wq (addOM f (.int x) (.int y)) s Q := q
theorem wq_ixT {gi : Nat → Option (List D → M D)} {ds : List D} {k : Int} {d : D} {Q : D → S → Prop} (e : atI ds k = some d) (q : Q d s) : wq (ixOM gi (.tup ds) (.int k)) s Q :=
  wq_of_eq (m' := M.ofOpt (atI ds k)) rfl (wq_opt e q)
theorem wq_ixL {gi : Nat → Option (List D → M D)} {a : Nat} {ds : List D} {k : Int} {d : D} {Q : D → S → Prop} (g : s.get a = some (.lst ds)) (e : atI ds k = some d) (q : Q d s) : wq (ixOM gi (.ref a) (.int k)) s Q :=
  wq_of_eq (m' := M.ofOpt (atI ds k)) (by simp only [ixOM, g, ixM, ixB]) (wq_opt e q)
theorem wq_ixO {gi : Nat → Option (List D → M D)} {a c : Nat} {fs : List (Cs × D)} {e : D} {g : List D → M D} {Q : D → S → Prop} (h : s.get a = some (.ins c fs)) (hg : gi c = some g) (q : wq (g [.ref a, e]) s Q) : wq (ixOM gi (.ref a) e) s Q :=
  wq_of_eq (m' := M.noX (g [.ref a, e])) (by simp only [ixOM, h, hg]) (wq_noX q)
theorem wq_fld {pf : Nat → Bool} {pr : Nat → Option (List D → M D)} {f : Cs} {a c : Nat} {fs : List (Cs × D)} {d : D} {Q : D → S → Prop} (g : s.get a = some (.ins c fs)) (hp : pr c = none) (hf : pf c = true) (e : ffind fs f = some d) (q : Q d s) : wq (getMP pf pr f (.ref a)) s Q := by
  refine wq_bind (wq_bind (wq_read g (wq_pure ?_)))
  show wq (match pr c with | some _ => _ | none => _) s Q
  rw [hp]
  exact wq_when hf (wq_opt e q)
theorem wq_setF {pf : Nat → Bool} {f : Cs} {a c : Nat} {fs : List (Cs × D)} {v : D} {Q : Unit → S → Prop} (g : s.get a = some (.ins c fs)) (hf : pf c = true) (hl : fs.length < 900) (q : Q () (s.set a (.ins c (fput f v fs)))) : wq (setFM pf f (.ref a) v) s Q := by
  refine wq_bind (wq_bind (wq_read g (wq_pure (wq_when ?_ (wq_write g rfl q)))))
  simp only [hf, Bool.true_and, decide_eq_true_eq]
  exact hl
theorem wq_lenT {n0 : Nat} {ln : Nat → Option (List D → M D)} {ds : List D} {Q : D → S → Prop} (q : Q (.int ds.length) s) : wq (lenOM n0 ln [.tup ds]) s Q := q
theorem wq_gtI {x y : Int} {Q : D → S → Prop} (q : Q (.bl (decide (y < x))) s) : wq (gtM (.int x) (.int y)) s Q := q
theorem wq_leI {x y : Int} {Q : D → S → Prop} (q : Q (.bl (decide (x ≤ y))) s) : wq (leM (.int x) (.int y)) s Q := q
theorem wq_ltI {x y : Int} {Q : D → S → Prop} (q : Q (.bl (decide (x < y))) s) : wq (ltM (.int x) (.int y)) s Q := q
theorem wq_mtS {mo : Sl → M D} {alts : Nat → Option (D → List D → M D)} {op : D → List D → M D} {ms : Sl → M (List D)} {Q : D → S → Prop} (ha : alts 2 = some op) (h : wq (mo σ) s fun v s1 => ∃ t, v = .str t ∧ wq (ms σ) s1 fun ds s2 => wq (op (.str t) ds) s2 Q) : wq (mMt mo alts ms σ) s Q := by
  refine wq_bind (wq_mono h fun v s1 ⟨t, e, w⟩ => ?_)
  subst e
  refine wq_bind (wq_pure ?_)
  rw [ha]
  exact wq_bind w
theorem wq_mtL {mo : Sl → M D} {alts : Nat → Option (D → List D → M D)} {op : D → List D → M D} {ms : Sl → M (List D)} {Q : D → S → Prop} (ha : alts 3 = some op) (h : wq (mo σ) s fun v s1 => ∃ a ds, v = .ref a ∧ s1.get a = some (.lst ds) ∧ wq (ms σ) s1 fun es s2 => wq (op (.ref a) es) s2 Q) : wq (mMt mo alts ms σ) s Q := by
  refine wq_bind (wq_mono h fun v s1 ⟨a, ds, e, g, w⟩ => ?_)
  subst e
  refine wq_bind (wq_bind (wq_read g (wq_pure ?_)))
  rw [ha]
  exact wq_bind w
theorem wq_append {a : Nat} {ds : List D} {y : D} {Q : D → S → Prop} (g : s.get a = some (.lst ds)) (hl : ds.length < 1000000) (q : Q .non (s.set a (.lst (ds ++ [y])))) : wq (appendM (.ref a) [y]) s Q :=
  wq_bind (wq_lst g (wq_when (decide_eq_true hl) (wq_bind (wq_write g rfl q))))
theorem wq_extend {a b : Nat} {ds es : List D} {Q : D → S → Prop} (g : s.get a = some (.lst ds)) (g' : s.get b = some (.lst es)) (hl : ds.length + es.length ≤ 1000000) (q : Q .non (s.set a (.lst (ds ++ es)))) : wq (extendM (.ref a) [.ref b]) s Q :=
  wq_bind (wq_lst g (wq_bind (wq_lst g' (wq_when (decide_eq_true hl) (wq_bind (wq_write g rfl q))))))
theorem wq_join {t : Cs} {v : D} {ws : List Cs} {Q : D → S → Prop} (h : SeqIs s v (ws.map .str)) (hl : (ws.map (·.length)).sum + ws.length * t.length ≤ 1000000) (q : Q (.str (TL.joinL t ws)) s) : wq (joinM (.str t) [v]) s Q :=
  wq_bind (wq_seqv h (wq_bind (wq_opt (strs_map ws) (wq_when (decide_eq_true hl) q))))
theorem wq_fmtS {t : Cs} {Q : D → S → Prop} (q : Q (.str t) s) : wq (fmtM (.str t)) s Q := q
theorem wq_joined {ms : List (Sl → M D)} {Q : D → S → Prop} (h : wq (mJs ms [] σ) s fun t s1 => Q (.str t) s1) : wq (mJoined ms σ) s Q := wq_bind h
theorem wq_jsNil {acc : Cs} {Q : Cs → S → Prop} (q : Q acc s) : wq (mJs [] acc σ) s Q := q
theorem wq_jsCons {m : Sl → M D} {ms : List (Sl → M D)} {acc : Cs} {Q : Cs → S → Prop} (h : wq (m σ) s fun v s1 => ∃ y, v = .str y ∧ (acc ++ y).length ≤ 1000000 ∧ wq (mJs ms (acc ++ y) σ) s1 Q) : wq (mJs (m :: ms) acc σ) s Q := wq_bind (wq_mono h fun v s1 ⟨y, e, hl, w⟩ => by
  subst e
  exact wq_when (show small (acc ++ y) = true from decide_eq_true hl) w)
theorem wq_strO {sf : Nat → Option (List D → M D)} {a c : Nat} {fs : List (Cs × D)} {g : List D → M D} {Q : D → S → Prop} (h : s.get a = some (.ins c fs)) (hg : sf c = some g) (q : wq (g [.ref a]) s fun v s1 => ∃ t, v = .str t ∧ Q (.str t) s1) : wq (strOM sf [.ref a]) s Q := by
  refine wq_bind (wq_read h ?_)
  show wq (match sf c with | some g => _ | none => _) s Q
  rw [hg]
  refine wq_bind (wq_noX (wq_mono q fun v s1 ⟨t, e, z⟩ => ?_))
  subst e
  exact z
theorem wq_cmpO {ne : Bool} {eqf : Nat → Nat → Option (List D → M D)} {other : D → D → M D} {a b c c' : Nat} {fs fs' : List (Cs × D)} {g : List D → M D} {Q : D → S → Prop} (h : s.get a = some (.ins c fs)) (h' : s.get b = some (.ins c' fs')) (hg : eqf c c' = some g)
    (q : wq (g [.ref a, .ref b]) s fun v s1 => ∃ b, v = .bl b ∧ Q (.bl (if ne then !b else b)) s1) : wq (cmpOM ne eqf other (.ref a) (.ref b)) s Q := by
  refine wq_of_eq (m' := M.bind (M.noX (g [.ref a, .ref b])) (fun
        | .bl b => M.pure (.bl (if ne then !b else b))
        | _ => M.fail)) (by simp only [cmpOM, h, h', hg] <;> rfl) ?_
  refine wq_bind (wq_noX (wq_mono q fun v s1 ⟨b, e, z⟩ => ?_))
  subst e
  exact z
theorem wq_mk {c : Nat} {f : List D → M D} {ms : Sl → M (List D)} {Q : D → S → Prop} (h : wq (ms σ) s fun ds s1 => wq (f (.ref s1.n :: ds)) (s1.new (.ins c [])) fun v s2 => v = .non ∧ Q (.ref s1.n) s2) : wq (mMk c f ms σ) s Q := by
  refine wq_bind (wq_mono h fun ds s1 w => wq_bind (wq_new (wq_bind (wq_mono w fun v s2 ⟨e, q⟩ => ?_))))
  subst e
  exact q
theorem wq_me {mo : Sl → M D} {mt : Nat → Option (List D → M D)} {m : Cs} {ms : Sl → M (List D)} {f : List D → M D} {Q : D → S → Prop} (h : wq (mo σ) s fun v s1 => ∃ a c fs, v = .ref a ∧ s1.get a = some (.ins c fs) ∧ mt c = some f ∧ ffind fs m = none ∧ wq (ms σ) s1 fun ds s2 => wq (f (.ref a :: ds)) s2 Q) : wq (mMe mo mt m ms σ) s Q := by
  refine wq_bind (wq_mono h fun v s1 ⟨a, c, fs, e, g, hm, hn, w⟩ => ?_)
  subst e
  refine wq_bind (wq_bind (wq_read g (wq_pure ?_)))
  show wq (match mt c with | some f => _ | none => _) s1 Q
  rw [hm]
  refine wq_when ?_ (wq_bind w)
  show (ffind fs m).isNone = true
  rw [hn]
  rfl
theorem wq_disp0 {Q : D → S → Prop} (q : ∀ s', Old s s' → s'.get s.n = some (.dct []) → Q (.ref s.n) s') : wq (mDisp [] σ) s Q := by
  have g0 : (s.new (.dct [])).get s.n = some (.dct []) := S.get_new_same
  refine wq_bind (wq_new (wq_bind (wq_pure (wq_when rfl (wq_bind (wq_read g0 (wq_bind (wq_write g0 rfl (wq_pure (q _ ?_ ?_))))))))))
  · exact (Old.new s _).put (Nat.le_refl _) _
  · exact S.get_set_same (S.get_lt g0)
theorem wq_mkI {P : Pg} {c f : Nat} {ms : Sl → M (List D)} {Q : D → S → Prop} (e : P.ini c = some f) (h : wq (mMk c (P.fn f) ms σ) s Q) : wq (mMkI P c ms σ) s Q := by
  unfold mMkI
  rw [e]
  exact h
theorem SeqIs.oldX {s s' : S} {v : D} {ds : List D} {a c : Nat} {fs : List (Cs × D)} (h : SeqIs s v ds) (o : OldX a s s') (g : s.get a = some (.ins c fs)) : SeqIs s' v ds := by
  cases h with
  | tup => exact .tup
  | lst g' => exact .lst (o.get g' fun z => by rw [z, g] at g'; cases g')
theorem wq_fn {L : Lw} {ns : List Int} {f : Nat → List D → M D} {i : Nat} {ds : List D} {Q : D → S → Prop} (h : wq (f i ds) s Q) : wq ((pgOf L ns f).fn i ds) s Q := h
theorem filter_t (xs : List D) : xs.filter (fun _ => true) = xs := List.filter_eq_self.mpr fun _ _ => rfl
/-! ### draws -/
theorem wq_drawM {d q : Nat} {n : Int} {Q : D → S → Prop} (h1 : s.get d = some (.deal q)) (h2 : s.get q = some .dealIn) (h3 : 0 < n) (h4 : n < 1073741824) (h : ∀ i : Nat, (i : Int) < n → Q (.int i) s) : wq (drawM [.ref d, .int n]) s Q := by
  refine wq_bind (wq_read h1 (wq_bind (wq_read h2 (wq_when ?_ (wq_bind (wq_draw fun i hi => wq_pure (h i ?_)))))))
  · simp only [Bool.and_eq_true, decide_eq_true_eq]
    exact ⟨h3, h4⟩
  · omega
structure DealAt (s : S) (v : D) : Prop where
  ex : ∃ d q, v = .ref d ∧ s.get d = some (.deal q) ∧ s.get q = some .dealIn
theorem DealAt.old {s s' : S} {v : D} (h : DealAt s v) (o : Old s s') : DealAt s' v := by
  obtain ⟨d, q, e, h1, h2⟩ := h.ex
  exact ⟨d, q, e, o.get h1, o.get h2⟩
theorem DealAt.oldX {s s' : S} {v : D} {n : Nat} {xs : List D} (h : DealAt s v) (o : OldX n s s') (g : s.get n = some (.lst xs)) : DealAt s' v := by
  obtain ⟨d, q, e, h1, h2⟩ := h.ex
  exact ⟨d, q, e, o.get h1 (fun z => by rw [z, g] at h1; cases h1), o.get h2 (fun z => by rw [z, g] at h2; cases h2)⟩
end
end Ev

/-! EwU: plain reasoning, == of rows of texts and of truth values; tests that change nothing. -/
namespace Ev
open PySem PySem.Spec PyProof.Rows L2
section
variable {s : S} {σ : Sl}
theorem st_beqD (x y : Cs) : (st x == st y) = decide (x = y) := by
  by_cases h : x = y
  · subst h; simp
  · have : ¬ st x = st y := fun e => h (by
      have e2 : (st x).cps = (st y).cps := by rw [e]
      have e3 : x.toArray = y.toArray := e2
      have := congrArg Array.toList e3
      simpa using this)
    rw [decide_eq_false h]
    exact beq_false_of_ne this
theorem pyL_strs (s : S) (n : Nat) (ws : List Cs) : pyL (toPy s n) (ws.map D.str) = some (ws.map fun w => PyData.str (st w)) := by
  induction ws with
  | nil => rfl
  | cons w r ih =>
    rw [List.map_cons, pyL, ih]
    cases n <;> rfl
theorem pyL_bls (s : S) (n : Nat) (ws : List Bool) : pyL (toPy s n) (ws.map D.bl) = some (ws.map fun w => PyData.bool w) := by
  induction ws with
  | nil => rfl
  | cons w r ih =>
    rw [List.map_cons, pyL, ih]
    cases n <;> rfl
theorem eqv_strs : ∀ xs ys : List Cs, PyData.eqvAll (xs.map fun w => PyData.str (st w)) (ys.map fun w => PyData.str (st w)) = decide (xs = ys)
  | [], [] => by simp [PyData.eqvAll]
  | [], _ :: _ => by simp [PyData.eqvAll]
  | _ :: _, [] => by simp [PyData.eqvAll]
  | x :: xs, y :: ys => by
    rw [List.map_cons, List.map_cons, PyData.eqvAll, PyData.eqv, eqv_strs xs ys, st_beqD]
    by_cases h : x = y
    · by_cases h2 : xs = ys
      · simp [h, h2]
      · simp [h, h2]
    · simp [h]
theorem eqv_bls : ∀ xs ys : List Bool, PyData.eqvAll (xs.map fun w => PyData.bool w) (ys.map fun w => PyData.bool w) = decide (xs = ys)
  | [], [] => by simp [PyData.eqvAll]
  | [], _ :: _ => by simp [PyData.eqvAll]
  | _ :: _, [] => by simp [PyData.eqvAll]
  | x :: xs, y :: ys => by
    rw [List.map_cons, List.map_cons, PyData.eqvAll, PyData.eqv, eqv_bls xs ys]
    by_cases h : x = y
    · by_cases h2 : xs = ys
      · simp [h, h2]
      · simp [h, h2]
    · simp [h]
theorem map_str_inj {xs ys : List Cs} (h : xs.map D.str = ys.map D.str) : xs = ys := by
  have := congrArg strs? h
  rw [strs_map, strs_map] at this
  exact Option.some.inj this
theorem eqB_tup (s : S) (xs ys : List Cs) : eqB s (.tup (xs.map .str)) (.tup (ys.map .str)) = some (decide (xs = ys)) := by
  show (if (depD 60 (.tup (xs.map .str)) && D.beq (.tup (xs.map .str)) (.tup (ys.map .str))) = true then some true else (toPy s 60 (.tup (xs.map .str))).bind fun p => (toPy s 60 (.tup (ys.map .str))).map fun q => PyData.eqv p q) = _
  split
  · rename_i h
    rw [Bool.and_eq_true] at h
    have e := D.beq_eq _ _ h.2
    have e2 : xs.map D.str = ys.map D.str := D.tup.inj e
    rw [decide_eq_true (map_str_inj e2)]
  · have e1 : toPy s 60 (.tup (xs.map .str)) = some (.tuple (xs.map fun w => PyData.str (st w))) := by rw [toPy, pyL_strs]; rfl
    have e2 : toPy s 60 (.tup (ys.map .str)) = some (.tuple (ys.map fun w => PyData.str (st w))) := by rw [toPy, pyL_strs]; rfl
    rw [e1, e2, Option.bind_some, Option.map_some, PyData.eqv, eqv_strs]
theorem eqB_lstS {a b : Nat} {xs ys : List Cs} (ha : s.get a = some (.lst (xs.map .str))) (hb : s.get b = some (.lst (ys.map .str))) : eqB s (.ref a) (.ref b) = some (decide (xs = ys)) := by
  show (if (depD 60 (.ref a) && D.beq (.ref a) (.ref b)) = true then some true else (toPy s 60 (.ref a)).bind fun p => (toPy s 60 (.ref b)).map fun q => PyData.eqv p q) = _
  have e1 : toPy s 60 (.ref a) = some (.list (xs.map fun w => PyData.str (st w))) := by simp only [toPy, ha, pyL_strs]; rfl
  have e2 : toPy s 60 (.ref b) = some (.list (ys.map fun w => PyData.str (st w))) := by simp only [toPy, hb, pyL_strs]; rfl
  rw [e1, e2, Option.bind_some, Option.map_some, PyData.eqv, eqv_strs]
  rfl
theorem eqB_lstB {a b : Nat} {xs ys : List Bool} (ha : s.get a = some (.lst (xs.map .bl))) (hb : s.get b = some (.lst (ys.map .bl))) : eqB s (.ref a) (.ref b) = some (decide (xs = ys)) := by
  show (if (depD 60 (.ref a) && D.beq (.ref a) (.ref b)) = true then some true else (toPy s 60 (.ref a)).bind fun p => (toPy s 60 (.ref b)).map fun q => PyData.eqv p q) = _
  have e1 : toPy s 60 (.ref a) = some (.list (xs.map fun w => PyData.bool w)) := by simp only [toPy, ha, pyL_bls]; rfl
  have e2 : toPy s 60 (.ref b) = some (.list (ys.map fun w => PyData.bool w)) := by simp only [toPy, hb, pyL_bls]; rfl
  rw [e1, e2, Option.bind_some, Option.map_some, PyData.eqv, eqv_bls]
  rfl
theorem eqB_bl (s : S) (x y : Bool) : eqB s (.bl x) (.bl y) = some (decide (x = y)) := by
  cases x <;> cases y <;> rfl
section
variable {f : Nat → Nat → Option (List D → M D)} {d e : D} {b : Bool} {Q : D → S → Prop}
theorem wq_eqX (hc : ∀ a b, d = .ref a → e = .ref b → (∃ xs, s.get a = some (.lst xs))) (h : eqB s d e = some b) (q : Q (.bl b) s) : wq (cmpOM false f eqM d e) s Q := by
  refine wq_of_eq (m' := M.bind (M.ofOpt (eqB s d e)) fun b => M.pure (.bl b)) ?_ (wq_bind (wq_opt h (wq_pure q)))
  show cmpOM false f eqM d e s = eqM d e s
  cases d with
  | ref a =>
    cases e with
    | ref b' =>
      obtain ⟨xs, g⟩ := hc a b' rfl rfl
      simp only [cmpOM, g]
    | _ => rfl
  | _ => cases e <;> rfl
theorem wq_neX (hc : ∀ a b, d = .ref a → e = .ref b → (∃ xs, s.get a = some (.lst xs))) (h : eqB s d e = some b) (q : Q (.bl (!b)) s) : wq (cmpOM true f neM d e) s Q := by
  refine wq_of_eq (m' := M.bind (M.ofOpt (eqB s d e)) fun b => M.pure (.bl (!b))) ?_ (wq_bind (wq_opt h (wq_pure q)))
  show cmpOM true f neM d e s = neM d e s
  cases d with
  | ref a =>
    cases e with
    | ref b' =>
      obtain ⟨xs, g⟩ := hc a b' rfl rfl
      simp only [cmpOM, g]
    | _ => rfl
  | _ => cases e <;> rfl
end
section
variable {f : Nat → Nat → Option (List D → M D)} {Q : D → S → Prop}
theorem wq_eqT {xs ys : List Cs} (q : Q (.bl (decide (xs = ys))) s) : wq (cmpOM false f eqM (.tup (xs.map .str)) (.tup (ys.map .str))) s Q := wq_eqX (fun _ _ h => by cases h) (eqB_tup s xs ys) q
theorem wq_neT {xs ys : List Cs} (q : Q (.bl (!decide (xs = ys))) s) : wq (cmpOM true f neM (.tup (xs.map .str)) (.tup (ys.map .str))) s Q := wq_neX (fun _ _ h => by cases h) (eqB_tup s xs ys) q
theorem wq_eqB {x y : Bool} (q : Q (.bl (decide (x = y))) s) : wq (cmpOM false f eqM (.bl x) (.bl y)) s Q := wq_eqX (fun _ _ h => by cases h) (eqB_bl s x y) q
theorem wq_neB {x y : Bool} (q : Q (.bl (!decide (x = y))) s) : wq (cmpOM true f neM (.bl x) (.bl y)) s Q := wq_neX (fun _ _ h => by cases h) (eqB_bl s x y) q
theorem wq_neLS {a b : Nat} {xs ys : List Cs} (ha : s.get a = some (.lst (xs.map .str))) (hb : s.get b = some (.lst (ys.map .str))) (q : Q (.bl (!decide (xs = ys))) s) : wq (cmpOM true f neM (.ref a) (.ref b)) s Q := wq_neX (fun a' b' h h' => by cases h; exact ⟨_, ha⟩) (eqB_lstS ha hb) q
theorem wq_neLB {a b : Nat} {xs ys : List Bool} (ha : s.get a = some (.lst (xs.map .bl))) (hb : s.get b = some (.lst (ys.map .bl))) (q : Q (.bl (!decide (xs = ys))) s) : wq (cmpOM true f neM (.ref a) (.ref b)) s Q := wq_neX (fun a' b' h h' => by cases h; exact ⟨_, ha⟩) (eqB_lstB ha hb) q
end
theorem wq_inV {x : Cs} {v : D} {ws : List Cs} {Q : D → S → Prop} (h : SeqIs s v (ws.map .str)) (q : Q (.bl (decide (x ∈ ws))) s) : wq (inM (.str x) v) s Q := by
  have e : inB s (.str x) v = some (decide (x ∈ ws)) := by
    cases h with
    | tup =>
      show (if (flatD (.str x) && (ws.map D.str).all flatD) = true then some (inF (.str x) (ws.map D.str)) else none) = _
      rw [flat_map, inF_map]
      rfl
    | lst g =>
      simp only [inB, g]
      rw [flat_map, inF_map]
      rfl
  exact wq_of_eq (m' := M.bind (M.ofOpt (inB s (.str x) v)) fun b => M.pure (.bl b)) rfl (wq_bind (wq_opt e (wq_pure q)))
theorem wq_lenset {v : D} {ws : List Cs} {Q : D → S → Prop} (h : SeqIs s v (ws.map .str)) (hl : ws.length ≤ 4000) (q : Q (.int (dcnC ws ws.length : Nat)) s) : wq (lenSetM v) s Q :=
  wq_bind (wq_seqv h (wq_bind (wq_opt (strsD_map ws) (wq_when (decide_eq_true hl) q))))
theorem wq_lenV {n0 : Nat} {ln : Nat → Option (List D → M D)} {v : D} {ds : List D} {Q : D → S → Prop} (h : SeqIs s v ds) (q : Q (.int ds.length) s) : wq (lenOM n0 ln [v]) s Q := by
  cases h with
  | tup => exact q
  | lst g =>
    refine wq_of_eq (m' := M.pure (.int ds.length)) ?_ (wq_pure q)
    simp [lenOM, M.bind, M.read, g, T.bind, M.pure, lenM]
theorem wq_prim {L : Lw} {ns : List Int} {prim : Nat → Option (List D → M D)} {tb : List Bd} {j i : Nat} {f : List D → M D} {ds : List D} {Q : D → S → Prop} (hp : prim i = some f) (h : wq (f ds) s Q) : wq (fnI L ns prim tb (j + 3 + 1) i ds) s Q := by
  rw [fnI_eq]
  unfold fnB
  rw [hp]
  dsimp only
  rw [if_neg (by omega)]
  exact h
theorem wq_ixV {gi : Nat → Option (List D → M D)} {v : D} {ds : List D} {i : Nat} {d : D} {Q : D → S → Prop} (h : SeqIs s v ds) (e : ds[i]? = some d) (q : Q d s) : wq (ixOM gi v (.int i)) s Q := by
  cases h with
  | tup => exact wq_ixT (atI_nat e) q
  | lst g => exact wq_ixL g (atI_nat e) q
theorem wq_walkT {ds : List D} {Q : ItD → S → Prop} (q : Q (.tup ds) s) : wq (walkM (.tup ds)) s Q := q
theorem wq_revT {ds : List D} {Q : D → S → Prop} (q : Q (.tup ds.reverse) s) : wq (revAM (.tup ds)) s Q := q
theorem wq_zip {ma mb : Sl → M D} {Q : ItD → S → Prop} (h : wq (ma σ) s fun x s1 => wq (mb σ) s1 fun y s2 => ∃ a b xs ys, x = .ref a ∧ y = .ref b ∧ s2.get a = some (.lst xs) ∧ s2.get b = some (.lst ys) ∧ Q (.zipL a b) s2) : wq (mZip ma mb σ) s Q := by
  refine wq_bind (wq_mono h fun x s1 w => wq_bind (wq_mono w fun y s2 ⟨a, b, xs, ys, e, e', g, g', q⟩ => ?_))
  subst e e'
  exact wq_bind (wq_read g (wq_bind (wq_read g' q)))
theorem wq_en {me : Sl → M D} {Q : ItD → S → Prop} (h : wq (me σ) s fun x s1 => ∃ a xs, x = .ref a ∧ s1.get a = some (.lst xs) ∧ Q (.enL a) s1) : wq (mEn me σ) s Q := by
  refine wq_bind (wq_mono h fun x s1 ⟨a, xs, e, g, q⟩ => ?_)
  subst e
  exact wq_bind (wq_read g q)
theorem rng_at {lo : Int} {n i : Nat} {d : D} (h : (rngD lo n)[i]? = some d) : d = .int (lo + (i : Nat)) ∧ i < n := by
  have hi : i < n := by
    have := (List.getElem?_eq_some_iff.mp h).1
    rwa [len_rng] at this
  rw [rngD, List.getElem?_map, List.getElem?_range hi] at h
  exact ⟨(Option.some.inj h).symm, hi⟩
theorem zip_at {xs ys : List D} {i : Nat} {d : D} (h : (zipD xs ys)[i]? = some d) : ∃ x y, xs[i]? = some x ∧ ys[i]? = some y ∧ d = .tup [x, y] := by
  rw [zipD, List.getElem?_map, List.zip, List.getElem?_zipWith] at h
  cases hx : xs[i]? with
  | none => rw [hx] at h; simp at h
  | some x =>
    cases hy : ys[i]? with
    | none => rw [hx, hy] at h; simp at h
    | some y => rw [hx, hy] at h; exact ⟨x, y, rfl, rfl, (Option.some.inj h).symm⟩
theorem enum_at {xs : List D} {i : Nat} {d : D} (h : (enumD xs)[i]? = some d) : ∃ x, xs[i]? = some x ∧ d = .tup [.int (i : Nat), x] := by
  rw [enumD, List.getElem?_map, List.getElem?_zipIdx] at h
  cases hx : xs[i]? with
  | none => rw [hx] at h; simp at h
  | some x => rw [hx] at h; exact ⟨x, rfl, by have := (Option.some.inj h).symm; simpa using this⟩
theorem wq_lockF {i n c : Nat} {f : Cs} {fs : List (Cs × D)} {ds : List D} {me : Sl → M D} {Q : D → S → Prop} (e : σ[i]?.join = some (.ref n)) (g : s.get n = some (.ins c fs)) (hf : ffind fs f = some (.tup ds)) (h : wq (me σ) s Q) : wq (mLock (pathOf 0 [.fld f (.var i)]) me σ) s Q := by
  have e' : σ[i]? = some (some (.ref n)) := by
    cases hx : σ[i]? with
    | none => rw [hx] at e; cases e
    | some o => rw [hx] at e; cases o with
      | none => cases e
      | some z => cases e; rfl
  exact wq_lock0 (by simp only [pathOf, e', g, hf]) h
/-- a choice that changes nothing -/
theorem wq_ifP {mt : Sl → M Bool} {ma mb : Sl → M D} {x : Bool} {a b : D} {Q : D → S → Prop} (h0 : wq (mt σ) s fun c s1 => c = x ∧ s1 = s) (h1 : x = true → wq (ma σ) s fun v s1 => v = a ∧ s1 = s) (h2 : x = false → wq (mb σ) s fun v s1 => v = b ∧ s1 = s) (q : Q (bif x then a else b) s) : wq (mIf mt ma mb σ) s Q :=
  wq_if (wq_mono h0 fun c s1 ⟨e, e'⟩ => by
    subst e e'
    cases c with
    | true => exact wq_mono (h1 rfl) fun v s1 ⟨e, e'⟩ => by subst e e'; exact q
    | false => exact wq_mono (h2 rfl) fun v s1 ⟨e, e'⟩ => by subst e e'; exact q)
/-- words joined, behind a word, or nothing -/
def optT (pre sep : Cs) (ts : List Cs) : Cs := if ts = [] then [] else pre ++ TL.joinL sep ts
theorem optT_len {pre sep : Cs} {ts : List Cs} {c n : Nat} (h : ∀ t ∈ ts, t.length ≤ c) (l : ts.length ≤ n) : (optT pre sep ts).length ≤ pre.length + n * c + n * sep.length := by
  unfold optT
  split
  · exact Nat.zero_le _
  · rw [List.length_append]
    have h1 := join_len sep ts
    have h2 := sum_le h
    have h3 : ts.length * c ≤ n * c := Nat.mul_le_mul_right _ l
    have h4 : ts.length * sep.length ≤ n * sep.length := Nat.mul_le_mul_right _ l
    omega
theorem optT_len2 {pre sep : Cs} {ts : List Cs} : (bif decide ((0 : Int) < ((ts.map D.str).length : Nat)) then D.str (pre ++ TL.joinL sep ts) else D.str []) = D.str (optT pre sep ts) := by
  unfold optT
  cases ts with
  | nil => rfl
  | cons t r =>
    rw [if_neg (by simp), decide_eq_true (by rw [List.length_map, List.length_cons]; omega)]
    rfl
theorem optT_ne {pre sep : Cs} {ts : List Cs} : (bif !decide (ts = []) then D.str (pre ++ TL.joinL sep ts) else D.str []) = D.str (optT pre sep ts) := by
  unfold optT
  by_cases h : ts = []
  · rw [if_pos h, decide_eq_true h]; rfl
  · rw [if_neg h, decide_eq_false h]; rfl
end
/-- what is plainly shown of a law's def -/
theorem runs_wq {L : Lw} {ns : List Int} {prim : Nat → Option (List D → M D)} {tb : List Bd} {J i : Nat} {d : Df} {q : Bd} (h : BdAll L.defs tb) (hq : BdOk d q) (hp : prim i = none) (hi : tb[i]? = some q) (h1 : d.ps.length = 1) (h2 : d.dD = []) (h3 : d.gc = false)
    (e : wq (fnI L ns prim tb (J + 1) i [.scr]) S.empty fun v _ => v = .bl true) : wp (runF (pgOf L ns (fnL L ns prim J)) ⟨1, d.N.length, [], d.ir⟩ [.scr]) S.empty (fun v _ => v = .bl true) fun _ _ => False := by
  have e2 : fnB L ns prim tb (J + 1) i = runF (pgOf L ns (fnL L ns prim J)) ⟨1, d.N.length, [], d.ir⟩ := by
    unfold fnB
    rw [hp]
    dsimp only
    rw [hi]
    dsimp only
    rw [fnB_eq h, runB_eq hq, h3, h1, h2]
    rfl
  rw [fnI_eq, e2] at e
  exact e
end Ev

/-! EwV: plain reasoning, texts cut apart. -/
namespace Ev
open PySem PySem.Spec PyProof.Rows L2
section
variable {s : S} {σ : Sl}
theorem wq_inS' {u t : Cs} {Q : D → S → Prop} (hu : u ≠ []) (q : Q (.bl (fnd u 0 t).isSome) s) : wq (inM (.str u) (.str t)) s Q := by
  have e : inB s (.str u) (.str t) = some (fnd u 0 t).isSome := by
    show (if u = [] then none else some (fnd u 0 t).isSome) = _
    rw [if_neg hu]
  exact wq_of_eq (m' := M.bind (M.ofOpt (inB s (.str u) (.str t))) fun b => M.pure (.bl b)) rfl (wq_bind (wq_opt e (wq_pure q)))
theorem wq_indexS {u t : Cs} {j : Nat} {Q : D → S → Prop} (hu : u ≠ []) (e : fnd u 0 t = some j) (q : Q (.int (j : Nat)) s) : wq (indexSM (.str t) [.str u]) s Q := by
  refine wq_when ?_ (wq_bind (wq_opt e (wq_pure q)))
  cases u with
  | nil => exact absurd rfl hu
  | cons _ _ => rfl
theorem wq_split {u t : Cs} {Q : D → S → Prop} (hu : u ≠ []) (q : Q (.ref s.n) (s.new (.lst ((TL.spl u 0 [] t).map .str)))) : wq (splitM (.str t) [.str u]) s Q := by
  refine wq_when ?_ (wq_bind (wq_new (wq_pure q)))
  cases u with
  | nil => exact absurd rfl hu
  | cons _ _ => rfl
theorem wq_sl {ns : List Int} {me : Sl → M D} {lo hi : Sl → M (Option Int)} {Q : D → S → Prop} (h : wq (me σ) s fun x s1 => wq (lo σ) s1 fun l s2 => wq (hi σ) s2 fun u s3 => wq (slM ns x l u) s3 Q) : wq (mSl ns me lo hi σ) s Q :=
  wq_bind (wq_mono h fun _ _ z => wq_bind (wq_mono z fun _ _ y => wq_bind y))
theorem wq_part0 {Q : Option Int → S → Prop} (q : Q none s) : wq (mPart none σ) s Q := q
theorem wq_part1 {f : Sl → M D} {Q : Option Int → S → Prop} (h : wq (f σ) s fun v s1 => ∃ i, v = .int i ∧ Q (some i) s1) : wq (mPart (some f) σ) s Q := wq_bind (wq_mono h fun v s1 ⟨i, e, q⟩ => by
  subst e
  exact q)
theorem wq_slS {ns : List Int} {t : Cs} {lo hi : Option Int} {Q : D → S → Prop} (q : Q (.str (cutD t lo hi)) s) : wq (slM ns (.str t) lo hi) s Q := q
theorem wq_slL {ns : List Int} {a : Nat} {ds : List D} {lo hi : Option Int} {Q : D → S → Prop} (g : s.get a = some (.lst ds)) (q : Q (.ref s.n) (s.new (.lst (cutD ds lo hi)))) : wq (slM ns (.ref a) lo hi) s Q := wq_bind (wq_read g (wq_bind (wq_new (wq_pure q))))
theorem cut_take {α : Type} (a b : List α) {i : Int} (h : i = (a.length : Nat)) : cutD (a ++ b) none (some i) = a := by
  subst h
  unfold cutD
  simp only [HT.sIx]
  rw [if_neg (by omega), List.drop_zero, Nat.sub_zero, Int.toNat_natCast, List.length_append, Nat.min_eq_left (by omega), List.take_left']
  rfl
theorem cut_drop {α : Type} (a b : List α) {i : Int} (h : i = (a.length : Nat)) : cutD (a ++ b) (some i) none = b := by
  subst h
  unfold cutD
  simp only [HT.sIx]
  rw [if_neg (by omega), Int.toNat_natCast, List.length_append, Nat.min_eq_left (by omega), List.drop_left', List.take_of_length_le (by omega)]
  rfl
theorem cut_mid {α : Type} (a b c : List α) {i j : Int} (h : i = (a.length : Nat)) (h' : j = ((a ++ b).length : Nat)) : cutD ((a ++ b) ++ c) (some i) (some j) = b := by
  subst h h'
  unfold cutD
  simp only [HT.sIx]
  rw [if_neg (by omega), if_neg (by omega), Int.toNat_natCast, Int.toNat_natCast, Nat.min_eq_left (by simp only [List.length_append]; omega), Nat.min_eq_left (by simp only [List.length_append]; omega), List.append_assoc, List.drop_left' rfl, List.length_append, Nat.add_sub_cancel_left, List.take_left' rfl]
theorem wq_fl {m : M Fl} {Q : Fl → S → Prop} (h : wq m s fun f s1 => (∀ x σ', f ≠ .xc x σ') ∧ Q f s1) : wq (M.fl m) s Q := wq_bind (wq_mono h fun f s1 ⟨n, q⟩ => by
  cases f with
  | xc x σ' => exact absurd rfl (n x σ')
  | _ => exact q)
theorem wq_tryN {g : Sl → M Fl} {Q : Fl → S → Prop} (h : wq (g σ) s fun f s1 => (∀ x σ', f ≠ .xc x σ') ∧ Q f s1) : wq ((fun σ => M.fl (g σ)) σ) s Q := wq_fl h
theorem wq_isN {d : D} {Q : D → S → Prop} (q : Q (.bl (decide (d = .non))) s) : wq (isM d .non) s Q := q
theorem wq_cm {mo : Sl → M D} {mt : Nat → Option (List D → M D)} {ms : Sl → M (List D)} {f : List D → M D} {c : Nat} {Q : D → S → Prop} (hm : mt c = some f) (h : wq (mo σ) s fun x s1 => x = .cls c ∧ wq (ms σ) s1 fun ds s2 => wq (f (.cls c :: ds)) s2 Q) : wq (mCM mo mt ms σ) s Q := by
  refine wq_bind (wq_mono h fun x s1 ⟨e, w⟩ => ?_)
  subst e
  show wq (match mt c with | some f => _ | none => _) s1 Q
  rw [hm]
  exact wq_bind w
theorem wq_mkL {i c : Nat} {mt : Nat → Option (List D → M D)} {f : List D → M D} {ms : Sl → M (List D)} {Q : D → S → Prop} (e : σ[i]?.join = some (.cls c)) (hm : mt c = some f) (h : wq (mMk c f ms σ) s Q) : wq (mMkL i mt ms σ) s Q := by
  have e' : σ[i]? = some (some (.cls c)) := by
    cases hx : σ[i]? with
    | none => rw [hx] at e; cases e
    | some o => rw [hx] at e; cases o with
      | none => cases e
      | some z => cases e; rfl
  unfold mMkL
  rw [e']
  dsimp only
  rw [hm]
  exact h
theorem wq_catT {f : Nat → Option (List D → M D)} {xs ys : List D} {Q : D → S → Prop} (h : xs.length + ys.length ≤ 1000000) (q : Q (.tup (xs ++ ys)) s) : wq (addOM f (.tup xs) (.tup ys)) s Q := by
  have e : addM (.tup xs) (.tup ys) = M.pure (.tup (xs ++ ys)) := by
    show (if decide (xs.length + ys.length ≤ 1000000) then M.pure (D.tup (xs ++ ys)) else M.fail) = _
    rw [if_pos (decide_eq_true h)]
  exact wq_of_eq (m' := M.pure (.tup (xs ++ ys))) (show addM (.tup xs) (.tup ys) s = _ by rw [e]) (wq_pure q)
theorem wq_catL {f : Nat → Option (List D → M D)} {a b : Nat} {xs ys : List D} {Q : D → S → Prop} (g : s.get a = some (.lst xs)) (g' : s.get b = some (.lst ys)) (h : xs.length + ys.length ≤ 1000000) (q : Q (.ref s.n) (s.new (.lst (xs ++ ys)))) : wq (addOM f (.ref a) (.ref b)) s Q := by
  refine wq_of_eq (m' := addM (.ref a) (.ref b)) (by simp only [addOM, g, g']) ?_
  refine wq_bind (wq_read g (wq_bind (wq_read g' ?_)))
  dsimp only
  rw [if_pos (decide_eq_true h)]
  exact wq_bind (wq_new (wq_pure q))
end
end Ev

/-! EwX: what is known of a heap as a list of things that lie apart; a program's piece by what it makes of such a list. -/
namespace Ev
/-- every way ends well, nothing is raised -/
def wq0 {α : Type} (m : M α) (s : S) (Q : α → S → Prop) : Prop := wp m s Q fun _ _ => False
/-- the fields of things that do not change any more, once they have them all -/
def frzN : List (List Cs) := [[[107, 105, 110, 100], [116, 101, 115, 116, 115], [100, 101, 101, 100, 115]], [[114, 97, 105, 115, 101, 115], [114, 117, 108, 101, 115], [119, 97, 108, 107, 101, 100]], [[108, 101, 116, 116, 101, 114, 115], [115, 104, 111, 119, 115], [119, 104, 111, 108, 101], [111, 119, 110], [97, 110, 115, 119, 101, 114, 115], [99, 111, 117, 110, 116, 101, 100], [114, 117, 108, 101, 115], [103, 111, 97, 108, 115]], [[119, 111, 114, 100], [119, 104, 97, 116], [114, 117, 108, 101], [108, 97, 116, 101, 114], [109, 101, 116]]]
def O.frz : O → Bool
  | .ins _ fs => decide (fs.map Prod.fst ∈ frzN)
  | _ => false
/-- what is frozen stays -/
def Fz (s s' : S) : Prop := s.n ≤ s'.n ∧ ∀ a o, s.get a = some o → o.frz = true → s'.get a = some o
theorem Fz.rfl {s : S} : Fz s s := ⟨Nat.le_refl _, fun _ _ h _ => h⟩
theorem Fz.trans {s1 s2 s3 : S} (a : Fz s1 s2) (b : Fz s2 s3) : Fz s1 s3 := ⟨Nat.le_trans a.1 b.1, fun x o h z => b.2 x o (a.2 x o h z) z⟩
/-- a thing in a heap, with the addresses that are its own -/
structure HP where
  P : S → (Nat → Prop) → Prop
  st : ∀ {s s' : S} {A : Nat → Prop}, P s A → (∀ a, A a → s'.get a = s.get a) → Fz s s' → P s' A
  ow : ∀ {s : S} {A : Nat → Prop}, P s A → ∀ a, A a → ∃ o, s.get a = some o ∧ o.frz = false
abbrev Hc := List HP
def Sat : Hc → S → (Nat → Prop) → Prop
  | [], _, A => ∀ a, ¬ A a
  | h :: t, s, A => ∃ A1 A2 : Nat → Prop, (∀ a, A a ↔ A1 a ∨ A2 a) ∧ (∀ a, A1 a → ¬ A2 a) ∧ h.P s A1 ∧ Sat t s A2
def St (L : Hc) (s : S) : Prop := ∃ A, Sat L s A
theorem Sat.own : ∀ {L : Hc} {s : S} {A : Nat → Prop}, Sat L s A → ∀ a, A a → ∃ o, s.get a = some o ∧ o.frz = false
  | [], _, _, h, a, ha => absurd ha (h a)
  | x :: t, s, A, ⟨A1, A2, e, _, h1, h2⟩, a, ha => by
    rcases (e a).mp ha with z | z
    · exact x.ow h1 a z
    · exact Sat.own h2 a z
theorem Sat.old {s s' : S} (f : Fz s s') : ∀ {L : Hc} {A : Nat → Prop}, Sat L s A → (∀ a, A a → s'.get a = s.get a) → Sat L s' A
  | [], _, h, _ => h
  | x :: t, A, ⟨A1, A2, e, d, h1, h2⟩, k => ⟨A1, A2, e, d, x.st h1 (fun a ha => k a ((e a).mpr (.inl ha))) f, Sat.old f h2 fun a ha => k a ((e a).mpr (.inr ha))⟩
theorem Sat.ext {L : Hc} {s : S} {A B : Nat → Prop} (h : Sat L s A) (e : ∀ a, A a ↔ B a) : Sat L s B := by
  have : A = B := funext fun a => propext (e a)
  rw [← this]
  exact h
theorem Sat.cons {x : HP} {L : Hc} {s : S} {A1 A2 : Nat → Prop} (h1 : x.P s A1) (h2 : Sat L s A2) (d : ∀ a, A1 a → ¬ A2 a) : Sat (x :: L) s fun a => A1 a ∨ A2 a := ⟨A1, A2, fun _ => Iff.rfl, d, h1, h2⟩
theorem Sat.append : ∀ {L L' : Hc} {s : S} {A1 A2 : Nat → Prop}, Sat L s A1 → Sat L' s A2 → (∀ a, A1 a → ¬ A2 a) → Sat (L ++ L') s fun a => A1 a ∨ A2 a
  | [], L', s, A1, A2, h1, h2, d => h2.ext fun a => ⟨.inr, fun z => z.elim (fun y => absurd y (h1 a)) id⟩
  | x :: t, L', s, A1, A2, ⟨B1, B2, e, d1, k1, k2⟩, h2, d => by
    refine ⟨B1, fun a => B2 a ∨ A2 a, fun a => ?_, fun a ha => ?_, k1, Sat.append k2 h2 fun a ha => d a ((e a).mpr (.inr ha))⟩
    · show A1 a ∨ A2 a ↔ B1 a ∨ B2 a ∨ A2 a
      rw [e a, or_assoc]
    · rintro (z | z)
      · exact d1 a ha z
      · exact d a ((e a).mpr (.inl ha)) z
theorem Sat.split : ∀ {L L' : Hc} {s : S} {A : Nat → Prop}, Sat (L ++ L') s A → ∃ A1 A2, (∀ a, A a ↔ A1 a ∨ A2 a) ∧ (∀ a, A1 a → ¬ A2 a) ∧ Sat L s A1 ∧ Sat L' s A2
  | [], L', s, A, h => ⟨fun _ => False, A, fun a => ⟨.inr, fun z => z.elim False.elim id⟩, fun _ z => z.elim, fun _ => id, h⟩
  | x :: t, L', s, A, ⟨B1, B2, e, d1, k1, k2⟩ => by
    obtain ⟨C1, C2, e2, d2, k3, k4⟩ := Sat.split (L := t) k2
    refine ⟨fun a => B1 a ∨ C1 a, C2, fun a => ?_, fun a ha => ?_, ⟨B1, C1, fun _ => Iff.rfl, fun a ha z => d1 a ha ((e2 a).mpr (.inl z)), k1, k3⟩, k4⟩
    · show A a ↔ (B1 a ∨ C1 a) ∨ C2 a
      rw [e a, e2 a, or_assoc]
    · intro z
      rcases ha with y | y
      · exact d1 a y ((e2 a).mpr (.inr z))
      · exact d2 a y z
theorem Sat.perm {L L' : Hc} (p : L.Perm L') : ∀ {s : S} {A : Nat → Prop}, Sat L s A → Sat L' s A := by
  induction p with
  | nil => exact fun h => h
  | cons x _ ih => exact fun ⟨A1, A2, e, d, h1, h2⟩ => ⟨A1, A2, e, d, h1, ih h2⟩
  | swap x y l =>
    intro s A ⟨A1, A2, e, d, h1, ⟨B1, B2, e', d', k1, k2⟩⟩
    refine ⟨B1, fun a => A1 a ∨ B2 a, fun a => ?_, fun a ha => ?_, k1, ⟨A1, B2, fun _ => Iff.rfl, fun a ha z => d a ha ((e' a).mpr (.inr z)), h1, k2⟩⟩
    · rw [e a, e' a]
      constructor
      · rintro (z | z | z)
        · exact .inr (.inl z)
        · exact .inl z
        · exact .inr (.inr z)
      · rintro (z | z | z)
        · exact .inr (.inl z)
        · exact .inl z
        · exact .inr (.inr z)
    · rintro (z | z)
      · exact d a z ((e' a).mpr (.inl ha))
      · exact d' a ha z
  | trans _ _ ih1 ih2 => exact fun h => ih2 (ih1 h)
theorem St.perm {L L' : Hc} {s : S} (h : St L s) (p : L.Perm L') : St L' s := let ⟨A, z⟩ := h; ⟨A, z.perm p⟩
theorem Sat.tail {x : HP} {L : Hc} {s : S} {A : Nat → Prop} (h : Sat (x :: L) s A) : ∃ A2, (∀ a, A2 a → A a) ∧ Sat L s A2 := let ⟨_, A2, e, _, _, h2⟩ := h; ⟨A2, fun a ha => (e a).mpr (.inr ha), h2⟩
theorem Sat.sub {L L' : Hc} (p : L'.Sublist L) : ∀ {s : S} {A : Nat → Prop}, Sat L s A → ∃ A', (∀ a, A' a → A a) ∧ Sat L' s A' := by
  induction p with
  | slnil => exact fun {s A} h => ⟨A, fun _ z => z, h⟩
  | cons x _ ih =>
    intro s A h
    obtain ⟨A2, k, h2⟩ := h.tail
    obtain ⟨A3, k3, h3⟩ := ih h2
    exact ⟨A3, fun a z => k a (k3 a z), h3⟩
  | cons_cons x _ ih =>
    intro s A ⟨A1, A2, e, d, h1, h2⟩
    obtain ⟨A3, k3, h3⟩ := ih h2
    exact ⟨fun a => A1 a ∨ A3 a, fun a z => (e a).mpr (z.imp id (k3 a)), A1, A3, fun _ => Iff.rfl, fun a ha z => d a ha (k3 a z), h1, h3⟩
theorem St.sub {L L' : Hc} {s : S} (h : St L s) (p : L'.Sublist L) : St L' s := let ⟨_, z⟩ := h; let ⟨A, _, y⟩ := z.sub p; ⟨A, y⟩
theorem Sat.at : ∀ {L : Hc} {i : Nat} {x : HP} {s : S} {A : Nat → Prop}, L[i]? = some x → Sat L s A → ∃ A1, (∀ a, A1 a → A a) ∧ x.P s A1
  | [], _, _, _, _, h, _ => by simp at h
  | y :: t, 0, x, s, A, h, ⟨A1, A2, e, _, h1, _⟩ => by
    simp at h
    subst h
    exact ⟨A1, fun a ha => (e a).mpr (.inl ha), h1⟩
  | y :: t, i + 1, x, s, A, h, ⟨A1, A2, e, _, _, h2⟩ => by
    obtain ⟨A3, k, z⟩ := Sat.at (L := t) (by simpa using h) h2
    exact ⟨A3, fun a ha => (e a).mpr (.inr (k a ha)), z⟩
theorem St.at {L : Hc} {i : Nat} {x : HP} {s : S} (e : L[i]? = some x) (h : St L s) : ∃ A1, x.P s A1 := let ⟨_, z⟩ := h; let ⟨A1, _, y⟩ := z.at e; ⟨A1, y⟩
theorem perm_at {L : Hc} {i : Nat} {x : HP} (e : L[i]? = some x) : L.Perm (x :: L.eraseIdx i) := by
  induction L generalizing i with
  | nil => simp at e
  | cons y t ih =>
    cases i with
    | zero =>
      simp at e
      subst e
      exact List.Perm.refl _
    | succ i =>
      have h : t[i]? = some x := by simpa using e
      exact ((ih h).cons y).trans (List.Perm.swap x y _)
theorem perm_set {L : Hc} {i : Nat} {x y : HP} (e : L[i]? = some x) : (y :: L.eraseIdx i).Perm (L.set i y) := by
  induction L generalizing i with
  | nil => simp at e
  | cons z t ih =>
    cases i with
    | zero => exact List.Perm.refl _
    | succ i =>
      have h : t[i]? = some x := by simpa using e
      exact (List.Perm.swap z y _).trans ((ih h).cons z)
/-- one thing at an address -/
def cell (a : Nat) (o : O) : HP where
  P s A := o.frz = false ∧ s.get a = some o ∧ ∀ x, A x ↔ x = a
  st := fun ⟨z, g, e⟩ k _ => ⟨z, (k a ((e a).mpr rfl)).trans g, e⟩
  ow := fun ⟨z, g, e⟩ x hx => ⟨o, by rw [(e x).mp hx]; exact g, z⟩
/-- a frozen thing -/
def ro (a : Nat) (o : O) : HP where
  P s A := o.frz = true ∧ s.get a = some o ∧ ∀ x, ¬ A x
  st := fun ⟨z, g, e⟩ _ f => ⟨z, f.2 a o g z, e⟩
  ow := fun ⟨z, g, e⟩ x hx => absurd hx (e x)
/-- some things as one -/
def hstar (L : Hc) : HP where
  P s A := Sat L s A
  st := fun h k f => h.old f k
  ow := fun h a ha => h.own a ha
def hex {τ : Type} (f : τ → HP) : HP where
  P s A := ∃ t, (f t).P s A
  st := fun ⟨t, h⟩ k z => ⟨t, (f t).st h k z⟩
  ow := fun ⟨t, h⟩ a ha => (f t).ow h a ha
def hpure (p : Prop) : HP where
  P s A := p ∧ ∀ x, ¬ A x
  st := fun h _ _ => h
  ow := fun h a ha => absurd ha (h.2 a)
/-- a thing at an address is known -/
def Has (L : Hc) (a : Nat) (o : O) : Prop := ∀ s, St L s → s.get a = some o
theorem Has.cell {L : Hc} {i a : Nat} {o : O} (e : L[i]? = some (cell a o)) : Has L a o := fun s h => let ⟨_, _, g, _⟩ := h.at e; g
theorem Has.ro {L : Hc} {i a : Nat} {o : O} (e : L[i]? = some (ro a o)) : Has L a o := fun s h => let ⟨_, _, g, _⟩ := h.at e; g
theorem Has.star {L L1 : Hc} {i a : Nat} {o : O} (e : L[i]? = some (hstar L1)) (h : Has L1 a o) : Has L a o := fun s hs => let ⟨A, z⟩ := hs.at e; h s ⟨A, z⟩
theorem Has.sub {L L1 : Hc} {a : Nat} {o : O} (h : Has L a o) (p : L.Sublist L1) : Has L1 a o := fun s hs => h s (hs.sub p)
theorem Has.tl {x : HP} {L : Hc} {a : Nat} {o : O} (h : Has L a o) : Has (x :: L) a o := h.sub (List.sublist_cons_self x L)
theorem St.left {L F : Hc} {s : S} (h : St (L ++ F) s) : St L s := h.sub (List.sublist_append_left L F)
/-- what follows, with no more addresses -/
def Ent (L L2 : Hc) : Prop := ∀ s A, Sat L s A → ∃ A', (∀ a, A' a → A a) ∧ Sat L2 s A'
theorem Ent.rfl {L : Hc} : Ent L L := fun _ A h => ⟨A, fun _ z => z, h⟩
theorem Ent.trans {L L2 L3 : Hc} (a : Ent L L2) (b : Ent L2 L3) : Ent L L3 := fun s A h => let ⟨_, k, h2⟩ := a s A h; let ⟨C, k2, h3⟩ := b s _ h2; ⟨C, fun x z => k x (k2 x z), h3⟩
theorem Ent.perm {L L2 : Hc} (p : L.Perm L2) : Ent L L2 := fun s A h => ⟨A, fun _ z => z, h.perm p⟩
theorem Ent.sub {L L2 : Hc} (p : L2.Sublist L) : Ent L L2 := fun s A h => h.sub p
theorem Ent.drop {x : HP} {L L2 : Hc} (h : Ent L L2) : Ent (x :: L) L2 := (Ent.sub (List.sublist_cons_self x L)).trans h
theorem Ent.append {L L2 F F2 : Hc} (h : Ent L L2) (h2 : Ent F F2) : Ent (L ++ F) (L2 ++ F2) := fun s A z => by
  obtain ⟨A1, A2, e, d, k1, k2⟩ := z.split
  obtain ⟨B1, m1, j1⟩ := h s A1 k1
  obtain ⟨B2, m2, j2⟩ := h2 s A2 k2
  exact ⟨_, fun a z => (e a).mpr (z.imp (m1 a) (m2 a)), Sat.append j1 j2 fun a ha hb => d a (m1 a ha) (m2 a hb)⟩
theorem Ent.cons {x : HP} {L L2 : Hc} (h : Ent L L2) : Ent (x :: L) (x :: L2) := Ent.append (L := [x]) (L2 := [x]) Ent.rfl h
theorem Ent.st {L L2 F : Hc} {s : S} (h : Ent L L2) (z : St (L ++ F) s) : St (L2 ++ F) s := let ⟨A, z⟩ := z; let ⟨A', _, y⟩ := h.append Ent.rfl s A z; ⟨A', y⟩
theorem Ent.fold {L1 L : Hc} : Ent (L1 ++ L) (hstar L1 :: L) := fun s A z => by
  obtain ⟨A1, A2, e, d, h1, h2⟩ := z.split
  exact ⟨A, fun _ z => z, A1, A2, e, d, h1, h2⟩
theorem Ent.star {L1 L : Hc} : Ent (hstar L1 :: L) (L1 ++ L) := fun s A ⟨A1, A2, e, d, h1, h2⟩ => ⟨_, fun a z => (e a).mpr z, Sat.append h1 h2 d⟩
theorem Ent.ofPos {L : Hc} {i : Nat} {x : HP} (e : L[i]? = some x) : Ent L (x :: L.eraseIdx i) := Ent.perm (perm_at e)
theorem Ent.toPos {L : Hc} {i : Nat} {x y : HP} (e : L[i]? = some x) : Ent (y :: L.eraseIdx i) (L.set i y) := Ent.perm (perm_set e)
theorem range_take {L : Hc} : ∀ n : Nat, (List.range n).filterMap (fun i => L[i]?) = L.take n
  | 0 => by simp
  | n + 1 => by
    rw [List.range_succ, List.filterMap_append, range_take n, List.take_succ]
    cases h : L[n]? with
    | none => simp [h]
    | some x => simp [h]
/-- some things in another order -/
theorem Ent.sel {L : Hc} (is : List Nat) (h : is.Perm (List.range is.length)) : Ent L (is.filterMap (fun i => L[i]?) ++ L.drop is.length) := Ent.perm (by
  have e : L = (List.range is.length).filterMap (fun i => L[i]?) ++ L.drop is.length := by rw [range_take, List.take_append_drop]
  refine List.Perm.trans (List.Perm.of_eq e) ?_
  exact (h.symm.filterMap _).append_right _)
section
variable {α β : Type} {L : Hc}
/-- every way ends well, with a list of things; what else there is stays -/
def sq (m : M α) (L : Hc) (K : α → Hc → Prop) : Prop := ∀ F s, St (L ++ F) s → wq0 m s fun a s' => Fz s s' ∧ ∃ L', St (L' ++ F) s' ∧ K a L'
theorem sq_mono {m : M α} {K K' : α → Hc → Prop} (h : sq m L K) (k : ∀ a L', K a L' → K' a L') : sq m L K' := fun F s hs => wp_mono (h F s hs) (fun a s' ⟨f, L', h1, h2⟩ => ⟨f, L', h1, k a L' h2⟩) fun _ _ z => z
theorem sq_pure {a : α} {K : α → Hc → Prop} (h : K a L) : sq (M.pure a) L K := fun F s hs => ⟨Fz.rfl, L, hs, h⟩
theorem sq_bind {m : M α} {f : α → M β} {K : β → Hc → Prop} (h : sq m L fun a L' => sq (f a) L' K) : sq (M.bind m f) L K := fun F s hs => wp_bind.mpr (wp_mono (h F s hs) (fun a s1 ⟨z, L1, h1, h2⟩ => wp_mono (h2 F s1 h1) (fun b s' ⟨y, q⟩ => ⟨z.trans y, q⟩) fun _ _ z => z) fun _ _ z => z)
theorem sq_ent {m : M α} {K : α → Hc → Prop} {L2 : Hc} (e : Ent L L2) (h : sq m L2 K) : sq m L K := fun F s hs => h F s (e.st hs)
theorem sq_post {m : M α} {K : α → Hc → Prop} (h : sq m L fun a L' => ∃ L2, Ent L' L2 ∧ K a L2) : sq m L K := fun F s hs => wp_mono (h F s hs) (fun a s' ⟨f, L', h1, L2, e, k⟩ => ⟨f, L2, e.st h1, k⟩) fun _ _ z => z
theorem sq_frame {m : M α} {F0 : Hc} {K : α → Hc → Prop} (h : sq m L fun a L' => K a (L' ++ F0)) : sq m (L ++ F0) K := fun F s hs => wp_mono (h (F0 ++ F) s (by rw [← List.append_assoc]; exact hs)) (fun a s' ⟨f, L', h1, k⟩ => ⟨f, _, by rw [List.append_assoc]; exact h1, k⟩) fun _ _ z => z
theorem sq_know {m : M α} {K : α → Hc → Prop} {p : Prop} (e : ∀ s, St L s → p) (h : p → sq m L K) : sq m L K := fun F s hs => h (e s hs.left) F s hs
theorem sq_of_eq {m m' : M α} {K : α → Hc → Prop} (e : ∀ s, St L s → m s = m' s) (h : sq m' L K) : sq m L K := fun F s hs => by
  have := h F s hs
  unfold wq0 wp at *
  rw [e s hs.left]
  exact this
/-- what leaves all as it is -/
theorem sq_keep {m : M α} {a : α} {K : α → Hc → Prop} (e : ∀ s (Q : α → S → Prop), St L s → Q a s → wq0 m s Q) (h : K a L) : sq m L K := fun F s hs => e s _ hs.left ⟨Fz.rfl, L, hs, h⟩
theorem sq_opt {o : Option α} {a : α} {K : α → Hc → Prop} (e : o = some a) (h : K a L) : sq (M.ofOpt o) L K := fun F s hs => wp_opt.mpr ⟨a, e, Fz.rfl, L, hs, h⟩
theorem sq_draw {n : Nat} {K : Nat → Hc → Prop} (h : ∀ i, i < n → K i L) : sq (M.draw n) L K := fun F s hs => wp_draw.mpr fun i hi => ⟨Fz.rfl, L, hs, h i hi⟩
theorem sq_read {a : Nat} {o : O} {K : O → Hc → Prop} (g : Has L a o) (h : K o L) : sq (M.read a) L K := fun F s hs => wp_read.mpr ⟨o, g s hs.left, Fz.rfl, L, hs, h⟩
theorem Fz.new (s : S) (o : O) : Fz s (s.new o) := ⟨by rw [S.new_n]; omega, fun a u g _ => (S.get_new_lt (S.get_lt g)).trans g⟩
theorem St.new {s : S} {o : O} (hs : St L s) (hz : o.frz = false) : St (cell s.n o :: L) (s.new o) := by
  obtain ⟨A, h⟩ := hs
  have lt : ∀ a, A a → a < s.n := fun a ha => let ⟨_, g, _⟩ := h.own a ha; S.get_lt g
  refine ⟨_, Sat.cons (A1 := fun a => a = s.n) (A2 := A) ⟨hz, S.get_new_same, fun _ => Iff.rfl⟩ (h.old (Fz.new s o) fun a ha => S.get_new_lt (lt a ha)) fun a e ha => ?_⟩
  have := lt a ha
  omega
/-- one thing more -/
theorem sq_news {m : M α} {a : Nat → α} {o : O} {K : α → Hc → Prop} (hz : o.frz = false) (e : ∀ s (Q : α → S → Prop), St L s → Q (a s.n) (s.new o) → wq0 m s Q) (h : ∀ n, K (a n) (cell n o :: L)) : sq m L K := fun F s hs => e s _ hs.left ⟨Fz.new s o, _, hs.new hz, h s.n⟩
theorem sq_new {o : O} {K : Nat → Hc → Prop} (hz : o.frz = false) (h : ∀ n, K n (cell n o :: L)) : sq (M.new o) L K := sq_news (a := id) hz (fun s Q _ z => z) h
theorem Fz.set {s : S} {a : Nat} {u : O} (g : s.get a = some u) (hz : u.frz = false) (o : O) : Fz s (s.set a o) := ⟨Nat.le_refl _, fun b w gb zb => by
  have : b ≠ a := fun e => by
    rw [e, g] at gb
    cases gb
    rw [hz] at zb
    cases zb
  rw [S.get_set_ne this]
  exact gb⟩
theorem app_at {F : Hc} {i : Nat} {x : HP} (e : L[i]? = some x) : (L ++ F)[i]? = some x := by
  rw [List.getElem?_append_left (List.getElem?_eq_some_iff.mp e).1]
  exact e
theorem St.put {F : Hc} {s : S} {i a : Nat} {u o : O} (hs : St (L ++ F) s) (e : L[i]? = some (cell a u)) (hz : o.frz = false) : St (L.set i (cell a o) ++ F) (s.set a o) ∧ Fz s (s.set a o) ∧ s.get a = some u := by
  have e2 := app_at (F := F) e
  obtain ⟨A, A1, A2, eA, d, ⟨z, g, k⟩, h2⟩ := hs.perm (perm_at e2)
  have f := Fz.set g z o
  refine ⟨?_, f, g⟩
  rw [← List.set_append_left _ _ (List.getElem?_eq_some_iff.mp e).1]
  refine St.perm ⟨_, Sat.cons (x := cell a o) (A1 := A1) (A2 := A2) ⟨hz, S.get_set_same (S.get_lt g), k⟩ (h2.old f fun b hb => S.get_set_ne fun eb => ?_) d⟩ (perm_set e2)
  exact d b ((k b).mpr eb) hb
/-- one thing otherwise -/
theorem sq_puts {m : M α} {v : α} {i a : Nat} {u o : O} {K : α → Hc → Prop} (at_ : L[i]? = some (cell a u)) (hz : o.frz = false) (e : ∀ s (Q : α → S → Prop), St L s → s.get a = some u → Q v (s.set a o) → wq0 m s Q) (h : K v (L.set i (cell a o))) : sq m L K := fun F s hs =>
  let ⟨h1, h2, h3⟩ := hs.put at_ hz
  e s _ hs.left h3 ⟨h2, _, h1, h⟩
theorem sq_write {i a : Nat} {u o : O} {K : Unit → Hc → Prop} (e : L[i]? = some (cell a u)) (l : u.isL = false) (hz : o.frz = false) (h : K () (L.set i (cell a o))) : sq (M.write a o) L K := sq_puts e hz (fun s Q _ g z => wp_write.mpr ⟨⟨u, g, l⟩, z⟩) h
/-- a thing gets frozen -/
theorem St.freeze {F : Hc} {s : S} {i a : Nat} {u o : O} (hs : St (L ++ F) s) (e : L[i]? = some (cell a u)) (hz : o.frz = true) : St (L.set i (ro a o) ++ F) (s.set a o) ∧ Fz s (s.set a o) ∧ s.get a = some u := by
  have e2 := app_at (F := F) e
  obtain ⟨A, A1, A2, eA, d, ⟨z, g, k⟩, h2⟩ := hs.perm (perm_at e2)
  have f := Fz.set g z o
  refine ⟨?_, f, g⟩
  rw [← List.set_append_left _ _ (List.getElem?_eq_some_iff.mp e).1]
  refine St.perm ⟨_, Sat.cons (x := ro a o) (A1 := fun _ => False) (A2 := A2) ⟨hz, S.get_set_same (S.get_lt g), fun _ z => z⟩ (h2.old f fun b hb => S.get_set_ne fun eb => ?_) fun _ z => z.elim⟩ (perm_set e2)
  exact d b ((k b).mpr eb) hb
theorem sq_freezes {m : M α} {v : α} {i a : Nat} {u o : O} {K : α → Hc → Prop} (at_ : L[i]? = some (cell a u)) (hz : o.frz = true) (e : ∀ s (Q : α → S → Prop), St L s → s.get a = some u → Q v (s.set a o) → wq0 m s Q) (h : K v (L.set i (ro a o))) : sq m L K := fun F s hs =>
  let ⟨h1, h2, h3⟩ := hs.freeze at_ hz
  e s _ hs.left h3 ⟨h2, _, h1, h⟩
/-- one thing in front -/
theorem sq_foc {m : M α} {K : α → Hc → Prop} {i : Nat} {x : HP} (e : L[i]? = some x) (H : sq m (x :: L.eraseIdx i) fun a L' => ∃ N y, L' = N ++ y :: L.eraseIdx i ∧ K a (N ++ L.set i y)) : sq m L K := sq_ent (.ofPos e) (sq_post (sq_mono H fun a L' ⟨N, y, eq, k⟩ => ⟨_, by subst eq; exact Ent.rfl.append (.toPos e), k⟩))
theorem sq_star {m : M α} {K : α → Hc → Prop} {i : Nat} {L1 : Hc} (e : L[i]? = some (hstar L1)) (H : sq m (L1 ++ L.eraseIdx i) K) : sq m L K := sq_ent ((Ent.ofPos e).trans .star) H
theorem sq_ex {τ : Type} {f : τ → HP} {m : M α} {K : α → Hc → Prop} {i : Nat} (e : L[i]? = some (hex f)) (H : ∀ t, sq m (L.set i (f t)) K) : sq m L K := fun F s hs => by
  have e2 := app_at (F := F) e
  obtain ⟨A, A1, A2, eA, d, ⟨t, h1⟩, h2⟩ := hs.perm (perm_at e2)
  refine H t F s ?_
  rw [← List.set_append_left _ _ (List.getElem?_eq_some_iff.mp e).1]
  exact St.perm (L := f t :: (L ++ F).eraseIdx i) ⟨A, A1, A2, eA, d, h1, h2⟩ (perm_set e2)
/-- two things lie apart -/
theorem St.apart {s : S} {i j a b : Nat} {o u : O} (hs : St L s) (ei : L[i]? = some (cell a o)) (ej : L[j]? = some (cell b u)) (ne : i ≠ j) : a ≠ b := by
  induction L generalizing i j with
  | nil => simp at ei
  | cons x t ih =>
    obtain ⟨A, A1, A2, eA, d, h1, h2⟩ := hs
    cases i with
    | zero =>
      cases j with
      | zero => exact absurd rfl ne
      | succ j =>
        simp at ei
        subst ei
        obtain ⟨A3, k3, h3⟩ := h2.at (i := j) (x := cell b u) (by simpa using ej)
        intro e
        exact d a ((h1.2.2 a).mpr rfl) (k3 a ((h3.2.2 a).mpr e))
    | succ i =>
      cases j with
      | zero =>
        simp at ej
        subst ej
        obtain ⟨A3, k3, h3⟩ := h2.at (i := i) (x := cell a o) (by simpa using ei)
        intro e
        exact d b ((h1.2.2 b).mpr rfl) (k3 b ((h3.2.2 b).mpr e.symm))
      | succ j => exact ih ⟨A2, h2⟩ (by simpa using ei) (by simpa using ej) (by omega)
/-- what is shown with a heap in hand, where old things stand -/
theorem sq_low {m : M α} {K : α → Hc → Prop} (h : ∀ s, St L s → wq0 m s fun a s' => s.n ≤ s'.n ∧ (∀ b, b < s.n → s'.get b = s.get b) ∧ ∃ N A, Sat N s' A ∧ (∀ b, A b → s.n ≤ b) ∧ K a (N ++ L)) : sq m L K := fun F s hs => wp_mono (h s hs.left) (fun a s' ⟨hn, old, N, A, hN, hA, k⟩ => by
  have f : Fz s s' := ⟨hn, fun b o g _ => (old b (S.get_lt g)).trans g⟩
  obtain ⟨B, hB⟩ := hs
  have lt : ∀ b, B b → b < s.n := fun b hb => let ⟨_, g, _⟩ := hB.own b hb; S.get_lt g
  have z : Sat (N ++ (L ++ F)) s' fun b => A b ∨ B b := Sat.append hN (hB.old f fun b hb => old b (lt b hb)) fun b hb hb2 => by
    have := hA b hb
    have := lt b hb2
    omega
  have y : St ((N ++ L) ++ F) s' := by
    rw [List.append_assoc]
    exact ⟨_, z⟩
  exact ⟨f, N ++ L, y, k⟩) fun _ _ z => z
end
end Ev

/-! EwY: rules for a program's pieces over lists of things. -/
namespace Ev
open PySem PySem.Spec PyProof.Rows L2
section
variable {α β : Type} {s : Hc} {σ : Sl}
theorem sq_when {b : Bool} {m : M α} {Q : α → Hc → Prop} (e : b = true) (h : sq m s Q) : sq (M.when b m) s Q := by
  unfold M.when
  rw [if_pos e]
  exact h
theorem sq_inS {m : M α} {f : α → M Fl} {Q : Fl → Hc → Prop} (h : sq m s fun a s' => sq (f a) s' Q) : sq (M.inS σ m f) s Q := fun F z hz =>
  wq_inS (wq_mono (h F z hz) fun a s1 ⟨f1, L1, h1, h2⟩ => wq_mono (h2 F s1 h1) fun b s2 ⟨f2, q⟩ => ⟨f1.trans f2, q⟩)
theorem sq_noX {m : M α} {Q : α → Hc → Prop} (h : sq m s Q) : sq (M.noX m) s Q := fun F z hz => wq_noX (h F z hz)
/-! ### tests -/
def jB (T F : Hc → Prop) : D → Hc → Prop := fun d s => match d with
  | .bl b => if b = true then T s else F s
  | _ => False
def jT (T F : Hc → Prop) : Bool → Hc → Prop := fun b s => if b = true then T s else F s
theorem jB_t {T F : Hc → Prop} (h : T s) : jB T F (.bl true) s := h
theorem jB_f {T F : Hc → Prop} (h : F s) : jB T F (.bl false) s := by show (if false = true then T s else F s); rw [if_neg Bool.false_ne_true]; exact h
theorem jB_b {T F : Hc → Prop} {b : Bool} (ht : b = true → T s) (hf : b = false → F s) : jB T F (.bl b) s := by
  cases b with
  | true => exact jB_t (ht rfl)
  | false => exact jB_f (hf rfl)
theorem jT_t {T F : Hc → Prop} (h : T s) : jT T F true s := h
theorem jT_f {T F : Hc → Prop} (h : F s) : jT T F false s := by show (if false = true then T s else F s); rw [if_neg Bool.false_ne_true]; exact h
theorem jT_b {T F : Hc → Prop} {b : Bool} (ht : b = true → T s) (hf : b = false → F s) : jT T F b s := by
  cases b with
  | true => exact jT_t (ht rfl)
  | false => exact jT_f (hf rfl)
/-! ### expressions -/
theorem sq_m2 {ma mb : Sl → M D} {op : D → D → M D} {Q : D → Hc → Prop} (h : sq (ma σ) s fun x s1 => sq (mb σ) s1 fun y s2 => sq (op x y) s2 Q) : sq (m2 ma mb op σ) s Q := sq_bind (sq_mono h fun _ _ z => sq_bind z)
theorem sq_m1 {ma : Sl → M D} {op : D → M D} {Q : D → Hc → Prop} (h : sq (ma σ) s fun x s1 => sq (op x) s1 Q) : sq (m1 ma op σ) s Q := sq_bind h
theorem sq_mA {ms : Sl → M (List D)} {op : List D → M D} {Q : D → Hc → Prop} (h : sq (ms σ) s fun x s1 => sq (op x) s1 Q) : sq (mA ms op σ) s Q := sq_bind h
theorem sq_var {i : Nat} {d : D} {Q : D → Hc → Prop} (e : σ[i]?.join = some d) (h : Q d s) : sq (mVar i σ) s Q := sq_opt e h
theorem sq_C {d : D} {Q : D → Hc → Prop} (h : Q d s) : sq (mC d σ) s Q := sq_pure h
theorem sq_nil {Q : List D → Hc → Prop} (h : Q [] s) : sq (mNil σ) s Q := sq_pure h
theorem sq_cons {ma : Sl → M D} {mr : Sl → M (List D)} {Q : List D → Hc → Prop} (h : sq (ma σ) s fun x s1 => sq (mr σ) s1 fun xs s2 => Q (x :: xs) s2) : sq (mCons ma mr σ) s Q := sq_bind (sq_mono h fun _ _ z => sq_bind (sq_mono z fun _ _ y => sq_pure y))
theorem sq_star' {ma : Sl → M D} {mr : Sl → M (List D)} {Q : List D → Hc → Prop} (h : sq (ma σ) s fun x s1 => sq (M.seq x) s1 fun ds s2 => sq (mr σ) s2 fun xs s3 => Q (ds ++ xs) s3) : sq (mStar ma mr σ) s Q := sq_bind (sq_mono h fun _ _ z => sq_bind (sq_mono z fun _ _ y => sq_bind (sq_mono y fun _ _ x => sq_pure x)))
theorem sq_and {ma mb : Sl → M Bool} {Q : Bool → Hc → Prop} (h : sq (ma σ) s (jT (fun s1 => sq (mb σ) s1 Q) fun s1 => Q false s1)) : sq (mAnd ma mb σ) s Q := sq_bind (sq_mono h fun b s1 z => by
  cases b with
  | true => first | exact z | exact sq_pure z
  | false => first | exact z | exact sq_pure z)
theorem sq_or {ma mb : Sl → M Bool} {Q : Bool → Hc → Prop} (h : sq (ma σ) s (jT (fun s1 => Q true s1) fun s1 => sq (mb σ) s1 Q)) : sq (mOr ma mb σ) s Q := sq_bind (sq_mono h fun b s1 z => by
  cases b with
  | true => first | exact z | exact sq_pure z
  | false => first | exact z | exact sq_pure z)
theorem sq_not {ma : Sl → M Bool} {Q : Bool → Hc → Prop} (h : sq (ma σ) s fun b s1 => Q (!b) s1) : sq (mNot ma σ) s Q := sq_bind (sq_mono h fun _ _ z => sq_pure z)
def jV (Q : Bool → Hc → Prop) : D → Hc → Prop := fun d s => match d with
  | .bl b => Q b s
  | _ => False
theorem jV_b {Q : Bool → Hc → Prop} {b : Bool} (h : Q b s) : jV Q (.bl b) s := h
theorem sq_bool {ma : Sl → M D} {Q : Bool → Hc → Prop} (h : sq (ma σ) s (jV Q)) : sq (mBool ma σ) s Q := sq_bind (sq_mono h fun d s1 z => by
  cases d with
  | bl b => first | exact z | exact sq_pure z
  | _ => exact z.elim)
theorem sq_true {Q : Bool → Hc → Prop} (h : Q true s) : sq ((fun _ : Sl => M.pure true) σ) s Q := sq_pure h
theorem sq_if {mt : Sl → M Bool} {ma mb : Sl → M D} {Q : D → Hc → Prop} (h : sq (mt σ) s (jT (fun s1 => sq (ma σ) s1 Q) fun s1 => sq (mb σ) s1 Q)) : sq (mIf mt ma mb σ) s Q := sq_bind (sq_mono h fun b s1 z => by
  cases b with
  | true => first | exact z | exact sq_pure z
  | false => first | exact z | exact sq_pure z)
theorem sq_ifC {mt : Sl → M Bool} {a b : D} {Q : D → Hc → Prop} (h : sq (mt σ) s fun c s1 => Q (bif c then a else b) s1) : sq (mIf mt (mC a) (mC b) σ) s Q := sq_bind (sq_mono h fun c s1 z => by
  cases c with
  | true => first | exact z | exact sq_pure z
  | false => first | exact z | exact sq_pure z)
theorem sq_andP {ma mb : Sl → M Bool} {x y : Bool} {Q : Bool → Hc → Prop} (h1 : sq (ma σ) s fun b s1 => b = x ∧ s1 = s) (h2 : x = true → sq (mb σ) s fun b s1 => b = y ∧ s1 = s) (q : Q (x && y) s) : sq (mAnd ma mb σ) s Q := sq_and (sq_mono h1 fun b s1 ⟨e, e'⟩ => by
  subst e e'
  cases b with
  | true => exact sq_mono (h2 rfl) fun b s1 ⟨e, e'⟩ => by subst e e'; exact q
  | false => exact q)
theorem sq_orP {ma mb : Sl → M Bool} {x y : Bool} {Q : Bool → Hc → Prop} (h1 : sq (ma σ) s fun b s1 => b = x ∧ s1 = s) (h2 : x = false → sq (mb σ) s fun b s1 => b = y ∧ s1 = s) (q : Q (x || y) s) : sq (mOr ma mb σ) s Q := sq_or (sq_mono h1 fun b s1 ⟨e, e'⟩ => by
  subst e e'
  cases b with
  | true => exact q
  | false => exact sq_mono (h2 rfl) fun b s1 ⟨e, e'⟩ => by subst e e'; exact q)
theorem sq_andV {ma mb : Sl → M D} {Q : D → Hc → Prop} (h : sq (ma σ) s (jB (fun s1 => sq (mb σ) s1 Q) fun s1 => Q (.bl false) s1)) : sq (mAndV ma mb σ) s Q := sq_bind (sq_mono h fun d s1 z => by
  cases d with
  | bl b => cases b <;> first | exact z | exact sq_pure z
  | _ => exact z.elim)
theorem sq_orV {ma mb : Sl → M D} {Q : D → Hc → Prop} (h : sq (ma σ) s (jB (fun s1 => Q (.bl true) s1) fun s1 => sq (mb σ) s1 Q)) : sq (mOrV ma mb σ) s Q := sq_bind (sq_mono h fun d s1 z => by
  cases d with
  | bl b => cases b <;> first | exact z | exact sq_pure z
  | _ => exact z.elim)
theorem sq_notV {ma : Sl → M D} {Q : D → Hc → Prop} (h : sq (ma σ) s (jV fun b s1 => Q (.bl (!b)) s1)) : sq (mNotV ma σ) s Q := sq_bind (sq_mono h fun d s1 z => by
  cases d with
  | bl b => first | exact z | exact sq_pure z
  | _ => exact z.elim)
theorem sq_chain {ma mb mc : Sl → M D} {op op' : D → D → M D} {Q : D → Hc → Prop} (h : sq (ma σ) s fun x s1 => sq (mb σ) s1 fun y s2 => sq (op x y) s2 (jB (fun s3 => sq (mc σ) s3 fun z s4 => sq (op' y z) s4 Q) fun s3 => Q (.bl false) s3)) : sq (mChain ma mb mc op op' σ) s Q :=
  sq_bind (sq_mono h fun _ _ z => sq_bind (sq_mono z fun _ _ y => sq_bind (sq_mono y fun d s1 z => by
    cases d with
    | bl b =>
      cases b with
      | true => exact sq_bind z
      | false => first | exact z | exact sq_pure z
    | _ => exact z.elim)))
/-! ### statements -/
def jS (g : Sl → M Fl) (Q : Fl → Hc → Prop) : Fl → Hc → Prop := fun f s => match f with
  | .nx σ' => sq (g σ') s Q
  | o => Q o s
theorem jS_nx {g : Sl → M Fl} {Q : Fl → Hc → Prop} (h : sq (g σ) s Q) : jS g Q (.nx σ) s := h
theorem jS_rt {g : Sl → M Fl} {d : D} {Q : Fl → Hc → Prop} (h : Q (.rt d) s) : jS g Q (.rt d) s := h
theorem jS_ct {g : Sl → M Fl} {Q : Fl → Hc → Prop} (h : Q (.ct σ) s) : jS g Q (.ct σ) s := h
theorem jS_bk {g : Sl → M Fl} {Q : Fl → Hc → Prop} (h : Q (.bk σ) s) : jS g Q (.bk σ) s := h
theorem sq_seq {f g : Sl → M Fl} {Q : Fl → Hc → Prop} (h : sq (f σ) s (jS g Q)) : sq (gSeq f g σ) s Q := sq_bind (sq_mono h fun o s1 z => by cases o <;> first | exact z | exact sq_pure z)
theorem sq_next {Q : Fl → Hc → Prop} (h : Q (.nx σ) s) : sq (gNext σ) s Q := sq_pure h
theorem sq_brk {Q : Fl → Hc → Prop} (h : Q (.bk σ) s) : sq (gBrk σ) s Q := sq_pure h
theorem sq_cnt {Q : Fl → Hc → Prop} (h : Q (.ct σ) s) : sq (gCnt σ) s Q := sq_pure h
theorem sq_expr {me : Sl → M D} {Q : Fl → Hc → Prop} (h : sq (me σ) s fun _ s1 => Q (.nx σ) s1) : sq (gExpr me σ) s Q := sq_inS (sq_mono h fun _ _ z => sq_pure z)
theorem sq_ret {me : Sl → M D} {Q : Fl → Hc → Prop} (h : sq (me σ) s fun d s1 => Q (.rt d) s1) : sq (gRet me σ) s Q := sq_inS (sq_mono h fun _ _ z => sq_pure z)
theorem sq_retN {Q : Fl → Hc → Prop} (h : Q (.rt .non) s) : sq (gRetN σ) s Q := sq_pure h
theorem sq_gif {mt : Sl → M Bool} {f g : Sl → M Fl} {Q : Fl → Hc → Prop} (h : sq (mt σ) s (jT (fun s1 => sq (f σ) s1 Q) fun s1 => sq (g σ) s1 Q)) : sq (gIf mt f g σ) s Q := sq_inS (sq_mono h fun b s1 z => by
  cases b with
  | true => first | exact z | exact sq_pure z
  | false => first | exact z | exact sq_pure z)
/-- where the text would raise -/
theorem sq_gifF {mt : Sl → M Bool} {g : Sl → M Fl} {Q : Fl → Hc → Prop} (h : sq (mt σ) s fun b s1 => b = false ∧ sq (g σ) s1 Q) : sq (gIf mt (gSeq (fun _ => M.fail) gNext) g σ) s Q := sq_gif (sq_mono h fun b s1 ⟨e, z⟩ => by
  subst e
  exact jT_f z)
theorem sq_asg {me : Sl → M D} {t : Tg} {Q : Fl → Hc → Prop} (h : sq (me σ) s fun d s1 => sq (t d σ) s1 fun σ' s2 => Q (.nx σ') s2) : sq (gAsg me t σ) s Q := sq_inS (sq_bind (sq_mono h fun _ _ z => sq_noX (sq_mono z fun _ _ y => sq_pure y)))
theorem sq_gN {i : Nat} {d : D} {Q : Sl → Hc → Prop} (h : Q (σ.set i (some d)) s) : sq (gN i d σ) s Q := sq_pure h
theorem sq_gAttr {pf : Nat → Bool} {f : Cs} {mo : Sl → M D} {d : D} {Q : Sl → Hc → Prop} (h : sq (mo σ) s fun x s1 => sq (setFM pf f x d) s1 fun _ s2 => Q σ s2) : sq (gAttr pf f mo d σ) s Q := sq_noX (sq_bind (sq_mono h fun _ _ z => sq_bind (sq_mono z fun _ _ y => sq_pure y)))
theorem sq_gsNil {Q : Sl → Hc → Prop} (h : Q σ s) : sq (gsNil [] σ) s Q := sq_pure h
theorem sq_gsCons {t : Tg} {u : Tgs} {d : D} {ds : List D} {Q : Sl → Hc → Prop} (h : sq (t d σ) s fun σ1 s1 => sq (u ds σ1) s1 Q) : sq (gsCons t u (d :: ds) σ) s Q := sq_bind h

theorem sq_inT {x : Cs} {ws : List Cs} {Q : D → Hc → Prop} (q : Q (.bl (decide (x ∈ ws))) s) : sq (inM (.str x) (.tup (ws.map .str))) s Q := sq_keep (fun _ _ _ z => wq_inT z) q
theorem sq_eqS {f : Nat → Nat → Option (List D → M D)} {x y : Cs} {Q : D → Hc → Prop} (q : Q (.bl (decide (x = y))) s) : sq (cmpOM false f eqM (.str x) (.str y)) s Q := sq_keep (fun _ _ _ z => wq_eqS z) q
theorem sq_neS {f : Nat → Nat → Option (List D → M D)} {x y : Cs} {Q : D → Hc → Prop} (q : Q (.bl (!decide (x = y))) s) : sq (cmpOM true f neM (.str x) (.str y)) s Q := sq_keep (fun _ _ _ z => wq_neS z) q
theorem sq_eqI {f : Nat → Nat → Option (List D → M D)} {x y : Int} {Q : D → Hc → Prop} (q : Q (.bl (decide (x = y))) s) : sq (cmpOM false f eqM (.int x) (.int y)) s Q := sq_keep (fun _ _ _ z => wq_eqI z) q
theorem sq_neI {f : Nat → Nat → Option (List D → M D)} {x y : Int} {Q : D → Hc → Prop} (q : Q (.bl (!decide (x = y))) s) : sq (cmpOM true f neM (.int x) (.int y)) s Q := sq_keep (fun _ _ _ z => z) q
theorem sq_addS {f : Nat → Option (List D → M D)} {x y : Cs} {Q : D → Hc → Prop} (h : (x ++ y).length ≤ 1000000) (q : Q (.str (x ++ y)) s) : sq (addOM f (.str x) (.str y)) s Q := sq_keep (fun _ _ _ z => wq_addS h z) q
theorem sq_addI {f : Nat → Option (List D → M D)} {x y : Int} {Q : D → Hc → Prop} (q : Q (.int (x + y)) s) : sq (addOM f (.int x) (.int y)) s Q := sq_keep (fun _ _ _ z => wq_addI z) q
theorem sq_addN {f : Nat → Option (List D → M D)} {x y : Nat} {Q : D → Hc → Prop} (q : Q (.int (x + y : Nat)) s) : sq (addOM f (.int x) (.int y)) s Q := sq_addI q
theorem sq_addN1 {f : Nat → Option (List D → M D)} {x : Nat} {Q : D → Hc → Prop} (q : Q (.int (x + 1 : Nat)) s) : sq (addOM f (.int x) (.int 1)) s Q := sq_addI q
theorem sq_subI {x y : Int} {Q : D → Hc → Prop} (q : Q (.int (x - y)) s) : sq (subM (.int x) (.int y)) s Q := sq_pure q
theorem sq_negI {x : Int} {Q : D → Hc → Prop} (q : Q (.int (-x)) s) : sq (negM (.int x)) s Q := sq_pure q
theorem sq_catT {f : Nat → Option (List D → M D)} {xs ys : List D} {Q : D → Hc → Prop} (h : xs.length + ys.length ≤ 1000000) (q : Q (.tup (xs ++ ys)) s) : sq (addOM f (.tup xs) (.tup ys)) s Q := sq_keep (fun _ _ _ z => wq_catT h z) q
theorem sq_catL {f : Nat → Option (List D → M D)} {a b : Nat} {xs ys : List D} {Q : D → Hc → Prop} (g : Has s a (.lst xs)) (g' : Has s b (.lst ys)) (h : xs.length + ys.length ≤ 1000000) (q : ∀ n, Q (.ref n) (cell n (.lst (xs ++ ys)) :: s)) : sq (addOM f (.ref a) (.ref b)) s Q := sq_news (a := D.ref) rfl (fun z _ hz k => wq_catL (g z hz) (g' z hz) h k) q
theorem sq_ixT {gi : Nat → Option (List D → M D)} {ds : List D} {k : Int} {d : D} {Q : D → Hc → Prop} (e : atI ds k = some d) (q : Q d s) : sq (ixOM gi (.tup ds) (.int k)) s Q := sq_keep (fun _ _ _ z => wq_ixT e z) q
theorem sq_ixL {gi : Nat → Option (List D → M D)} {a : Nat} {ds : List D} {k : Int} {d : D} {Q : D → Hc → Prop} (g : Has s a (.lst ds)) (e : atI ds k = some d) (q : Q d s) : sq (ixOM gi (.ref a) (.int k)) s Q := sq_keep (fun z _ hz k => wq_ixL (g z hz) e k) q
theorem sq_ixD {gi : Nat → Option (List D → M D)} {a : Nat} {kvs : List (D × D)} {k d : D} {Q : D → Hc → Prop} (g : Has s a (.dct kvs)) (hk : (keyD k).isSome = true) (e : dfind kvs k = some d) (q : Q d s) : sq (ixOM gi (.ref a) k) s Q := sq_keep (fun z _ hz y => wq_of_eq (m' := M.ofOpt (some d)) (by
  simp only [ixOM, g z hz, ixM, ixB, e]
  cases h : keyD k with
  | none => rw [h] at hk; cases hk
  | some v => rfl) (wq_opt rfl y)) q
theorem sq_ixS {gi : Nat → Option (List D → M D)} {t : Cs} {k : Int} {c : Nat} {Q : D → Hc → Prop} (e : atI t k = some c) (q : Q (.str [c]) s) : sq (ixOM gi (.str t) (.int k)) s Q := sq_keep (fun _ _ _ z => wq_of_eq (m' := M.ofOpt (some (.str [c]))) (by simp only [ixOM, ixM, ixB, e, Option.map_some]) (wq_opt rfl z)) q
theorem dec_lt {x y : Nat} : decide ((x : Int) < (y : Int)) = decide (x < y) := by
  by_cases h : x < y
  · rw [decide_eq_true h, decide_eq_true (by omega)]
  · rw [decide_eq_false h, decide_eq_false (by omega)]
theorem dec_le {x y : Nat} : decide ((x : Int) ≤ (y : Int)) = decide (x ≤ y) := by
  by_cases h : x ≤ y
  · rw [decide_eq_true h, decide_eq_true (by omega)]
  · rw [decide_eq_false h, decide_eq_false (by omega)]
theorem dec_eq {x y : Nat} : decide ((x : Int) = (y : Int)) = decide (x = y) := by
  by_cases h : x = y
  · rw [decide_eq_true h, decide_eq_true (by omega)]
  · rw [decide_eq_false h, decide_eq_false (by omega)]
theorem sq_gtN {x y : Nat} {Q : D → Hc → Prop} (q : Q (.bl (decide (y < x))) s) : sq (gtM (.int x) (.int y)) s Q := sq_pure (by rw [dec_lt]; exact q)
theorem sq_geN {x y : Nat} {Q : D → Hc → Prop} (q : Q (.bl (decide (y ≤ x))) s) : sq (geM (.int x) (.int y)) s Q := sq_pure (by rw [dec_le]; exact q)
theorem sq_leN {x y : Nat} {Q : D → Hc → Prop} (q : Q (.bl (decide (x ≤ y))) s) : sq (leM (.int x) (.int y)) s Q := sq_pure (by rw [dec_le]; exact q)
theorem sq_ltN {x y : Nat} {Q : D → Hc → Prop} (q : Q (.bl (decide (x < y))) s) : sq (ltM (.int x) (.int y)) s Q := sq_pure (by rw [dec_lt]; exact q)
theorem sq_eqN {f : Nat → Nat → Option (List D → M D)} {x y : Nat} {Q : D → Hc → Prop} (q : Q (.bl (decide (x = y))) s) : sq (cmpOM false f eqM (.int x) (.int y)) s Q := sq_eqI (by rw [dec_eq]; exact q)
theorem sq_neN {f : Nat → Nat → Option (List D → M D)} {x y : Nat} {Q : D → Hc → Prop} (q : Q (.bl (!decide (x = y))) s) : sq (cmpOM true f neM (.int x) (.int y)) s Q := sq_neI (by rw [dec_eq]; exact q)
theorem sq_gtI {x y : Int} {Q : D → Hc → Prop} (q : Q (.bl (decide (y < x))) s) : sq (gtM (.int x) (.int y)) s Q := sq_pure q
theorem sq_geI {x y : Int} {Q : D → Hc → Prop} (q : Q (.bl (decide (y ≤ x))) s) : sq (geM (.int x) (.int y)) s Q := sq_pure q
theorem sq_leI {x y : Int} {Q : D → Hc → Prop} (q : Q (.bl (decide (x ≤ y))) s) : sq (leM (.int x) (.int y)) s Q := sq_pure q
theorem sq_ltI {x y : Int} {Q : D → Hc → Prop} (q : Q (.bl (decide (x < y))) s) : sq (ltM (.int x) (.int y)) s Q := sq_pure q
theorem sq_fmtS {t : Cs} {Q : D → Hc → Prop} (q : Q (.str t) s) : sq (fmtM (.str t)) s Q := sq_pure q
theorem fmt_ok {n : Nat} (h : n < 10 ^ 18) : (decide (0 ≤ (n : Int)) && decide ((n : Int) < 10 ^ 18)) = true := by
  rw [Bool.and_eq_true]
  refine ⟨decide_eq_true (Int.natCast_nonneg n), decide_eq_true ?_⟩
  have := Int.ofNat_lt.mpr h
  rw [Int.natCast_pow] at this
  exact this
theorem sq_fmtI {n : Nat} {Q : D → Hc → Prop} (h : n < 1000000) (q : Q (.str (TL.numL n)) s) : sq (fmtM (.int n)) s Q := by
  have e := fmt_ok (n := n) (Nat.lt_trans h (by decide))
  unfold fmtM
  dsimp only
  rw [e, Int.toNat_natCast]
  exact sq_when rfl (sq_pure q)
theorem inF_int (n : Nat) : ∀ ws : List Nat, inF (.int n) (ws.map fun x : Nat => D.int (x : Int)) = decide (n ∈ ws)
  | [] => rfl
  | w :: r => by
    have e : inF (.int n) ((w :: r).map fun x : Nat => D.int (x : Int)) = (eqF (.int w) (.int n) || inF (.int n) (r.map fun x : Nat => D.int (x : Int))) := by simp [inF]
    rw [e, inF_int n r]
    by_cases h : n = w
    · subst h; simp [eqF]
    · have h2 : ¬ (w : Int) = n := fun z => h (by omega)
      simp [eqF, h, h2]
theorem flat_int (ws : List Nat) : (ws.map fun x : Nat => D.int (x : Int)).all flatD = true := by
  rw [List.all_map, List.all_eq_true]
  intro x _
  rfl
theorem sq_inLN {n a : Nat} {ws : List Nat} {Q : D → Hc → Prop} (g : Has s a (.lst (ws.map fun x : Nat => D.int (x : Int)))) (q : Q (.bl (decide (n ∈ ws))) s) : sq (inM (.int n) (.ref a)) s Q := sq_keep (fun z _ hz k => by
  have e : inB z (.int n) (.ref a) = some (decide (n ∈ ws)) := by
    simp only [inB, g z hz, flat_int, inF_int]
    rfl
  exact wq_of_eq (m' := M.bind (M.ofOpt (inB z (.int n) (.ref a))) fun b => M.pure (.bl b)) rfl (wq_bind (wq_opt e (wq_pure k)))) q
theorem eqB_pair (z : S) (a c : Cs) (b d : Nat) : eqB z (.tup [.str a, .int b]) (.tup [.str c, .int d]) = some (decide ((a, b) = (c, d))) := by
  show (if (depD 60 (.tup [.str a, .int b]) && D.beq (.tup [.str a, .int b]) (.tup [.str c, .int d])) = true then some true else (toPy z 60 (.tup [.str a, .int b])).bind fun p => (toPy z 60 (.tup [.str c, .int d])).map fun q => PyData.eqv p q) = _
  split
  · rename_i h
    rw [Bool.and_eq_true] at h
    have e := D.beq_eq _ _ h.2
    have e2 : a = c ∧ b = d := by
      have h1 := D.tup.inj e
      injection h1 with h2 h3
      injection h3 with h4 h5
      exact ⟨D.str.inj h2, by have := D.int.inj h4; omega⟩
    rw [decide_eq_true (by rw [e2.1, e2.2])]
  · have e1 : ∀ (a : Cs) (b : Nat), toPy z 60 (.tup [.str a, .int b]) = some (.tuple [.str (st a), .int b]) := fun _ _ => rfl
    rw [e1, e1, Option.bind_some, Option.map_some]
    congr 1
    show ((st a == st c) && (((b : Int) == (d : Int)) && true)) = _
    rw [st_beqD]
    by_cases h1 : a = c
    · by_cases h2 : b = d
      · subst h1 h2; simp
      · have : ¬ (b : Int) = d := fun z => h2 (by omega)
        simp [h1, h2, this]
    · simp [h1]
theorem sq_eqP {f : Nat → Nat → Option (List D → M D)} {a c : Cs} {b d : Nat} {Q : D → Hc → Prop} (q : Q (.bl (decide ((a, b) = (c, d)))) s) : sq (cmpOM false f eqM (.tup [.str a, .int b]) (.tup [.str c, .int d])) s Q := sq_keep (fun z _ _ k => wq_eqX (fun _ _ h => by cases h) (eqB_pair z a c b d) k) q
theorem sq_lenT {n0 : Nat} {ln : Nat → Option (List D → M D)} {ds : List D} {Q : D → Hc → Prop} (q : Q (.int ds.length) s) : sq (lenOM n0 ln [.tup ds]) s Q := sq_keep (fun _ _ _ z => wq_lenT z) q
theorem sq_lenS {n0 : Nat} {ln : Nat → Option (List D → M D)} {t : Cs} {Q : D → Hc → Prop} (q : Q (.int t.length) s) : sq (lenOM n0 ln [.str t]) s Q := sq_keep (fun _ _ _ z => z) q
theorem sq_starts {t u : Cs} {Q : D → Hc → Prop} (hu : u.isEmpty = false) (q : Q (.bl (decide (t.take u.length = u))) s) : sq (startsM' (.str t) [.str u]) s Q := by
  refine sq_when (by rw [hu]; rfl) (sq_pure ?_)
  have e : TL.pre u t = decide (t.take u.length = u) := by
    unfold TL.pre
    cases h : t.take u.length == u with
    | true => rw [beq_iff_eq] at h; rw [decide_eq_true h]
    | false => rw [decide_eq_false fun z => by rw [z, beq_self_eq_true] at h; cases h]
  rw [e]
  exact q
theorem sq_revT {ds : List D} {Q : D → Hc → Prop} (q : Q (.tup ds.reverse) s) : sq (revAM (.tup ds)) s Q := sq_keep (fun _ _ _ z => wq_revT z) q
theorem sq_inS' {u t : Cs} {Q : D → Hc → Prop} (hu : u ≠ []) (q : Q (.bl (fnd u 0 t).isSome) s) : sq (inM (.str u) (.str t)) s Q := sq_keep (fun _ _ _ z => wq_inS' hu z) q
theorem sq_slS {ns : List Int} {t : Cs} {lo hi : Option Int} {Q : D → Hc → Prop} (q : Q (.str (cutD t lo hi)) s) : sq (slM ns (.str t) lo hi) s Q := sq_keep (fun _ _ _ z => z) q
theorem sq_slT {ns : List Int} {t : List D} {lo hi : Option Int} {Q : D → Hc → Prop} (q : Q (.tup (cutD t lo hi)) s) : sq (slM ns (.tup t) lo hi) s Q := sq_keep (fun _ _ _ z => z) q
theorem cut_drop' {α : Type} (xs : List α) (n : Nat) : cutD xs (some (Int.ofNat n)) none = xs.drop n := by
  unfold cutD
  simp only [HT.sIx]
  rw [if_neg (by simp), List.take_of_length_le (by simp)]
  rw [show (Int.ofNat n).toNat = n from rfl]
  by_cases h : n ≤ xs.length
  · rw [Nat.min_eq_left h]
  · rw [Nat.min_eq_right (by omega), List.drop_eq_nil_of_le (by omega), List.drop_eq_nil_of_le (by omega)]
theorem cut_take' {α : Type} (xs : List α) (n : Nat) : cutD xs none (some (Int.ofNat n)) = xs.take n := by
  unfold cutD
  simp only [HT.sIx]
  rw [if_neg (by simp), List.drop_zero, Nat.sub_zero, show (Int.ofNat n).toNat = n from rfl]
  by_cases h : n ≤ xs.length
  · rw [Nat.min_eq_left h]
  · rw [Nat.min_eq_right (by omega), List.take_of_length_le (by omega), List.take_of_length_le (by omega)]
theorem sq_slSd {ns : List Int} {t : Cs} {n : Nat} {Q : D → Hc → Prop} (q : Q (.str (t.drop n)) s) : sq (slM ns (.str t) (some (Int.ofNat n)) none) s Q := sq_slS (by rw [cut_drop']; exact q)
theorem sq_slSt {ns : List Int} {t : Cs} {n : Nat} {Q : D → Hc → Prop} (q : Q (.str (t.take n)) s) : sq (slM ns (.str t) none (some (Int.ofNat n))) s Q := sq_slS (by rw [cut_take']; exact q)
theorem sq_slTd {ns : List Int} {t : List D} {n : Nat} {Q : D → Hc → Prop} (q : Q (.tup (t.drop n)) s) : sq (slM ns (.tup t) (some (Int.ofNat n)) none) s Q := sq_slT (by rw [cut_drop']; exact q)
theorem sq_slTt {ns : List Int} {t : List D} {n : Nat} {Q : D → Hc → Prop} (q : Q (.tup (t.take n)) s) : sq (slM ns (.tup t) none (some (Int.ofNat n))) s Q := sq_slT (by rw [cut_take']; exact q)
theorem sq_slL {ns : List Int} {a : Nat} {ds : List D} {lo hi : Option Int} {Q : D → Hc → Prop} (g : Has s a (.lst ds)) (q : ∀ n, Q (.ref n) (cell n (.lst (cutD ds lo hi)) :: s)) : sq (slM ns (.ref a) lo hi) s Q := sq_news (a := D.ref) rfl (fun z _ hz k => wq_slL (g z hz) k) q
theorem sq_isN {d : D} {Q : D → Hc → Prop} (q : Q (.bl (decide (d = .non))) s) : sq (isM d .non) s Q := sq_keep (fun _ _ _ z => z) q
theorem sq_isNotN {d : D} {Q : D → Hc → Prop} (q : Q (.bl (!decide (d = .non))) s) : sq (isNotM d .non) s Q := sq_keep (fun _ _ _ z => z) q
theorem sq_any {me : Sl → M D} {Q : ItD → Hc → Prop} (h : sq (me σ) s fun v s1 => sq (walkM v) s1 Q) : sq (mAny me σ) s Q := sq_bind h
theorem sq_lockN {me : Sl → M D} {Q : D → Hc → Prop} (h : sq (me σ) s Q) : sq (mLock (fun _ _ => none) me σ) s Q := h
theorem sq_glockN {g : Sl → M Fl} {Q : Fl → Hc → Prop} (h : sq (g σ) s Q) : sq (gLock (fun _ _ => none) g σ) s Q := h
theorem sq_tup {ds : List D} {Q : D → Hc → Prop} (hl : ds.length ≤ 1000000) (q : Q (.tup ds) s) : sq (tupM ds) s Q := by
  unfold tupM
  rw [if_pos (decide_eq_true hl)]
  exact sq_pure q
theorem sq_mtS {mo : Sl → M D} {alts : Nat → Option (D → List D → M D)} {op : D → List D → M D} {ms : Sl → M (List D)} {Q : D → Hc → Prop} (ha : alts 2 = some op) (h : sq (mo σ) s fun v s1 => ∃ t, v = .str t ∧ sq (ms σ) s1 fun ds s2 => sq (op (.str t) ds) s2 Q) : sq (mMt mo alts ms σ) s Q := by
  refine sq_bind (sq_mono h fun v s1 ⟨t, e, w⟩ => ?_)
  subst e
  refine sq_bind (sq_pure ?_)
  rw [ha]
  exact sq_bind w
theorem sq_joined {ms : List (Sl → M D)} {Q : D → Hc → Prop} (h : sq (mJs ms [] σ) s fun t s1 => Q (.str t) s1) : sq (mJoined ms σ) s Q := sq_bind (sq_mono h fun _ _ z => sq_pure z)
theorem sq_jsNil {acc : Cs} {Q : Cs → Hc → Prop} (q : Q acc s) : sq (mJs [] acc σ) s Q := sq_pure q
theorem sq_mkI {P : Pg} {c f : Nat} {ms : Sl → M (List D)} {Q : D → Hc → Prop} (e : P.ini c = some f) (h : sq (mMk c (P.fn f) ms σ) s Q) : sq (mMkI P c ms σ) s Q := by
  unfold mMkI
  rw [e]
  exact h
theorem sq_fn {L : Lw} {ns : List Int} {f : Nat → List D → M D} {i : Nat} {ds : List D} {Q : D → Hc → Prop} (h : sq (f i ds) s Q) : sq ((pgOf L ns f).fn i ds) s Q := h

def jJ (ms : List (Sl → M D)) (acc : Cs) (σ : Sl) (Q : Cs → Hc → Prop) : D → Hc → Prop := fun v s => ∃ y, v = .str y ∧ (acc ++ y).length ≤ 1000000 ∧ sq (mJs ms (acc ++ y) σ) s Q
theorem jJ_str {ms : List (Sl → M D)} {acc y : Cs} {Q : Cs → Hc → Prop} (hl : (acc ++ y).length ≤ 1000000) (h : sq (mJs ms (acc ++ y) σ) s Q) : jJ ms acc σ Q (.str y) s := ⟨y, rfl, hl, h⟩
theorem sq_jsCons {m : Sl → M D} {ms : List (Sl → M D)} {acc : Cs} {Q : Cs → Hc → Prop} (h : sq (m σ) s (jJ ms acc σ Q)) : sq (mJs (m :: ms) acc σ) s Q := sq_bind (sq_mono h fun v s1 ⟨y, e, hl, w⟩ => by
  subst e
  exact sq_when (show small (acc ++ y) = true from decide_eq_true hl) w)
theorem jJ_num {ms : List (Sl → M D)} {acc : Cs} {n : Nat} {Q : Cs → Hc → Prop} (ha : acc.length ≤ 900000) (hn : n < 1000000) (h : sq (mJs ms (acc ++ TL.numL n) σ) s Q) : jJ ms acc σ Q (.str (TL.numL n)) s := ⟨_, rfl, by
  have := TL.numL_len (k := 18) (n := n) (by decide) (Nat.lt_trans hn (by decide))
  rw [List.length_append]
  exact Nat.le_trans (Nat.add_le_add ha this) (by decide), h⟩
def jU (n : Nat) (t : Tgs) (σ : Sl) (Q : Sl → Hc → Prop) : List D → Hc → Prop := fun ds s => ds.length = n ∧ sq (t ds σ) s Q
theorem jU_ok {n : Nat} {t : Tgs} {ds : List D} {Q : Sl → Hc → Prop} (e : ds.length = n) (h : sq (t ds σ) s Q) : jU n t σ Q ds s := ⟨e, h⟩
theorem sq_gUn {n : Nat} {t : Tgs} {d : D} {Q : Sl → Hc → Prop} (h : sq (M.seq d) s (jU n t σ Q)) : sq (gUn n t d σ) s Q := sq_bind (sq_mono h fun ds s1 z => sq_when (decide_eq_true z.1) z.2)
theorem sq_gSubT {mo mi : Sl → M D} {d : D} {Q : Sl → Hc → Prop} (h : sq (mo σ) s fun o s1 => sq (mi σ) s1 fun i s2 => sq (setM o i d) s2 fun _ s3 => Q σ s3) : sq (gSubT mo mi d σ) s Q := sq_noX (sq_bind (sq_mono h fun _ _ z => sq_bind (sq_mono z fun _ _ y => sq_bind (sq_mono y fun _ _ x => sq_pure x))))
def jI (Q : Option Int → Hc → Prop) : D → Hc → Prop := fun v s => ∃ i, v = .int i ∧ Q (some i) s
theorem jI_int {i : Int} {Q : Option Int → Hc → Prop} (h : Q (some i) s) : jI Q (.int i) s := ⟨i, rfl, h⟩
theorem sq_part1 {f : Sl → M D} {Q : Option Int → Hc → Prop} (h : sq (f σ) s (jI Q)) : sq (mPart (some f) σ) s Q := sq_bind (sq_mono h fun v s1 ⟨i, e, q⟩ => by
  subst e
  exact sq_pure q)
/-! ### things at addresses -/
inductive TyL (s : Hc) : D → TyD → Prop
  | non : TyL s .non (.bi 6)
  | bl {b : Bool} : TyL s (.bl b) (.bi 1)
  | int {i : Int} : TyL s (.int i) (.bi 0)
  | str {x : Cs} : TyL s (.str x) (.bi 2)
  | tup {ds : List D} : TyL s (.tup ds) (.bi 4)
  | lst {a : Nat} {ds : List D} : Has s a (.lst ds) → TyL s (.ref a) (.bi 3)
  | ins {a c : Nat} {fs : List (Cs × D)} : Has s a (.ins c fs) → TyL s (.ref a) (.own c)
theorem TyL.at {d : D} {t : TyD} (h : TyL s d t) {z : S} (hz : St s z) : TyIs z d t := by
  cases h with
  | lst g => exact .lst (g z hz)
  | ins g => exact .ins (g z hz)
  | non => exact .non
  | bl => exact .bl
  | int => exact .int
  | str => exact .str
  | tup => exact .tup
theorem sq_isiT {kit : TyD → D → Option Bool} {x : D} {t : TyD} {cs : List D} {b : Bool} {Q : D → Hc → Prop} (ht : TyL s x t) (h1 : (!cs.isEmpty && cs.all fun d => (kit t d).isSome) = true) (h2 : kitAnyD kit t cs = some b) (q : Q (.bl b) s) : sq (isiM kit [x, .tup cs]) s Q := sq_keep (fun _ _ hz z => wq_isiT (ht.at hz) h1 h2 z) q
theorem sq_isiC {kit : TyD → D → Option Bool} {x : D} {t : TyD} {c : Nat} {b : Bool} {Q : D → Hc → Prop} (ht : TyL s x t) (h2 : kit t (.cls c) = some b) (q : Q (.bl b) s) : sq (isiM kit [x, .cls c]) s Q := sq_keep (fun _ _ hz z => wq_isiC (ht.at hz) h2 z) q
theorem sq_isiY {kit : TyD → D → Option Bool} {x : D} {t : TyD} {c : Nat} {b : Bool} {Q : D → Hc → Prop} (ht : TyL s x t) (h2 : kit t (.ty c) = some b) (q : Q (.bl b) s) : sq (isiM kit [x, .ty c]) s Q := sq_keep (fun _ _ hz z => wq_isiY (ht.at hz) h2 z) q
inductive SeqL (s : Hc) : D → List D → Prop
  | tup {ds : List D} : SeqL s (.tup ds) ds
  | lst {a : Nat} {ds : List D} : Has s a (.lst ds) → SeqL s (.ref a) ds
theorem SeqL.at {d : D} {ds : List D} (h : SeqL s d ds) {z : S} (hz : St s z) : SeqIs z d ds := by
  cases h with
  | lst g => exact .lst (g z hz)
  | tup => exact .tup
theorem SeqL.sub {s2 : Hc} {d : D} {ds : List D} (h : SeqL s d ds) (p : s.Sublist s2) : SeqL s2 d ds := by
  cases h with
  | lst g => exact .lst (g.sub p)
  | tup => exact .tup
theorem sq_seqv {v : D} {ds : List D} {Q : List D → Hc → Prop} (h : SeqL s v ds) (q : Q ds s) : sq (M.seq v) s Q := sq_keep (fun _ _ hz z => wq_seqv (h.at hz) z) q
theorem sq_lenV {n0 : Nat} {ln : Nat → Option (List D → M D)} {v : D} {ds : List D} {Q : D → Hc → Prop} (h : SeqL s v ds) (q : Q (.int ds.length) s) : sq (lenOM n0 ln [v]) s Q := sq_keep (fun _ _ hz z => wq_lenV (h.at hz) z) q
theorem sq_ixV {gi : Nat → Option (List D → M D)} {v : D} {ds : List D} {k : Int} {d : D} {Q : D → Hc → Prop} (h : SeqL s v ds) (e : atI ds k = some d) (q : Q d s) : sq (ixOM gi v (.int k)) s Q := by
  cases h with
  | tup => exact sq_ixT e q
  | lst g => exact sq_ixL g e q
theorem sq_inV {x : Cs} {v : D} {ws : List Cs} {Q : D → Hc → Prop} (h : SeqL s v (ws.map .str)) (q : Q (.bl (decide (x ∈ ws))) s) : sq (inM (.str x) v) s Q := sq_keep (fun _ _ hz z => wq_inV (h.at hz) z) q
theorem sq_tuple {v : D} {ds : List D} {Q : D → Hc → Prop} (h : SeqL s v ds) (q : Q (.tup ds) s) : sq (tupleM [v]) s Q := sq_keep (fun _ _ hz z => wq_tuple (h.at hz) z) q
theorem sq_list {v : D} {ds : List D} {Q : D → Hc → Prop} (h : SeqL s v ds) (q : ∀ n, Q (.ref n) (cell n (.lst ds) :: s)) : sq (listM [v]) s Q := sq_news (a := D.ref) rfl (fun _ _ hz k => wq_list (h.at hz) k) q
theorem sq_lstM {ds : List D} {Q : D → Hc → Prop} (hl : ds.length ≤ 1000000) (q : ∀ n, Q (.ref n) (cell n (.lst ds) :: s)) : sq (lstM ds) s Q := sq_news (a := D.ref) rfl (fun _ _ hz k => wq_lstM hl k) q
theorem sq_all {n : Nat} {bs : List Bool} {Q : D → Hc → Prop} (g : Has s n (.lst (bs.map .bl))) (q : Q (.bl (bs.all id)) s) : sq (allM [.ref n]) s Q := sq_keep (fun z _ hz k => wq_all (g z hz) k) q
theorem sq_anyL {n : Nat} {bs : List Bool} {Q : D → Hc → Prop} (g : Has s n (.lst (bs.map .bl))) (q : Q (.bl (bs.any id)) s) : sq (anyM [.ref n]) s Q := sq_keep (fun z _ hz k => wq_anyL (g z hz) k) q
theorem sq_allF {n : Nat} {X : Type} {xs : List X} {f : X → Bool} {Q : D → Hc → Prop} (g : Has s n (.lst (xs.map fun x => .bl (f x)))) (q : Q (.bl (xs.all f)) s) : sq (allM [.ref n]) s Q := sq_all (bs := xs.map f) (by rw [List.map_map]; exact g) (by rw [List.all_map]; exact q)
theorem sq_anyF {n : Nat} {X : Type} {xs : List X} {f : X → Bool} {Q : D → Hc → Prop} (g : Has s n (.lst (xs.map fun x => .bl (f x)))) (q : Q (.bl (xs.any f)) s) : sq (anyM [.ref n]) s Q := sq_anyL (bs := xs.map f) (by rw [List.map_map]; exact g) (by rw [List.any_map]; exact q)
theorem sq_lenset {v : D} {ws : List Cs} {Q : D → Hc → Prop} (h : SeqL s v (ws.map .str)) (hl : ws.length ≤ 4000) (q : Q (.int (dcnC ws ws.length : Nat)) s) : sq (lenSetM v) s Q := sq_keep (fun _ _ hz z => wq_lenset (h.at hz) hl z) q
theorem sq_sorted {a : Nat} {ws : List Cs} {Q : D → Hc → Prop} (g : Has s a (.lst (ws.map .str))) (hl : ws.length < 64) (q : ∀ n, Q (.ref n) (cell n (.lst ((sortC ws).map .str)) :: s)) : sq (sortedM [.ref a]) s Q := sq_news (a := D.ref) rfl (fun z _ hz k => wq_bind (wq_lst (g z hz) (wq_bind (wq_opt (strsD_map ws) (wq_when (decide_eq_true hl) k))))) q
theorem sq_join {t : Cs} {v : D} {ws : List Cs} {Q : D → Hc → Prop} (h : SeqL s v (ws.map .str)) (hl : (ws.map (·.length)).sum + ws.length * t.length ≤ 1000000) (q : Q (.str (TL.joinL t ws)) s) : sq (joinM (.str t) [v]) s Q := sq_keep (fun _ _ hz z => wq_join (h.at hz) hl z) q
theorem sq_split {u t : Cs} {Q : D → Hc → Prop} (hu : u ≠ []) (q : ∀ n, Q (.ref n) (cell n (.lst ((TL.spl u 0 [] t).map .str)) :: s)) : sq (splitM (.str t) [.str u]) s Q := sq_news (a := D.ref) rfl (fun _ _ _ k => wq_split hu k) q
theorem sq_fld {pf : Nat → Bool} {pr : Nat → Option (List D → M D)} {f : Cs} {a c : Nat} {fs : List (Cs × D)} {d : D} {Q : D → Hc → Prop} (g : Has s a (.ins c fs)) (hp : pr c = none) (hf : pf c = true) (e : ffind fs f = some d) (q : Q d s) : sq (getMP pf pr f (.ref a)) s Q := sq_keep (fun z _ hz k => wq_fld (g z hz) hp hf e k) q
/-- a property -/
theorem sq_prop {pf : Nat → Bool} {pr : Nat → Option (List D → M D)} {f : Cs} {a c : Nat} {fs : List (Cs × D)} {g' : List D → M D} {Q : D → Hc → Prop} (g : Has s a (.ins c fs)) (hp : pr c = some g') (h : sq (g' [.ref a]) s Q) : sq (getMP pf pr f (.ref a)) s Q := by
  refine sq_bind (sq_keep (a := (a, c, fs)) (fun z Q hz k => wq_bind (wq_read (g z hz) (wq_pure k))) ?_)
  show sq (match pr c with | some _ => _ | none => _) s Q
  rw [hp]
  exact sq_noX h
theorem sq_setF {pf : Nat → Bool} {f : Cs} {i a c : Nat} {fs : List (Cs × D)} {v : D} {Q : Unit → Hc → Prop} (e : s[i]? = some (cell a (.ins c fs))) (hf : pf c = true) (hl : fs.length < 900) (hz : O.frz (.ins c (fput f v fs)) = false) (q : Q () (s.set i (cell a (.ins c (fput f v fs))))) : sq (setFM pf f (.ref a) v) s Q := sq_puts e hz (fun _ _ _ g k => wq_setF g hf hl k) q
/-- a field that is there; a new one -/
theorem sq_setFa {pf : Nat → Bool} {f : Cs} {i a c : Nat} (n : Nat) {fs : List (Cs × D)} {v : D} {Q : Unit → Hc → Prop} (e : s[i]? = some (cell a (.ins c fs))) (hk : fput f v fs = fs.set n (f, v)) (hf : pf c = true) (hl : fs.length < 900) (hz : O.frz (.ins c (fs.set n (f, v))) = false) (q : Q () (s.set i (cell a (.ins c (fs.set n (f, v)))))) : sq (setFM pf f (.ref a) v) s Q := by
  rw [← hk] at hz q
  exact sq_setF e hf hl hz q
theorem sq_setFn {pf : Nat → Bool} {f : Cs} {i a c : Nat} {fs : List (Cs × D)} {v : D} {Q : Unit → Hc → Prop} (e : s[i]? = some (cell a (.ins c fs))) (hk : fput f v fs = fs ++ [(f, v)]) (hf : pf c = true) (hl : fs.length < 900) (hz : O.frz (.ins c (fs ++ [(f, v)])) = false) (q : Q () (s.set i (cell a (.ins c (fs ++ [(f, v)]))))) : sq (setFM pf f (.ref a) v) s Q := by
  rw [← hk] at hz q
  exact sq_setF e hf hl hz q
/-- the last field -/
theorem sq_setZ {pf : Nat → Bool} {f : Cs} {i a c : Nat} {fs : List (Cs × D)} {v : D} {Q : Unit → Hc → Prop} (e : s[i]? = some (cell a (.ins c fs))) (hf : pf c = true) (hl : fs.length < 900) (hz : O.frz (.ins c (fput f v fs)) = true) (q : Q () (s.set i (ro a (.ins c (fput f v fs))))) : sq (setFM pf f (.ref a) v) s Q := sq_freezes e hz (fun _ _ _ g k => wq_setF g hf hl k) q
theorem sq_setL {a i : Nat} {ds : List D} {k : Int} {j : Nat} {v : D} {Q : Unit → Hc → Prop} (e : s[i]? = some (cell a (.lst ds))) (hk : ixN ds.length k = some j) (q : Q () (s.set i (cell a (.lst (ds.set j v))))) : sq (setM (.ref a) (.int k) v) s Q := sq_puts e rfl (fun z P _ g y => wq_bind (wq_read g (wq_bind (wq_opt hk (wq_write g rfl y))))) q
theorem sq_setD {a i : Nat} {kvs : List (D × D)} {k v : D} {Q : Unit → Hc → Prop} (e : s[i]? = some (cell a (.dct kvs))) (hk : (keyD k).isSome = true) (hl : kvs.length < 1000000) (q : Q () (s.set i (cell a (.dct (dput kvs k v))))) : sq (setM (.ref a) k v) s Q := sq_puts e rfl (fun z P _ g y => wq_bind (wq_read g (wq_when (by simp only [hk, hl, decide_true, Bool.and_self]) (wq_write g rfl y)))) q
/-- a builtin's method on what stands ahead -/
def jM (alts : Nat → Option (D → List D → M D)) (ms : Sl → M (List D)) (σ : Sl) (Q : D → Hc → Prop) : D → Hc → Prop := fun v s => ∃ k op, (∀ (z : S) (P : Nat → S → Prop), St s z → P k z → wq0 (kindM v) z P) ∧ alts k = some op ∧ sq (ms σ) s fun ds s2 => sq (op v ds) s2 Q
theorem sq_setDa {a i : Nat} (n : Nat) {kvs : List (D × D)} {k v : D} {Q : Unit → Hc → Prop} (e : s[i]? = some (cell a (.dct kvs))) (hk : (keyD k).isSome = true) (hl : kvs.length < 1000000) (hd : dput kvs k v = kvs.set n (k, v)) (q : Q () (s.set i (cell a (.dct (kvs.set n (k, v)))))) : sq (setM (.ref a) k v) s Q := by
  rw [← hd] at q
  exact sq_setD e hk hl q
theorem sq_setDn {a i : Nat} {kvs : List (D × D)} {k v : D} {Q : Unit → Hc → Prop} (e : s[i]? = some (cell a (.dct kvs))) (hk : (keyD k).isSome = true) (hl : kvs.length < 1000000) (hd : dput kvs k v = kvs ++ [(k, v)]) (q : Q () (s.set i (cell a (.dct (kvs ++ [(k, v)]))))) : sq (setM (.ref a) k v) s Q := by
  rw [← hd] at q
  exact sq_setD e hk hl q
theorem jM_str {alts : Nat → Option (D → List D → M D)} {ms : Sl → M (List D)} {Q : D → Hc → Prop} {t : Cs} {op : D → List D → M D} (ha : alts 2 = some op) (h : sq (ms σ) s fun ds s2 => sq (op (.str t) ds) s2 Q) : jM alts ms σ Q (.str t) s := ⟨2, op, fun _ _ _ z => z, ha, h⟩
theorem jM_lst {alts : Nat → Option (D → List D → M D)} {ms : Sl → M (List D)} {Q : D → Hc → Prop} {a : Nat} {xs : List D} {op : D → List D → M D} (g : Has s a (.lst xs)) (ha : alts 3 = some op) (h : sq (ms σ) s fun ds s2 => sq (op (.ref a) ds) s2 Q) : jM alts ms σ Q (.ref a) s := ⟨3, op, fun z _ hz k => wq_bind (wq_read (g z hz) (wq_pure k)), ha, h⟩
theorem jM_dct {alts : Nat → Option (D → List D → M D)} {ms : Sl → M (List D)} {Q : D → Hc → Prop} {a : Nat} {xs : List (D × D)} {op : D → List D → M D} (g : Has s a (.dct xs)) (ha : alts 5 = some op) (h : sq (ms σ) s fun ds s2 => sq (op (.ref a) ds) s2 Q) : jM alts ms σ Q (.ref a) s := ⟨5, op, fun z _ hz k => wq_bind (wq_read (g z hz) (wq_pure k)), ha, h⟩
theorem sq_mt {mo : Sl → M D} {alts : Nat → Option (D → List D → M D)} {ms : Sl → M (List D)} {Q : D → Hc → Prop} (h : sq (mo σ) s (jM alts ms σ Q)) : sq (mMt mo alts ms σ) s Q := by
  refine sq_bind (sq_mono h fun v s1 ⟨k, op, hk, ha, w⟩ => sq_bind (sq_keep (a := k) hk ?_))
  rw [ha]
  exact sq_bind w
theorem sq_mtL {mo : Sl → M D} {alts : Nat → Option (D → List D → M D)} {op : D → List D → M D} {ms : Sl → M (List D)} {Q : D → Hc → Prop} (ha : alts 3 = some op) (h : sq (mo σ) s fun v s1 => ∃ a ds, v = .ref a ∧ Has s1 a (.lst ds) ∧ sq (ms σ) s1 fun es s2 => sq (op (.ref a) es) s2 Q) : sq (mMt mo alts ms σ) s Q := by
  refine sq_bind (sq_mono h fun v s1 ⟨a, ds, e, g, w⟩ => ?_)
  subst e
  refine sq_bind (sq_keep (a := 3) (fun z Q hz k => wq_bind (wq_read (g z hz) (wq_pure k))) ?_)
  rw [ha]
  exact sq_bind w
theorem sq_append {a i : Nat} {ds : List D} {y : D} {Q : D → Hc → Prop} (e : s[i]? = some (cell a (.lst ds))) (hl : ds.length < 1000000) (q : Q .non (s.set i (cell a (.lst (ds ++ [y]))))) : sq (appendM (.ref a) [y]) s Q := sq_puts e rfl (fun _ _ _ g k => wq_append g hl k) q
theorem sq_extend {a b i : Nat} {ds es : List D} {Q : D → Hc → Prop} (e : s[i]? = some (cell a (.lst ds))) (h : Has s b (.lst es)) (hl : ds.length + es.length ≤ 1000000) (q : Q .non (s.set i (cell a (.lst (ds ++ es))))) : sq (extendM (.ref a) [.ref b]) s Q := sq_puts e rfl (fun z _ hz g k => wq_extend g (h z hz) hl k) q
theorem sq_pop0 {a i : Nat} {ds : List D} {y : D} {Q : D → Hc → Prop} (e : s[i]? = some (cell a (.lst ds))) (hy : ds[ds.length - 1]? = some y) (q : Q y (s.set i (cell a (.lst ds.dropLast)))) : sq (popM (.ref a) []) s Q := sq_puts e rfl (fun _ _ _ g k => wq_bind (wq_lst g (wq_bind (wq_opt hy (wq_bind (wq_write g rfl k)))))) q
theorem sq_popI {a i j : Nat} {ds : List D} {y : D} {Q : D → Hc → Prop} (e : s[i]? = some (cell a (.lst ds))) (hj : j < 1000000) (hy : ds[j]? = some y) (q : Q y (s.set i (cell a (.lst (ds.eraseIdx j))))) : sq (popM (.ref a) [.int (j : Nat)]) s Q := by
  have hb : (decide (0 ≤ (j : Int)) && decide ((j : Int) < 1000000)) = true := by
    simp only [Bool.and_eq_true, decide_eq_true_eq]
    omega
  have e2 : popM (.ref a) [.int (j : Nat)] = M.bind (M.lst (.ref a)) fun p => M.when (decide (0 ≤ (j : Int)) && decide ((j : Int) < 1000000)) (M.bind (M.ofOpt p.2[j]?) fun y => M.bind (M.write p.1 (.lst (p.2.eraseIdx j))) fun _ => M.pure y) := rfl
  rw [e2, hb]
  exact sq_puts e rfl (fun _ _ _ g k => wq_bind (wq_lst g (wq_when rfl (wq_bind (wq_opt hy (wq_bind (wq_write g rfl k))))))) q
theorem sq_strO {sf : Nat → Option (List D → M D)} {a c : Nat} {fs : List (Cs × D)} {g : List D → M D} {Q : D → Hc → Prop} (h : Has s a (.ins c fs)) (hg : sf c = some g) (q : sq (g [.ref a]) s fun v s1 => ∃ t, v = .str t ∧ Q (.str t) s1) : sq (strOM sf [.ref a]) s Q := by
  refine sq_bind (sq_read h ?_)
  show sq (match sf c with | some g => _ | none => _) s Q
  rw [hg]
  refine sq_bind (sq_noX (sq_mono q fun v s1 ⟨t, e, z⟩ => ?_))
  subst e
  exact sq_pure z
theorem sq_strS {sf : Nat → Option (List D → M D)} {t : Cs} {Q : D → Hc → Prop} (q : Q (.str t) s) : sq (strOM sf [.str t]) s Q := sq_keep (fun _ _ _ z => z) q
theorem sq_cmpO {ne : Bool} {eqf : Nat → Nat → Option (List D → M D)} {other : D → D → M D} {a b c c' : Nat} {fs fs' : List (Cs × D)} {g : List D → M D} {Q : D → Hc → Prop} (h : Has s a (.ins c fs)) (h' : Has s b (.ins c' fs')) (hg : eqf c c' = some g)
    (q : sq (g [.ref a, .ref b]) s fun v s1 => ∃ b, v = .bl b ∧ Q (.bl (if ne then !b else b)) s1) : sq (cmpOM ne eqf other (.ref a) (.ref b)) s Q := by
  refine sq_of_eq (m' := M.bind (M.noX (g [.ref a, .ref b])) (fun
        | .bl b => M.pure (.bl (if ne then !b else b))
        | _ => M.fail)) (fun z hz => by simp only [cmpOM, h z hz, h' z hz, hg] <;> rfl) ?_
  refine sq_bind (sq_noX (sq_mono q fun v s1 ⟨b, e, z⟩ => ?_))
  subst e
  exact sq_pure z
theorem sq_lenO {n0 : Nat} {ln : Nat → Option (List D → M D)} {a c : Nat} {fs : List (Cs × D)} {g : List D → M D} {Q : D → Hc → Prop} (h : Has s a (.ins c fs)) (hg : ln c = some g) (q : sq (g [.ref a]) s fun v s1 => ∃ n : Nat, v = .int n ∧ n < 1000000 ∧ Q (.int n) s1) : sq (lenOM n0 ln [.ref a]) s Q := by
  refine sq_bind (sq_read h ?_)
  show sq (match ln c with | some g => _ | none => _) s Q
  rw [hg]
  refine sq_bind (sq_noX (sq_mono q fun v s1 ⟨n, e, hn, z⟩ => ?_))
  subst e
  have hb : (decide (0 ≤ (n : Int)) && decide ((n : Int) < 4611686018427387904)) = true := by
    rw [Bool.and_eq_true, decide_eq_true_eq, decide_eq_true_eq]
    omega
  dsimp only
  unfold M.when
  rw [if_pos hb]
  exact sq_pure z
theorem sq_ixO {gi : Nat → Option (List D → M D)} {a c : Nat} {fs : List (Cs × D)} {e : D} {g : List D → M D} {Q : D → Hc → Prop} (h : Has s a (.ins c fs)) (hg : gi c = some g) (q : sq (g [.ref a, e]) s Q) : sq (ixOM gi (.ref a) e) s Q :=
  sq_of_eq (m' := M.noX (g [.ref a, e])) (fun z hz => by simp only [ixOM, h z hz, hg]) (sq_noX q)
theorem sq_addO {ad : Nat → Option (List D → M D)} {a b c : Nat} {fs fs' : List (Cs × D)} {g : List D → M D} {Q : D → Hc → Prop} (h : Has s a (.ins c fs)) (h' : Has s b (.ins c fs')) (hg : ad c = some g) (q : sq (g [.ref a, .ref b]) s fun v s1 => ∃ n, v = .ref n ∧ Q (.ref n) s1) : sq (addOM ad (.ref a) (.ref b)) s Q := by
  refine sq_of_eq (m' := M.bind (M.noX (g [.ref a, .ref b])) (fun
        | .ref n => M.pure (.ref n)
        | _ => M.fail)) (fun z hz => by simp only [addOM, h z hz, h' z hz, hg, Nat.beq_refl] <;> rfl) ?_
  refine sq_bind (sq_noX (sq_mono q fun v s1 ⟨n, e, z⟩ => ?_))
  subst e
  exact sq_pure z
theorem sq_iaddO {ad : Nat → Option (List D → M D)} {a b c : Nat} {fs fs' : List (Cs × D)} {g : List D → M D} {Q : D → Hc → Prop} (h : Has s a (.ins c fs)) (h' : Has s b (.ins c fs')) (hg : ad c = some g) (q : sq (g [.ref a, .ref b]) s fun v s1 => ∃ n, v = .ref n ∧ Q (.ref n) s1) : sq (iaddOM ad (.ref a) (.ref b)) s Q := by
  refine sq_of_eq (m' := M.bind (M.noX (g [.ref a, .ref b])) (fun
        | .ref n => M.pure (.ref n)
        | _ => M.fail)) (fun z hz => by simp only [iaddOM, h z hz, h' z hz, hg, Nat.beq_refl] <;> rfl) ?_
  refine sq_bind (sq_noX (sq_mono q fun v s1 ⟨n, e, z⟩ => ?_))
  subst e
  exact sq_pure z
theorem sq_mk {c : Nat} {f : List D → M D} {ms : Sl → M (List D)} {Q : D → Hc → Prop} (h : sq (ms σ) s fun ds s1 => ∀ n, sq (f (.ref n :: ds)) (cell n (.ins c []) :: s1) fun v s2 => v = .non ∧ Q (.ref n) s2) : sq (mMk c f ms σ) s Q := by
  refine sq_bind (sq_mono h fun ds s1 w => sq_bind (sq_new rfl fun n => sq_bind (sq_mono (w n) fun v s2 ⟨e, q⟩ => ?_)))
  subst e
  exact sq_pure q
def jMe (mt : Nat → Option (List D → M D)) (m : Cs) (ms : Sl → M (List D)) (σ : Sl) (Q : D → Hc → Prop) : D → Hc → Prop := fun v s1 => ∃ a c fs f, v = .ref a ∧ Has s1 a (.ins c fs) ∧ mt c = some f ∧ ffind fs m = none ∧ sq (ms σ) s1 fun ds s2 => sq (f (.ref a :: ds)) s2 Q
theorem jMe_at {mt : Nat → Option (List D → M D)} {m : Cs} {ms : Sl → M (List D)} {a c : Nat} {fs : List (Cs × D)} {f : List D → M D} {Q : D → Hc → Prop} (g : Has s a (.ins c fs)) (hm : mt c = some f) (hn : ffind fs m = none) (h : sq (ms σ) s fun ds s2 => sq (f (.ref a :: ds)) s2 Q) : jMe mt m ms σ Q (.ref a) s := ⟨a, c, fs, f, rfl, g, hm, hn, h⟩
theorem sq_me {mo : Sl → M D} {mt : Nat → Option (List D → M D)} {m : Cs} {ms : Sl → M (List D)} {Q : D → Hc → Prop} (h : sq (mo σ) s (jMe mt m ms σ Q)) : sq (mMe mo mt m ms σ) s Q := by
  refine sq_bind (sq_mono h fun v s1 ⟨a, c, fs, f, e, g, hm, hn, w⟩ => ?_)
  subst e
  refine sq_bind (sq_keep (a := (a, c, fs)) (fun z Q hz k => wq_bind (wq_read (g z hz) (wq_pure k))) ?_)
  show sq (match mt c with | some f => _ | none => _) s1 Q
  rw [hm]
  refine sq_when ?_ (sq_bind w)
  show (ffind fs m).isNone = true
  rw [hn]
  rfl
/-! ### locks -/
theorem sq_lockS {i : Nat} {v : D} {me : Sl → M D} {ds : List D} {Q : D → Hc → Prop} (e : σ[i]?.join = some v) (hv : SeqL s v ds) (h : sq (me σ) s Q) : sq (mLock (pathOf 0 [.var i]) me σ) s Q := fun F z hz => wq_lockV e (hv.at hz.left) (h F z hz)
theorem sq_glockS {i : Nat} {v : D} {me : Sl → M Fl} {ds : List D} {Q : Fl → Hc → Prop} (e : σ[i]?.join = some v) (hv : SeqL s v ds) (h : sq (me σ) s Q) : sq (gLock (pathOf 0 [.var i]) me σ) s Q := fun F z hz => wq_glockV e (hv.at hz.left) (h F z hz)
/-- the slot holds no address -/
def noRef : D → Bool
  | .ref _ => false
  | _ => true
theorem slot_eq {i : Nat} {v : D} (e : σ[i]?.join = some v) : σ[i]? = some (some v) := by
  cases hx : σ[i]? with
  | none => rw [hx] at e; cases e
  | some o => rw [hx] at e; cases o with
    | none => cases e
    | some z => cases e; rfl
theorem sq_lockF {i n c : Nat} {f : Cs} {fs : List (Cs × D)} {v : D} {ds : List D} {me : Sl → M D} {Q : D → Hc → Prop} (e : σ[i]?.join = some (.ref n)) (g : Has s n (.ins c fs)) (hf : ffind fs f = some v) (hv : SeqL s v ds) (h : sq (me σ) s Q) : sq (mLock (pathOf 0 [.fld f (.var i)]) me σ) s Q := fun F z hz => by
  have e' := slot_eq e
  cases hv with
  | tup => exact wq_lock0 (by simp only [pathOf, e', g z hz.left, hf]) (h F z hz)
  | lst g' => exact wq_lock1 (by simp only [pathOf, e', g z hz.left, hf]) (g' z hz.left) (h F z hz)
theorem sq_glockF {i n c : Nat} {f : Cs} {fs : List (Cs × D)} {v : D} {ds : List D} {me : Sl → M Fl} {Q : Fl → Hc → Prop} (e : σ[i]?.join = some (.ref n)) (g : Has s n (.ins c fs)) (hf : ffind fs f = some v) (hv : SeqL s v ds) (h : sq (me σ) s Q) : sq (gLock (pathOf 0 [.fld f (.var i)]) me σ) s Q := fun F z hz => by
  have e' := slot_eq e
  cases hv with
  | tup => exact wq_glock0 (by simp only [pathOf, e', g z hz.left, hf]) (h F z hz)
  | lst g' => exact wq_glock1 (by simp only [pathOf, e', g z hz.left, hf]) (g' z hz.left) (h F z hz)
/-- a value that is no dict -/
theorem sq_lockX {i : Nat} {v : D} {me : Sl → M D} {Q : D → Hc → Prop} (e : σ[i]?.join = some v) (hv : noRef v = true) (h : sq (me σ) s Q) : sq (mLock (pathOf 0 [.var i]) me σ) s Q := fun F z hz => by
  have e' := slot_eq e
  refine wq_lock0 ?_ (h F z hz)
  cases v <;> first | (cases hv; done) | simp only [pathOf, e']
theorem sq_glockX {i : Nat} {v : D} {me : Sl → M Fl} {Q : Fl → Hc → Prop} (e : σ[i]?.join = some v) (hv : noRef v = true) (h : sq (me σ) s Q) : sq (gLock (pathOf 0 [.var i]) me σ) s Q := fun F z hz => by
  have e' := slot_eq e
  refine wq_glock0 ?_ (h F z hz)
  cases v <;> first | (cases hv; done) | simp only [pathOf, e']
theorem wq_locked {α : Type} {n : Nat} {m : M α} {s : S} {kvs : List (D × D)} {Q : α → S → Prop} (e : s.get n = some (.dct kvs)) (h : wq m (s.set n (.dctL kvs)) fun a s' => ∃ ks, s'.get n = some (.dctL ks) ∧ Q a (s'.set n (.dct kvs))) : wq (M.locked n m) s Q := by
  unfold wq wp M.locked
  simp only [e]
  rw [T.all_bind]
  refine T.All.mono (fun o z => ?_) h
  cases o with
  | ok a s' =>
    obtain ⟨ks, g, q⟩ := z
    simp only [g]
    exact q
  | exc x s' => exact z
  | fail => exact z
/-- a walk over a dict's keys: it is locked meanwhile -/
theorem sq_lockFD {i k n c : Nat} {a : Nat} {f : Cs} {fs : List (Cs × D)} {kvs : List (D × D)} {me : Sl → M D} {Q : D → Hc → Prop} (e : σ[k]?.join = some (.ref a)) (g : Has s a (.ins c fs)) (hf : ffind fs f = some (.ref n)) (at_ : s[i]? = some (cell n (.dct kvs))) (h : sq (me σ) (s.set i (cell n (.dctL kvs))) fun v s' => ∃ (i' : Nat) (ks : List (D × D)), s'[i']? = some (cell n (.dctL ks)) ∧ Q v (s'.set i' (cell n (.dct kvs)))) : sq (mLock (pathOf 0 [.fld f (.var k)]) me σ) s Q := fun F z hz => by
  have e' := slot_eq e
  obtain ⟨h1, f1, g1⟩ := hz.put at_ (o := .dctL kvs) rfl
  refine wq_of_eq (m' := M.locked n (me σ)) (by simp only [mLock, pathOf, e', g z hz.left, hf]) (wq_locked g1 (wq_mono (h F _ h1) fun v z2 ⟨f2, L2, h2, i', ks, e2, q⟩ => ?_))
  obtain ⟨h3, f3, g3⟩ := h2.put e2 (o := .dct kvs) rfl
  exact ⟨ks, g3, (f1.trans f2).trans f3, _, h3, q⟩
theorem sq_inD {a : Nat} {kvs : List (D × D)} {k : D} {Q : D → Hc → Prop} (g : Has s a (.dct kvs)) (hk : (keyD k).isSome = true) (q : Q (.bl (dfind kvs k).isSome) s) : sq (inM k (.ref a)) s Q := sq_keep (fun z _ hz y => wq_of_eq (m' := M.pure (.bl (dfind kvs k).isSome)) (by
  simp only [inM, inB, g z hz]
  cases h : keyD k with
  | none => rw [h] at hk; cases hk
  | some v => rfl) (wq_pure y)) q
theorem inF_non : ∀ ws : List Cs, inF .non (ws.map D.str) = false
  | [] => rfl
  | w :: r => by
    have e : inF .non ((w :: r).map D.str) = (eqF (.str w) .non || inF .non (r.map D.str)) := by simp [inF]
    rw [e, inF_non r]
    rfl
theorem sq_inTN {ws : List Cs} {Q : D → Hc → Prop} (q : Q (.bl false) s) : sq (inM .non (.tup (ws.map .str))) s Q := sq_keep (fun z _ _ k => by
  have e : inB z .non (.tup (ws.map .str)) = some false := by
    show (if (flatD .non && (ws.map D.str).all flatD) = true then some (inF .non (ws.map D.str)) else none) = _
    rw [flat_map, inF_non]
    rfl
  exact wq_of_eq (m' := M.bind (M.ofOpt (inB z .non (.tup (ws.map .str)))) fun b => M.pure (.bl b)) rfl (wq_bind (wq_opt e (wq_pure k)))) q
theorem sq_notInTN {ws : List Cs} {Q : D → Hc → Prop} (q : Q (.bl true) s) : sq (notInM .non (.tup (ws.map .str))) s Q := sq_keep (fun z _ _ k => by
  have e : inB z .non (.tup (ws.map .str)) = some false := by
    show (if (flatD .non && (ws.map D.str).all flatD) = true then some (inF .non (ws.map D.str)) else none) = _
    rw [flat_map, inF_non]
    rfl
  exact wq_of_eq (m' := M.bind (M.ofOpt (inB z .non (.tup (ws.map .str)))) fun b => M.pure (.bl (!b))) rfl (wq_bind (wq_opt e (wq_pure k)))) q
theorem sq_notInT {x : Cs} {ws : List Cs} {Q : D → Hc → Prop} (q : Q (.bl (!decide (x ∈ ws))) s) : sq (notInM (.str x) (.tup (ws.map .str))) s Q := sq_keep (fun z _ _ k => by
  have e : inB z (.str x) (.tup (ws.map .str)) = some (decide (x ∈ ws)) := by
    show (if (flatD (.str x) && (ws.map D.str).all flatD) = true then some (inF (.str x) (ws.map D.str)) else none) = _
    rw [flat_map, inF_map]
    rfl
  exact wq_of_eq (m' := M.bind (M.ofOpt (inB z (.str x) (.tup (ws.map .str)))) fun b => M.pure (.bl (!b))) rfl (wq_bind (wq_opt e (wq_pure k)))) q
/-- dicts that are written out -/
theorem sq_disp0 {Q : D → Hc → Prop} (q : ∀ n, Q (.ref n) (cell n (.dct []) :: s)) : sq (mDisp [] σ) s Q :=
  sq_bind (sq_new rfl fun n => sq_bind (sq_pure (sq_when rfl (sq_bind (sq_read (Has.cell (i := 0) rfl) (sq_bind (sq_write (i := 0) (u := .dct []) rfl rfl rfl (sq_pure (q n)))))))))
def jD (n : Nat) (Q : D → Hc → Prop) : List (D × D) → Hc → Prop := fun kvs s => ∃ i, s[i]? = some (cell n (.dct [])) ∧ (kvs.all (fun kv => (keyD kv.1).isSome) && decide (kvs.length ≤ 15)) = true ∧ Q (.ref n) (s.set i (cell n (.dct (dmerge kvs))))
theorem jD_at {n i : Nat} {kvs : List (D × D)} {Q : D → Hc → Prop} (e : s[i]? = some (cell n (.dct []))) (hk : (kvs.all (fun kv => (keyD kv.1).isSome) && decide (kvs.length ≤ 15)) = true) (hm : dmerge kvs = kvs) (q : Q (.ref n) (s.set i (cell n (.dct kvs)))) : jD n Q kvs s := ⟨i, e, hk, by rw [hm]; exact q⟩
theorem sq_disp {ps : List ((Sl → M D) × (Sl → M D))} {Q : D → Hc → Prop} (h : ∀ n, sq (mPairs ps σ) (cell n (.dct []) :: s) (jD n Q)) : sq (mDisp ps σ) s Q :=
  sq_bind (sq_new rfl fun n => sq_bind (sq_mono (h n) fun kvs s1 ⟨i, e, hk, q⟩ => sq_when hk (sq_bind (sq_read (Has.cell e) (sq_bind (sq_write e rfl rfl (sq_pure q)))))))
theorem sq_prNil {Q : List (D × D) → Hc → Prop} (q : Q [] s) : sq (mPairs [] σ) s Q := sq_pure q
theorem sq_prCons {k v : Sl → M D} {r : List ((Sl → M D) × (Sl → M D))} {Q : List (D × D) → Hc → Prop} (h : sq (k σ) s fun x s1 => sq (v σ) s1 fun y s2 => sq (mPairs r σ) s2 fun ps s3 => Q ((x, y) :: ps) s3) : sq (mPairs ((k, v) :: r) σ) s Q := sq_bind (sq_mono h fun _ _ z => sq_bind (sq_mono z fun _ _ y => sq_bind (sq_mono y fun _ _ x => sq_pure x)))
/-! ### what is walked -/
def ItL (L : Hc) (it : ItD) (ds : List D) : Prop := ∀ s, St L s → (∀ i, i ≤ ds.length → it.at s i = some ds[i]?) ∧ it.len s = ds.length
theorem ItL.sub {L L2 : Hc} {it : ItD} {ds : List D} (h : ItL L it ds) (p : L.Sublist L2) : ItL L2 it ds := fun z hz => h z (hz.sub p)
theorem ItL.left {L F : Hc} {it : ItD} {ds : List D} (h : ItL L it ds) : ItL (L ++ F) it ds := h.sub (List.sublist_append_left L F)
theorem ItL.tup {L : Hc} {ds : List D} : ItL L (.tup ds) ds := fun _ _ => ⟨fun _ _ => rfl, rfl⟩
theorem ItL.lst {L : Hc} {a : Nat} {ds : List D} (g : Has L a (.lst ds)) : ItL L (.lst a) ds := fun z hz => ⟨fun i _ => at_lst (g z hz) i, len_lst (g z hz)⟩
theorem ItL.rng {L : Hc} {lo : Int} {n : Nat} : ItL L (.rng lo n) (rngD lo n) := fun z hz => ⟨fun i _ => at_rng, len_rng.symm⟩
theorem ItL.enL {L : Hc} {a : Nat} {ds : List D} (g : Has L a (.lst ds)) : ItL L (.enL a) (enumD ds) := fun z hz => ⟨fun i _ => at_enL (g z hz) i, len_enL (g z hz)⟩
theorem ItL.enT {L : Hc} {ds : List D} : ItL L (.enT ds) (enumD ds) := fun z hz => ⟨fun i hi => by
  rw [len_enum] at hi
  simp only [ItD.at, enumD, List.getElem?_map, List.getElem?_zipIdx]
  cases h : ds[i]? with
  | none =>
    have : i = ds.length := by
      have := List.getElem?_eq_none_iff.mp h
      omega
    simp [this]
  | some d => simp, by simp only [ItD.len, len_enum]⟩
theorem ItL.str {L : Hc} {t : Cs} : ItL L (.str t) (t.map fun c => .str [c]) := fun z hz => ⟨fun i _ => by simp only [ItD.at, List.getElem?_map], by simp only [ItD.len, List.length_map]⟩
theorem ItL.keys {L : Hc} {a : Nat} {kvs : List (D × D)} : ItL L (.keysOf a kvs) (kvs.map Prod.fst) := fun z hz => ⟨fun i _ => by simp only [ItD.at, List.getElem?_map], by simp only [ItD.len, List.length_map]⟩
theorem ItL.zipL {L : Hc} {a b : Nat} {xs ys : List D} (g : Has L a (.lst xs)) (g' : Has L b (.lst ys)) (e : xs.length = ys.length) : ItL L (.zipL a b) (zipD xs ys) := fun z hz => ⟨fun i _ => at_zipL (g z hz) (g' z hz) i, by simp only [ItD.len, g z hz, zipD, List.length_map, List.length_zip]; omega⟩
theorem sq_walkV {v : D} {ds : List D} {Q : ItD → Hc → Prop} (h : SeqL s v ds) (q : ∀ it, (∀ L, SeqL L v ds → ItL L it ds) → Q it s) : sq (walkM v) s Q := by
  cases h with
  | tup => exact sq_keep (fun _ _ _ z => wq_walkT z) (q _ fun L _ => .tup)
  | lst g => exact sq_keep (fun z _ hz k => wq_bind (wq_read (g z hz) k)) (q (.lst _) fun L hL => by cases hL with | lst g => exact .lst g)
theorem sq_walkT {ds : List D} {Q : ItD → Hc → Prop} (q : Q (.tup ds) s) : sq (walkM (.tup ds)) s Q := sq_keep (fun _ _ _ z => wq_walkT z) q
theorem sq_walkL {a : Nat} {ds : List D} {Q : ItD → Hc → Prop} (g : Has s a (.lst ds)) (q : Q (.lst a) s) : sq (walkM (.ref a)) s Q := sq_keep (fun z _ hz k => wq_bind (wq_read (g z hz) k)) q
theorem sq_walkD {a : Nat} {kvs : List (D × D)} {Q : ItD → Hc → Prop} (g : Has s a (.dctL kvs)) (hk : dKeysOk kvs = true) (q : Q (.keysOf a kvs) s) : sq (walkM (.ref a)) s Q := sq_keep (fun z _ hz k => wq_bind (wq_read (g z hz) (wq_when hk k))) q
theorem sq_walkS {t : Cs} {Q : ItD → Hc → Prop} (q : Q (.str t) s) : sq (walkM (.str t)) s Q := sq_keep (fun _ _ _ z => z) q
def jEn (Q : ItD → Hc → Prop) : D → Hc → Prop := fun x s => ∃ it, (∀ (z : S) (P : ItD → S → Prop), St s z → P it z → wq0 (enM x) z P) ∧ Q it s
theorem jEn_V {v : D} {ds : List D} {Q : ItD → Hc → Prop} (h : SeqL s v ds) (q : ∀ it, (∀ L', SeqL L' v ds → ItL L' it (enumD ds)) → Q it s) : jEn Q v s := by
  cases h with
  | tup => exact ⟨_, fun _ _ _ k => k, q (.enT ds) fun L' _ => .enT⟩
  | lst g => exact ⟨_, fun z _ hz k => wq_bind (wq_read (g z hz) k), q _ fun L' h => by cases h with | lst g => exact .enL g⟩
theorem jEn_T {ds : List D} {Q : ItD → Hc → Prop} (q : Q (.enT ds) s) : jEn Q (.tup ds) s := ⟨_, fun _ _ _ k => k, q⟩
theorem jEn_L {a : Nat} {ds : List D} {Q : ItD → Hc → Prop} (g : Has s a (.lst ds)) (q : Q (.enL a) s) : jEn Q (.ref a) s := ⟨_, fun z _ hz k => wq_bind (wq_read (g z hz) k), q⟩
theorem sq_en {me : Sl → M D} {Q : ItD → Hc → Prop} (h : sq (me σ) s (jEn Q)) : sq (mEn me σ) s Q := sq_bind (sq_mono h fun x s1 ⟨it, hk, q⟩ => sq_keep hk q)
def jRg (Q : ItD → Hc → Prop) : D → Hc → Prop := fun x s => ∃ j : Nat, x = .int j ∧ j < 1000000 ∧ Q (.rng 0 j) s
theorem jRg_n {n : Nat} {Q : ItD → Hc → Prop} (h : n < 1000000) (q : Q (.rng 0 n) s) : jRg Q (.int n) s := ⟨n, rfl, h, q⟩
theorem jRg_l {n : Nat} {Q : ItD → Hc → Prop} (h : n < 1000000) (q : Q (.rng 0 n) s) : jRg Q (.int (OfNat.ofNat n)) s := ⟨n, rfl, h, q⟩
theorem sq_rng1 {me : Sl → M D} {Q : ItD → Hc → Prop} (h : sq (me σ) s (jRg Q)) : sq (mRng1 me σ) s Q := sq_bind (sq_mono h fun v s1 ⟨j, e, hj, q⟩ => by
  subst e
  have hb : (decide (-(2 ^ 62) ≤ (j : Int)) && decide ((j : Int) < 2 ^ 62)) = true := by
    rw [Bool.and_eq_true, decide_eq_true_eq, decide_eq_true_eq]
    have h62 : (2 : Int) ^ 62 = 4611686018427387904 := by decide
    rw [h62]
    omega
  unfold rng1M
  dsimp only
  unfold M.when
  rw [if_pos hb, Int.toNat_natCast]
  exact sq_pure q)
theorem sq_zip {ma mb : Sl → M D} {Q : ItD → Hc → Prop} (h : sq (ma σ) s fun x s1 => sq (mb σ) s1 fun y s2 => ∃ a b xs ys, x = .ref a ∧ y = .ref b ∧ Has s2 a (.lst xs) ∧ Has s2 b (.lst ys) ∧ Q (.zipL a b) s2) : sq (mZip ma mb σ) s Q := by
  refine sq_bind (sq_mono h fun x s1 w => sq_bind (sq_mono w fun y s2 ⟨a, b, xs, ys, e, e', g, g', q⟩ => ?_))
  subst e e'
  exact sq_keep (fun z _ hz k => wq_bind (wq_read (g z hz) (wq_bind (wq_read (g' z hz) k)))) q
def jO (Q : D → Hc → Prop) : Fl → Hc → Prop := fun f s => match f with
  | .rt d => Q d s
  | .nx _ => Q .non s
  | _ => False
theorem jO_rt {d : D} {Q : D → Hc → Prop} (h : Q d s) : jO Q (.rt d) s := h
theorem jO_nx {Q : D → Hc → Prop} (h : Q .non s) : jO Q (.nx σ) s := h
/-! ### for -/
def jL (N : Sl → Hc → Prop) (Q : Fl → Hc → Prop) : Fl → Hc → Prop := fun f s => match f with
  | .nx σ' => N σ' s
  | .ct σ' => N σ' s
  | .bk σ' => Q (.nx σ') s
  | .rt d => Q (.rt d) s
  | .xc _ _ => False
theorem jL_nx {N : Sl → Hc → Prop} {Q : Fl → Hc → Prop} (h : N σ s) : jL N Q (.nx σ) s := h
theorem jL_ct {N : Sl → Hc → Prop} {Q : Fl → Hc → Prop} (h : N σ s) : jL N Q (.ct σ) s := h
theorem jL_rt {N : Sl → Hc → Prop} {Q : Fl → Hc → Prop} {d : D} (h : Q (.rt d) s) : jL N Q (.rt d) s := h
theorem jL_bk {N : Sl → Hc → Prop} {Q : Fl → Hc → Prop} (h : Q (.nx σ) s) : jL N Q (.bk σ) s := h

/-- what is left over goes, behind a turn -/
def jG (N : Sl → Hc → Prop) : Sl → Hc → Prop := fun σ' s' => ∃ s2, Ent s' s2 ∧ N σ' s2
theorem jG_ok {N : Sl → Hc → Prop} (h : N σ s) : jG N σ s := ⟨s, .rfl, h⟩
theorem jG_drop {x : HP} {N : Sl → Hc → Prop} (h : jG N σ s) : jG N σ (x :: s) := let ⟨s2, e, q⟩ := h; ⟨s2, e.drop, q⟩
theorem jG_ent {s2 : Hc} {N : Sl → Hc → Prop} (e : Ent s s2) (h : N σ s2) : jG N σ s := ⟨s2, e, h⟩
theorem sq_for {mi : Sl → M ItD} {t : Tg} {body : Sl → M Fl} {Q : Fl → Hc → Prop} (h : sq (mi σ) s fun it s1 => ∃ (items : List D) (Iv : Nat → Sl → Hc → Prop), Iv 0 σ s1 ∧ (∀ i σ' s', i ≤ items.length → Iv i σ' s' → ItL s' it items) ∧
    (∀ i d σ' s', items[i]? = some d → Iv i σ' s' → sq (t d σ') s' fun σ1 s2 => sq (body σ1) s2 (jL (jG (Iv (i + 1))) Q)) ∧ ∀ σ' s', Iv items.length σ' s' → Q (.nx σ') s') : sq (gFor mi t body σ) s Q := fun F z hz => by
  refine wq_for (wq_mono (h F z hz) fun it s1 ⟨f1, L1, h1, items, Iv, I0, hat, step, fin⟩ => ?_)
  refine ⟨items, fun i σ' s' => Fz z s' ∧ ∃ L', St (L' ++ F) s' ∧ Iv i σ' L', (hat 0 σ L1 (Nat.zero_le _) I0 s1 h1.left).2, ⟨f1, L1, h1, I0⟩, fun i σ' s' hi ⟨_, L', hL, I⟩ => (hat i σ' L' hi I s' hL.left).1 i hi, fun i d σ' s' hd ⟨f2, L', hL, I⟩ => ?_, fun σ' s' ⟨f2, L', hL, I⟩ => ⟨f2, L', hL, fin σ' L' I⟩⟩
  refine wq_mono (step i d σ' L' hd I F s' hL) fun σ1 s2 ⟨f3, L2, h2, w⟩ => wq_mono (w F s2 h2) fun f s3 ⟨f4, L3, h3, k⟩ => ?_
  have fz := (f2.trans f3).trans f4
  cases f with
  | nx σ2 => obtain ⟨L4, e4, k⟩ := k; exact ⟨fz, L4, e4.st h3, k⟩
  | ct σ2 => obtain ⟨L4, e4, k⟩ := k; exact ⟨fz, L4, e4.st h3, k⟩
  | bk σ2 => exact ⟨fz, L3, h3, k⟩
  | rt d => exact ⟨fz, L3, h3, k⟩
  | xc _ _ => exact k.elim
/-- a walk over a few things, one after another -/
def unr (t : Tg) (body : Sl → M Fl) (Q : Fl → Hc → Prop) : List D → Sl → Hc → Prop
  | [], σ, s => Q (.nx σ) s
  | d :: ds, σ, s => sq (t d σ) s fun σ1 s2 => sq (body σ1) s2 (jL (jG (unr t body Q ds)) Q)
theorem unr_drop : ∀ {ds : List D} {n : Nat} {d : D}, ds[n]? = some d → ds.drop n = d :: ds.drop (n + 1) := by
  intro ds n d h
  have hl := (List.getElem?_eq_some_iff.mp h)
  rw [List.drop_eq_getElem_cons hl.1, hl.2]
theorem unr_nil {t : Tg} {body : Sl → M Fl} {Q : Fl → Hc → Prop} (h : Q (.nx σ) s) : unr t body Q [] σ s := h
theorem unr_cons {t : Tg} {body : Sl → M Fl} {Q : Fl → Hc → Prop} {d : D} {ds : List D} (h : sq (t d σ) s fun σ1 s2 => sq (body σ1) s2 (jL (jG (unr t body Q ds)) Q)) : unr t body Q (d :: ds) σ s := h
def jW (t : Tg) (body : Sl → M Fl) (Q : Fl → Hc → Prop) (σ : Sl) : ItD → Hc → Prop := fun it s => ∃ ds, it = .tup ds ∧ unr t body Q ds σ s
theorem jW_at {t : Tg} {body : Sl → M Fl} {Q : Fl → Hc → Prop} {ds : List D} (h : unr t body Q ds σ s) : jW t body Q σ (.tup ds) s := ⟨ds, rfl, h⟩
theorem sq_forU {mi : Sl → M ItD} {t : Tg} {body : Sl → M Fl} {Q : Fl → Hc → Prop} (h : sq (mi σ) s (jW t body Q σ)) : sq (gFor mi t body σ) s Q := by
  refine sq_for (sq_mono h fun it s1 ⟨ds, e, u⟩ => ⟨ds, fun n σ' s' => unr t body Q (ds.drop n) σ' s', u, fun _ _ _ _ _ => by subst e; exact .tup, fun n d σ' s' hd hI => ?_, fun σ' s' hI => ?_⟩)
  · have e2 := unr_drop hd
    have hI : unr t body Q (ds.drop n) σ' s' := hI
    rw [e2] at hI
    exact hI
  · have hI : unr t body Q (ds.drop ds.length) σ' s' := hI
    rw [List.drop_length] at hI
    exact hI
theorem loopW_ok {mt : Sl → M Bool} {body : Sl → M Fl} {Q : Fl → Hc → Prop} {Iv : Nat → Sl → Hc → Prop} (step : ∀ k σ' s', Iv k σ' s' → sq (mt σ') s' (jT (fun s1 => sq (body σ') s1 (jL (jG fun σ2 s2 => ∃ k', k' < k ∧ Iv k' σ2 s2) Q)) fun s1 => Q (.nx σ') s1)) : ∀ (n k : Nat) (σ' : Sl) (s' : Hc), k < n → Iv k σ' s' → sq (loopW mt body n σ') s' Q
  | 0, k, _, _, h, _ => absurd h (Nat.not_lt_zero _)
  | n + 1, k, σ', s', hk, I => by
    refine sq_inS (sq_mono (step k σ' s' I) fun b s1 z => ?_)
    cases b with
    | false => exact sq_pure z
    | true =>
      refine sq_bind (sq_mono z fun f s2 y => ?_)
      cases f with
      | nx σ2 => obtain ⟨s3, e3, k', l, I'⟩ := y; exact sq_ent e3 (loopW_ok step n k' σ2 s3 (by omega) I')
      | ct σ2 => obtain ⟨s3, e3, k', l, I'⟩ := y; exact sq_ent e3 (loopW_ok step n k' σ2 s3 (by omega) I')
      | bk σ2 => exact sq_pure y
      | rt d => exact sq_pure y
      | xc _ _ => exact y.elim
theorem sq_while {n : Nat} {mt : Sl → M Bool} {body : Sl → M Fl} {Q : Fl → Hc → Prop} (Iv : Nat → Sl → Hc → Prop) (k : Nat) (hk : k < n) (h0 : Iv k σ s) (step : ∀ k σ' s', Iv k σ' s' → sq (mt σ') s' (jT (fun s1 => sq (body σ') s1 (jL (jG fun σ2 s2 => ∃ k', k' < k ∧ Iv k' σ2 s2) Q)) fun s1 => Q (.nx σ') s1)) : sq (gWhile n mt body σ) s Q := loopW_ok step n k σ s hk h0
/-! ### list comprehensions -/
theorem loopC_ok2 {it : ItD} {p : Pat} {mt : Sl → M Bool} {me : Sl → M D} {n : Nat} {items : List D} {Iv : Nat → List D → S → Prop} {Q : D → S → Prop}
    (hat : ∀ i acc s', i ≤ items.length → Iv i acc s' → it.at s' i = some items[i]?)
    (step : ∀ i d acc s', items[i]? = some d → Iv i acc s' → ∃ σ2, patM s' p d σ = some σ2 ∧ wq (mt σ2) s' fun b s2 => (b = true → wq (me σ2) s2 fun y s3 => s3.get n = some (.lst acc) ∧ acc.length < 1000000 ∧ Iv (i + 1) (acc ++ [y]) (s3.set n (.lst (acc ++ [y])))) ∧ (b = false → Iv (i + 1) acc s2))
    (fin : ∀ acc s', Iv items.length acc s' → Q (.ref n) s') :
    ∀ (m i : Nat) (acc : List D) (s' : S), m + i = items.length + 1 → i ≤ items.length → Iv i acc s' → wq (loopC it p mt me n σ m i) s' Q
  | 0, i, acc, s', hm, hi, _ => by omega
  | m + 1, i, acc, s', hm, hi, I => by
    have e := hat i acc s' hi I
    cases hd : items[i]? with
    | none =>
      rw [hd] at e
      refine wq_of_eq (loopC_stop e) (wq_pure ?_)
      have : i = items.length := by
        have := List.getElem?_eq_none_iff.mp hd
        omega
      subst this
      exact fin acc s' I
    | some d =>
      rw [hd] at e
      obtain ⟨σ2, hp, w⟩ := step i d acc s' hd I
      have hi2 : i < items.length := (List.getElem?_eq_some_iff.mp hd).1
      refine wq_of_eq (loopC_go e hp) (wq_bind (wq_noX (wq_mono w fun b s2 ⟨ht, hf⟩ => ?_)))
      cases b with
      | false =>
        simp only [Bool.false_eq_true, if_false]
        exact loopC_ok2 hat step fin m (i + 1) acc s2 (by omega) (by omega) (hf rfl)
      | true =>
        simp only [if_true]
        refine wq_bind (wq_noX (wq_mono (ht rfl) fun y s3 ⟨g3, hl, hI⟩ => ?_))
        refine wq_bind (wq_read g3 ?_)
        dsimp only
        refine wq_when (decide_eq_true hl) (wq_bind (wq_write g3 rfl ?_))
        exact loopC_ok2 hat step fin m (i + 1) (acc ++ [y]) _ (by omega) (by omega) hI
/-- a pattern's slots -/
def PatL (L : Hc) (p : Pat) (d : D) (σ σ2 : Sl) : Prop := ∀ s, St L s → patM s p d σ = some σ2
theorem PatL.nm {L : Hc} {i : Nat} {d : D} : PatL L (.nm i) d σ (σ.set i (some d)) := fun _ _ => rfl
/-- a list comprehension by an invariant -/
theorem sq_lc {mi : Sl → M ItD} {p : Pat} {mt : Sl → M Bool} {me : Sl → M D} {vs : List Nat} {Q : D → Hc → Prop} (h : sq (mi σ) s fun it s1 => ∃ (items : List D) (Iv : Nat → List D → Hc → Prop), items.length < 1000000 ∧ Iv 0 [] s1 ∧ (∀ i acc s', i ≤ items.length → Iv i acc s' → ItL s' it items) ∧
    (∀ i d acc s', items[i]? = some d → Iv i acc s' → ∃ σ2, PatL s' p d (wipeD σ vs) σ2 ∧ sq (mt σ2) s' (jT (fun s2 => sq (me σ2) s2 fun y s3 => Iv (i + 1) (acc ++ [y]) s3) fun s2 => Iv (i + 1) acc s2)) ∧
    ∀ acc s' n, Iv items.length acc s' → Q (.ref n) (cell n (.lst acc) :: s')) : sq (mLc mi p mt me vs σ) s Q := fun F z hz => by
  refine wq_bind (wq_mono (h F z hz) fun it s1 ⟨f1, L1, h1, items, Iv, hlen, I0, hat, step, fin⟩ => wq_bind (wq_new ?_))
  have hN := h1.new (o := .lst []) rfl
  have fN := Fz.new s1 (.lst [])
  have len := (hat 0 [] L1 (Nat.zero_le _) I0 (s1.new (.lst [])) (hN.sub ((List.sublist_append_left L1 F).trans (List.sublist_cons_self _ _)))).2
  show wq (fun s => loopC it p mt me s1.n (wipeD σ vs) (it.len s + 1) 0 s) (s1.new (.lst [])) _
  refine wq_of_eq (m' := loopC it p mt me s1.n (wipeD σ vs) (it.len (s1.new (.lst [])) + 1) 0) rfl ?_
  rw [len]
  refine loopC_ok2 (Iv := fun i acc s' => acc.length ≤ i ∧ Fz z s' ∧ ∃ L', St (cell s1.n (.lst acc) :: (L' ++ F)) s' ∧ Iv i acc L') (items := items) (fun i acc s' hi ⟨_, _, L', hL, I⟩ => (hat i acc L' hi I s' (hL.sub ((List.sublist_append_left L' F).trans (List.sublist_cons_self _ _)))).1 i hi) (fun i d acc s' hd ⟨hl, fz, L', hL, I⟩ => ?_) (fun acc s' ⟨_, fz, L', hL, I⟩ => ⟨fz, cell s1.n (.lst acc) :: L', hL, fin acc L' s1.n I⟩) _ 0 [] _ (by omega) (by omega) ⟨Nat.le_refl _, f1.trans fN, L1, hN, I0⟩
  obtain ⟨σ2, hp, w⟩ := step i d acc L' hd I
  have hi2 : i < items.length := (List.getElem?_eq_some_iff.mp hd).1
  have pm : (cell s1.n (.lst acc) :: (L' ++ F)).Perm (L' ++ (cell s1.n (.lst acc) :: F)) := List.perm_middle.symm
  refine ⟨σ2, hp s' (hL.sub ((List.sublist_append_left L' F).trans (List.sublist_cons_self _ _))), wq_mono (w (cell s1.n (.lst acc) :: F) s' (hL.perm pm)) fun b s2 ⟨f2, L2, h2, q⟩ => ⟨fun e => ?_, fun e => ?_⟩⟩
  · subst e
    refine wq_mono (q (cell s1.n (.lst acc) :: F) s2 h2) fun y s3 ⟨f3, L3, h3, I3⟩ => ?_
    have h3' : St ((cell s1.n (.lst acc) :: L3) ++ F) s3 := h3.perm List.perm_middle
    have pt := h3'.put (i := 0) (o := .lst (acc ++ [y])) rfl rfl
    refine ⟨pt.2.2, by omega, ?_, ((fz.trans f2).trans f3).trans pt.2.1, L3, pt.1, I3⟩
    rw [List.length_append]
    show acc.length + 1 ≤ i + 1
    omega
  · subst e
    exact ⟨by omega, fz.trans f2, L2, h2.perm List.perm_middle, q⟩
/-- where each turn is plain: values of things that are told -/
theorem sq_lcM {X : Type} {mi : Sl → M ItD} {p : Pat} {mt : Sl → M Bool} {me : Sl → M D} {vs : List Nat} {Q : D → Hc → Prop} (t : X → Bool) (f : X → D) (h : sq (mi σ) s fun it s1 => ∃ (xs : List X) (enc : X → D), xs.length < 1000000 ∧ ItL s1 it (xs.map enc) ∧
    (∀ x ∈ xs, ∃ σ2, PatL s1 p (enc x) (wipeD σ vs) σ2 ∧ sq (mt σ2) s1 fun b s2 => b = t x ∧ Ent s2 s1 ∧ (t x = true → sq (me σ2) s1 fun y s3 => y = f x ∧ Ent s3 s1)) ∧
    ∀ n, Q (.ref n) (cell n (.lst ((xs.filter t).map f)) :: s1)) : sq (mLc mi p mt me vs σ) s Q := by
  refine sq_lc (sq_mono h fun it s1 ⟨xs, enc, hl, hit, step, fin⟩ => ⟨xs.map enc, fun i acc s' => s' = s1 ∧ acc = ((xs.take i).filter t).map f, by rw [List.length_map]; exact hl, ⟨rfl, rfl⟩, fun i acc s' _ ⟨e, _⟩ => by rw [e]; exact hit, fun i d acc s' hd ⟨e, ea⟩ => ?_, fun acc s' n ⟨e, ea⟩ => ?_⟩)
  · subst e
    rw [List.getElem?_map] at hd
    cases hx : xs[i]? with
    | none => rw [hx] at hd; cases hd
    | some x =>
      rw [hx] at hd
      have ed : enc x = d := Option.some.inj hd
      subst ed
      obtain ⟨σ2, hp, w⟩ := step x (List.mem_of_getElem? hx)
      have tk : xs.take (i + 1) = xs.take i ++ [x] := by rw [List.take_succ, hx]; rfl
      refine ⟨σ2, hp, sq_post (sq_mono w fun b s2 ⟨eb, hs, hm⟩ => ⟨s', hs, ?_⟩)⟩
      cases b with
      | true =>
        refine jT_t (sq_post (sq_mono (hm eb.symm) fun y s3 ⟨ey, hs3⟩ => ⟨s', hs3, rfl, ?_⟩))
        rw [tk, List.filter_append, List.map_append, ← ea, ey]
        simp [List.filter, ← eb]
      | false =>
        refine jT_f ⟨rfl, ?_⟩
        rw [tk, List.filter_append, List.map_append, ← ea]
        simp [List.filter, ← eb]
  · subst e
    rw [ea, List.length_map, List.take_length]
    exact fin n
/-- without a test -/
theorem sq_lcN {X : Type} {mi : Sl → M ItD} {p : Pat} {me : Sl → M D} {vs : List Nat} {Q : D → Hc → Prop} (f : X → D) (h : sq (mi σ) s fun it s1 => ∃ (xs : List X) (enc : X → D), xs.length < 1000000 ∧ ItL s1 it (xs.map enc) ∧
    (∀ x ∈ xs, ∃ σ2, PatL s1 p (enc x) (wipeD σ vs) σ2 ∧ sq (me σ2) s1 fun y s3 => y = f x ∧ Ent s3 s1) ∧
    ∀ n, Q (.ref n) (cell n (.lst (xs.map f)) :: s1)) : sq (mLc mi p (fun _ => M.pure true) me vs σ) s Q := by
  refine sq_lcM (fun _ => true) f (sq_mono h fun it s1 ⟨xs, enc, hl, hit, step, fin⟩ => ⟨xs, enc, hl, hit, fun x hx => ?_, fun n => ?_⟩)
  · obtain ⟨σ2, hp, w⟩ := step x hx
    exact ⟨σ2, hp, sq_pure ⟨rfl, .rfl, fun _ => w⟩⟩
  · rw [List.filter_eq_self.mpr fun _ _ => rfl]
    exact fin n
/-- without a test, each turn's value by a relation -/
theorem sq_lcR {mi : Sl → M ItD} {p : Pat} {me : Sl → M D} {vs : List Nat} {Q : D → Hc → Prop} (R : D → D → Prop) (h : sq (mi σ) s fun it s1 => ∃ items : List D, items.length < 1000000 ∧ ItL s1 it items ∧
    (∀ d ∈ items, ∃ σ2, PatL s1 p d (wipeD σ vs) σ2 ∧ sq (me σ2) s1 fun y s3 => R d y ∧ Ent s3 s1) ∧
    ∀ ys n, All2 R items ys → Q (.ref n) (cell n (.lst ys) :: s1)) : sq (mLc mi p (fun _ => M.pure true) me vs σ) s Q := by
  refine sq_lc (sq_mono h fun it s1 ⟨items, hl, hit, step, fin⟩ => ⟨items, fun i acc s' => s' = s1 ∧ All2 R (items.take i) acc, hl, ⟨rfl, .nil⟩, fun i acc s' _ ⟨e, _⟩ => by rw [e]; exact hit, fun i d acc s' hd ⟨e, ea⟩ => ?_, fun acc s' n ⟨e, ea⟩ => ?_⟩)
  · subst e
    obtain ⟨σ2, hp, w⟩ := step d (List.mem_of_getElem? hd)
    have tk : items.take (i + 1) = items.take i ++ [d] := by rw [List.take_succ, hd]; rfl
    refine ⟨σ2, hp, sq_pure (jT_t (sq_post (sq_mono w fun y s3 ⟨hy, hs⟩ => ⟨s', hs, rfl, ?_⟩)))⟩
    rw [tk]
    exact ea.snoc hy
  · subst e
    rw [List.take_length] at ea
    exact fin acc n ea
theorem sq_ifP {mt : Sl → M Bool} {ma mb : Sl → M D} {x : Bool} {a b : D} {Q : D → Hc → Prop} (h0 : sq (mt σ) s fun c s1 => c = x ∧ s1 = s) (h1 : x = true → sq (ma σ) s fun v s1 => v = a ∧ s1 = s) (h2 : x = false → sq (mb σ) s fun v s1 => v = b ∧ s1 = s) (q : Q (bif x then a else b) s) : sq (mIf mt ma mb σ) s Q :=
  sq_if (sq_mono h0 fun c s1 ⟨e, e'⟩ => by
    subst e e'
    cases c with
    | true => exact sq_mono (h1 rfl) fun v s1 ⟨e, e'⟩ => by subst e e'; exact q
    | false => exact sq_mono (h2 rfl) fun v s1 ⟨e, e'⟩ => by subst e e'; exact q)
theorem sq_indexS {u t : Cs} {j : Nat} {Q : D → Hc → Prop} (hu : u ≠ []) (e : fnd u 0 t = some j) (q : Q (.int (j : Nat)) s) : sq (indexSM (.str t) [.str u]) s Q := by
  refine sq_when ?_ (sq_bind (sq_opt e (sq_pure q)))
  cases u with
  | nil => exact absurd rfl hu
  | cons _ _ => rfl
theorem sq_sl {ns : List Int} {me : Sl → M D} {lo hi : Sl → M (Option Int)} {Q : D → Hc → Prop} (h : sq (me σ) s fun x s1 => sq (lo σ) s1 fun l s2 => sq (hi σ) s2 fun u s3 => sq (slM ns x l u) s3 Q) : sq (mSl ns me lo hi σ) s Q :=
  sq_bind (sq_mono h fun _ _ z => sq_bind (sq_mono z fun _ _ y => sq_bind y))
theorem sq_part0 {Q : Option Int → Hc → Prop} (q : Q none s) : sq (mPart none σ) s Q := sq_pure q
theorem sq_fl {m : M Fl} {Q : Fl → Hc → Prop} (h : sq m s fun f s1 => (∀ x σ', f ≠ .xc x σ') ∧ Q f s1) : sq (M.fl m) s Q := sq_bind (sq_mono h fun f s1 ⟨n, q⟩ => by
  cases f with
  | xc x σ' => exact absurd rfl (n x σ')
  | _ => exact sq_pure q)
theorem sq_tryN {g : Sl → M Fl} {Q : Fl → Hc → Prop} (h : sq (g σ) s fun f s1 => (∀ x σ', f ≠ .xc x σ') ∧ Q f s1) : sq ((fun σ => M.fl (g σ)) σ) s Q := sq_fl h
theorem sq_cm {mo : Sl → M D} {mt : Nat → Option (List D → M D)} {ms : Sl → M (List D)} {f : List D → M D} {c : Nat} {Q : D → Hc → Prop} (hm : mt c = some f) (h : sq (mo σ) s fun x s1 => x = .cls c ∧ sq (ms σ) s1 fun ds s2 => sq (f (.cls c :: ds)) s2 Q) : sq (mCM mo mt ms σ) s Q := by
  refine sq_bind (sq_mono h fun x s1 ⟨e, w⟩ => ?_)
  subst e
  show sq (match mt c with | some f => _ | none => _) s1 Q
  rw [hm]
  exact sq_bind w
theorem sq_mkL {i c : Nat} {mt : Nat → Option (List D → M D)} {f : List D → M D} {ms : Sl → M (List D)} {Q : D → Hc → Prop} (e : σ[i]?.join = some (.cls c)) (hm : mt c = some f) (h : sq (mMk c f ms σ) s Q) : sq (mMkL i mt ms σ) s Q := by
  have e' : σ[i]? = some (some (.cls c)) := by
    cases hx : σ[i]? with
    | none => rw [hx] at e; cases e
    | some o => rw [hx] at e; cases o with
      | none => cases e
      | some z => cases e; rfl
  unfold mMkL
  rw [e']
  dsimp only
  rw [hm]
  exact h
/-! ### match -/
def jC (cs : List Cs) (bs : List (Sl → M Fl)) (σ : Sl) (Q : Fl → Hc → Prop) : D → Hc → Prop := fun v s => ∃ x, v = .str x ∧ sq (gCases x cs bs σ) s Q
theorem jC_str {cs : List Cs} {bs : List (Sl → M Fl)} {x : Cs} {Q : Fl → Hc → Prop} (h : sq (gCases x cs bs σ) s Q) : jC cs bs σ Q (.str x) s := ⟨x, rfl, h⟩
theorem sq_match {me : Sl → M D} {cs : List Cs} {bs : List (Sl → M Fl)} {Q : Fl → Hc → Prop} (h : sq (me σ) s (jC cs bs σ Q)) : sq (gMatch me cs bs σ) s Q := sq_inS (sq_mono h fun v s1 ⟨x, e, w⟩ => by
  subst e
  exact w)
theorem sq_caseY {x c : Cs} {cs : List Cs} {b : Sl → M Fl} {bs : List (Sl → M Fl)} {Q : Fl → Hc → Prop} (e : x = c) (h : sq (b σ) s Q) : sq (gCases x (c :: cs) (b :: bs) σ) s Q := by
  unfold gCases
  rw [if_pos e]
  exact h
theorem sq_caseN {x c : Cs} {cs : List Cs} {b : Sl → M Fl} {bs : List (Sl → M Fl)} {Q : Fl → Hc → Prop} (e : ¬ x = c) (h : sq (gCases x cs bs σ) s Q) : sq (gCases x (c :: cs) (b :: bs) σ) s Q := by
  unfold gCases
  rw [if_neg e]
  exact h
theorem sq_caseZ {x : Cs} {Q : Fl → Hc → Prop} (h : Q (.nx σ) s) : sq (gCases x [] [] σ) s Q := sq_pure h
/-! ### calls -/
/-- what is left over goes -/
theorem jT_join {β : Type} {m1 m2 : M β} {R : β → Hc → Prop} {b : Bool} (X : β → Hc → Prop) (ht : b = true → sq m1 s X) (hf : b = false → sq m2 s X) (k : ∀ f s', X f s' → R f s') : jT (fun s1 => sq m1 s1 R) (fun s1 => sq m2 s1 R) b s := jT_b (fun e => sq_mono (ht e) k) fun e => sq_mono (hf e) k
theorem jT_te {T F : Hc → Prop} {b : Bool} (e : b = true) (t : T s) : jT T F b s := by rw [e]; exact jT_t t
theorem jT_fe {T F : Hc → Prop} {b : Bool} (e : b = false) (t : F s) : jT T F b s := by rw [e]; exact jT_f t
theorem jB_te {T F : Hc → Prop} {b : Bool} (e : b = true) (t : T s) : jB T F (.bl b) s := by rw [e]; exact jB_t t
theorem jB_fe {T F : Hc → Prop} {b : Bool} (e : b = false) (t : F s) : jB T F (.bl b) s := by rw [e]; exact jB_f t
theorem jB_y {T F : Hc → Prop} {p : Prop} [Decidable p] (h : p) (t : T s) : jB T F (.bl (decide p)) s := by rw [decide_eq_true h]; exact jB_t t
theorem jB_n {T F : Hc → Prop} {p : Prop} [Decidable p] (h : ¬ p) (t : F s) : jB T F (.bl (decide p)) s := by rw [decide_eq_false h]; exact jB_f t
theorem jT_y {T F : Hc → Prop} {p : Prop} [Decidable p] (h : p) (t : T s) : jT T F (decide p) s := by rw [decide_eq_true h]; exact jT_t t
theorem jT_n {T F : Hc → Prop} {p : Prop} [Decidable p] (h : ¬ p) (t : F s) : jT T F (decide p) s := by rw [decide_eq_false h]; exact jT_f t
theorem jT_ny {T F : Hc → Prop} {p : Prop} [Decidable p] (h : p) (t : F s) : jT T F (!decide p) s := by rw [decide_eq_true h]; exact jT_f t
theorem jT_nn {T F : Hc → Prop} {p : Prop} [Decidable p] (h : ¬ p) (t : T s) : jT T F (!decide p) s := by rw [decide_eq_false h]; exact jT_t t
theorem jT_d {T F : Hc → Prop} {p : Prop} [Decidable p] (t : p → T s) (f : ¬ p → F s) : jT T F (decide p) s := jT_b (fun e => t (of_decide_eq_true e)) fun e => f (of_decide_eq_false e)
theorem jT_nd {T F : Hc → Prop} {p : Prop} [Decidable p] (t : ¬ p → T s) (f : p → F s) : jT T F (!decide p) s := jT_b (fun e => t (by simpa using e)) fun e => f (by simpa using e)
theorem jB_d {T F : Hc → Prop} {p : Prop} [Decidable p] (t : p → T s) (f : ¬ p → F s) : jB T F (.bl (decide p)) s := jB_b (fun e => t (of_decide_eq_true e)) fun e => f (of_decide_eq_false e)
def jE (Q : D → Hc → Prop) : D → Hc → Prop := fun d s => ∃ s2, Ent s s2 ∧ Q d s2
theorem jE_ok {d : D} {Q : D → Hc → Prop} (h : Q d s) : jE Q d s := ⟨s, .rfl, h⟩
theorem jE_drop {x : HP} {d : D} {Q : D → Hc → Prop} (h : jE Q d s) : jE Q d (x :: s) := let ⟨s2, e, q⟩ := h; ⟨s2, e.drop, q⟩
theorem jE_ent {s2 : Hc} {d : D} {Q : D → Hc → Prop} (e : Ent s s2) (h : Q d s2) : jE Q d s := ⟨s2, e, h⟩
theorem sq_fnB {L : Lw} {ns : List Int} {prim : Nat → Option (List D → M D)} {tb : List Bd} {j i np nv : Nat} {dfl ds : List D} {c : Pg → Sl → M Fl} {Q : D → Hc → Prop} (hp : prim i = none) (hq : tb[i]? = some ⟨np, nv, dfl, c, false⟩) (hs : slots np nv dfl ds = some σ)
    (h : sq (c (pgOf L ns (fnI L ns prim tb j)) σ) s (jO (jE Q))) : sq (fnI L ns prim tb (j + 1) i ds) s Q := sq_post (fun F z hz => wq_fnB hp hq hs (wq_mono (h F z hz) fun f s1 ⟨f1, L1, h1, k⟩ => by
  cases f with
  | rt d => exact ⟨f1, L1, h1, k⟩
  | nx σ' => exact ⟨f1, L1, h1, k⟩
  | _ => exact k.elim))
theorem sq_prim {L : Lw} {ns : List Int} {prim : Nat → Option (List D → M D)} {tb : List Bd} {j i : Nat} {f : List D → M D} {ds : List D} {Q : D → Hc → Prop} (hp : prim i = some f) (h : sq (f ds) s Q) : sq (fnI L ns prim tb (j + 3 + 1) i ds) s Q := fun F z hz => wq_prim hp (h F z hz)
theorem sq_dfl {L : Lw} {ns : List Int} {prim : Nat → Option (List D → M D)} {tb : List Bd} {j i : Nat} {q : Bd} {ds ds' : List D} {Q : D → Hc → Prop} (hp : prim i = none) (hq : tb[i]? = some q) (hg : q.gc = false) (hs : slots q.np q.ns q.dfl ds = slots q.np q.ns q.dfl ds') (h : sq (fnI L ns prim tb (j + 1) i ds') s Q) : sq (fnI L ns prim tb (j + 1) i ds) s Q := by
  have e : fnI L ns prim tb (j + 1) i ds = fnI L ns prim tb (j + 1) i ds' := by
    rw [fnI_eq]
    unfold fnB
    rw [hp]
    dsimp only
    rw [hq]
    dsimp only
    unfold runB runB0
    rw [hg]
    unfold gcIf
    dsimp only
    rw [hs]
  rw [e]
  exact h
/-! ### draws -/
theorem Ent.exI {τ : Type} {f : τ → HP} {t : τ} {L : Hc} : Ent (f t :: L) (hex f :: L) := fun s A ⟨A1, A2, e, d, h1, h2⟩ => ⟨A, fun _ z => z, A1, A2, e, d, ⟨t, h1⟩, h2⟩
def dealH (d : Nat) : HP := hex fun q : Nat => hstar [cell d (.deal q), cell q .dealIn]
theorem sq_dealM {i : Int} {Q : D → Hc → Prop} (q : ∀ d, Q (.ref d) (dealH d :: s)) : sq (dealM [.scr, .int i]) s Q := by
  refine sq_post (sq_bind (sq_new rfl fun n => sq_bind (sq_new rfl fun m => sq_pure ⟨_, ?_, q m⟩)))
  exact (Ent.fold (L1 := [cell m (.deal n), cell n .dealIn])).trans (Ent.exI (f := fun q : Nat => hstar [cell m (.deal q), cell q .dealIn]))
theorem sq_drawM {d i : Nat} {n : Int} {Q : D → Hc → Prop} (e : s[i]? = some (dealH d)) (h3 : 0 < n) (h4 : n < 1073741824) (h : ∀ i : Nat, (i : Int) < n → Q (.int i) s) : sq (drawM [.ref d, .int n]) s Q := fun F z hz => by
  obtain ⟨A, k, B1, B2, eB, dB, ⟨_, g1, _⟩, ⟨_, _, _, _, ⟨_, g2, _⟩, _⟩⟩ := hz.left.at e
  exact wq_drawM g1 g2 h3 h4 fun i hi => ⟨Fz.rfl, s, hz, h i hi⟩
end
end Ev

/-! ExB: what a weaving comes to, plainly. -/
namespace Ev
open PySem PySem.Spec PyProof.Rows L2
structure Rw where
  k : Cs
  ts : List Cs
  ds : List Cs
/-- words -/
def wNOT : Cs := [110, 111, 116, 32]
def wOTHER : Cs := [111, 116, 104, 101, 114]
def wANSWER : Cs := [97, 110, 115, 119, 101, 114]
def wWIPE : Cs := [119, 105, 112, 101]
def wCOUNT : Cs := [99, 111, 117, 110, 116]
def wASK : Cs := [97, 115, 107]
def wDAY : Cs := [100, 97, 121]
def wOFF : Cs := [111, 102, 102]
def wSTOP : Cs := [115, 116, 111, 112]
def wCOME : Cs := [99, 111, 109, 101]
def wHEARD : Cs := [104, 101, 97, 114, 100]
def kinds : List Cs := [wASK, wDAY, wOFF, wSTOP]
def wholes : List Cs := [wASK, wSTOP]
def asking : List Cs := [wASK, wDAY]
def calling : List Cs := [wSTOP, wOFF]
/-- a test by what holds -/
def met (f : Cs → Bool) (t : Cs) : Bool := if t.take 4 = wNOT then !f (t.drop 4) else f t
def fitG (k : Cs) (f : Cs → Bool) : Nat → List Rw → Option Nat
  | _, [] => none
  | n, r :: rs => if (decide (r.k = k) && r.ts.all (met f)) = true then some n else fitG k f (n + 1) rs
def fit (rows : List Rw) (k : Cs) (f : Cs → Bool) : Option Nat := fitG k f 0 rows
def deedsAt (rows : List Rw) (at_ : Option Nat) : List Cs := match at_ with
  | none => []
  | some i => match rows[i]? with
    | some r => r.ds
    | none => []
def partsB (isW : Bool) (p : Nat) : List Cs → Option Nat × Option Nat → Option Nat × Option Nat
  | [], wo => wo
  | d :: ds, wo => partsB isW p ds (if d = wWIPE then (wo.1, none) else if isW then (some p, wo.2) else (wo.1, some p))
def countB (n : Nat) : List Cs → Option Nat → Option Nat
  | [], c => c
  | d :: ds, _ => countB n ds (if d = wCOUNT then some n else none)
def insN (p : Nat) (l : List Nat) : List Nat := if p ∈ l then l else l ++ [p]
def insC' (p : Cs) (l : List Cs) : List Cs := if p ∈ l then l else l ++ [p]
/-- a caller, a guest and a day -/
structure Crs where
  ls : List (Cs × Nat)
  nw : Nat
  wh : Option Nat
  ow : Option Nat
  an : List Nat
  ct : Option Nat
  ca : List Nat
  se : List Nat
  sh : List (Option Nat)
  dn : List (Option Nat)
  mt : List Cs
def Crs.start : Crs := ⟨[(wASK, 0)], 0, none, none, [], none, [], [], [none], [], []⟩
def Crs.view (c : Crs) : Option Nat := match c.ow with
  | none => c.wh
  | some p => some p
def Crs.kind (c : Crs) (p : Nat) : Cs := match c.ls[p]? with
  | some l => l.1
  | none => []
def Crs.num (c : Crs) (p : Nat) : Nat := match c.ls[p]? with
  | some l => l.2
  | none => 0
def Crs.last (c : Crs) : Nat := c.num (c.ls.length - 1)
def pHolds (num : Nat → Nat) (q : Option Nat) (p : Nat) : Bool × Bool × Bool × Bool := match q with
  | none => (false, false, false, false)
  | some q => (true, decide (num q < num p), decide (num p = num q), decide (q < p))
def wWHOLE : Cs := [119, 104, 111, 108, 101]
def wOWN : Cs := [111, 119, 110]
def wABOVE : Cs := [97, 98, 111, 118, 101, 32]
def wLEVEL : Cs := [108, 101, 118, 101, 108, 32]
def wLATER : Cs := [108, 97, 116, 101, 114, 32]
/-- which tests hold for the letter at a place, in the order in which they are noted -/
def Crs.holds (c : Crs) (p : Nat) : List (Cs × Bool) :=
  let w := pHolds c.num c.wh p
  let o := pHolds c.num c.ow p
  [(wWHOLE, w.1), (wABOVE ++ wWHOLE, w.2.1), (wLEVEL ++ wWHOLE, w.2.2.1), (wLATER ++ wWHOLE, w.2.2.2), (wOWN, o.1), (wABOVE ++ wOWN, o.2.1), (wLEVEL ++ wOWN, o.2.2.1), (wLATER ++ wOWN, o.2.2.2)]
def look (kvs : List (Cs × Bool)) (w : Cs) : Bool := match kvs.find? fun p => decide (p.1 = w) with
  | some p => p.2
  | none => false
def partsD (isW : Bool) (p : D) : List Cs → D × D → D × D
  | [], wo => wo
  | d :: ds, wo => partsD isW p ds (if d = wWIPE then (wo.1, .non) else if isW then (p, wo.2) else (wo.1, p))
def countD (n : D) : List Cs → D → D
  | [], c => c
  | d :: ds, _ => countD n ds (if d = wCOUNT then n else .non)
/-- a number that may be none -/
@[reducible] def oD : Option Nat → D
  | none => .non
  | some n => .int n
theorem parts_eq {isW : Bool} {p : Nat} : ∀ {ds : List Cs} {w o : Option Nat}, partsD isW (.int p) ds (oD w, oD o) = (oD (partsB isW p ds (w, o)).1, oD (partsB isW p ds (w, o)).2)
  | [], _, _ => rfl
  | d :: ds, w, o => by
    rw [partsD, partsB]
    by_cases h : d = wWIPE
    · rw [if_pos h, if_pos h]; exact parts_eq (o := none)
    · rw [if_neg h, if_neg h]
      cases isW with
      | true => rw [if_pos rfl, if_pos rfl]; exact parts_eq (w := some p)
      | false => rw [if_neg Bool.false_ne_true, if_neg Bool.false_ne_true]; exact parts_eq (o := some p)
theorem count_eq {n : Nat} : ∀ {ds : List Cs} {c : Option Nat}, countD (.int n) ds (oD c) = oD (countB n ds c)
  | [], _ => rfl
  | d :: ds, c => by
    rw [countD, countB]
    by_cases h : d = wCOUNT
    · rw [if_pos h, if_pos h]; exact count_eq (c := some n)
    · rw [if_neg h, if_neg h]; exact count_eq (c := none)
theorem eqB_oD (s : S) (a b : Option Nat) : eqB s (oD a) (oD b) = some (decide (a = b)) := by
  cases a with
  | none => cases b <;> rfl
  | some a => cases b with
    | none => rfl
    | some b =>
      show some (decide ((a : Int) = (b : Int))) = _
      congr 1
      by_cases h : a = b
      · subst h; simp
      · rw [decide_eq_false (fun z => h (by omega)), decide_eq_false (fun z => h (Option.some.inj z))]
theorem noref_oD (a : Option Nat) : ∀ n, oD a ≠ .ref n := by
  intro n
  cases a <;> (intro h; cases h)
theorem sq_eqO {s : Hc} {f : Nat → Nat → Option (List D → M D)} {a b : Option Nat} {Q : D → Hc → Prop} (q : Q (.bl (decide (a = b))) s) : sq (cmpOM false f eqM (oD a) (oD b)) s Q := sq_keep (fun z _ _ k => wq_eqX (fun _ _ h => absurd h (noref_oD a _)) (eqB_oD z a b) k) q
theorem sq_neO {s : Hc} {f : Nat → Nat → Option (List D → M D)} {a b : Option Nat} {Q : D → Hc → Prop} (q : Q (.bl (!decide (a = b))) s) : sq (cmpOM true f neM (oD a) (oD b)) s Q := sq_keep (fun z _ _ k => wq_neX (fun _ _ h => absurd h (noref_oD a _)) (eqB_oD z a b) k) q
theorem oD_non (a : Option Nat) : decide (oD a = .non) = a.isNone := by
  cases a with
  | none => exact decide_eq_true rfl
  | some a => exact decide_eq_false fun h => by cases h
theorem atI_lst {α : Type} {xs : List α} {x : α} (h : xs[xs.length - 1]? = some x) : atI xs (-1) = some x := by
  have hl := (List.getElem?_eq_some_iff.mp h).1
  unfold atI ixN
  rw [if_neg (by omega), if_pos (by omega)]
  show xs[(-1 + (xs.length : Int)).toNat]? = some x
  rw [show (-1 + (xs.length : Int)).toNat = xs.length - 1 by omega]
  exact h
theorem bif_10 {p : Prop} [Decidable p] : (bif decide p then D.int 1 else D.int 0) = D.int ((if p then 1 else 0 : Nat) : Int) := by
  by_cases h : p
  · rw [decide_eq_true h, if_pos h]; rfl
  · rw [decide_eq_false h, if_neg h]; rfl
theorem bif_int {p : Prop} [Decidable p] {a b : Nat} : (bif decide p then D.int (a : Nat) else D.int (b : Nat)) = D.int ((if p then a else b : Nat) : Int) := by
  by_cases h : p
  · rw [decide_eq_true h, if_pos h]; rfl
  · rw [decide_eq_false h, if_neg h]; rfl
def bare (t : Cs) : Cs := if t.take 4 = wNOT then t.drop 4 else t
/-- what the copy shows behind an event, and the goals -/
def wELDER : Cs := [101, 108, 100, 101, 114]
def wLOST : Cs := [108, 111, 115, 116]
def wBACK : Cs := [98, 97, 99, 107]
def wWRONG : Cs := [119, 114, 111, 110, 103]
def wDEAF : Cs := [100, 101, 97, 102]
def Crs.addIf (b : Bool) (w : Cs) (l : List Cs) : List Cs := if b then insC' w l else l
def seeN : Option Nat → List Nat → List Nat
  | none, se => se
  | some p, se => insN p se
/-- whether it was called off later -/
def Crs.back (c : Crs) (se : List Nat) : Option Nat → Bool
  | none => false
  | some p => decide (c.kind p ∈ asking) && se.any fun q => decide (p < q) && decide (c.kind q ∈ calling)
def Crs.wrong (c : Crs) : Option Nat → Bool
  | none => false
  | some n => !decide (c.an[n]? = some c.nw)
def Crs.note (c : Crs) : Crs :=
  let v := c.view
  let se := seeN v c.se
  let m1 := Crs.addIf ((!decide (v = some c.nw)) && decide (c.nw ∈ c.ca)) wELDER c.mt
  let m2 := Crs.addIf ((!decide (v = some c.nw)) && (decide (c.nw ∈ se) && decide (c.kind c.nw = wDAY))) wLOST m1
  let m3 := Crs.addIf (c.back se v) wBACK m2
  let m4 := Crs.addIf (c.wrong c.ct) wWRONG m3
  { c with sh := c.sh ++ [v], se := se, mt := m4 }
inductive Evt where
  | send (k : Cs) (ab : Bool)
  | come (p : Nat)
  | ans
  | heard (n : Nat)
def Crs.send (rs : List Cs) (k : Cs) (ab : Bool) (c : Crs) : Crs :=
  let l := c.ls ++ [(if ab then k else wOTHER, c.last + (if k ∈ rs then 1 else 0))]
  if ab then { c with ls := l, nw := l.length - 1, ct := none } else { c with ls := l }
def Crs.come (rows : List Rw) (p : Nat) (c : Crs) : Crs :=
  let at_ := fit rows (c.kind p) (look (c.holds p))
  let wo := partsB (decide (c.kind p ∈ wholes)) p (deedsAt rows at_) (c.wh, c.ow)
  { c with wh := wo.1, ow := wo.2, ca := insN p c.ca, dn := c.dn ++ [at_] }
def Crs.hear (rows : List Rw) (n : Nat) (c : Crs) : Crs := match c.an[n]? with
  | none => c
  | some g =>
    let at_ := fit rows wANSWER fun _ => decide (c.num g = c.last)
    let ct := countB n (deedsAt rows at_) c.ct
    { c with ct := ct, dn := c.dn ++ [at_], mt := Crs.addIf (decide (g = c.nw) && ct.isNone) wDEAF c.mt }
def Crs.can (c : Crs) : Evt → Bool
  | .send _ _ => true
  | .come p => decide (p < c.ls.length) && decide (c.kind p ≠ wOTHER)
  | .ans => match c.view with
    | none => false
    | some p => decide (c.kind p ∈ asking)
  | .heard n => decide (n < c.an.length)
def Crs.does (rs : List Cs) (rows : List Rw) (c : Crs) : Evt → Crs
  | .send k ab => ({ c with dn := c.dn ++ [none] } : Crs).send rs k ab
  | .come p => c.come rows p
  | .ans => match c.view with
    | none => c
    | some p => { c with an := c.an ++ [p], dn := c.dn ++ [none] }
  | .heard n => c.hear rows n
def Crs.go (rs : List Cs) (rows : List Rw) (c : Crs) (e : Evt) : Crs := (c.does rs rows e).note
/-- all events, one behind another; whether they can happen -/
def Crs.run (rs : List Cs) (rows : List Rw) (es : List Evt) (c : Crs) : Crs := es.foldl (Crs.go rs rows) c
def Crs.runs (rs : List Cs) (rows : List Rw) : Crs → List Evt → Bool
  | _, [] => true
  | c, e :: es => c.can e && Crs.runs rs rows (c.go rs rows e) es
/-! ### dicts of flags -/
@[reducible] def numD (n : Nat) : D := .int n
def flagN (n : Nat) : D × D := (.int n, .bl true)
def flagS (w : Cs) : D × D := (.str w, .bl true)
def holdsK (l : List (Cs × Bool)) : List (D × D) := l.map fun x => (.str x.1, .bl x.2)
theorem dput_flagN (n : Nat) : ∀ l : List Nat, dput (l.map flagN) (.int n) (.bl true) = (insN n l).map flagN
  | [] => rfl
  | m :: r => by
    have ih := dput_flagN n r
    unfold insN at ih ⊢
    by_cases e : m = n
    · subst e
      rw [if_pos List.mem_cons_self, List.map_cons, dput, if_pos (show (flagN m).1 = D.int m from rfl)]
      rfl
    · have ne : ¬ (flagN m).1 = D.int n := fun z => e (by
        have : ((m : Int)) = n := D.int.inj z
        omega)
      rw [List.map_cons, dput, if_neg ne, ih]
      by_cases h : n ∈ r
      · rw [if_pos h, if_pos (List.mem_cons_of_mem _ h), List.map_cons]
      · rw [if_neg h, if_neg (fun z => (List.mem_cons.mp z).elim (fun y => e y.symm) h), List.cons_append, List.map_cons]
theorem dput_flagS (n : Cs) : ∀ l : List Cs, dput (l.map flagS) (.str n) (.bl true) = (insC' n l).map flagS
  | [] => rfl
  | m :: r => by
    have ih := dput_flagS n r
    unfold insC' at ih ⊢
    by_cases e : m = n
    · subst e
      rw [if_pos List.mem_cons_self, List.map_cons, dput, if_pos (show (flagS m).1 = D.str m from rfl)]
      rfl
    · have ne : ¬ (flagS m).1 = D.str n := fun z => e (D.str.inj z)
      rw [List.map_cons, dput, if_neg ne, ih]
      by_cases h : n ∈ r
      · rw [if_pos h, if_pos (List.mem_cons_of_mem _ h), List.map_cons]
      · rw [if_neg h, if_neg (fun z => (List.mem_cons.mp z).elim (fun y => e y.symm) h), List.cons_append, List.map_cons]
theorem dfind_flagN (n : Nat) : ∀ l : List Nat, (dfind (l.map flagN) (.int n)).isSome = decide (n ∈ l)
  | [] => rfl
  | m :: r => by
    have ih := dfind_flagN n r
    by_cases e : m = n
    · subst e
      rw [List.map_cons, dfind, if_pos (show (flagN m).1 = D.int m from rfl), decide_eq_true List.mem_cons_self]
      rfl
    · have ne : ¬ (flagN m).1 = D.int n := fun z => e (by
        have : ((m : Int)) = n := D.int.inj z
        omega)
      rw [List.map_cons, dfind, if_neg ne, ih]
      by_cases h : n ∈ r
      · rw [decide_eq_true h, decide_eq_true (List.mem_cons_of_mem _ h)]
      · rw [decide_eq_false h, decide_eq_false (fun z => (List.mem_cons.mp z).elim (fun y => e y.symm) h)]
theorem dfind_holds {w : Cs} : ∀ {l : List (Cs × Bool)}, w ∈ l.map Prod.fst → dfind (holdsK l) (.str w) = some (.bl (look l w))
  | [], h => by cases h
  | x :: r, h => by
    unfold holdsK
    rw [List.map_cons, dfind]
    by_cases e : x.1 = w
    · rw [if_pos (show (D.str x.1, D.bl x.2).1 = D.str w by rw [e])]
      unfold look
      rw [List.find?_cons_of_pos (by rw [decide_eq_true e])]
    · rw [if_neg (fun z => e (D.str.inj z))]
      have h2 : w ∈ r.map Prod.fst := by
        rw [List.map_cons] at h
        exact (List.mem_cons.mp h).elim (fun z => absurd z.symm e) id
      have ih := dfind_holds h2
      unfold holdsK at ih
      rw [ih]
      unfold look
      rw [List.find?_cons_of_neg (by rw [decide_eq_false e]; exact Bool.false_ne_true)]
theorem keys_flagN (l : List Nat) : dKeysOk (l.map flagN) = true := by
  unfold dKeysOk
  rw [List.all_map, List.all_eq_true]
  intro x _
  rfl
theorem fst_flagN (l : List Nat) : (l.map flagN).map Prod.fst = l.map numD := by
  rw [List.map_map]
  rfl
theorem insN_len (p : Nat) (l : List Nat) : (insN p l).length ≤ l.length + 1 := by
  unfold insN
  split
  · omega
  · rw [List.length_append]; exact Nat.le_refl _
theorem insC_len (p : Cs) (l : List Cs) : (insC' p l).length ≤ l.length + 1 := by
  unfold insC'
  split
  · omega
  · rw [List.length_append]; exact Nat.le_refl _
theorem addIf_len (b : Bool) (p : Cs) (l : List Cs) : (Crs.addIf b p l).length ≤ l.length + 1 := by
  unfold Crs.addIf
  split
  · exact insC_len p l
  · omega
def tests8 : List Cs := [wWHOLE, wABOVE ++ wWHOLE, wLEVEL ++ wWHOLE, wLATER ++ wWHOLE, wOWN, wABOVE ++ wOWN, wLEVEL ++ wOWN, wLATER ++ wOWN]
theorem keys_flagS {l : List Cs} (h : ∀ w ∈ l, dKeyOk (.str w) = true) : dKeysOk (l.map flagS) = true := by
  unfold dKeysOk
  rw [List.all_map, List.all_eq_true]
  intro x hx
  exact h x hx
theorem fst_flagS (l : List Cs) : (l.map flagS).map Prod.fst = l.map D.str := by
  rw [List.map_map]
  rfl
theorem holds_fst (c : Crs) (p : Nat) : (c.holds p).map Prod.fst = tests8 := rfl
def wLEVELw : Cs := [108, 101, 118, 101, 108]
/-- a sound course, none of its parts longer than M -/
structure Crs.Ok (M : Nat) (c : Crs) : Prop where
  pos : 0 < c.ls.length
  ls : c.ls.length ≤ M
  an : c.an.length ≤ M
  ca : c.ca.length ≤ M
  se : c.se.length ≤ M
  sh : c.sh.length ≤ M
  dn : c.dn.length ≤ M
  mt : c.mt.length ≤ M
  wh : ∀ q, c.wh = some q → q < c.ls.length
  ow : ∀ q, c.ow = some q → q < c.ls.length
  ans : ∀ q ∈ c.an, q < c.ls.length
  sen : ∀ q ∈ c.se, q < c.ls.length
  nw : c.nw < c.ls.length
  ct : ∀ n, c.ct = some n → n < c.an.length
  kd : ∀ l ∈ c.ls, l.1 ∈ kinds ++ [wOTHER]
theorem Crs.Ok.start : Crs.Ok 1 Crs.start where
  pos := by decide
  ls := by decide
  an := by decide
  ca := by decide
  se := by decide
  sh := by decide
  dn := by decide
  mt := by decide
  wh := fun q h => by cases h
  ow := fun q h => by cases h
  ans := fun q h => by cases h
  sen := fun q h => by cases h
  nw := by decide
  ct := fun q h => by cases h
  kd := by decide
/-- a sound plan's rules -/
structure RowsG (rows : List Rw) : Prop where
  tl : ∀ r ∈ rows, r.ts.length < 1000000
  tw : ∀ r ∈ rows, r.k ≠ wANSWER → ∀ t ∈ r.ts, bare t ∈ tests8
  ta : ∀ r ∈ rows, r.k = wANSWER → ∀ t ∈ r.ts, bare t = wLEVELw
theorem fitG_lt {k : Cs} {f : Cs → Bool} : ∀ {rows : List Rw} {n i : Nat}, fitG k f n rows = some i → n ≤ i ∧ i < n + rows.length
  | [], _, _, h => by cases h
  | r :: rs, n, i, h => by
    unfold fitG at h
    split at h
    · cases h
      rw [List.length_cons]
      omega
    · have := fitG_lt h
      rw [List.length_cons]
      omega
theorem fit_lt {k : Cs} {f : Cs → Bool} {rows : List Rw} {i : Nat} (h : fit rows k f = some i) : i < rows.length := by
  have := fitG_lt h
  omega
theorem view_lt {M : Nat} {c : Crs} (C : Crs.Ok M c) {v : Nat} (h : c.view = some v) : v < c.ls.length := by
  unfold Crs.view at h
  cases eo : c.ow with
  | none => rw [eo] at h; exact C.wh v h
  | some x => rw [eo] at h; cases h; exact C.ow v eo
theorem partsB_lt {isW : Bool} {p n : Nat} (hp : p < n) : ∀ {ds : List Cs} {w o : Option Nat}, (∀ q, w = some q → q < n) → (∀ q, o = some q → q < n) → (∀ q, (partsB isW p ds (w, o)).1 = some q → q < n) ∧ ∀ q, (partsB isW p ds (w, o)).2 = some q → q < n
  | [], w, o, hw, ho => ⟨hw, ho⟩
  | d :: ds, w, o, hw, ho => by
    unfold partsB
    split
    · exact partsB_lt hp hw fun q h => by cases h
    · split
      · exact partsB_lt hp (fun q h => by cases h; exact hp) ho
      · exact partsB_lt hp hw fun q h => by cases h; exact hp
theorem countB_lt {n m : Nat} (hn : n < m) : ∀ {ds : List Cs} {c : Option Nat}, (∀ q, c = some q → q < m) → ∀ q, countB n ds c = some q → q < m
  | [], c, h => h
  | d :: ds, c, h => by
    unfold countB
    split
    · exact countB_lt hn fun q h => by cases h; exact hn
    · exact countB_lt hn fun q h => by cases h
/-- events that can be told -/
def Evt.Ok : Evt → Prop
  | .send k true => k ∈ kinds
  | .send k false => k ∈ [wDAY, wOFF]
  | _ => True
theorem Crs.Ok.send {M : Nat} {c : Crs} {rs : List Cs} {k : Cs} {ab : Bool} (C : Crs.Ok M c) (hk : k ∈ kinds) : Crs.Ok (M + 1) (c.send rs k ab) := by
  have hl : ∀ x : Cs × Nat, (c.ls ++ [x]).length = c.ls.length + 1 := fun x => by rw [List.length_append]; rfl
  have h1 := C.ls
  have h2 := C.an
  have h3 := C.ca
  have h4 := C.se
  have h5 := C.sh
  have h6 := C.dn
  have h7 := C.mt
  have kd : ∀ n : Nat, ∀ l ∈ c.ls ++ [(if ab then k else wOTHER, n)], l.1 ∈ kinds ++ [wOTHER] := fun n l hm => by
    rcases List.mem_append.mp hm with z | z
    · exact C.kd l z
    · rw [List.mem_singleton.mp z]
      cases ab with
      | true => exact List.mem_append_left _ hk
      | false => exact List.mem_append_right _ List.mem_cons_self
  unfold Crs.send
  cases ab with
  | true =>
    simp only [if_true] at kd ⊢
    exact ⟨by rw [hl]; omega, by rw [hl]; omega, by show c.an.length ≤ _; omega, by show c.ca.length ≤ _; omega, by show c.se.length ≤ _; omega, by show c.sh.length ≤ _; omega, by show c.dn.length ≤ _; omega, by show c.mt.length ≤ _; omega, fun q h => by rw [hl]; have := C.wh q h; omega, fun q h => by rw [hl]; have := C.ow q h; omega, fun q h => by rw [hl]; have := C.ans q h; omega, fun q h => by rw [hl]; have := C.sen q h; omega, by show (c.ls ++ [_]).length - 1 < (c.ls ++ [_]).length; rw [hl]; omega, (fun n h => by cases h), kd _⟩
  | false =>
    simp only [Bool.false_eq_true, if_false] at kd ⊢
    exact ⟨by rw [hl]; omega, by rw [hl]; omega, by show c.an.length ≤ _; omega, by show c.ca.length ≤ _; omega, by show c.se.length ≤ _; omega, by show c.sh.length ≤ _; omega, by show c.dn.length ≤ _; omega, by show c.mt.length ≤ _; omega, fun q h => by rw [hl]; have := C.wh q h; omega, fun q h => by rw [hl]; have := C.ow q h; omega, fun q h => by rw [hl]; have := C.ans q h; omega, fun q h => by rw [hl]; have := C.sen q h; omega, by show c.nw < (c.ls ++ [_]).length; rw [hl]; have := C.nw; omega, C.ct, kd _⟩
theorem Crs.Ok.done {M : Nat} {c : Crs} {x : Option Nat} (C : Crs.Ok M c) : Crs.Ok (M + 1) { c with dn := c.dn ++ [x] } :=
  ⟨C.pos, by have := C.ls; show c.ls.length ≤ _; omega, by have := C.an; show c.an.length ≤ _; omega, by have := C.ca; show c.ca.length ≤ _; omega, by have := C.se; show c.se.length ≤ _; omega, by have := C.sh; show c.sh.length ≤ _; omega, by have := C.dn; show (c.dn ++ [x]).length ≤ _; rw [List.length_append]; show _ + 1 ≤ _; omega, by have := C.mt; show c.mt.length ≤ _; omega, C.wh, C.ow, C.ans, C.sen, C.nw, C.ct, C.kd⟩
theorem Crs.Ok.come {M : Nat} {c : Crs} {rows : List Rw} {p : Nat} (C : Crs.Ok M c) (hp : p < c.ls.length) : Crs.Ok (M + 1) (c.come rows p) := by
  unfold Crs.come
  have h := partsB_lt (isW := decide (c.kind p ∈ wholes)) hp (ds := deedsAt rows (fit rows (c.kind p) (look (c.holds p)))) C.wh C.ow
  exact ⟨C.pos, by have := C.ls; show c.ls.length ≤ _; omega, by have := C.an; show c.an.length ≤ _; omega, by have := C.ca; have := insN_len p c.ca; show (insN p c.ca).length ≤ _; omega, by have := C.se; show c.se.length ≤ _; omega, by have := C.sh; show c.sh.length ≤ _; omega, by have := C.dn; show (c.dn ++ [_]).length ≤ _; rw [List.length_append]; show _ + 1 ≤ _; omega, by have := C.mt; show c.mt.length ≤ _; omega, h.1, h.2, C.ans, C.sen, C.nw, C.ct, C.kd⟩
theorem Crs.Ok.hear {M : Nat} {c : Crs} {rows : List Rw} {n : Nat} (C : Crs.Ok M c) (hn : n < c.an.length) : Crs.Ok (M + 1) (c.hear rows n) := by
  unfold Crs.hear
  rw [List.getElem?_eq_getElem hn]
  dsimp only
  exact ⟨C.pos, by have := C.ls; show c.ls.length ≤ _; omega, by have := C.an; show c.an.length ≤ _; omega, by have := C.ca; show c.ca.length ≤ _; omega, by have := C.se; show c.se.length ≤ _; omega, by have := C.sh; show c.sh.length ≤ _; omega, by have := C.dn; show (c.dn ++ [_]).length ≤ _; rw [List.length_append]; show _ + 1 ≤ _; omega, by have := C.mt; exact Nat.le_trans (addIf_len _ _ _) (by omega), C.wh, C.ow, C.ans, C.sen, C.nw, countB_lt hn C.ct, C.kd⟩
theorem Crs.Ok.ansd {M : Nat} {c : Crs} {p : Nat} (C : Crs.Ok M c) (hp : p < c.ls.length) : Crs.Ok (M + 1) { c with an := c.an ++ [p], dn := c.dn ++ [none] } :=
  ⟨C.pos, by have := C.ls; show c.ls.length ≤ _; omega, by have := C.an; show (c.an ++ [p]).length ≤ _; rw [List.length_append]; show _ + 1 ≤ _; omega, by have := C.ca; show c.ca.length ≤ _; omega, by have := C.se; show c.se.length ≤ _; omega, by have := C.sh; show c.sh.length ≤ _; omega, by have := C.dn; show (c.dn ++ [_]).length ≤ _; rw [List.length_append]; show _ + 1 ≤ _; omega, by have := C.mt; show c.mt.length ≤ _; omega, C.wh, C.ow, fun q hq => by
    rcases List.mem_append.mp hq with z | z
    · exact C.ans q z
    · rw [List.mem_singleton.mp z]; exact hp, C.sen, C.nw, fun n h => by have := C.ct n h; show n < (c.an ++ [p]).length; rw [List.length_append]; show n < _ + 1; omega, C.kd⟩
theorem seeN_ok {M : Nat} {c : Crs} (C : Crs.Ok M c) : (seeN c.view c.se).length ≤ M + 1 ∧ ∀ q ∈ seeN c.view c.se, q < c.ls.length := by
  have := C.se
  cases h : c.view with
  | none => exact ⟨by show c.se.length ≤ _; omega, C.sen⟩
  | some x =>
    refine ⟨by have := insN_len x c.se; show (insN x c.se).length ≤ _; omega, fun q hq => ?_⟩
    have hq : q ∈ insN x c.se := hq
    unfold insN at hq
    split at hq
    · exact C.sen q hq
    · rcases List.mem_append.mp hq with z | z
      · exact C.sen q z
      · rw [List.mem_singleton.mp z]; exact view_lt C h
theorem Crs.Ok.note {M : Nat} {c : Crs} (C : Crs.Ok M c) : Crs.Ok (M + 4) c.note := by
  have hs := seeN_ok C
  unfold Crs.note
  exact ⟨C.pos, by have := C.ls; show c.ls.length ≤ _; omega, by have := C.an; show c.an.length ≤ _; omega, by have := C.ca; show c.ca.length ≤ _; omega, Nat.le_trans hs.1 (by omega), by have := C.sh; show (c.sh ++ [_]).length ≤ _; rw [List.length_append]; show _ + 1 ≤ _; omega, by have := C.dn; show c.dn.length ≤ _; omega, by
    have := C.mt
    exact Nat.le_trans (addIf_len _ _ _) (Nat.succ_le_succ (Nat.le_trans (addIf_len _ _ _) (Nat.succ_le_succ (Nat.le_trans (addIf_len _ _ _) (Nat.succ_le_succ (Nat.le_trans (addIf_len _ _ _) (Nat.succ_le_succ this))))))), C.wh, C.ow, C.ans, hs.2, C.nw, C.ct, C.kd⟩
theorem Crs.Ok.does {M : Nat} {c : Crs} {rs : List Cs} {rows : List Rw} {e : Evt} (C : Crs.Ok M c) (E : e.Ok) (h : c.can e = true) : Crs.Ok (M + 2) (c.does rs rows e) := by
  have up : ∀ {c' : Crs}, Crs.Ok (M + 1) c' → Crs.Ok (M + 2) c' := fun C => ⟨C.pos, Nat.le_succ_of_le C.ls, Nat.le_succ_of_le C.an, Nat.le_succ_of_le C.ca, Nat.le_succ_of_le C.se, Nat.le_succ_of_le C.sh, Nat.le_succ_of_le C.dn, Nat.le_succ_of_le C.mt, C.wh, C.ow, C.ans, C.sen, C.nw, C.ct, C.kd⟩
  cases e with
  | send k ab =>
    refine Crs.Ok.send C.done ?_
    cases ab with
    | true => exact E
    | false =>
      have : ∀ k ∈ [wDAY, wOFF], k ∈ kinds := by decide
      exact this k E
  | come p =>
    unfold Crs.can at h
    rw [Bool.and_eq_true, decide_eq_true_eq] at h
    exact up (C.come h.1)
  | ans =>
    unfold Crs.can at h
    unfold Crs.does
    cases hv : c.view with
    | none => rw [hv] at h; cases h
    | some p => exact up (C.ansd (view_lt C hv))
  | heard n =>
    unfold Crs.can at h
    rw [decide_eq_true_eq] at h
    exact up (C.hear h)
theorem Crs.Ok.go {M : Nat} {c : Crs} {rs : List Cs} {rows : List Rw} {e : Evt} (C : Crs.Ok M c) (E : e.Ok) (h : c.can e = true) : Crs.Ok (M + 6) (c.go rs rows e) := (C.does E h).note
/-! ### goals that are met -/
def goalsW : List Cs := [wBACK, wDEAF, wELDER, wLOST, wWRONG]
theorem nodup_le : ∀ {s l : List Cs}, l.Nodup → (∀ x ∈ l, x ∈ s) → l.length ≤ s.length
  | [], l, _, h => by
    cases l with
    | nil => exact Nat.le_refl _
    | cons x r => exact absurd (h x List.mem_cons_self) (List.not_mem_nil)
  | a :: s, l, hn, h => by
    have h2 : (l.erase a).length ≤ s.length := nodup_le (hn.erase a) fun x hx => by
      have := (hn.mem_erase_iff).mp hx
      exact (List.mem_cons.mp (h x this.2)).elim (fun z => absurd z this.1) id
    by_cases ha : a ∈ l
    · have := List.length_erase_of_mem ha
      rw [List.length_cons]
      omega
    · rw [List.erase_of_not_mem ha] at h2
      rw [List.length_cons]
      omega
structure Crs.Mt (c : Crs) : Prop where
  nd : c.mt.Nodup
  sub : ∀ w ∈ c.mt, w ∈ goalsW
theorem Crs.Mt.len {c : Crs} (h : c.Mt) : c.mt.length ≤ 5 := nodup_le h.nd h.sub
theorem addIf_mt {b : Bool} {w : Cs} {l : List Cs} (hw : w ∈ goalsW) (h : l.Nodup ∧ ∀ w ∈ l, w ∈ goalsW) : (Crs.addIf b w l).Nodup ∧ ∀ x ∈ Crs.addIf b w l, x ∈ goalsW := by
  unfold Crs.addIf
  split
  · unfold insC'
    split
    · exact h
    · rename_i hn
      refine ⟨?_, fun x hx => ?_⟩
      · rw [List.nodup_append]
        exact ⟨h.1, by simp, fun a ha b hb => by
          rw [List.mem_singleton.mp hb]
          intro e
          exact hn (e ▸ ha)⟩
      · rcases List.mem_append.mp hx with z | z
        · exact h.2 x z
        · rw [List.mem_singleton.mp z]; exact hw
  · exact h
theorem Crs.Mt.note {c : Crs} (h : c.Mt) : c.note.Mt := by
  unfold Crs.note
  have z := addIf_mt (b := c.wrong c.ct) (w := wWRONG) (by decide) (addIf_mt (b := c.back (seeN c.view c.se) c.view) (w := wBACK) (by decide) (addIf_mt (b := (!decide (c.view = some c.nw)) && (decide (c.nw ∈ seeN c.view c.se) && decide (c.kind c.nw = wDAY))) (w := wLOST) (by decide) (addIf_mt (b := (!decide (c.view = some c.nw)) && decide (c.nw ∈ c.ca)) (w := wELDER) (by decide) ⟨h.nd, h.sub⟩)))
  exact ⟨z.1, z.2⟩
theorem Crs.Mt.does {c : Crs} {rs : List Cs} {rows : List Rw} {e : Evt} (h : c.Mt) : (c.does rs rows e).Mt := by
  cases e with
  | send k ab =>
    unfold Crs.does Crs.send
    cases ab <;> exact ⟨h.nd, h.sub⟩
  | come p => exact ⟨h.nd, h.sub⟩
  | ans =>
    unfold Crs.does
    cases c.view <;> exact ⟨h.nd, h.sub⟩
  | heard n =>
    show (c.hear rows n).Mt
    unfold Crs.hear
    cases c.an[n]? with
    | none => exact h
    | some g =>
      have z := addIf_mt (b := decide (g = c.nw) && (countB n (deedsAt rows (fit rows wANSWER fun _ => decide (c.num g = c.last))) c.ct).isNone) (w := wDEAF) (by decide) ⟨h.nd, h.sub⟩
      exact ⟨z.1, z.2⟩
theorem Crs.Mt.go {c : Crs} {rs : List Cs} {rows : List Rw} {e : Evt} (h : c.Mt) : (c.go rs rows e).Mt := h.does.note
theorem Crs.Mt.start : Crs.start.Mt := ⟨List.nodup_nil, fun _ h => by cases h⟩
theorem run_append (rs : List Cs) (rows : List Rw) (c : Crs) (es : List Evt) (e : Evt) : Crs.run rs rows (es ++ [e]) c = (Crs.run rs rows es c).go rs rows e := by
  unfold Crs.run
  rw [List.foldl_append]
  rfl
theorem runs_at {rs : List Cs} {rows : List Rw} : ∀ {es : List Evt} {c : Crs} {n : Nat} {e : Evt}, Crs.runs rs rows c es = true → es[n]? = some e → (Crs.run rs rows (es.take n) c).can e = true
  | [], _, _, _, _, h => by simp at h
  | x :: es, c, 0, e, h, he => by
    simp at he
    subst he
    unfold Crs.runs at h
    rw [Bool.and_eq_true] at h
    exact h.1
  | x :: es, c, n + 1, e, h, he => by
    unfold Crs.runs at h
    rw [Bool.and_eq_true] at h
    have z := runs_at (n := n) (e := e) h.2 (by simpa using he)
    rw [List.take_succ_cons]
    exact z
theorem runs_ok {rs : List Cs} {rows : List Rw} : ∀ {es : List Evt} {c : Crs} {M : Nat}, Crs.Ok M c → c.Mt → (∀ e ∈ es, e.Ok) → Crs.runs rs rows c es = true → Crs.Ok (M + 6 * es.length) (Crs.run rs rows es c) ∧ (Crs.run rs rows es c).Mt
  | [], c, M, C, T, _, _ => ⟨C, T⟩
  | x :: es, c, M, C, T, E, h => by
    unfold Crs.runs at h
    rw [Bool.and_eq_true] at h
    have z := runs_ok (C.go (E x List.mem_cons_self) h.1) (T.go (rs := rs) (rows := rows) (e := x)) (fun e he => E e (List.mem_cons_of_mem _ he)) h.2
    rw [List.length_cons, show M + 6 * (es.length + 1) = M + 6 + 6 * es.length by omega]
    exact z
theorem runs_take {rs : List Cs} {rows : List Rw} : ∀ {es : List Evt} {c : Crs} (n : Nat), Crs.runs rs rows c es = true → Crs.runs rs rows c (es.take n) = true
  | [], _, n, h => by simpa using h
  | x :: es, c, 0, h => rfl
  | x :: es, c, n + 1, h => by
    unfold Crs.runs at h
    rw [Bool.and_eq_true] at h
    rw [List.take_succ_cons]
    unfold Crs.runs
    rw [Bool.and_eq_true]
    exact ⟨h.1, runs_take n h.2⟩
/-! ### numbers as texts -/
theorem numL_hd : ∀ n : Nat, n ≠ 0 → ∃ c r, TL.numL n = c :: r ∧ c ≠ 48 := by
  intro n
  induction n using Nat.strongRecOn with
  | _ n ih =>
    intro h
    by_cases h10 : n < 10
    · rw [TL.numL_lt h10]
      exact ⟨_, _, rfl, by omega⟩
    · rw [TL.numL_step (by omega)]
      obtain ⟨c, r, e, hc⟩ := ih (n / 10) (by omega) (by omega)
      rw [e]
      exact ⟨c, r ++ [48 + n % 10], rfl, hc⟩
theorem digV_num : ∀ n : Nat, digV (TL.numL n) = n := by
  intro n
  induction n using Nat.strongRecOn with
  | _ n ih =>
    by_cases h10 : n < 10
    · rw [TL.numL_lt h10]
      show 0 * 10 + (48 + n - 48) = n
      omega
    · rw [TL.numL_step (by omega)]
      have := ih (n / 10) (by omega)
      unfold digV at this ⊢
      rw [List.foldl_append, this]
      show n / 10 * 10 + (48 + n % 10 - 48) = n
      omega
theorem numL_dig (n : Nat) : (TL.numL n).all isDig = true := by
  rw [List.all_eq_true]
  intro c hc
  have h := TL.numL_digits n c hc
  unfold isDig
  rw [Bool.and_eq_true, decide_eq_true_eq, decide_eq_true_eq]
  exact h
def digits : Cs := [48, 49, 50, 51, 52, 53, 54, 55, 56, 57]
theorem dig_in {c : Nat} (h : isDig c = true) : (fnd [c] 0 digits).isSome = true := by
  unfold isDig at h
  rw [Bool.and_eq_true, decide_eq_true_eq, decide_eq_true_eq] at h
  have : c = 48 ∨ c = 49 ∨ c = 50 ∨ c = 51 ∨ c = 52 ∨ c = 53 ∨ c = 54 ∨ c = 55 ∨ c = 56 ∨ c = 57 := by omega
  rcases this with rfl | rfl | rfl | rfl | rfl | rfl | rfl | rfl | rfl | rfl <;> rfl
theorem int_num {n : Nat} (h : (TL.numL n).length ≤ 640) {s : S} : intM [.str (TL.numL n)] s = M.pure (.int n) s := by
  have e : (!(TL.numL n).isEmpty && (decide ((TL.numL n).length ≤ 640) && (TL.numL n).all isDig)) = true := by
    rw [numL_dig, decide_eq_true h]
    cases hh : TL.numL n with
    | nil => exact absurd hh (TL.numL_ne n)
    | cons _ _ => rfl
  show M.when _ _ s = _
  rw [e, digV_num]
  rfl
/-! ### events as texts -/
def wOTHERb : Cs := [111, 116, 104, 101, 114, 32]
def wCOMEb : Cs := [99, 111, 109, 101, 32]
def wHEARDb : Cs := [104, 101, 97, 114, 100, 32]
def Evt.txt : Evt → Cs
  | .send k true => k
  | .send k false => wOTHERb ++ k
  | .come p => wCOMEb ++ TL.numL p
  | .ans => wANSWER
  | .heard n => wHEARDb ++ TL.numL n
theorem spl_two {a b : Cs} (ha : 32 ∉ a) (hb : 32 ∉ b) : TL.spl [32] 0 [] (a ++ (32 :: b)) = [a, b] := by
  have h1 := TL.spl_part1 (S := []) (rest := b) (acc := []) ha
  have h2 := TL.spl_last1 (S := []) (acc := []) hb
  rw [h2] at h1
  exact h1
theorem spl_one {a : Cs} (ha : 32 ∉ a) : TL.spl [32] 0 [] a = [a] := TL.spl_last1 (S := []) (acc := []) ha
theorem spl_come (p : Nat) : TL.spl [32] 0 [] (Evt.txt (.come p)) = [wCOME, TL.numL p] := spl_two (a := wCOME) (by decide) (TL.numL_free (.inl (by decide)))
theorem spl_heard (p : Nat) : TL.spl [32] 0 [] (Evt.txt (.heard p)) = [wHEARD, TL.numL p] := spl_two (a := wHEARD) (by decide) (TL.numL_free (.inl (by decide)))
theorem num_len {n : Nat} (h : n < 10 ^ 18) : (TL.numL n).length ≤ 18 := TL.numL_len (by decide) h
end Ev

/-! ExC: posts, plainly. -/
namespace Ev
inductive Deed where
  | send (k : Cs) (day : Option Nat)
  | come (g : Cs) (p : Nat)
  | ans (g : Cs) (d : Nat)
  | heard (n : Nat)
def wSEND : Cs := [115, 101, 110, 100]
def Deed.d : Deed → D
  | .send k day => .tup [.str wSEND, .str k, oD day]
  | .come g p => .tup [.str wCOME, .str g, .int p]
  | .ans g d => .tup [.str wANSWER, .str g, .int d]
  | .heard n => .tup [.str wHEARD, .int n]
/-- the letters that were sent: kind, day, number -/
abbrev Lt := Cs × Option Nat × Nat
def lastN (l : List Lt) : Nat := match l[l.length - 1]? with
  | some x => x.2.2
  | none => 0
def sentS (rs : List Cs) (l : List Lt) : Deed → List Lt
  | .send k day => l ++ [(k, day, lastN l + (if k ∈ rs then 1 else 0))]
  | _ => l
def sentF (rs : List Cs) (past : List Deed) : List Lt := past.foldl (sentS rs) [(wASK, none, 0)]
def givenF (past : List Deed) : List (Cs × Nat) := past.filterMap fun
  | .ans g d => some (g, d)
  | _ => none
def ownF (past : List Deed) (g : Cs) (d : Nat) : List Nat := ((givenF past).zipIdx.filter fun x => decide (x.1 = (g, d))).map Prod.snd
def isOf (day : Option Nat) (d : Nat) : Bool := decide (day = none) || decide (day = some d)
def aboutF (sent : List Lt) (p : Nat) : Option Nat := match sent[p]? with
  | some x => x.2.1
  | none => none
def evF (sent : List Lt) (own : List Nat) (g : Cs) (d : Nat) : Deed → Option Evt
  | .send k day => some (.send k (isOf day d))
  | .come g' p => if decide (g' = g) && isOf (aboutF sent p) d then some (.come p) else none
  | .ans g' d' => if decide (g' = g) && decide (d' = d) then some .ans else none
  | .heard n => if n ∈ own then some (.heard (own.idxOf n)) else none
def eventsF (rs : List Cs) (past : List Deed) (g : Cs) (d : Nat) : List Evt := past.filterMap (evF (sentF rs past) (ownF past g d) g d)
/-- what is shown for a guest and a day -/
def crsF (rs : List Cs) (rows : List Rw) (past : List Deed) (g : Cs) (d : Nat) : Crs := Crs.run rs rows (eventsF rs past g d) Crs.start
/-- a deed that is possible -/
def Deed.Ok (rs : List Cs) (rows : List Rw) (days : Nat) (past : List Deed) : Deed → Prop
  | .send k day => k ∈ kinds ∧ if k ∈ [wDAY, wOFF] then ∃ d, day = some d ∧ d < days else day = none
  | .come _ p => p < (sentF rs past).length
  | .ans g d => d < days ∧ ∃ p, (crsF rs rows past g d).view = some p ∧ (crsF rs rows past g d).kind p ∈ asking
  | .heard n => n < (givenF past).length
inductive Past (rs : List Cs) (rows : List Rw) (days : Nat) : List Deed → Prop
  | nil : Past rs rows days []
  | snoc {past : List Deed} {x : Deed} : Past rs rows days past → x.Ok rs rows days past → Past rs rows days (past ++ [x])
theorem sent_snoc (rs : List Cs) (past : List Deed) (x : Deed) : sentF rs (past ++ [x]) = sentS rs (sentF rs past) x := by
  unfold sentF
  rw [List.foldl_append]
  rfl
theorem sent_pre (rs : List Cs) (past : List Deed) (x : Deed) : ∃ t, sentF rs (past ++ [x]) = sentF rs past ++ t := by
  rw [sent_snoc]
  cases x with
  | send k day => exact ⟨_, rfl⟩
  | _ => exact ⟨[], by rw [List.append_nil]; rfl⟩
theorem given_snoc (past : List Deed) (x : Deed) : ∃ t, givenF (past ++ [x]) = givenF past ++ t ∧ t.length ≤ 1 := by
  unfold givenF
  rw [List.filterMap_append]
  refine ⟨_, rfl, ?_⟩
  cases x <;> simp
theorem own_pre {past : List Deed} {x : Deed} {g : Cs} {d : Nat} : ∃ t, ownF (past ++ [x]) g d = ownF past g d ++ t ∧ ∀ n ∈ t, (givenF past).length ≤ n := by
  obtain ⟨t, e, _⟩ := given_snoc past x
  unfold ownF
  rw [e, List.zipIdx_append, List.filter_append, List.map_append]
  refine ⟨_, rfl, fun n hn => ?_⟩
  obtain ⟨y, hy, rfl⟩ := List.mem_map.mp hn
  have := (List.mem_filter.mp hy).1
  have := List.le_snd_of_mem_zipIdx this
  omega
theorem own_lt {past : List Deed} {g : Cs} {d n : Nat} (h : n ∈ ownF past g d) : n < (givenF past).length := by
  unfold ownF at h
  obtain ⟨y, hy, rfl⟩ := List.mem_map.mp h
  have := (List.mem_filter.mp hy).1
  have := List.snd_lt_of_mem_zipIdx this
  omega
theorem past_ok {rs : List Cs} {rows : List Rw} {days : Nat} {past : List Deed} (h : Past rs rows days past) : ∀ y ∈ past, (∀ g p, y = .come g p → p < (sentF rs past).length) ∧ ∀ n, y = .heard n → n < (givenF past).length := by
  induction h with
  | nil => intro y hy; cases hy
  | @snoc past x _ hx ih =>
    obtain ⟨t, e⟩ := sent_pre rs past x
    obtain ⟨u, e2, _⟩ := given_snoc past x
    rw [e, e2, List.length_append, List.length_append]
    intro y hy
    rcases List.mem_append.mp hy with z | z
    · have := ih y z
      exact ⟨fun g p e => by have := this.1 g p e; omega, fun n e => by have := this.2 n e; omega⟩
    · rw [List.mem_singleton.mp z]
      exact ⟨fun g p e => by subst e; have : p < (sentF rs past).length := hx; omega, fun n e => by subst e; have : n < (givenF past).length := hx; omega⟩
theorem idx_app {n : Nat} {t : List Nat} : ∀ {l : List Nat}, n ∈ l → (l ++ t).idxOf n = l.idxOf n
  | [], h => by cases h
  | x :: r, h => by
    rw [List.cons_append, List.idxOf_cons, List.idxOf_cons]
    by_cases e : x = n
    · simp [e]
    · have := idx_app (t := t) ((List.mem_cons.mp h).elim (fun z => absurd z.symm e) id)
      simp [e, this]
theorem fmap_congr {α β : Type} {f g : α → Option β} : ∀ {l : List α}, (∀ x ∈ l, f x = g x) → l.filterMap f = l.filterMap g
  | [], _ => rfl
  | x :: r, h => by
    rw [List.filterMap_cons, List.filterMap_cons, h x List.mem_cons_self, fmap_congr fun y hy => h y (List.mem_cons_of_mem _ hy)]
theorem ev_same {rs : List Cs} {past : List Deed} {x y : Deed} {g : Cs} {d : Nat} (h : (∀ g p, y = .come g p → p < (sentF rs past).length) ∧ ∀ n, y = .heard n → n < (givenF past).length) : evF (sentF rs (past ++ [x])) (ownF (past ++ [x]) g d) g d y = evF (sentF rs past) (ownF past g d) g d y := by
  cases y with
  | send k day => rfl
  | ans g' d' => rfl
  | come g' p =>
    have hp := h.1 g' p rfl
    obtain ⟨t, e⟩ := sent_pre rs past x
    have ea : aboutF (sentF rs (past ++ [x])) p = aboutF (sentF rs past) p := by
      unfold aboutF
      rw [e, List.getElem?_append_left hp]
    simp only [evF, ea]
  | heard n =>
    have hn := h.2 n rfl
    obtain ⟨t, e, ht⟩ := own_pre (past := past) (x := x) (g := g) (d := d)
    simp only [evF]
    rw [e]
    by_cases hm : n ∈ ownF past g d
    · rw [if_pos hm, if_pos (List.mem_append_left _ hm), idx_app hm]
    · rw [if_neg hm, if_neg (fun z => (List.mem_append.mp z).elim hm fun y => by have := ht n y; omega)]
theorem events_snoc {rs : List Cs} {rows : List Rw} {days : Nat} {past : List Deed} (h : Past rs rows days past) (x : Deed) (g : Cs) (d : Nat) : eventsF rs (past ++ [x]) g d = eventsF rs past g d ++ (evF (sentF rs (past ++ [x])) (ownF (past ++ [x]) g d) g d x).toList := by
  unfold eventsF
  rw [List.filterMap_append]
  rw [fmap_congr fun y hy => ev_same (past_ok h y hy)]
  congr 1
theorem runs_snoc {rs : List Cs} {rows : List Rw} {e : Evt} : ∀ {es : List Evt} {c : Crs}, Crs.runs rs rows c es = true → (Crs.run rs rows es c).can e = true → Crs.runs rs rows c (es ++ [e]) = true
  | [], c, _, h => by
    show (c.can e && true) = true
    rw [Bool.and_true]
    exact h
  | x :: es, c, h, h2 => by
    unfold Crs.runs at h
    rw [Bool.and_eq_true] at h
    rw [List.cons_append]
    unfold Crs.runs
    rw [Bool.and_eq_true]
    exact ⟨h.1, runs_snoc h.2 h2⟩
theorem note_ls (c : Crs) : c.note.ls = c.ls := rfl
theorem note_an (c : Crs) : c.note.an = c.an := rfl
theorem go_ls (rs : List Cs) (rows : List Rw) (c : Crs) (e : Evt) : (c.go rs rows e).ls = match e with
    | .send k ab => c.ls ++ [(if ab then k else wOTHER, c.last + if k ∈ rs then 1 else 0)]
    | _ => c.ls := by
  cases e with
  | send k ab =>
    cases ab <;> rfl
  | come p => rfl
  | ans =>
    show (Crs.does rs rows c .ans).ls = _
    unfold Crs.does
    cases c.view <;> rfl
  | heard n =>
    show (c.hear rows n).ls = _
    unfold Crs.hear
    cases c.an[n]? <;> rfl
theorem go_an (rs : List Cs) (rows : List Rw) (c : Crs) (e : Evt) : c.can e = true → (c.go rs rows e).an.length = match e with
    | .ans => c.an.length + 1
    | _ => c.an.length := by
  intro h
  cases e with
  | send k ab => cases ab <;> rfl
  | come p => rfl
  | ans =>
    show (Crs.does rs rows c .ans).an.length = _
    unfold Crs.can at h
    unfold Crs.does
    cases hv : c.view with
    | none => rw [hv] at h; cases h
    | some p => simp
  | heard n =>
    show (c.hear rows n).an.length = _
    unfold Crs.hear
    cases c.an[n]? <;> rfl
def ltF (d : Nat) (x : Lt) : Cs × Nat := (if isOf x.2.1 d then x.1 else wOTHER, x.2.2)
structure Match (rs : List Cs) (rows : List Rw) (past : List Deed) (g : Cs) (d : Nat) : Prop where
  runs : Crs.runs rs rows Crs.start (eventsF rs past g d) = true
  eok : ∀ e ∈ eventsF rs past g d, e.Ok
  ls : (crsF rs rows past g d).ls = (sentF rs past).map (ltF d)
  an : (crsF rs rows past g d).an.length = (ownF past g d).length
theorem sent_kind {rs : List Cs} {rows : List Rw} {days : Nat} {past : List Deed} (h : Past rs rows days past) : ∀ x ∈ sentF rs past, x.1 ∈ kinds := by
  induction h with
  | nil =>
    intro x hx
    have hx : x ∈ [((wASK, none, 0) : Lt)] := hx
    rw [List.mem_singleton.mp hx]
    decide
  | @snoc past x _ hx ih =>
    rw [sent_snoc]
    cases x with
    | send k day =>
      intro y hy
      rcases List.mem_append.mp hy with z | z
      · exact ih y z
      · rw [List.mem_singleton.mp z]
        exact hx.1
    | _ => exact ih
theorem last_eq {c : Crs} {l : List Lt} {d : Nat} (h : c.ls = l.map (ltF d)) : c.last = lastN l := by
  unfold Crs.last Crs.num lastN
  rw [h, List.length_map, List.getElem?_map]
  cases l[l.length - 1]? <;> rfl
theorem matches_ {rs : List Cs} {rows : List Rw} {days : Nat} {past : List Deed} (h : Past rs rows days past) (g : Cs) (d : Nat) : Match rs rows past g d := by
  induction h with
  | nil => exact ⟨rfl, fun e h => (by cases h), rfl, rfl⟩
  | @snoc past x hp hx ih =>
    have es := events_snoc hp x g d
    have noev : evF (sentF rs (past ++ [x])) (ownF (past ++ [x]) g d) g d x = none → sentF rs (past ++ [x]) = sentF rs past → ownF (past ++ [x]) g d = ownF past g d → Match rs rows (past ++ [x]) g d := fun h1 h2 h3 => by
      rw [h1] at es
      have es : eventsF rs (past ++ [x]) g d = eventsF rs past g d := by rw [es]; exact List.append_nil _
      exact ⟨by rw [es]; exact ih.runs, by rw [es]; exact ih.eok, by unfold crsF; rw [es, h2]; exact ih.ls, by unfold crsF; rw [es, h3]; exact ih.an⟩
    have isev : ∀ e, evF (sentF rs (past ++ [x])) (ownF (past ++ [x]) g d) g d x = some e → e.Ok → (crsF rs rows past g d).can e = true → ((crsF rs rows past g d).go rs rows e).ls = (sentF rs (past ++ [x])).map (ltF d) → ((crsF rs rows past g d).go rs rows e).an.length = (ownF (past ++ [x]) g d).length → Match rs rows (past ++ [x]) g d := fun e h1 h2 h3 h4 h5 => by
      rw [h1] at es
      have es : eventsF rs (past ++ [x]) g d = eventsF rs past g d ++ [e] := es
      refine ⟨by rw [es]; exact runs_snoc ih.runs h3, fun y hy => ?_, by unfold crsF; rw [es, run_append]; exact h4, by unfold crsF; rw [es, run_append]; exact h5⟩
      rw [es] at hy
      rcases List.mem_append.mp hy with z | z
      · exact ih.eok y z
      · rw [List.mem_singleton.mp z]; exact h2
    have own0 : givenF (past ++ [x]) = givenF past → ownF (past ++ [x]) g d = ownF past g d := fun e => by unfold ownF; rw [e]
    cases x with
    | send k day =>
      have hg : givenF (past ++ [Deed.send k day]) = givenF past := by unfold givenF; rw [List.filterMap_append]; exact List.append_nil _
      refine isev _ rfl ?_ rfl ?_ ?_
      · cases hi : isOf day d with
        | true => exact hx.1
        | false =>
          by_cases hk : k ∈ [wDAY, wOFF]
          · exact hk
          · have := hx.2
            rw [if_neg hk] at this
            subst this
            cases hi
      · rw [go_ls, sent_snoc]
        show _ ++ [_] = (sentF rs past ++ [_]).map (ltF d)
        rw [List.map_append, ← ih.ls, last_eq ih.ls]
        rfl
      · rw [go_an _ _ _ _ rfl, own0 hg]
        exact ih.an
    | come g' p =>
      have hg : givenF (past ++ [Deed.come g' p]) = givenF past := by unfold givenF; rw [List.filterMap_append]; exact List.append_nil _
      have hsn : sentF rs (past ++ [Deed.come g' p]) = sentF rs past := by rw [sent_snoc]; rfl
      have hpl : p < (sentF rs past).length := hx
      by_cases hb : (decide (g' = g) && isOf (aboutF (sentF rs (past ++ [Deed.come g' p])) p) d) = true
      · have hcan : (crsF rs rows past g d).can (.come p) = true := by
          unfold Crs.can
          have hlt : p < (crsF rs rows past g d).ls.length := by rw [ih.ls, List.length_map]; exact hpl
          rw [Bool.and_eq_true, decide_eq_true_eq, decide_eq_true_eq]
          refine ⟨hlt, ?_⟩
          unfold Crs.kind
          rw [ih.ls, List.getElem?_map, List.getElem?_eq_getElem hpl]
          rw [Bool.and_eq_true] at hb
          have hb2 := hb.2
          rw [hsn] at hb2
          unfold aboutF at hb2
          rw [List.getElem?_eq_getElem hpl] at hb2
          show (ltF d (sentF rs past)[p]).1 ≠ wOTHER
          unfold ltF
          have hk := sent_kind hp _ (List.getElem_mem hpl)
          have hb3 : isOf (sentF rs past)[p].2.1 d = true := hb2
          rw [if_pos hb3]
          intro z
          have : ∀ w ∈ kinds, w ≠ wOTHER := by decide
          exact this _ hk z
        refine isev (.come p) (by show (if _ then _ else _) = _; rw [if_pos hb]) trivial hcan ?_ ?_
        · rw [go_ls, hsn]; exact ih.ls
        · rw [go_an _ _ _ _ hcan, own0 hg]; exact ih.an
      · exact noev (by show (if _ then _ else _) = _; rw [if_neg hb]) hsn (own0 hg)
    | ans g' d' =>
      have hsn : sentF rs (past ++ [Deed.ans g' d']) = sentF rs past := by rw [sent_snoc]; rfl
      have hgv : givenF (past ++ [Deed.ans g' d']) = givenF past ++ [(g', d')] := by unfold givenF; rw [List.filterMap_append]; rfl
      have how : ownF (past ++ [Deed.ans g' d']) g d = ownF past g d ++ (if (g', d') = (g, d) then [(givenF past).length] else []) := by
        unfold ownF
        rw [hgv, List.zipIdx_append, List.filter_append, List.map_append]
        congr 1
        by_cases z : (g', d') = (g, d)
        · simp [z]
        · simp [z]
      by_cases hb : (decide (g' = g) && decide (d' = d)) = true
      · rw [Bool.and_eq_true, decide_eq_true_eq, decide_eq_true_eq] at hb
        obtain ⟨rfl, rfl⟩ := hb
        obtain ⟨_, p, hv, hk⟩ := hx
        have hcan : (crsF rs rows past g' d').can .ans = true := by
          unfold Crs.can
          rw [hv]
          exact decide_eq_true hk
        refine isev .ans (by show (if _ then _ else _) = _; rw [if_pos (by simp)]) trivial hcan ?_ ?_
        · rw [go_ls, hsn]; exact ih.ls
        · rw [go_an _ _ _ _ hcan, how, if_pos rfl, List.length_append, ← ih.an]; rfl
      · have hne : ¬ (g', d') = (g, d) := fun z => hb (by
          rw [Bool.and_eq_true, decide_eq_true_eq, decide_eq_true_eq]
          exact ⟨(Prod.mk.inj z).1, (Prod.mk.inj z).2⟩)
        exact noev (by show (if _ then _ else _) = _; rw [if_neg hb]) hsn (by rw [how, if_neg hne, List.append_nil])
    | heard n =>
      have hsn : sentF rs (past ++ [Deed.heard n]) = sentF rs past := by rw [sent_snoc]; rfl
      have hg : givenF (past ++ [Deed.heard n]) = givenF past := by unfold givenF; rw [List.filterMap_append]; exact List.append_nil _
      by_cases hb : n ∈ ownF (past ++ [Deed.heard n]) g d
      · have hcan : (crsF rs rows past g d).can (.heard ((ownF (past ++ [Deed.heard n]) g d).idxOf n)) = true := by
          unfold Crs.can
          rw [decide_eq_true_eq, ih.an, ← own0 hg]
          exact List.idxOf_lt_length_of_mem hb
        refine isev (.heard ((ownF (past ++ [Deed.heard n]) g d).idxOf n)) (by show (if _ then _ else _) = _; rw [if_pos hb]) trivial hcan ?_ ?_
        · rw [go_ls, hsn]; exact ih.ls
        · rw [go_an _ _ _ _ hcan, own0 hg]; exact ih.an
      · exact noev (by show (if _ then _ else _) = _; rw [if_neg hb]) hsn (own0 hg)
theorem sent_pos (rs : List Cs) : ∀ (past : List Deed) (l : List Lt), 0 < l.length → 0 < (past.foldl (sentS rs) l).length
  | [], _, h => h
  | x :: r, l, h => sent_pos rs r _ (by
    cases x with
    | send k day => show 0 < (l ++ [_]).length; rw [List.length_append]; exact Nat.lt_of_lt_of_le h (Nat.le_add_right _ _)
    | _ => exact h)
theorem sent_len (rs : List Cs) : ∀ (past : List Deed) (l : List Lt), (past.foldl (sentS rs) l).length ≤ l.length + past.length
  | [], l => Nat.le_refl _
  | x :: r, l => by
    have := sent_len rs r (sentS rs l x)
    have h2 : (sentS rs l x).length ≤ l.length + 1 := by
      cases x with
      | send k day => show (l ++ [_]).length ≤ _; rw [List.length_append]; exact Nat.le_refl _
      | _ => exact Nat.le_succ _
    rw [List.length_cons]
    show (r.foldl (sentS rs) (sentS rs l x)).length ≤ _
    omega
theorem sentF_pos (rs : List Cs) (past : List Deed) : 0 < (sentF rs past).length := sent_pos rs past _ (Nat.succ_pos _)
theorem sentF_len (rs : List Cs) (past : List Deed) : (sentF rs past).length ≤ past.length + 1 := by
  have := sent_len rs past [(wASK, none, 0)]
  unfold sentF
  rw [List.length_cons, List.length_nil] at this
  omega
theorem lastN_at {l : List Lt} (h : 0 < l.length) : ∃ x : Lt, l[l.length - 1]? = some x ∧ lastN l = x.2.2 := by
  have e : l[l.length - 1]? = some l[l.length - 1] := List.getElem?_eq_getElem (by omega)
  exact ⟨_, e, by unfold lastN; rw [e]⟩
theorem given_len (past : List Deed) : (givenF past).length ≤ past.length := List.length_filterMap_le _ _
theorem own_len (past : List Deed) (g : Cs) (d : Nat) : (ownF past g d).length ≤ past.length := by
  unfold ownF
  rw [List.length_map]
  refine Nat.le_trans (List.length_filter_le _ _) ?_
  rw [List.length_zipIdx]
  exact given_len past
theorem events_len (rs : List Cs) (past : List Deed) (g : Cs) (d : Nat) : (eventsF rs past g d).length ≤ past.length := List.length_filterMap_le _ _
def evD : Option Evt → D
  | none => .non
  | some e => .str e.txt
open PySem PySem.Spec PyProof.Rows L2 in
theorem sq_inND {s : Hc} {o : Option Nat} {d : Nat} {Q : D → Hc → Prop} (q : Q (.bl (isOf o d)) s) : sq (inM (oD o) (.tup [.non, .int d])) s Q := sq_keep (fun z _ _ k => by
  have e : inB z (oD o) (.tup [.non, .int d]) = some (isOf o d) := by
    cases o with
    | none => rfl
    | some x =>
      show some (inF (.int x) [.non, .int d]) = _
      congr 1
      unfold isOf
      by_cases h : x = d
      · subst h; simp [inF, eqF]
      · have h2 : ¬ (d : Int) = x := fun z => h (by omega)
        simp [inF, eqF, h, h2]
  exact wq_of_eq (m' := M.bind (M.ofOpt (inB z (oD o) (.tup [.non, .int d]))) fun b => M.pure (.bl b)) rfl (wq_bind (wq_opt e (wq_pure k)))) q
theorem pos_idx (n : Nat) : ∀ (l : List Nat) (k : Nat), n ∈ l → pos? (.int n) (l.map fun x : Nat => D.int (x : Int)) k = some (k + l.idxOf n)
  | [], _, h => by cases h
  | x :: r, k, h => by
    rw [List.map_cons, pos?, List.idxOf_cons]
    by_cases e : x = n
    · subst e
      rw [if_pos (by simp [eqF])]
      simp
    · have h2 : ¬ (x : Int) = n := fun z => e (by omega)
      rw [if_neg (by simp [eqF, h2]), pos_idx n r (k + 1) ((List.mem_cons.mp h).elim (fun z => absurd z.symm e) id)]
      have hb : (x == n) = false := by simp [e]
      rw [hb]
      show some (k + 1 + r.idxOf n) = some (k + (r.idxOf n + 1))
      congr 1
      omega
open PySem PySem.Spec PyProof.Rows L2 in
theorem sq_indexN {s : Hc} {a n : Nat} {l : List Nat} {Q : D → Hc → Prop} (g : Has s a (.lst (l.map fun x : Nat => D.int (x : Int)))) (h : n ∈ l) (q : Q (.int (l.idxOf n : Nat)) s) : sq (indexLM (.ref a) [.int n]) s Q := sq_keep (fun z _ hz k => wq_bind (wq_lst (g z hz) (wq_when (by rw [flat_int]; rfl) (wq_bind (wq_opt (by rw [pos_idx n l 0 h, Nat.zero_add]) (wq_pure k)))))) q
theorem enum_pairs (l : List (Cs × Nat)) : enumD (l.map fun x => D.tup [.str x.1, .int (x.2 : Nat)]) = l.zipIdx.map fun x => D.tup [.int (x.2 : Nat), .tup [.str x.1.1, .int (x.1.2 : Nat)]] := by
  unfold enumD
  rw [List.zipIdx_map, List.map_map]
  rfl
theorem own_eq (past : List Deed) (g : Cs) (d : Nat) : (((givenF past).zipIdx.filter fun x => decide (x.1 = (g, d))).map fun x => D.int (x.2 : Nat)) = (ownF past g d).map fun x : Nat => D.int (x : Int) := by
  unfold ownF
  rw [List.map_map]
  rfl
theorem evD_non (x : Option Evt) : decide (evD x = .non) = x.isNone := by
  cases x with
  | none => exact decide_eq_true rfl
  | some a => exact decide_eq_false fun h => by cases h
theorem evs_eq (f : Deed → Option Evt) : ∀ past : List Deed, ((past.map f).filter Option.isSome).map evD = (past.filterMap f).map fun e => D.str e.txt
  | [] => rfl
  | x :: r => by
    have ih := evs_eq f r
    rw [List.map_cons, List.filterMap_cons]
    cases h : f x with
    | none => exact ih
    | some e =>
      show evD (some e) :: (((r.map f).filter Option.isSome).map evD) = _
      rw [ih]
      rfl
theorem past_send {rs : List Cs} {rows : List Rw} {days : Nat} {past : List Deed} (h : Past rs rows days past) : ∀ y ∈ past, ∀ k day, y = .send k day → k.length ≤ 100 := by
  induction h with
  | nil => intro y hy; cases hy
  | @snoc past x _ hx ih =>
    intro y hy
    rcases List.mem_append.mp hy with z | z
    · exact ih y z
    · rw [List.mem_singleton.mp z]
      intro k day e
      subst e
      exact (show ∀ k ∈ kinds, k.length ≤ 100 by decide) k hx.1
/-- names -/
def lettersW : Cs := [97, 98, 99, 100, 101, 102, 103, 104, 105, 106, 107, 108, 109, 110, 111, 112, 113, 114, 115, 116, 117, 118, 119, 120, 121, 122]
structure NameG (g : Cs) : Prop where
  pos : 0 < g.length
  le : g.length ≤ 4
  all : (g.all fun c => (fnd [c] 0 lettersW).isSome) = true
theorem note_view (c : Crs) : c.note.view = c.view := rfl
theorem go_last (rs : List Cs) (rows : List Rw) (c : Crs) (e : Evt) : (c.go rs rows e).sh[(c.go rs rows e).sh.length - 1]? = some (c.go rs rows e).view := by
  unfold Crs.go
  generalize c.does rs rows e = c2
  rw [note_view]
  show (c2.sh ++ [c2.view])[(c2.sh ++ [c2.view]).length - 1]? = some c2.view
  rw [List.length_append]
  show (c2.sh ++ [c2.view])[c2.sh.length + 1 - 1]? = _
  rw [Nat.add_sub_cancel, List.getElem?_append_right (Nat.le_refl _), Nat.sub_self]
  rfl
theorem run_last (rs : List Cs) (rows : List Rw) : ∀ (es : List Evt) (c : Crs), c.sh[c.sh.length - 1]? = some c.view → (Crs.run rs rows es c).sh[(Crs.run rs rows es c).sh.length - 1]? = some (Crs.run rs rows es c).view
  | [], _, h => h
  | e :: es, c, _ => run_last rs rows es (c.go rs rows e) (go_last rs rows c e)
theorem sh_last (rs : List Cs) (rows : List Rw) (past : List Deed) (g : Cs) (d : Nat) : (crsF rs rows past g d).sh[(crsF rs rows past g d).sh.length - 1]? = some (crsF rs rows past g d).view := run_last rs rows _ _ rfl
theorem crs_ok {rs : List Cs} {rows : List Rw} {days : Nat} {past : List Deed} (h : Past rs rows days past) (g : Cs) (d : Nat) : Crs.Ok (1 + 6 * (eventsF rs past g d).length) (crsF rs rows past g d) ∧ (crsF rs rows past g d).Mt := by
  have M := matches_ h g d
  exact runs_ok Crs.Ok.start Crs.Mt.start M.eok M.runs
theorem view_sent {rs : List Cs} {rows : List Rw} {days : Nat} {past : List Deed} (h : Past rs rows days past) {g : Cs} {d v : Nat} (hv : (crsF rs rows past g d).view = some v) : v < (sentF rs past).length := by
  have := view_lt (crs_ok h g d).1 hv
  rw [(matches_ h g d).ls, List.length_map] at this
  exact this
theorem kind_sent {rs : List Cs} {rows : List Rw} {days : Nat} {past : List Deed} (h : Past rs rows days past) {g : Cs} {d v : Nat} (hv : v < (sentF rs past).length) (hk : (crsF rs rows past g d).kind v ∈ asking) : (sentF rs past)[v].1 ∈ asking := by
  unfold Crs.kind at hk
  rw [(matches_ h g d).ls, List.getElem?_map, List.getElem?_eq_getElem hv] at hk
  have hk : (ltF d (sentF rs past)[v]).1 ∈ asking := hk
  unfold ltF at hk
  dsimp only at hk
  split at hk
  · exact hk
  · exact absurd hk (by decide)
end Ev

/-! ExD: a law's def shown over lists of things, brought back. -/
namespace Ev
open PySem PySem.Spec PyProof.Rows L2
theorem wq_of_sq {α : Type} {m : M α} {s : S} {Q : α → Prop} (h : sq m [] fun a _ => Q a) : wq m s fun a _ => Q a :=
  wq_mono (h [] s ⟨fun _ => False, fun _ z => z⟩) fun _ _ ⟨_, _, _, q⟩ => q
theorem runs_sq {L : Lw} {ns : List Int} {prim : Nat → Option (List D → M D)} {tb : List Bd} {J i : Nat} {d : Df} {q : Bd} (h : BdAll L.defs tb) (hq : BdOk d q) (hp : prim i = none) (hi : tb[i]? = some q) (h1 : d.ps.length = 1) (h2 : d.dD = []) (h3 : d.gc = false)
    (e : sq (fnI L ns prim tb (J + 1) i [.scr]) [] fun v _ => v = .bl true) : wp (runF (pgOf L ns (fnL L ns prim J)) ⟨1, d.N.length, [], d.ir⟩ [.scr]) S.empty (fun v _ => v = .bl true) fun _ _ => False := runs_wq h hq hp hi h1 h2 h3 (wq_of_sq e)
end Ev

/-! ExE: rules as texts, plainly. -/
namespace Ev
open PySem PySem.Spec PyProof.Rows L2
def wANS : Cs := [97, 110, 115, 119, 101, 114]
def LT8 : List Cs := [[119, 104, 111, 108, 101], [111, 119, 110], [97, 98, 111, 118, 101, 32, 119, 104, 111, 108, 101], [97, 98, 111, 118, 101, 32, 111, 119, 110], [108, 101, 118, 101, 108, 32, 119, 104, 111, 108, 101], [108, 101, 118, 101, 108, 32, 111, 119, 110], [108, 97, 116, 101, 114, 32, 119, 104, 111, 108, 101], [108, 97, 116, 101, 114, 32, 111, 119, 110]]
def plainW (k : Cs) : List Cs := if k = wANS then [[108, 101, 118, 101, 108]] else LT8
def testsK (k : Cs) : List Cs := plainW k ++ (plainW k).map fun t => wNOT ++ t
def deedsK (k : Cs) : List Cs := if k = wANS then [[99, 111, 117, 110, 116], [100, 114, 111, 112]] else [[116, 97, 107, 101], [119, 105, 112, 101]]
theorem plainW_ok (k : Cs) : (plainW k).length ≤ 8 ∧ ∀ t ∈ plainW k, t.length ≤ 100 := by
  unfold plainW
  split
  · exact ⟨by decide, by decide⟩
  · exact ⟨by decide, by decide⟩
/-- a rule's parts that are sound -/
structure RuleK (k : Cs) (ts ds : List Cs) : Prop where
  hk : k ∈ kinds ++ [wANS]
  ht : ∀ t ∈ ts, t ∈ testsK k
  hd : ∀ d ∈ ds, d ∈ deedsK k
  lt : ts.length ≤ 1000
  ld : ds.length ≤ 1000
def cON : Cs := [111, 110, 32]
def cIF : Cs := [32, 105, 102, 32]
def cAND : Cs := [32, 97, 110, 100, 32]
def cDO : Cs := [32, 100, 111, 32]
def cTHEN : Cs := [32, 116, 104, 101, 110, 32]
/-- a rule's text -/
def txt (k : Cs) (ts ds : List Cs) : Cs := ((cON ++ k) ++ optT cIF cAND ts) ++ optT cDO cTHEN ds
theorem testsK_len (k : Cs) : ∀ t ∈ testsK k, t.length ≤ 100 := by
  unfold testsK plainW
  split
  · decide
  · decide
theorem deedsK_len (k : Cs) : ∀ t ∈ deedsK k, t.length ≤ 100 := by
  unfold deedsK
  split
  · decide
  · decide
theorem RuleK.tl {k : Cs} {ts ds : List Cs} (R : RuleK k ts ds) : ∀ t ∈ ts, t.length ≤ 100 := fun t h => testsK_len k t (R.ht t h)
theorem RuleK.dl {k : Cs} {ts ds : List Cs} (R : RuleK k ts ds) : ∀ t ∈ ds, t.length ≤ 100 := fun t h => deedsK_len k t (R.hd t h)
theorem RuleK.kl {k : Cs} {ts ds : List Cs} (R : RuleK k ts ds) : k.length ≤ 100 := by
  have : ∀ k ∈ kinds ++ [wANS], k.length ≤ 100 := by decide
  exact this k R.hk
theorem RuleK.lens {k : Cs} {ts ds : List Cs} (R : RuleK k ts ds) : (optT cIF cAND ts).length ≤ 200000 ∧ (optT cDO cTHEN ds).length ≤ 200000 := by
  have h1 := optT_len (pre := cIF) (sep := cAND) R.tl R.lt
  have h2 := optT_len (pre := cDO) (sep := cTHEN) R.dl R.ld
  have e1 : cIF.length = 4 := rfl
  have e2 : cAND.length = 5 := rfl
  have e3 : cDO.length = 4 := rfl
  have e4 : cTHEN.length = 6 := rfl
  omega
theorem join_ok {sep : Cs} {ts : List Cs} (h : ∀ t ∈ ts, t.length ≤ 100) (l : ts.length ≤ 1000) (hs : sep.length ≤ 10) : (ts.map (·.length)).sum + ts.length * sep.length ≤ 200000 := by
  have h2 := sum_le h
  have h3 : ts.length * 100 ≤ 1000 * 100 := Nat.mul_le_mul_right _ l
  have h4 : ts.length * sep.length ≤ 1000 * 10 := Nat.mul_le_mul l hs
  omega
theorem testsK_no (k : Cs) : ∀ t ∈ testsK k, 100 ∉ t := by
  unfold testsK plainW
  split
  · decide
  · decide
/-! ### reading texts, plain -/
theorem pre_get {S l : Cs} (h : TL.pre S l = true) {m : Nat} (hm : m < S.length) : l[m]? = S[m]? := by
  have e : l.take S.length = S := eq_of_beq h
  rw [← e, List.getElem?_take, if_pos hm]
theorem pre_no {S l : Cs} (m : Nat) (hm : m < S.length) (h : l[m]? ≠ S[m]?) : TL.pre S l = false := by
  cases e : TL.pre S l with
  | false => rfl
  | true => exact absurd (pre_get e hm) h
/-- y stands nowhere in a, rest behind it -/
def noP (y rest : Cs) : Cs → Prop
  | [] => True
  | c :: a => TL.pre y (c :: a ++ rest) = false ∧ noP y rest a
theorem noP_append {y rest : Cs} : ∀ {a b : Cs}, noP y (b ++ rest) a → noP y rest b → noP y rest (a ++ b)
  | [], _, _, h => h
  | c :: a, b, h, h' => ⟨(congrArg (TL.pre y) (show (c :: (a ++ b)) ++ rest = (c :: a) ++ (b ++ rest) by rw [List.cons_append, List.cons_append, List.append_assoc])).trans h.1, noP_append h.2 h'⟩
theorem fnd_at {y b : Cs} (hy : y ≠ []) : ∀ {a : Cs} (k : Nat), noP y (y ++ b) a → fnd y k (a ++ (y ++ b)) = some (k + a.length)
  | [], k, _ => by
    cases y with
    | nil => exact absurd rfl hy
    | cons c r =>
      have := TL.pre_self (c :: r) b
      rw [List.nil_append, List.cons_append, fnd, ← List.cons_append, this]
      rfl
  | c :: a, k, h => by
    have h1 : TL.pre y (c :: (a ++ (y ++ b))) = false := h.1
    rw [List.cons_append, fnd, h1, if_neg Bool.false_ne_true, fnd_at hy (k + 1) h.2, List.length_cons]
    congr 1
    omega
theorem fnd_no {y : Cs} : ∀ {a : Cs} (k : Nat), noP y [] a → fnd y k a = none
  | [], k, _ => rfl
  | c :: a, k, h => by
    have h1 : TL.pre y (c :: a) = false := by have := h.1; rwa [List.append_nil] at this
    rw [fnd, h1, if_neg Bool.false_ne_true]
    exact fnd_no (k + 1) h.2
/-- a blank is not followed by d -/
def okP : Nat → Cs → Prop
  | _, [] => True
  | p, c :: r => ¬ (p = 32 ∧ c = 100) ∧ okP c r
theorem okP_app : ∀ {p : Nat} {a b : Cs}, okP p a → okP ((a.getLast?).getD p) b → okP p (a ++ b)
  | _, [], _, _, h => h
  | p, c :: a, b, h, h' => ⟨h.1, okP_app (p := c) h.2 (by
    have e : ((c :: a).getLast?).getD p = (a.getLast?).getD c := by
      cases a with
      | nil => rfl
      | cons d r => rw [List.getLast?_cons_cons]; cases hh : (d :: r).getLast? with
        | none => simp at hh
        | some z => rfl
    rw [e] at h'
    exact h')⟩
theorem noP_do {rest : Cs} (hr : rest[0]? = none ∨ rest[0]? = some 32) : ∀ {p : Nat} {a : Cs}, okP p a → noP cDO rest a
  | _, [], _ => trivial
  | p, c :: a, h => by
    refine ⟨?_, noP_do hr h.2⟩
    by_cases hc : c = 32
    · refine pre_no 1 (by decide) ?_
      show ((c :: a) ++ rest)[1]? ≠ some 100
      cases a with
      | nil =>
        show rest[0]? ≠ some 100
        rcases hr with e | e <;> rw [e] <;> simp
      | cons d r =>
        show some d ≠ some 100
        intro z
        exact h.2.1 ⟨hc, Option.some.inj z⟩
    · refine pre_no 0 (by decide) ?_
      show some c ≠ some 32
      intro z
      exact hc (Option.some.inj z)
theorem okP_word : ∀ {p : Nat} {w : Cs}, 100 ∉ w → okP p w
  | _, [], _ => trivial
  | _, c :: w, h => ⟨fun z => h (z.2 ▸ List.mem_cons_self), okP_word fun m => h (List.mem_cons_of_mem _ m)⟩
theorem last_app (p : Nat) (a b : Cs) : ((a ++ b).getLast?).getD p = (b.getLast?).getD ((a.getLast?).getD p) := by
  rw [List.getLast?_append]
  cases b.getLast? <;> rfl
theorem okP_join : ∀ {p : Nat} {ts : List Cs}, (∀ t ∈ ts, 100 ∉ t) → okP p (TL.joinL cAND ts)
  | _, [], _ => trivial
  | _, [t], h => okP_word (h t List.mem_cons_self)
  | p, t :: u :: r, h => by
    show okP p (t ++ (cAND ++ TL.joinL cAND (u :: r)))
    refine okP_app (okP_word (h t List.mem_cons_self)) (okP_app (a := cAND) ?_ ?_)
    · exact ⟨fun z => by simp at z, fun z => by simp at z, fun z => by simp at z, fun z => by simp at z, fun z => by simp at z, trivial⟩
    · exact okP_join fun x hx => h x (List.mem_cons_of_mem _ hx)
theorem okP_opt {p : Nat} {ts : List Cs} (h : ∀ t ∈ ts, 100 ∉ t) : okP p (optT cIF cAND ts) := by
  unfold optT
  split
  · trivial
  · refine okP_app (a := cIF) ?_ (okP_join h)
    exact ⟨fun z => by simp at z, fun z => by simp at z, fun z => by simp at z, fun z => by simp at z, trivial⟩
theorem noDo_kind {k : Cs} (hk : k ∈ kinds ++ [wANS]) (tail : Cs) : noP cDO tail (cON ++ k) := by
  have h : k = [97, 115, 107] ∨ k = [100, 97, 121] ∨ k = [111, 102, 102] ∨ k = [115, 116, 111, 112] ∨ k = wANS := by simpa [kinds, wASK, wDAY, wOFF, wSTOP] using hk
  rcases h with rfl | rfl | rfl | rfl | rfl <;> simp [noP, cON, cDO, wANS, TL.pre]
theorem noIf_kind {k : Cs} (hk : k ∈ kinds ++ [wANS]) (tail : Cs) : noP cIF tail (cON ++ k) := by
  have h : k = [97, 115, 107] ∨ k = [100, 97, 121] ∨ k = [111, 102, 102] ∨ k = [115, 116, 111, 112] ∨ k = wANS := by simpa [kinds, wASK, wDAY, wOFF, wSTOP] using hk
  rcases h with rfl | rfl | rfl | rfl | rfl <;> simp [noP, cON, cIF, wANS, TL.pre]
/-- what stands ahead of the deeds -/
def hdT (k : Cs) (ts : List Cs) : Cs := (cON ++ k) ++ optT cIF cAND ts
theorem hd_no {k : Cs} {ts ds : List Cs} (R : RuleK k ts ds) {rest : Cs} (hr : rest[0]? = none ∨ rest[0]? = some 32) : noP cDO rest (hdT k ts) :=
  noP_append (noDo_kind R.hk _) (noP_do hr (p := 0) (okP_opt fun t h => testsK_no k t (R.ht t h)))
theorem fnd_do {k : Cs} {ts ds : List Cs} (R : RuleK k ts ds) : fnd cDO 0 (txt k ts ds) = if ds = [] then none else some (hdT k ts).length := by
  unfold txt
  by_cases e : ds = []
  · rw [if_pos e, show optT cDO cTHEN ds = [] from if_pos e, List.append_nil]
    exact fnd_no 0 (hd_no R (.inl rfl))
  · rw [if_neg e]
    show fnd cDO 0 (hdT k ts ++ optT cDO cTHEN ds) = _
    rw [show optT cDO cTHEN ds = cDO ++ TL.joinL cTHEN ds from if_neg e, fnd_at (by decide) 0 (hd_no R (.inr rfl)), Nat.zero_add]
theorem fnd_if {k : Cs} {ts ds : List Cs} (R : RuleK k ts ds) : fnd cIF 0 (hdT k ts) = if ts = [] then none else some (cON ++ k).length := by
  unfold hdT
  by_cases e : ts = []
  · rw [if_pos e, show optT cIF cAND ts = [] from if_pos e, List.append_nil]
    exact fnd_no 0 (noIf_kind R.hk _)
  · rw [if_neg e, show optT cIF cAND ts = cIF ++ TL.joinL cAND ts from if_neg e, fnd_at (by decide) 0 (noIf_kind R.hk _), Nat.zero_add]
theorem and_no {p rest : Cs} (h : 100 ∉ p) : ∀ i, i < p.length → TL.pre cAND ((p ++ (cAND ++ rest)).drop i) = false := by
  intro i hi
  refine pre_no 3 (by decide) ?_
  show ((p ++ (cAND ++ rest)).drop i)[3]? ≠ some 100
  rw [List.getElem?_drop]
  by_cases h3 : i + 3 < p.length
  · rw [List.getElem?_append_left h3]
    intro z
    exact h (List.mem_of_getElem? z)
  · rw [List.getElem?_append_right (by omega)]
    have h2 : i + 3 - p.length = 0 ∨ i + 3 - p.length = 1 ∨ i + 3 - p.length = 2 := by omega
    rcases h2 with e | e | e <;> rw [e] <;> simp [cAND]
theorem spl_and : ∀ {ts : List Cs}, ts ≠ [] → (∀ t ∈ ts, 100 ∉ t) → TL.spl cAND 0 [] (TL.joinL cAND ts) = ts
  | [], h, _ => absurd rfl h
  | [p], _, hp => by
    show TL.spl cAND 0 [] p = [p]
    rw [TL.spl_last (fun i hi => ?_), List.nil_append]
    refine pre_no 3 (by decide) ?_
    show (p.drop i)[3]? ≠ some 100
    rw [List.getElem?_drop]
    intro z
    exact hp p List.mem_cons_self (List.mem_of_getElem? z)
  | p :: q :: r, _, hp => by
    show TL.spl cAND 0 [] (p ++ (cAND ++ TL.joinL cAND (q :: r))) = p :: q :: r
    rw [TL.spl_part (by decide) (and_no (hp p List.mem_cons_self)), List.nil_append, spl_and (by simp) fun z hz => hp z (List.mem_cons_of_mem _ hz)]
theorem deedsK_no (k : Cs) : ∀ t ∈ deedsK k, 32 ∉ t := by
  unfold deedsK
  split
  · decide
  · decide
theorem spl_then {k : Cs} {ts ds : List Cs} (R : RuleK k ts ds) (h : ds ≠ []) : TL.spl cTHEN 0 [] (TL.joinL cTHEN ds) = ds :=
  TL.spl_join h fun d hd => deedsK_no k d (R.hd d hd)
end Ev

/-! ExF: texts of plans, drawn rules and plans, plainly. -/
namespace Ev
open PySem PySem.Spec PyProof.Rows L2
def cRAISE : Cs := [114, 97, 105, 115, 101]
def Rw.t (r : Rw) : Cs := txt r.k r.ts r.ds
def Rw.d (r : Rw) : D := .tup [.str r.k, .tup (r.ts.map .str), .tup (r.ds.map .str)]
/-- a plan's text -/
def ptxt (rs : List Cs) (rows : List Rw) : Cs := TL.joinL [10] (TL.joinL [32] (cRAISE :: rs) :: rows.map Rw.t)
theorem join_no {c : Nat} {sep : Cs} (hs : c ∉ sep) : ∀ {ws : List Cs}, (∀ w ∈ ws, c ∉ w) → c ∉ TL.joinL sep ws
  | [], _, h => by cases h
  | [p], hp, h => hp p List.mem_cons_self h
  | p :: q :: r, hp, h => by
    rcases List.mem_append.mp (show c ∈ p ++ (sep ++ TL.joinL sep (q :: r)) from h) with z | z
    · exact hp p List.mem_cons_self z
    · rcases List.mem_append.mp z with z | z
      · exact hs z
      · exact join_no hs (fun w hw => hp w (List.mem_cons_of_mem _ hw)) z
theorem opt_no {c : Nat} {pre sep : Cs} (h1 : c ∉ pre) (h2 : c ∉ sep) {ts : List Cs} (h : ∀ t ∈ ts, c ∉ t) : c ∉ optT pre sep ts := by
  unfold optT
  split
  · intro z; cases z
  · intro z
    rcases List.mem_append.mp z with z | z
    · exact h1 z
    · exact join_no h2 h z
theorem testsK_nl (k : Cs) : ∀ t ∈ testsK k, 10 ∉ t := by
  unfold testsK plainW
  split
  · decide
  · decide
theorem deedsK_nl (k : Cs) : ∀ t ∈ deedsK k, 10 ∉ t := by
  unfold deedsK
  split
  · decide
  · decide
/-- a rule that may be, not too long -/
structure Rw.K4 (r : Rw) : Prop where
  hk : r.k ∈ kinds ++ [wANS]
  ht : ∀ t ∈ r.ts, t ∈ testsK r.k
  hd : ∀ d ∈ r.ds, d ∈ deedsK r.k
  lt : r.ts.length ≤ 4
  ld : r.ds.length ≤ 4
theorem Rw.K4.toK {r : Rw} (h : r.K4) : RuleK r.k r.ts r.ds := ⟨h.hk, h.ht, h.hd, Nat.le_trans h.lt (by decide), Nat.le_trans h.ld (by decide)⟩
theorem row_nl {r : Rw} (R : RuleK r.k r.ts r.ds) : 10 ∉ r.t := by
  intro z
  have hk : 10 ∉ r.k := by
    have : ∀ k ∈ kinds ++ [wANS], 10 ∉ k := by decide
    exact this r.k R.hk
  rcases List.mem_append.mp (show 10 ∈ ((cON ++ r.k) ++ optT cIF cAND r.ts) ++ optT cDO cTHEN r.ds from z) with z | z
  · rcases List.mem_append.mp z with z | z
    · rcases List.mem_append.mp z with z | z
      · revert z; decide
      · exact hk z
    · exact opt_no (by decide) (by decide) (fun t h => testsK_nl r.k t (R.ht t h)) z
  · exact opt_no (by decide) (by decide) (fun t h => deedsK_nl r.k t (R.hd t h)) z
theorem ks_no {rs : List Cs} (hk : ∀ r ∈ rs, r ∈ kinds) {c : Nat} (hc : c = 10 ∨ c = 32) : ∀ w ∈ cRAISE :: rs, c ∉ w := by
  have h4 : ∀ w ∈ cRAISE :: kinds, 10 ∉ w ∧ 32 ∉ w := by decide
  intro w hw
  have : w ∈ cRAISE :: kinds := by
    rcases List.mem_cons.mp hw with z | z
    · rw [z]; exact List.mem_cons_self
    · exact List.mem_cons_of_mem _ (hk w z)
  rcases hc with rfl | rfl
  · exact (h4 w this).1
  · exact (h4 w this).2
theorem spl_lines {rs : List Cs} {rows : List Rw} (hk : ∀ r ∈ rs, r ∈ kinds) (hr : ∀ r ∈ rows, RuleK r.k r.ts r.ds) : TL.spl [10] 0 [] (ptxt rs rows) = TL.joinL [32] (cRAISE :: rs) :: rows.map Rw.t := by
  refine TL.spl_join (by simp) fun p hp => ?_
  rcases List.mem_cons.mp hp with z | z
  · rw [z]
    exact join_no (by decide) (ks_no hk (.inl rfl))
  · obtain ⟨r, h, rfl⟩ := List.mem_map.mp z
    exact row_nl (hr r h)
theorem spl_words {rs : List Cs} (hk : ∀ r ∈ rs, r ∈ kinds) : TL.spl [32] 0 [] (TL.joinL [32] (cRAISE :: rs)) = cRAISE :: rs :=
  TL.spl_join (by simp) (ks_no hk (.inr rfl))
theorem cut1 {α : Type} (a : α) (r : List α) : cutD (a :: r) (some 1) none = r := cut_drop [a] r rfl
/-! ### kinds that raise, ascending -/
def subs : List Cs → List (List Cs)
  | [] => [[]]
  | k :: r => (subs r).map (k :: ·) ++ subs r
theorem mem_subs {rs l : List Cs} (h : rs.Sublist l) : rs ∈ subs l := by
  induction h with
  | slnil => exact List.mem_singleton.mpr rfl
  | cons x _ ih => exact List.mem_append_right _ ih
  | cons_cons x _ ih => exact List.mem_append_left _ (List.mem_map.mpr ⟨_, ih, rfl⟩)
theorem subs_ok : ∀ rs ∈ subs kinds, (∀ r ∈ rs, r ∈ kinds) ∧ dcnC rs rs.length = rs.length ∧ rs.length ≤ 4 ∧ (kinds.filter fun k => decide (k ∈ rs)) = rs := by decide +kernel
theorem line0_len {rs : List Cs} (h : rs ∈ subs kinds) : (TL.joinL [32] (cRAISE :: rs)).length ≤ 100 ∧ ((cRAISE :: rs).map (·.length)).sum + (cRAISE :: rs).length * 1 ≤ 100 := by
  have : ∀ rs ∈ subs kinds, (TL.joinL [32] (cRAISE :: rs)).length ≤ 100 ∧ ((cRAISE :: rs).map (·.length)).sum + (cRAISE :: rs).length * 1 ≤ 100 := by decide +kernel
  exact this rs h
theorem row_len {r : Rw} (R : r.K4) : r.t.length ≤ 1000 := by
  have a1 := optT_len (pre := cIF) (sep := cAND) R.toK.tl R.lt
  have a2 := optT_len (pre := cDO) (sep := cTHEN) R.toK.dl R.ld
  have a3 := R.toK.kl
  have e1 : cIF.length = 4 := rfl
  have e2 : cAND.length = 5 := rfl
  have e3 : cDO.length = 4 := rfl
  have e4 : cTHEN.length = 6 := rfl
  show (((cON ++ r.k) ++ optT cIF cAND r.ts) ++ optT cDO cTHEN r.ds).length ≤ 1000
  rw [List.length_append, List.length_append, List.length_append]
  have e5 : cON.length = 3 := rfl
  omega
/-- a plan as it is drawn -/
structure PlK (rs : List Cs) (rows : List Rw) : Prop where
  rk : rs ∈ subs kinds
  rw : ∀ r ∈ rows, r.K4
  n : rows.length ≤ 100
theorem PlK.g {rs : List Cs} {rows : List Rw} (h : PlK rs rows) : RowsG rows := by
  refine ⟨fun r hr => Nat.lt_of_le_of_lt (h.rw r hr).lt (by decide), fun r hr hk t ht => ?_, fun r hr hk t ht => ?_⟩
  · have z := (h.rw r hr).ht t ht
    have z : t ∈ LT8 ++ LT8.map fun t => wNOT ++ t := by
      unfold testsK plainW at z
      rw [if_neg (show ¬ r.k = wANS from hk)] at z
      exact z
    exact (show ∀ t ∈ LT8 ++ LT8.map fun t => wNOT ++ t, bare t ∈ tests8 by decide) t z
  · have z := (h.rw r hr).ht t ht
    unfold testsK plainW at z
    rw [if_pos (show r.k = wANS from hk)] at z
    exact (show ∀ t ∈ [[108, 101, 118, 101, 108]] ++ [[108, 101, 118, 101, 108]].map fun t => wNOT ++ t, bare t = wLEVELw by decide) t z
theorem lines_ok {rs : List Cs} {rows : List Rw} (h : PlK rs rows) : ((TL.joinL [32] (cRAISE :: rs) :: rows.map Rw.t).map (·.length)).sum + (TL.joinL [32] (cRAISE :: rs) :: rows.map Rw.t).length * 1 ≤ 1000000 := by
  have h1 := (line0_len h.rk).1
  have h2 := sum_le (ws := rows.map Rw.t) (c := 1000) fun w hw => by
    obtain ⟨r, hr, rfl⟩ := List.mem_map.mp hw
    exact row_len (h.rw r hr)
  have h3 := h.n
  rw [List.map_cons, List.sum_cons, List.length_cons]
  refine Nat.le_trans (Nat.add_le_add (Nat.add_le_add h1 h2) (Nat.le_refl _)) ?_
  rw [List.length_map]
  omega
/-! ### a rule's text, word by word -/
def wIFw : Cs := [105, 102, 32]
def wDOw : Cs := [100, 111, 32]
def optW (pre sep : Cs) (ts : List Cs) : List Cs := if ts = [] then [] else [pre ++ TL.joinL sep ts]
theorem words_txt (k : Cs) (ts ds : List Cs) : TL.joinL [32] ((cON ++ k) :: (optW wIFw cAND ts ++ optW wDOw cTHEN ds)) = txt k ts ds := by
  unfold txt optW optT
  by_cases h : ts = []
  · by_cases h2 : ds = []
    · rw [if_pos h, if_pos h2, if_pos h, if_pos h2]
      show cON ++ k = _
      rw [List.append_nil, List.append_nil]
    · rw [if_pos h, if_neg h2, if_pos h, if_neg h2]
      show (cON ++ k) ++ ([32] ++ (wDOw ++ TL.joinL cTHEN ds)) = _
      rw [List.append_nil, ← List.append_assoc [32]]
      rfl
  · by_cases h2 : ds = []
    · rw [if_neg h, if_pos h2, if_neg h, if_pos h2]
      show (cON ++ k) ++ ([32] ++ (wIFw ++ TL.joinL cAND ts)) = _
      rw [List.append_nil, ← List.append_assoc [32]]
      rfl
    · rw [if_neg h, if_neg h2, if_neg h, if_neg h2]
      show (cON ++ k) ++ ([32] ++ ((wIFw ++ TL.joinL cAND ts) ++ ([32] ++ (wDOw ++ TL.joinL cTHEN ds)))) = _
      rw [show cIF = [32] ++ wIFw from rfl, show cDO = [32] ++ wDOw from rfl]
      simp only [List.append_assoc]
theorem all2_map {X : Type} {f : X → D} {P : X → Prop} : ∀ {items ys : List D}, All2 (fun _ y => ∃ x, P x ∧ y = f x) items ys → ∃ xs : List X, ys = xs.map f ∧ (∀ x ∈ xs, P x) ∧ xs.length = items.length
  | _, _, .nil => ⟨[], rfl, fun _ h => (by cases h), rfl⟩
  | _, _, .cons ⟨x, hx, e⟩ r => by
    obtain ⟨xs, e2, h2, l2⟩ := all2_map r
    refine ⟨x :: xs, by rw [e, e2]; rfl, fun z hz => ?_, by rw [List.length_cons, List.length_cons, l2]⟩
    rcases List.mem_cons.mp hz with y | y
    · rw [y]; exact hx
    · exact h2 z y
theorem not_in {k a t : Cs} (ha : a ∈ [[], wNOT]) (ht : t ∈ plainW k) : a ++ t ∈ testsK k := by
  rcases List.mem_cons.mp ha with z | z
  · rw [z]
    exact List.mem_append_left _ ht
  · rw [List.mem_singleton.mp z]
    exact List.mem_append_right _ (List.mem_map.mpr ⟨t, ht, rfl⟩)
theorem plain_len (k : Cs) : 0 < (plainW k).length := by
  unfold plainW
  split
  · decide
  · decide
theorem testsK_let {k : Cs} (h : k ∈ kinds) : testsK k = LT8 ++ LT8.map (fun t => wNOT ++ t) := by
  unfold testsK plainW
  rw [if_neg fun z => by subst z; exact absurd h (by decide)]
theorem deedsK_let {k : Cs} (h : k ∈ kinds) : deedsK k = [[116, 97, 107, 101], [119, 105, 112, 101]] := by
  unfold deedsK
  rw [if_neg fun z => by subst z; exact absurd h (by decide)]
theorem Rw.K4.ofL {k : Cs} {ts ds : List Cs} (hk : k ∈ kinds) (ht : ∀ t ∈ ts, t ∈ LT8 ++ LT8.map (fun t => wNOT ++ t)) (hd : ∀ d ∈ ds, d ∈ ([[116, 97, 107, 101], [119, 105, 112, 101]] : List Cs)) (lt : ts.length ≤ 4) (ld : ds.length ≤ 4) : Rw.K4 ⟨k, ts, ds⟩ :=
  ⟨List.mem_append_left _ hk, by show ∀ t ∈ ts, t ∈ testsK k; rw [testsK_let hk]; exact ht, by show ∀ d ∈ ds, d ∈ deedsK k; rw [deedsK_let hk]; exact hd, lt, ld⟩
def LT16 : List Cs := LT8 ++ LT8.map fun t => wNOT ++ t
def wAL : List Cs := [[97, 98, 111, 118, 101], [108, 97, 116, 101, 114]]
theorem good_a : ∀ w ∈ wAL, ∀ p ∈ [wOWN, wWHOLE], (∀ t ∈ [p, ((wNOT ++ w) ++ [32]) ++ p], t ∈ LT16) ∧ (∀ t ∈ [wNOT ++ p], t ∈ LT16) ∧ ∀ t ∈ [(w ++ [32]) ++ p], t ∈ LT16 := by decide
theorem own_whole {p : Cs} (h : p = wOWN ∨ p = wWHOLE) : p ∈ [wOWN, wWHOLE] := by rcases h with rfl | rfl <;> decide
theorem take_wipes {ws : List Cs} (h : ws = [] ∨ ws = [wWIPE]) : (∀ d ∈ [[116, 97, 107, 101]] ++ ws, d ∈ ([[116, 97, 107, 101], [119, 105, 112, 101]] : List Cs)) ∧ ([[116, 97, 107, 101]] ++ ws).length ≤ 4 := by rcases h with rfl | rfl <;> decide
theorem good1 {k w p : Cs} (hk : k ∈ kinds) (hw : w ∈ wAL) (hp : p = wOWN ∨ p = wWHOLE) : Rw.K4 ⟨k, [p, ((wNOT ++ w) ++ [32]) ++ p], []⟩ := .ofL hk (good_a w hw p (own_whole hp)).1 (fun _ h => by cases h) (Nat.le_of_ble_eq_true rfl) (Nat.le_of_ble_eq_true rfl)
theorem good2 {k : Cs} {ws : List Cs} (hk : k ∈ kinds) (h : ws = [] ∨ ws = [wWIPE]) : Rw.K4 ⟨k, [], [[116, 97, 107, 101]] ++ ws⟩ := .ofL hk (fun _ h => by cases h) (take_wipes h).1 (Nat.le_of_ble_eq_true rfl) (take_wipes h).2
theorem good3 {k p : Cs} {ws : List Cs} (hk : k ∈ kinds) (hp : p = wOWN ∨ p = wWHOLE) (h : ws = [] ∨ ws = [wWIPE]) : Rw.K4 ⟨k, [wNOT ++ p], [[116, 97, 107, 101]] ++ ws⟩ := .ofL hk (good_a [97, 98, 111, 118, 101] (by decide) p (own_whole hp)).2.1 (take_wipes h).1 (Nat.le_of_ble_eq_true rfl) (take_wipes h).2
theorem good4 {k w p : Cs} {ws : List Cs} (hk : k ∈ kinds) (hw : w ∈ wAL) (hp : p = wOWN ∨ p = wWHOLE) (h : ws = [] ∨ ws = [wWIPE]) : Rw.K4 ⟨k, [(w ++ [32]) ++ p], [[116, 97, 107, 101]] ++ ws⟩ := .ofL hk (good_a w hw p (own_whole hp)).2.2 (take_wipes h).1 (Nat.le_of_ble_eq_true rfl) (take_wipes h).2
def lvlW : List (List Cs) := [[[108, 101, 118, 101, 108]], [[108, 101, 118, 101, 108]], [], [[110, 111, 116, 32, 108, 101, 118, 101, 108]]]
def cntW : List (List Cs) := [[[99, 111, 117, 110, 116]], [[99, 111, 117, 110, 116]], [[100, 114, 111, 112]], [[100, 114, 111, 112], [99, 111, 117, 110, 116]]]
theorem good5 {ts ds : List Cs} (h1 : ts ∈ lvlW) (h2 : ds ∈ cntW) : Rw.K4 ⟨wANS, ts, ds⟩ := by
  have a : ∀ ts ∈ lvlW, (∀ t ∈ ts, t ∈ testsK wANS) ∧ ts.length ≤ 4 := by decide
  have b : ∀ ds ∈ cntW, (∀ d ∈ ds, d ∈ deedsK wANS) ∧ ds.length ≤ 4 := by decide
  exact ⟨(by decide : wANS ∈ kinds ++ [wANS]), (a ts h1).1, (b ds h2).1, (a ts h1).2, (b ds h2).2⟩
theorem push2 (rows : List Rw) (r1 r2 : Rw) : (rows ++ [r1, r2]).map Rw.d = (rows.map Rw.d ++ [r1.d]) ++ [r2.d] := by simp
theorem all_push2 {rows : List Rw} {r1 r2 : Rw} (h : ∀ r ∈ rows, r.K4) (h1 : r1.K4) (h2 : r2.K4) : ∀ r ∈ rows ++ [r1, r2], r.K4 := by
  intro r hr
  simp only [List.mem_append, List.mem_cons, List.not_mem_nil, or_false] at hr
  rcases hr with z | rfl | rfl
  · exact h r z
  · exact h1
  · exact h2
theorem map_nil_dec (ts : List Cs) : (!decide (ts = [])) = true ↔ ts ≠ [] := by
  cases ts <;> simp
section
variable {s : Hc} {f : Nat → Nat → Option (List D → M D)} {Q : D → Hc → Prop}
theorem sq_neT {xs ys : List Cs} (q : Q (.bl (!decide (xs = ys))) s) : sq (cmpOM true f neM (.tup (xs.map .str)) (.tup (ys.map .str))) s Q := sq_keep (fun _ _ _ z => wq_neT z) q
theorem sq_neB {x y : Bool} (q : Q (.bl (!decide (x = y))) s) : sq (cmpOM true f neM (.bl x) (.bl y)) s Q := sq_keep (fun _ _ _ z => wq_neB z) q
theorem pyL_ints (z : S) (n : Nat) (ws : List Nat) : pyL (toPy z n) (ws.map fun x : Nat => D.int (x : Int)) = some (ws.map fun w : Nat => PyData.int (w : Int)) := by
  induction ws with
  | nil => rfl
  | cons w r ih =>
    rw [List.map_cons, pyL, ih]
    cases n <;> rfl
theorem eqv_ints : ∀ xs ys : List Nat, PyData.eqvAll (xs.map fun w : Nat => PyData.int (w : Int)) (ys.map fun w : Nat => PyData.int (w : Int)) = decide (xs = ys)
  | [], [] => by simp [PyData.eqvAll]
  | [], _ :: _ => by simp [PyData.eqvAll]
  | _ :: _, [] => by simp [PyData.eqvAll]
  | x :: xs, y :: ys => by
    rw [List.map_cons, List.map_cons, PyData.eqvAll, PyData.eqv, eqv_ints xs ys]
    by_cases h : x = y
    · by_cases h2 : xs = ys
      · simp [h, h2]
      · simp [h, h2]
    · have : ¬ (x : Int) = (y : Int) := fun z => h (by omega)
      simp [h, this]
theorem eqB_lstI {z : S} {a b : Nat} {xs ys : List Nat} (ha : z.get a = some (.lst (xs.map fun x : Nat => D.int (x : Int)))) (hb : z.get b = some (.lst (ys.map fun x : Nat => D.int (x : Int)))) : eqB z (.ref a) (.ref b) = some (decide (xs = ys)) := by
  show (if (depD 60 (.ref a) && D.beq (.ref a) (.ref b)) = true then some true else (toPy z 60 (.ref a)).bind fun p => (toPy z 60 (.ref b)).map fun q => PyData.eqv p q) = _
  have e1 : toPy z 60 (.ref a) = some (.list (xs.map fun w : Nat => PyData.int (w : Int))) := by simp only [toPy, ha, pyL_ints]; rfl
  have e2 : toPy z 60 (.ref b) = some (.list (ys.map fun w : Nat => PyData.int (w : Int))) := by simp only [toPy, hb, pyL_ints]; rfl
  rw [e1, e2, Option.bind_some, Option.map_some, PyData.eqv, eqv_ints]
  rfl
theorem sq_neLI {a b : Nat} {xs ys : List Nat} (ha : Has s a (.lst (xs.map fun x : Nat => D.int (x : Int)))) (hb : Has s b (.lst (ys.map fun x : Nat => D.int (x : Int)))) (q : Q (.bl (!decide (xs = ys))) s) : sq (cmpOM true f neM (.ref a) (.ref b)) s Q := sq_keep (fun z _ hz k => wq_neX (fun a' b' h h' => by cases h; exact ⟨_, ha z hz⟩) (eqB_lstI (ha z hz) (hb z hz)) k) q
end
theorem Ent.snocStar {x : HP} {X L : Hc} : Ent (x :: hstar X :: L) (hstar (X ++ [x]) :: L) := (Ent.cons Ent.star).trans ((Ent.perm (by rw [List.append_assoc]; exact List.perm_middle.symm)).trans Ent.fold)
theorem Ent.consStar {x : HP} {X L : Hc} : Ent (x :: hstar X :: L) (hstar (x :: X) :: L) := (Ent.cons Ent.star).trans (Ent.fold (L1 := x :: X))
/-- one thing stands; what comes in front does not matter -/
theorem at_skip {L : Hc} {i : Nat} {x : HP} (X : Hc) (e : L[i]? = some x) : (X ++ L)[X.length + i]? = some x := by
  rw [List.getElem?_append_right (Nat.le_add_right _ _), Nat.add_sub_cancel_left]
  exact e
end Ev

/-! ExG: posts: what is shown is about this day. -/
namespace Ev
open PySem PySem.Spec PyProof.Rows L2
theorem partsB_from (isW : Bool) (p : Nat) : ∀ (ds : List Cs) (wo : Option Nat × Option Nat) (v : Nat), ((partsB isW p ds wo).1 = some v ∨ (partsB isW p ds wo).2 = some v) → (wo.1 = some v ∨ wo.2 = some v) ∨ v = p
  | [], _, _, h => .inl h
  | d :: ds, wo, v, h => by
    rw [partsB] at h
    have ih := partsB_from isW p ds _ v h
    by_cases hd : d = wWIPE
    · rw [if_pos hd] at ih
      rcases ih with (z | z) | z
      · exact .inl (.inl z)
      · cases z
      · exact .inr z
    · rw [if_neg hd] at ih
      cases isW with
      | true =>
        rw [if_pos rfl] at ih
        rcases ih with (z | z) | z
        · exact .inr (Option.some.inj z).symm
        · exact .inl (.inr z)
        · exact .inr z
      | false =>
        rw [if_neg Bool.false_ne_true] at ih
        rcases ih with (z | z) | z
        · exact .inl (.inl z)
        · exact .inr (Option.some.inj z).symm
        · exact .inr z
/-- what is shown was about this day -/
def Crs.Vw (c : Crs) : Prop := ∀ q, (c.wh = some q ∨ c.ow = some q) → q < c.ls.length ∧ c.kind q ≠ wOTHER
theorem kind_app {c c' : Crs} {t : List (Cs × Nat)} (h : c'.ls = c.ls ++ t) {q : Nat} (hq : q < c.ls.length) : q < c'.ls.length ∧ c'.kind q = c.kind q := by
  unfold Crs.kind
  rw [h, List.getElem?_append_left hq, List.length_append]
  exact ⟨by omega, rfl⟩
theorem go_ls_app (rs : List Cs) (rows : List Rw) (c : Crs) (e : Evt) : ∃ t, (c.go rs rows e).ls = c.ls ++ t := by
  rw [go_ls]
  cases e with
  | send k ab => exact ⟨_, rfl⟩
  | _ => exact ⟨[], (List.append_nil _).symm⟩
theorem go_vw {rs : List Cs} {rows : List Rw} {c : Crs} {e : Evt} (h : c.Vw) (hc : c.can e = true) : (c.go rs rows e).Vw := by
  obtain ⟨t, ht⟩ := go_ls_app rs rows c e
  intro q hq
  have old : (c.wh = some q ∨ c.ow = some q) → q < (c.go rs rows e).ls.length ∧ (c.go rs rows e).kind q ≠ wOTHER := fun z => by
    have := kind_app ht (h q z).1
    rw [this.2]
    exact ⟨this.1, (h q z).2⟩
  cases e with
  | send k ab =>
    refine old ?_
    revert hq
    cases ab <;> exact id
  | come p =>
    have hq : (partsB (decide (c.kind p ∈ wholes)) p (deedsAt rows (fit rows (c.kind p) (look (c.holds p)))) (c.wh, c.ow)).1 = some q ∨ (partsB (decide (c.kind p ∈ wholes)) p (deedsAt rows (fit rows (c.kind p) (look (c.holds p)))) (c.wh, c.ow)).2 = some q := hq
    rcases partsB_from _ _ _ _ _ hq with z | z
    · exact old z
    · subst z
      unfold Crs.can at hc
      rw [Bool.and_eq_true, decide_eq_true_eq, decide_eq_true_eq] at hc
      have := kind_app ht hc.1
      rw [this.2]
      exact ⟨this.1, hc.2⟩
  | ans =>
    refine old ?_
    have e1 : (c.go rs rows .ans).wh = c.wh ∧ (c.go rs rows .ans).ow = c.ow := by
      unfold Crs.go Crs.does
      cases c.view <;> exact ⟨rfl, rfl⟩
    rw [e1.1, e1.2] at hq
    exact hq
  | heard n =>
    refine old ?_
    have e1 : (c.go rs rows (.heard n)).wh = c.wh ∧ (c.go rs rows (.heard n)).ow = c.ow := by
      unfold Crs.go Crs.does
      show (c.hear rows n).note.wh = _ ∧ (c.hear rows n).note.ow = _
      unfold Crs.hear
      cases c.an[n]? <;> exact ⟨rfl, rfl⟩
    rw [e1.1, e1.2] at hq
    exact hq
theorem run_vw {rs : List Cs} {rows : List Rw} : ∀ {es : List Evt} {c : Crs}, c.Vw → Crs.runs rs rows c es = true → (Crs.run rs rows es c).Vw
  | [], _, h, _ => h
  | e :: es, c, h, hr => by
    unfold Crs.runs at hr
    rw [Bool.and_eq_true] at hr
    exact run_vw (es := es) (c := c.go rs rows e) (go_vw h hr.1) hr.2
theorem crs_vw {rs : List Cs} {rows : List Rw} {days : Nat} {past : List Deed} (h : Past rs rows days past) (g : Cs) (d : Nat) : (crsF rs rows past g d).Vw := run_vw (fun q z => by rcases z with z | z <;> cases z) (matches_ h g d).runs
/-- whether the letter at a place asks -/
def askAt (sent : List Lt) (v : Option Nat) : Bool := match v with
  | none => false
  | some p => match sent[p]? with
    | none => false
    | some x => decide (x.1 ∈ asking)
theorem asks_kind {rs : List Cs} {rows : List Rw} {days : Nat} {past : List Deed} (h : Past rs rows days past) {g : Cs} {d v : Nat} (hv : (crsF rs rows past g d).view = some v) (ha : askAt (sentF rs past) (some v) = true) : (crsF rs rows past g d).kind v ∈ asking := by
  have hl := view_sent h hv
  have vw := (crs_vw h g d) v (by
    unfold Crs.view at hv
    cases ho : (crsF rs rows past g d).ow with
    | none => rw [ho] at hv; exact .inl hv
    | some p => rw [ho] at hv; exact .inr hv)
  unfold askAt at ha
  dsimp only at ha
  rw [List.getElem?_eq_getElem hl] at ha
  have ha : (sentF rs past)[v].1 ∈ asking := of_decide_eq_true ha
  have e : (crsF rs rows past g d).kind v = (ltF d (sentF rs past)[v]).1 := by
    unfold Crs.kind
    rw [(matches_ h g d).ls, List.getElem?_map, List.getElem?_eq_getElem hl]
    rfl
  have ne := vw.2
  rw [e] at ne ⊢
  unfold ltF at ne ⊢
  dsimp only at ne ⊢
  split
  · exact ha
  · rename_i z
    rw [if_neg z] at ne
    exact absurd rfl ne
theorem given_ans (past : List Deed) (g : Cs) (d : Nat) : (givenF (past ++ [.ans g d])).length = (givenF past).length + 1 := by
  unfold givenF
  rw [List.filterMap_append, List.length_append]
  rfl
theorem given_send (past : List Deed) (k : Cs) (day : Option Nat) : givenF (past ++ [.send k day]) = givenF past := by
  unfold givenF
  rw [List.filterMap_append]
  exact List.append_nil _
theorem given_come (past : List Deed) (g : Cs) (p : Nat) : givenF (past ++ [.come g p]) = givenF past := by
  unfold givenF
  rw [List.filterMap_append]
  exact List.append_nil _
theorem given_heard (past : List Deed) (n : Nat) : givenF (past ++ [.heard n]) = givenF past := by
  unfold givenF
  rw [List.filterMap_append]
  exact List.append_nil _
theorem ixN_nat {n j : Nat} (h : j < n) : ixN n (j : Int) = some j := by
  unfold ixN
  rw [if_pos (by omega), if_pos (by omega), Int.toNat_natCast]
theorem row_tests (k : Cs) (ts ds : List Cs) : D.tup [.str k, .tup ((ts.map .str).drop 1), .tup (ds.map .str)] = Rw.d ⟨k, ts.drop 1, ds⟩ := by
  unfold Rw.d
  rw [List.map_drop]
theorem K4.drop1 {k : Cs} {ts ds : List Cs} (R : Rw.K4 ⟨k, ts, ds⟩) : Rw.K4 ⟨k, ts.drop 1, ds⟩ := ⟨R.hk, fun t h => R.ht t (List.mem_of_mem_drop h), R.hd, Nat.le_trans (by rw [List.length_drop]; exact Nat.sub_le _ _) R.lt, R.ld⟩
theorem K4.add {k t : Cs} {ts ds : List Cs} (R : Rw.K4 ⟨k, ts, ds⟩) (h : t ∈ testsK k) : Rw.K4 ⟨k, ts.take 3 ++ [t], ds⟩ := ⟨R.hk, fun x hx => by
  rcases List.mem_append.mp hx with z | z
  · exact R.ht x (List.mem_of_mem_take z)
  · rw [List.mem_singleton.mp z]; exact h, R.hd, by rw [List.length_append]; have := List.length_take_le 3 ts; show _ + 1 ≤ 4; omega, R.ld⟩
theorem all_set {X : Type} {p : X → Prop} {l : List X} {i : Nat} {x : X} (h : ∀ y ∈ l, p y) (hx : p x) : ∀ y ∈ l.set i x, p y := by
  intro y hy
  rcases List.mem_or_eq_of_mem_set hy with z | z
  · exact h y z
  · rw [z]; exact hx
theorem rng_nth {n i : Nat} {d : D} (h : (rngD 0 n)[i]? = some d) : i < n ∧ d = .int (i : Nat) := by
  have hl := (List.getElem?_eq_some_iff.mp h).1
  rw [len_rng] at hl
  refine ⟨hl, ?_⟩
  unfold rngD at h
  rw [List.getElem?_map, List.getElem?_range hl] at h
  have := (Option.some.inj h).symm
  rw [this]
  show D.int (0 + (i : Int)) = _
  rw [Int.zero_add]
/-- where what is walked is a property -/
theorem sq_lockP {s : Hc} {σ : Sl} {i n c : Nat} {f : Cs} {fs : List (Cs × D)} {me : Sl → M D} {Q : D → Hc → Prop} (e : σ[i]?.join = some (.ref n)) (g : Has s n (.ins c fs)) (hf : ffind fs f = none) (h : sq (me σ) s Q) : sq (mLock (pathOf 0 [.fld f (.var i)]) me σ) s Q := fun F z hz => by
  have e' := slot_eq e
  exact wq_lock0 (by simp only [pathOf, e', g z hz.left, hf]) (h F z hz)
/-- a tuple beside itself -/
theorem sq_neR {s : Hc} {f : Nat → Nat → Option (List D → M D)} {ds : List D} {Q : D → Hc → Prop} (h : ds.all (depD 59) = true) (q : Q (.bl false) s) : sq (cmpOM true f neM (.tup ds) (.tup ds)) s Q := sq_keep (fun z _ _ k => wq_neX (b := true) (fun _ _ h => by cases h) (by
  show (if (depD 60 (.tup ds) && D.beq (.tup ds) (.tup ds)) = true then some true else (toPy z 60 (.tup ds)).bind fun p => (toPy z 60 (.tup ds)).map fun q => PyData.eqv p q) = _
  rw [if_pos (by rw [Bool.and_eq_true]; exact ⟨by show ds.all (depD 59) = true; exact h, D.beq_refl _⟩)]) k) q
theorem txts_map (es : List Evt) : (es.map fun e => D.str e.txt) = (es.map Evt.txt).map .str := by
  rw [List.map_map]
  rfl
/-- what is frozen can be had as often as wanted -/
theorem Ent.roI {L : Hc} {b : Nat} {o : O} (g : Has L b o) (hz : o.frz = true) : Ent L (ro b o :: L) := fun s A h => ⟨A, fun _ z => z, fun _ => False, A, fun a => ⟨.inr, fun z => z.elim False.elim id⟩, fun _ z => z.elim, ⟨hz, g s ⟨A, h⟩, fun _ z => z⟩, h⟩
theorem SeqL.tl {L : Hc} {x : HP} {v : D} {l : List D} (h : SeqL L v l) : SeqL (x :: L) v l := h.sub (List.sublist_cons_self _ _)
end Ev

namespace Lwk08
open PySem PySem.Spec PyProof.Rows L2 Ev
def top (i : Nat) : Stmt := PySem.Challenge.pw_overtaken_k08_plans_put_together.main.body.getD i (.Pass ⟨0, 0, 0, 0⟩)
def clsBody : Stmt → List Stmt
  | .ClassDef _ _ _ b _ _ _ _ _ _ _ => b
  | _ => []
def mem (i j : Nat) : Stmt := (clsBody (top i)).getD j (.Pass ⟨0, 0, 0, 0⟩)
def d0 : Df := ⟨0, "", "is_sequence", "is_sequence", defArgs (top 14), defBody (top 14), defScope (top 14), [], [], ["value"], ["value"],
  [.ret (.bi 10 [.var 0, .tup [.con (.ty 3), .con (.ty 4)]])], [], false⟩
def d1 : Df := ⟨0, "", "is_word", "is_word", defArgs (top 15), defBody (top 15), defScope (top 15), [], [], ["value", "words"], ["value", "words"],
  [.ret (.and (.bi 10 [.var 0, .con (.ty 2)]) (.one (.cmp 6 (.var 0) (.var 1))))], [], false⟩
def d2 : Df := ⟨0, "", "are_words", "are_words", defArgs (top 17), defBody (top 17), defScope (top 17), [], [], ["value", "words", ".0", "part"], ["value", "words"],
  [.ret (.and (.call 0 [.var 0]) (.one (.bi 8 [.lc 0 [.var 0] (.nm 3) none (.call 1 [.var 3, .var 1]) [2, 3]])))], [], false⟩
def d3 : Df := ⟨0, "", "tests_of", "tests_of", defArgs (top 18), defBody (top 18), defScope (top 18), [], [], ["kind", "plain", ".0", "test"], ["kind"],
  [.asg (.nm 1) (.ite (.tVal (.cmp 4 (.var 0) (.con (.str [97, 110, 115, 119, 101, 114])))) (.con (.tup [.str [108, 101, 118, 101, 108]])) (.con (.tup [.str [119, 104, 111, 108, 101], .str [111, 119, 110], .str [97, 98, 111, 118, 101, 32, 119, 104, 111, 108, 101], .str [97, 98, 111, 118, 101, 32, 111, 119, 110], .str [108, 101, 118, 101, 108, 32, 119, 104, 111, 108, 101], .str [108, 101, 118, 101, 108, 32, 111, 119, 110], .str [108, 97, 116, 101, 114, 32, 119, 104, 111, 108, 101], .str [108, 97, 116, 101, 114, 32, 111, 119, 110]]))), .ret (.tup [.star (.var 1), .star (.lc 0 [.var 1] (.nm 3) none (.js [.con (.str [110, 111, 116, 32]), .fmt (.var 3)]) [2, 3])])], [], false⟩
def d4 : Df := ⟨0, "", "deeds_of", "deeds_of", defArgs (top 19), defBody (top 19), defScope (top 19), [], [], ["kind"], ["kind"],
  [.ret (.ite (.tVal (.cmp 4 (.var 0) (.con (.str [97, 110, 115, 119, 101, 114])))) (.con (.tup [.str [99, 111, 117, 110, 116], .str [100, 114, 111, 112]])) (.con (.tup [.str [116, 97, 107, 101], .str [119, 105, 112, 101]])))], [], false⟩
def d5 : Df := ⟨1, "Rule", "__init__", "Rule.__init__", defArgs (mem 20 0), defBody (mem 20 0), defScope (mem 20 0), [.adr (He.dflAt ("Rule", some "__init__") 0), .adr (He.dflAt ("Rule", some "__init__") 1)], [.tup [], .tup []], ["self", "kind", "tests", "deeds"], ["self", "kind", "tests", "deeds"],
  [.ite (.tAnd (.tNot (.tVal (.call 1 [.var 1, .con (.tup [.str [97, 115, 107], .str [100, 97, 121], .str [111, 102, 102], .str [115, 116, 111, 112]])]))) (.one (.tNot (.tVal (.call 1 [.var 1, .tup [.con (.str [97, 110, 115, 119, 101, 114])]]))))) [.fail] [], .ite (.tNot (.tVal (.call 2 [.var 2, .call 3 [.var 1]]))) [.fail] [], .ite (.tNot (.tVal (.call 2 [.var 3, .call 4 [.var 1]]))) [.fail] [], .asg (.at [107, 105, 110, 100] (.var 0)) (.var 1), .asg (.at [116, 101, 115, 116, 115] (.var 0)) (.bi 7 [.var 2]), .asg (.at [100, 101, 101, 100, 115] (.var 0)) (.bi 7 [.var 3])], [], false⟩
def d6 : Df := ⟨2, "Rule", "read", "Rule.read", defArgs (mem 20 1), defBody (mem 20 1), defScope (mem 20 1), [], [], ["cls", "text", "rule"], ["cls", "text"],
  [.asg (.nm 2) (.call 10 [.var 1]), .ite (.tVal (.cmp 8 (.var 2) (.con (.non)))) [.fail] [], .ret (.var 2)], [], false⟩
def d7 : Df := ⟨1, "Rule", "__eq__", "Rule.__eq__", defArgs (mem 20 2), defBody (mem 20 2), defScope (mem 20 2), [], [], ["self", "other"], ["self", "other"],
  [.ret (.and (.bi 10 [.var 1, .con (.cls 5)]) (.one (.cmp 4 (.bi 5 [.var 0]) (.bi 5 [.var 1]))))], [], false⟩
def d8 : Df := ⟨1, "Rule", "__str__", "Rule.__str__", defArgs (mem 20 3), defBody (mem 20 3), defScope (mem 20 3), [], [], ["self", "asked", "done"], ["self"],
  [.asg (.nm 1) (.ite (.tVal (.cmp 1 (.bi 0 [.fld [116, 101, 115, 116, 115] (.var 0)]) (.con (.int 0)))) (.bin 0 (.con (.str [32, 105, 102, 32])) (.bm 5 (.con (.str [32, 97, 110, 100, 32])) [.fld [116, 101, 115, 116, 115] (.var 0)])) (.con (.str []))), .asg (.nm 2) (.ite (.tVal (.cmp 1 (.bi 0 [.fld [100, 101, 101, 100, 115] (.var 0)]) (.con (.int 0)))) (.bin 0 (.con (.str [32, 100, 111, 32])) (.bm 5 (.con (.str [32, 116, 104, 101, 110, 32])) [.fld [100, 101, 101, 100, 115] (.var 0)])) (.con (.str []))), .ret (.js [.con (.str [111, 110, 32]), .fmt (.fld [107, 105, 110, 100] (.var 0)), .fmt (.var 1), .fmt (.var 2)])], [], false⟩
def d9 : Df := ⟨0, "", "parts_in", "parts_in", defArgs (top 21), defBody (top 21), defScope (top 21), [], [], ["text", "head", "deeds", "spot"], ["text"],
  [.asg (.tp [.nm 1, .nm 2]) (.tup [.var 0, .tup []]), .ite (.tVal (.cmp 6 (.con (.str [32, 100, 111, 32])) (.var 0))) [.asg (.nm 3) (.bm 4 (.var 0) [.con (.str [32, 100, 111, 32])]), .asg (.tp [.nm 1, .nm 2]) (.tup [.sl (.var 0) none (some (.var 3)), .bi 7 [.bm 6 (.sl (.var 0) (some (.bin 0 (.var 3) (.con (.int 4)))) none) [.con (.str [32, 116, 104, 101, 110, 32])]]])] [], .ite (.tVal (.cmp 6 (.con (.str [32, 105, 102, 32])) (.var 1))) [.asg (.nm 3) (.bm 4 (.var 1) [.con (.str [32, 105, 102, 32])]), .ret (.tup [.sl (.var 1) (some (.con (.int 3))) (some (.var 3)), .bi 7 [.bm 6 (.sl (.var 1) (some (.bin 0 (.var 3) (.con (.int 4)))) none) [.con (.str [32, 97, 110, 100, 32])]], .var 2])] [], .ret (.tup [.sl (.var 1) (some (.con (.int 3))) none, .tup [], .var 2])], [], false⟩
def d10 : Df := ⟨0, "", "rule_in", "rule_in", defArgs (top 22), defBody (top 22), defScope (top 22), [], [], ["text", "kind", "tests", "deeds"], ["text"],
  [.ite (.tVal (.cmp 5 (.sl (.var 0) none (some (.con (.int 3)))) (.con (.str [111, 110, 32])))) [.ret (.con (.non))] [], .asg (.tp [.nm 1, .nm 2, .nm 3]) (.call 9 [.var 0]), .tryN [.ret (.mk 5 [.var 1, .var 2, .var 3])]], [], false⟩
def d11 : Df := ⟨0, "", "are_kinds", "are_kinds", defArgs (top 24), defBody (top 24), defScope (top 24), [], [], ["value", ".0", "kind"], ["value"],
  [.ite (.tOr (.tNot (.tVal (.call 0 [.var 0]))) (.one (.tNot (.tVal (.bi 8 [.lc 0 [.var 0] (.nm 2) none (.call 1 [.var 2, .con (.tup [.str [97, 115, 107], .str [100, 97, 121], .str [111, 102, 102], .str [115, 116, 111, 112]])]) [1, 2]]))))) [.ret (.con (.bl false))] [], .ret (.cmp 4 (.lenset (.var 0)) (.bi 0 [.var 0]))], [], false⟩
def d12 : Df := ⟨0, "", "need_kinds", "need_kinds", defArgs (top 25), defBody (top 25), defScope (top 25), [], [], ["value", ".0", "kind"], ["value"],
  [.ite (.tNot (.tVal (.call 11 [.var 0]))) [.fail] [], .ret (.bi 7 [.lc 0 [.con (.tup [.str [97, 115, 107], .str [100, 97, 121], .str [111, 102, 102], .str [115, 116, 111, 112]])] (.nm 2) (some (.tVal (.cmp 6 (.var 2) (.var 0)))) (.var 2) [1, 2]])], [], false⟩
def d13 : Df := ⟨1, "Plan", "__init__", "Plan.__init__", defArgs (mem 26 0), defBody (mem 26 0), defScope (mem 26 0), [.adr (He.dflAt ("Plan", some "__init__") 0), .adr (He.dflAt ("Plan", some "__init__") 1)], [.tup [], .tup []], ["self", "raises", "rules", ".0", "rule"], ["self", "raises", "rules"],
  [.asg (.at [114, 97, 105, 115, 101, 115] (.var 0)) (.call 12 [.var 1]), .ite (.tOr (.tNot (.tVal (.call 0 [.var 2]))) (.one (.tNot (.tVal (.bi 8 [.lc 0 [.var 2] (.nm 4) none (.bi 10 [.var 4, .con (.cls 5)]) [3, 4]]))))) [.fail] [], .asg (.at [114, 117, 108, 101, 115] (.var 0)) (.bi 7 [.var 2]), .asg (.at [119, 97, 108, 107, 101, 100] (.var 0)) (.dict [] [])], [], false⟩
def d14 : Df := ⟨2, "Plan", "read", "Plan.read", defArgs (mem 26 1), defBody (mem 26 1), defScope (mem 26 1), [], [], ["cls", "text", "lines", "words", "rules", "at", "rule", ".0", "line"], ["cls", "text"],
  [.asg (.nm 2) (.bm 6 (.var 1) [.con (.str [10])]), .asg (.nm 3) (.bm 6 (.ix (.var 2) (.con (.int 0))) [.con (.str [32])]), .ite (.tOr (.tVal (.cmp 5 (.ix (.var 3) (.con (.int 0))) (.con (.str [114, 97, 105, 115, 101])))) (.one (.tNot (.tVal (.call 11 [.sl (.var 3) (some (.con (.int 1))) none]))))) [.fail] [], .asgL 4 0 [.sl (.var 2) (some (.con (.int 1))) none] (.nm 8) none (.call 10 [.var 8]) [7, 8], .for_ (.tp [.nm 5, .nm 6]) 1 [.var 4] [.ite (.tVal (.cmp 8 (.var 6) (.con (.non)))) [.fail] []], .ret (.mkL 0 [.sl (.var 3) (some (.con (.int 1))) none, .var 4])], [], false⟩
def d15 : Df := ⟨1, "Plan", "need", "Plan.need", defArgs (mem 26 2), defBody (mem 26 2), defScope (mem 26 2), [], [], ["self", "at"], ["self", "at"],
  [.ite (.tNot (.tVal (.chain 2 0 (.con (.int 0)) (.var 1) (.bi 0 [.fld [114, 117, 108, 101, 115] (.var 0)])))) [.fail] []], [], false⟩
def d16 : Df := ⟨1, "Plan", "__len__", "Plan.__len__", defArgs (mem 26 5), defBody (mem 26 5), defScope (mem 26 5), [], [], ["self"], ["self"],
  [.ret (.bi 0 [.fld [114, 117, 108, 101, 115] (.var 0)])], [], false⟩
def d17 : Df := ⟨1, "Plan", "__getitem__", "Plan.__getitem__", defArgs (mem 26 6), defBody (mem 26 6), defScope (mem 26 6), [], [], ["self", "at"], ["self", "at"],
  [.expr (.me 3 (.var 0) [.var 1]), .ret (.ix (.fld [114, 117, 108, 101, 115] (.var 0)) (.var 1))], [], false⟩
def d18 : Df := ⟨1, "Plan", "__add__", "Plan.__add__", defArgs (mem 26 8), defBody (mem 26 8), defScope (mem 26 8), [], [], ["self", "other", "raises", ".0", "kind"], ["self", "other"],
  [.ite (.tNot (.tVal (.bi 10 [.var 1, .con (.cls 6)]))) [.fail] [], .asgL 2 0 [.con (.tup [.str [97, 115, 107], .str [100, 97, 121], .str [111, 102, 102], .str [115, 116, 111, 112]])] (.nm 4) (some (.tOr (.tVal (.cmp 6 (.var 4) (.fld [114, 97, 105, 115, 101, 115] (.var 0)))) (.one (.tVal (.cmp 6 (.var 4) (.fld [114, 97, 105, 115, 101, 115] (.var 1))))))) (.var 4) [3, 4], .ret (.mk 6 [.var 2, .bin 0 (.fld [114, 117, 108, 101, 115] (.var 0)) (.fld [114, 117, 108, 101, 115] (.var 1))])], [], false⟩
def d19 : Df := ⟨1, "Plan", "__eq__", "Plan.__eq__", defArgs (mem 26 9), defBody (mem 26 9), defScope (mem 26 9), [], [], ["self", "other"], ["self", "other"],
  [.ret (.and (.bi 10 [.var 1, .con (.cls 6)]) (.one (.cmp 4 (.bi 5 [.var 0]) (.bi 5 [.var 1]))))], [], false⟩
def d20 : Df := ⟨1, "Plan", "__str__", "Plan.__str__", defArgs (mem 26 10), defBody (mem 26 10), defScope (mem 26 10), [], [], ["self", ".0", "rule"], ["self"],
  [.ret (.bm 5 (.con (.str [10])) [.lst [.bm 5 (.con (.str [32])) [.lst [.con (.str [114, 97, 105, 115, 101]), .star (.fld [114, 97, 105, 115, 101, 115] (.var 0))]], .star (.lc 0 [.fld [114, 117, 108, 101, 115] (.var 0)] (.nm 2) none (.bi 5 [.var 2]) [1, 2])]])], [], false⟩
def d21 : Df := ⟨0, "", "_law_deal", "_law_deal", defArgs (top 28), defBody (top 28), defScope (top 28), [], [], ["_law_script", "_law_base", "_law_cell", "_law_cells", "_law_mixed_here", ".0"], ["_law_script", "_law_base"],
  [.asgL 3 0 [.sl (.var 0) (some (.var 1)) (some (.con (.int 63)))] (.nm 2) none (.bi 1 [.var 2]) [5, 2], .asg (.nm 4) (.bin 0 (.con (.int 16127)) (.bin 2 (.con (.int 7919)) (.var 1))), .for_ (.nm 2) 0 [.var 3] [.asg (.nm 4) (.bin 4 (.bi 4 [.bin 0 (.bin 2 (.var 4) (.con (.int 48271))) (.bin 4 (.bi 4 [.var 2]) (.con (.int 2147483629)))]) (.con (.int 2147483647)))], .ret (.lst [.rev (.lc 0 [.var 3] (.nm 2) (some (.tVal (.cmp 3 (.var 2) (.bin 5 (.con (.int 10)) (.con (.int 18)))))) (.var 2) [5, 2]), .var 4])], [], false⟩
def d22 : Df := ⟨0, "", "_law_draw", "_law_draw", defArgs (top 29), defBody (top 29), defScope (top 29), [], [], ["_law_deal_here", "_law_many", "_law_left"], ["_law_deal_here", "_law_many"],
  [.whl (.tAnd (.tVal (.cmp 5 (.ix (.var 0) (.con (.int 0))) (.lst []))) (.one (.tVal (.cmp 4 (.ix (.ix (.var 0) (.con (.int 0))) (.neg (.con (.int 1)))) (.con (.int 0)))))) [.expr (.bm 2 (.ix (.var 0) (.con (.int 0))) [])], .ite (.tVal (.cmp 5 (.ix (.var 0) (.con (.int 0))) (.lst []))) [.asg (.nm 2) (.bm 2 (.ix (.var 0) (.con (.int 0))) []), .expr (.bm 0 (.ix (.var 0) (.con (.int 0))) [.bin 3 (.var 2) (.var 1)]), .ret (.bin 4 (.bi 4 [.var 2]) (.var 1))] [], .asg (.sub (.var 0) (.con (.int 1))) (.bin 4 (.bi 4 [.bin 0 (.bin 2 (.ix (.var 0) (.con (.int 1))) (.con (.int 69621))) (.con (.int 40961))]) (.con (.int 2147483647))), .ret (.bin 4 (.bi 4 [.bin 3 (.ix (.var 0) (.con (.int 1))) (.con (.int 16))]) (.var 1))], [], false⟩
def d23 : Df := ⟨0, "", "_law_pick", "_law_pick", defArgs (top 30), defBody (top 30), defScope (top 30), [], [], ["_law_deal_here", "_law_some"], ["_law_deal_here", "_law_some"],
  [.ret (.ix (.var 1) (.call 22 [.var 0, .bi 0 [.var 1]]))], [], false⟩
def d24 : Df := ⟨0, "", "_law_tests_of", "_law_tests_of", defArgs (top 32), defBody (top 32), defScope (top 32), [], [], ["_law_kind", "_law_found", "_law_word"], ["_law_kind"],
  [.ite (.tVal (.cmp 4 (.var 0) (.con (.str [97, 110, 115, 119, 101, 114])))) [.ret (.lst [.con (.str [108, 101, 118, 101, 108])])] [], .asg (.nm 1) (.lst [.con (.str [119, 104, 111, 108, 101]), .con (.str [111, 119, 110])]), .for_ (.nm 2) 0 [.tup [.con (.str [97, 98, 111, 118, 101]), .con (.str [108, 101, 118, 101, 108]), .con (.str [108, 97, 116, 101, 114])]] [.expr (.bm 1 (.var 1) [.lst [.bin 0 (.var 2) (.con (.str [32, 119, 104, 111, 108, 101])), .bin 0 (.var 2) (.con (.str [32, 111, 119, 110]))]])], .ret (.var 1)], [], false⟩
def d25 : Df := ⟨0, "", "_law_deeds_of", "_law_deeds_of", defArgs (top 33), defBody (top 33), defScope (top 33), [], [], ["_law_kind"], ["_law_kind"],
  [.ret (.ite (.tVal (.cmp 4 (.var 0) (.con (.str [97, 110, 115, 119, 101, 114])))) (.lst [.con (.str [99, 111, 117, 110, 116]), .con (.str [99, 111, 117, 110, 116]), .con (.str [100, 114, 111, 112])]) (.lst [.con (.str [116, 97, 107, 101]), .con (.str [116, 97, 107, 101]), .con (.str [119, 105, 112, 101])]))], [], false⟩
def d26 : Df := ⟨0, "", "_law_rule_text", "_law_rule_text", defArgs (top 38), defBody (top 38), defScope (top 38), [], [], ["_law_rule", "_law_text_here"], ["_law_rule"],
  [.asg (.nm 1) (.bin 0 (.bin 0 (.con (.str [111, 110, 32])) (.ix (.var 0) (.con (.int 0)))) (.ite (.tVal (.cmp 5 (.ix (.var 0) (.con (.int 1))) (.tup []))) (.bin 0 (.con (.str [32, 105, 102, 32])) (.bm 5 (.con (.str [32, 97, 110, 100, 32])) [.ix (.var 0) (.con (.int 1))])) (.con (.str [])))), .ret (.bin 0 (.var 1) (.ite (.tVal (.cmp 5 (.ix (.var 0) (.con (.int 2))) (.tup []))) (.bin 0 (.con (.str [32, 100, 111, 32])) (.bm 5 (.con (.str [32, 116, 104, 101, 110, 32])) [.ix (.var 0) (.con (.int 2))])) (.con (.str []))))], [], false⟩
def d27 : Df := ⟨0, "", "_law_text", "_law_text", defArgs (top 39), defBody (top 39), defScope (top 39), [], [], ["_law_drawn", ".0", "_law_rule"], ["_law_drawn"],
  [.ret (.bm 5 (.con (.str [10])) [.bin 0 (.lst [.bm 5 (.con (.str [32])) [.bin 0 (.tup [.con (.str [114, 97, 105, 115, 101])]) (.ix (.var 0) (.con (.int 0)))]]) (.lc 0 [.ix (.var 0) (.con (.int 1))] (.nm 2) none (.call 26 [.var 2]) [1, 2])])], [], false⟩
def d28 : Df := ⟨0, "", "_law_wide_rule", "_law_wide_rule", defArgs (top 40), defBody (top 40), defScope (top 40), [], [], ["_law_deal_here", "_law_kind", "_law_found", "_law_done", "_law_turn"], ["_law_deal_here"],
  [.asg (.nm 1) (.call 23 [.var 0, .lst [.con (.str [97, 115, 107]), .con (.str [100, 97, 121]), .con (.str [111, 102, 102]), .con (.str [115, 116, 111, 112]), .con (.str [97, 110, 115, 119, 101, 114])]]), .asg (.tp [.nm 2, .nm 3]) (.tup [.lst [], .lst []]), .for_ (.nm 4) 2 [.call 22 [.var 0, .con (.int 5)]] [.expr (.bm 0 (.var 2) [.bin 0 (.call 23 [.var 0, .lst [.con (.str []), .con (.str [110, 111, 116, 32])]]) (.call 23 [.var 0, .call 24 [.var 1]])])], .for_ (.nm 4) 2 [.call 22 [.var 0, .con (.int 5)]] [.expr (.bm 0 (.var 3) [.call 23 [.var 0, .call 25 [.var 1]]])], .ret (.tup [.var 1, .bi 7 [.var 2], .bi 7 [.var 3]])], [], false⟩
def d29 : Df := ⟨0, "", "_law_wide_plan", "_law_wide_plan", defArgs (top 41), defBody (top 41), defScope (top 41), [], [], ["_law_deal_here", "_law_most", "_law_some", ".0", "_law_one", "_law_turn"], ["_law_deal_here", "_law_most"],
  [.asgL 2 0 [.tup [.con (.str [97, 115, 107]), .con (.str [100, 97, 121]), .con (.str [111, 102, 102]), .con (.str [115, 116, 111, 112])]] (.nm 4) (some (.tVal (.cmp 4 (.call 22 [.var 0, .con (.int 2)]) (.con (.int 0))))) (.var 4) [3, 4], .ret (.tup [.bi 7 [.var 2], .lc 2 [.call 22 [.var 0, .bin 0 (.var 1) (.con (.int 1))]] (.nm 5) none (.call 28 [.var 0]) [3, 5]])], [], false⟩
def d30 : Df := ⟨0, "", "_law_made", "_law_made", defArgs (top 42), defBody (top 42), defScope (top 42), [], [], ["_law_drawn"], ["_law_drawn"],
  [.ret (.cme 0 (.con (.cls 6)) [.call 27 [.var 0]])], [], false⟩
def d31 : Df := ⟨0, "", "law", "law", defArgs (top 43), defBody (top 43), defScope (top 43), [], [], ["_law_script", "_law_spot", "_law_deal_here", "_law_one", "_law_two", "_law_three", "_law_p", "_law_q", "_law_r", "_law_some", "_law_both", "_law_held", ".0", "_law_turn", "_law_word"], ["_law_script"],
  [.for_ (.nm 1) 2 [.bi 2 [.con (.int 2), .bi 3 [.con (.int 5), .bi 0 [.var 0]]]] [.asg (.nm 2) (.call 21 [.var 0, .var 1]), .asg (.tp [.nm 3, .nm 4, .nm 5]) (.lc 2 [.con (.int 3)] (.nm 13) none (.call 29 [.var 2, .con (.int 3)]) [12, 13]), .asg (.tp [.nm 6, .nm 7, .nm 8]) (.tup [.call 30 [.var 3], .call 30 [.var 4], .call 30 [.var 5]]), .asg (.nm 9) (.bi 7 [.lc 0 [.tup [.con (.str [97, 115, 107]), .con (.str [100, 97, 121]), .con (.str [111, 102, 102]), .con (.str [115, 116, 111, 112])]] (.nm 14) (some (.tVal (.cmp 6 (.var 14) (.bin 0 (.ix (.var 3) (.con (.int 0))) (.ix (.var 4) (.con (.int 0))))))) (.var 14) [12, 14]]), .asg (.nm 10) (.bin 0 (.var 6) (.var 7)), .ite (.tOr (.tVal (.cmp 5 (.bi 5 [.var 10]) (.call 27 [.tup [.var 9, .bin 0 (.ix (.var 3) (.con (.int 1))) (.ix (.var 4) (.con (.int 1)))]]))) (.tOr (.tVal (.cmp 5 (.bi 5 [.var 6]) (.call 27 [.var 3]))) (.one (.tVal (.cmp 5 (.bi 5 [.var 7]) (.call 27 [.var 4])))))) [.ret (.con (.bl false))] [], .asg (.nm 11) (.var 6), .asg (.nm 11) (.bin 6 (.var 11) (.var 7)), .ite (.tOr (.tVal (.cmp 5 (.var 11) (.var 10))) (.tOr (.tVal (.cmp 5 (.bi 5 [.var 6]) (.call 27 [.var 3]))) (.one (.tVal (.cmp 5 (.bi 0 [.var 11]) (.bin 0 (.bi 0 [.var 6]) (.bi 0 [.var 7]))))))) [.ret (.con (.bl false))] [], .ite (.tOr (.tVal (.cmp 5 (.bin 0 (.bin 0 (.var 6) (.var 7)) (.var 8)) (.bin 0 (.var 6) (.bin 0 (.var 7) (.var 8))))) (.tOr (.tVal (.cmp 5 (.bin 0 (.var 6) (.mk 6 [])) (.var 6))) (.one (.tVal (.cmp 5 (.bin 0 (.mk 6 []) (.var 6)) (.var 6)))))) [.ret (.con (.bl false))] [], .ite (.tOr (.tVal (.cmp 5 (.fld [114, 97, 105, 115, 101, 115] (.bin 0 (.var 6) (.var 6))) (.fld [114, 97, 105, 115, 101, 115] (.var 6)))) (.one (.tVal (.cmp 5 (.bi 0 [.bin 0 (.var 6) (.var 6)]) (.bin 2 (.con (.int 2)) (.bi 0 [.var 6])))))) [.ret (.con (.bl false))] []], .ret (.con (.bl true))], [], false⟩
def lw : Lw := ⟨["LetterError", "InvalidRule", "InvalidPlan", "InvalidText", "NoRule", "Rule", "Plan"], [d0, d1, d2, d3, d4, d5, d6, d7, d8, d9, d10, d11, d12, d13, d14, d15, d16, d17, d18, d19, d20, d21, d22, d23, d24, d25, d26, d27, d28, d29, d30, d31],
  [(⟨"LetterError", .cls 0⟩ : Str × Gv), (⟨"InvalidRule", .cls 1⟩ : Str × Gv), (⟨"InvalidPlan", .cls 2⟩ : Str × Gv), (⟨"InvalidText", .cls 3⟩ : Str × Gv), (⟨"NoRule", .cls 4⟩ : Str × Gv), (⟨"KINDS", .con (.tup [.str [97, 115, 107], .str [100, 97, 121], .str [111, 102, 102], .str [115, 116, 111, 112]])⟩ : Str × Gv), (⟨"ANSWER", .con (.str [97, 110, 115, 119, 101, 114])⟩ : Str × Gv), (⟨"LETTER_TESTS", .con (.tup [.str [119, 104, 111, 108, 101], .str [111, 119, 110], .str [97, 98, 111, 118, 101, 32, 119, 104, 111, 108, 101], .str [97, 98, 111, 118, 101, 32, 111, 119, 110], .str [108, 101, 118, 101, 108, 32, 119, 104, 111, 108, 101], .str [108, 101, 118, 101, 108, 32, 111, 119, 110], .str [108, 97, 116, 101, 114, 32, 119, 104, 111, 108, 101], .str [108, 97, 116, 101, 114, 32, 111, 119, 110]])⟩ : Str × Gv), (⟨"ANSWER_TESTS", .con (.tup [.str [108, 101, 118, 101, 108]])⟩ : Str × Gv), (⟨"LETTER_DEEDS", .con (.tup [.str [116, 97, 107, 101], .str [119, 105, 112, 101]])⟩ : Str × Gv), (⟨"ANSWER_DEEDS", .con (.tup [.str [99, 111, 117, 110, 116], .str [100, 114, 111, 112]])⟩ : Str × Gv), (⟨"is_sequence", .fn 0⟩ : Str × Gv), (⟨"is_word", .fn 1⟩ : Str × Gv), (⟨"are_words", .fn 2⟩ : Str × Gv), (⟨"tests_of", .fn 3⟩ : Str × Gv), (⟨"deeds_of", .fn 4⟩ : Str × Gv), (⟨"Rule", .cls 5⟩ : Str × Gv), (⟨"parts_in", .fn 9⟩ : Str × Gv), (⟨"rule_in", .fn 10⟩ : Str × Gv), (⟨"are_kinds", .fn 11⟩ : Str × Gv), (⟨"need_kinds", .fn 12⟩ : Str × Gv), (⟨"Plan", .cls 6⟩ : Str × Gv), (⟨"_law_deal", .fn 21⟩ : Str × Gv), (⟨"_law_draw", .fn 22⟩ : Str × Gv), (⟨"_law_pick", .fn 23⟩ : Str × Gv), (⟨"_law_tests_of", .fn 24⟩ : Str × Gv), (⟨"_law_deeds_of", .fn 25⟩ : Str × Gv), (⟨"_law_rule_text", .fn 26⟩ : Str × Gv), (⟨"_law_text", .fn 27⟩ : Str × Gv), (⟨"_law_wide_rule", .fn 28⟩ : Str × Gv), (⟨"_law_wide_plan", .fn 29⟩ : Str × Gv), (⟨"_law_made", .fn 30⟩ : Str × Gv), (⟨"law", .fn 31⟩ : Str × Gv)],
  [(5, 1, 7), (5, 2, 8), (6, 3, 15), (6, 4, 16), (6, 5, 17), (6, 6, 18), (6, 1, 19), (6, 2, 20)], [(5, 0, 6), (6, 0, 14)], [(5, 5), (6, 13)], ["__init__", "__eq__", "__str__", "need", "__len__", "__getitem__", "__add__"], ["read"],
  [(⟨[107, 105, 110, 100], [5]⟩ : Cs × List Nat), (⟨[116, 101, 115, 116, 115], [5]⟩ : Cs × List Nat), (⟨[100, 101, 101, 100, 115], [5]⟩ : Cs × List Nat), (⟨[106, 111, 105, 110], [5, 6]⟩ : Cs × List Nat), (⟨[115, 112, 108, 105, 116], [6]⟩ : Cs × List Nat), (⟨[114, 97, 105, 115, 101, 115], [6]⟩ : Cs × List Nat), (⟨[114, 117, 108, 101, 115], [6]⟩ : Cs × List Nat), (⟨[119, 97, 108, 107, 101, 100], [6]⟩ : Cs × List Nat)],
  [(⟨.bi 0, .ty 3, false⟩ : TyD × D × Bool), (⟨.bi 1, .ty 3, false⟩ : TyD × D × Bool), (⟨.bi 2, .ty 3, false⟩ : TyD × D × Bool), (⟨.bi 3, .ty 3, true⟩ : TyD × D × Bool), (⟨.bi 4, .ty 3, false⟩ : TyD × D × Bool), (⟨.bi 5, .ty 3, false⟩ : TyD × D × Bool), (⟨.bi 6, .ty 3, false⟩ : TyD × D × Bool), (⟨.own 5, .ty 3, false⟩ : TyD × D × Bool), (⟨.own 6, .ty 3, false⟩ : TyD × D × Bool), (⟨.bi 0, .ty 4, false⟩ : TyD × D × Bool), (⟨.bi 1, .ty 4, false⟩ : TyD × D × Bool), (⟨.bi 2, .ty 4, false⟩ : TyD × D × Bool), (⟨.bi 3, .ty 4, false⟩ : TyD × D × Bool), (⟨.bi 4, .ty 4, true⟩ : TyD × D × Bool), (⟨.bi 5, .ty 4, false⟩ : TyD × D × Bool), (⟨.bi 6, .ty 4, false⟩ : TyD × D × Bool), (⟨.own 5, .ty 4, false⟩ : TyD × D × Bool), (⟨.own 6, .ty 4, false⟩ : TyD × D × Bool), (⟨.bi 0, .ty 2, false⟩ : TyD × D × Bool), (⟨.bi 1, .ty 2, false⟩ : TyD × D × Bool), (⟨.bi 2, .ty 2, true⟩ : TyD × D × Bool), (⟨.bi 3, .ty 2, false⟩ : TyD × D × Bool), (⟨.bi 4, .ty 2, false⟩ : TyD × D × Bool), (⟨.bi 5, .ty 2, false⟩ : TyD × D × Bool), (⟨.bi 6, .ty 2, false⟩ : TyD × D × Bool), (⟨.own 5, .ty 2, false⟩ : TyD × D × Bool), (⟨.own 6, .ty 2, false⟩ : TyD × D × Bool), (⟨.bi 0, .cls 5, false⟩ : TyD × D × Bool), (⟨.bi 1, .cls 5, false⟩ : TyD × D × Bool), (⟨.bi 2, .cls 5, false⟩ : TyD × D × Bool), (⟨.bi 3, .cls 5, false⟩ : TyD × D × Bool), (⟨.bi 4, .cls 5, false⟩ : TyD × D × Bool), (⟨.bi 5, .cls 5, false⟩ : TyD × D × Bool), (⟨.bi 6, .cls 5, false⟩ : TyD × D × Bool), (⟨.own 5, .cls 5, true⟩ : TyD × D × Bool), (⟨.own 6, .cls 5, false⟩ : TyD × D × Bool), (⟨.bi 0, .cls 6, false⟩ : TyD × D × Bool), (⟨.bi 1, .cls 6, false⟩ : TyD × D × Bool), (⟨.bi 2, .cls 6, false⟩ : TyD × D × Bool), (⟨.bi 3, .cls 6, false⟩ : TyD × D × Bool), (⟨.bi 4, .cls 6, false⟩ : TyD × D × Bool), (⟨.bi 5, .cls 6, false⟩ : TyD × D × Bool), (⟨.bi 6, .cls 6, false⟩ : TyD × D × Bool), (⟨.own 5, .cls 6, false⟩ : TyD × D × Bool), (⟨.own 6, .cls 6, true⟩ : TyD × D × Bool)],
  [],
  [], [(6, 16)], [(5, 5, 7), (5, 6, 7), (6, 5, 19), (6, 6, 19)], [(5, 8), (6, 20)], [(6, 17)], [(6, 18)]⟩
def c0 (P : Pg) : Sl → M Fl := (gSeq (gRet (mA (mCons (mVar 0) (mCons (mA (mCons (mC (.ty 3)) (mCons (mC (.ty 4)) mNil)) tupM) mNil)) (isiM P.kit))) gNext)
def b0 : Bd := ⟨1, 1, [], c0, false⟩
theorem o0 : BdOk d0 b0 := ⟨rfl, rfl, rfl, fun P => by kernel_rfl, rfl⟩
def c1 (P : Pg) : Sl → M Fl := (gSeq (gRet (mAndV (mA (mCons (mVar 0) (mCons (mC (.ty 2)) mNil)) (isiM P.kit)) (m2 (mVar 0) (mVar 1) inM))) gNext)
def b1 : Bd := ⟨2, 2, [], c1, false⟩
theorem o1 : BdOk d1 b1 := ⟨rfl, rfl, rfl, fun P => by kernel_rfl, rfl⟩
def c2 (P : Pg) : Sl → M Fl := (gSeq (gRet (mAndV (mA (mCons (mVar 0) mNil) (P.fn 0)) (mA (mCons (mLock (pathOf 0 [.var 0]) (mLc (mAny (mVar 0)) (.nm 3) (fun _ => M.pure true) (mA (mCons (mVar 3) (mCons (mVar 1) mNil)) (P.fn 1)) [2, 3])) mNil) allM))) gNext)
def b2 : Bd := ⟨2, 4, [], c2, false⟩
theorem o2 : BdOk d2 b2 := ⟨rfl, rfl, rfl, fun P => by kernel_rfl, rfl⟩
def c3 (P : Pg) : Sl → M Fl := (gSeq (gAsg (mIf (mBool (m2 (mVar 0) (mC (.str [97, 110, 115, 119, 101, 114])) (cmpOM false (fun c c' => (P.eqf c c').map P.fn) eqM))) (mC (.tup [.str [108, 101, 118, 101, 108]])) (mC (.tup [.str [119, 104, 111, 108, 101], .str [111, 119, 110], .str [97, 98, 111, 118, 101, 32, 119, 104, 111, 108, 101], .str [97, 98, 111, 118, 101, 32, 111, 119, 110], .str [108, 101, 118, 101, 108, 32, 119, 104, 111, 108, 101], .str [108, 101, 118, 101, 108, 32, 111, 119, 110], .str [108, 97, 116, 101, 114, 32, 119, 104, 111, 108, 101], .str [108, 97, 116, 101, 114, 32, 111, 119, 110]]))) (gN 1)) (gSeq (gRet (mA (mStar (mVar 1) (mStar (mLock (pathOf 0 [.var 1]) (mLc (mAny (mVar 1)) (.nm 3) (fun _ => M.pure true) (mJoined [(mC (.str [110, 111, 116, 32])), (m1 (mVar 3) fmtM)]) [2, 3])) mNil)) tupM)) gNext))
def b3 : Bd := ⟨1, 4, [], c3, false⟩
theorem o3 : BdOk d3 b3 := ⟨rfl, rfl, rfl, fun P => by kernel_rfl, rfl⟩
def c4 (P : Pg) : Sl → M Fl := (gSeq (gRet (mIf (mBool (m2 (mVar 0) (mC (.str [97, 110, 115, 119, 101, 114])) (cmpOM false (fun c c' => (P.eqf c c').map P.fn) eqM))) (mC (.tup [.str [99, 111, 117, 110, 116], .str [100, 114, 111, 112]])) (mC (.tup [.str [116, 97, 107, 101], .str [119, 105, 112, 101]])))) gNext)
def b4 : Bd := ⟨1, 1, [], c4, false⟩
theorem o4 : BdOk d4 b4 := ⟨rfl, rfl, rfl, fun P => by kernel_rfl, rfl⟩
def c5 (P : Pg) : Sl → M Fl := (gSeq (gIf (mAnd (mNot (mBool (mA (mCons (mVar 1) (mCons (mC (.tup [.str [97, 115, 107], .str [100, 97, 121], .str [111, 102, 102], .str [115, 116, 111, 112]])) mNil)) (P.fn 1)))) (mNot (mBool (mA (mCons (mVar 1) (mCons (mA (mCons (mC (.str [97, 110, 115, 119, 101, 114])) mNil) tupM) mNil)) (P.fn 1))))) (gSeq (fun _ => M.fail) gNext) gNext) (gSeq (gIf (mNot (mBool (mA (mCons (mVar 2) (mCons (mA (mCons (mVar 1) mNil) (P.fn 3)) mNil)) (P.fn 2)))) (gSeq (fun _ => M.fail) gNext) gNext) (gSeq (gIf (mNot (mBool (mA (mCons (mVar 3) (mCons (mA (mCons (mVar 1) mNil) (P.fn 4)) mNil)) (P.fn 2)))) (gSeq (fun _ => M.fail) gNext) gNext) (gSeq (gAsg (mVar 1) (gAttr (P.pf [107, 105, 110, 100]) [107, 105, 110, 100] (mVar 0))) (gSeq (gAsg (mA (mCons (mVar 2) mNil) tupleM) (gAttr (P.pf [116, 101, 115, 116, 115]) [116, 101, 115, 116, 115] (mVar 0))) (gSeq (gAsg (mA (mCons (mVar 3) mNil) tupleM) (gAttr (P.pf [100, 101, 101, 100, 115]) [100, 101, 101, 100, 115] (mVar 0))) gNext))))))
def b5 : Bd := ⟨4, 4, [.tup [], .tup []], c5, false⟩
theorem o5 : BdOk d5 b5 := ⟨rfl, rfl, rfl, fun P => by kernel_rfl, rfl⟩
def c6 (P : Pg) : Sl → M Fl := (gSeq (gAsg (mA (mCons (mVar 1) mNil) (P.fn 10)) (gN 2)) (gSeq (gIf (mBool (m2 (mVar 2) (mC (.non)) isM)) (gSeq (fun _ => M.fail) gNext) gNext) (gSeq (gRet (mVar 2)) gNext)))
def b6 : Bd := ⟨2, 3, [], c6, false⟩
theorem o6 : BdOk d6 b6 := ⟨rfl, rfl, rfl, fun P => by kernel_rfl, rfl⟩
def c7 (P : Pg) : Sl → M Fl := (gSeq (gRet (mAndV (mA (mCons (mVar 1) (mCons (mC (.cls 5)) mNil)) (isiM P.kit)) (m2 (mA (mCons (mVar 0) mNil) (strOM fun c => (P.sf c).map P.fn)) (mA (mCons (mVar 1) mNil) (strOM fun c => (P.sf c).map P.fn)) (cmpOM false (fun c c' => (P.eqf c c').map P.fn) eqM)))) gNext)
def b7 : Bd := ⟨2, 2, [], c7, false⟩
theorem o7 : BdOk d7 b7 := ⟨rfl, rfl, rfl, fun P => by kernel_rfl, rfl⟩
def c8 (P : Pg) : Sl → M Fl := (gSeq (gAsg (mIf (mBool (m2 (mA (mCons (m1 (mVar 0) (getMP (P.pf [116, 101, 115, 116, 115]) (fun c => (P.pr [116, 101, 115, 116, 115] c).map P.fn) [116, 101, 115, 116, 115])) mNil) (lenOM P.ns.length fun c => (P.ln c).map P.fn)) (mC (.int 0)) gtM)) (m2 (mC (.str [32, 105, 102, 32])) (mMt (mC (.str [32, 97, 110, 100, 32])) (bmA 5) (mCons (m1 (mVar 0) (getMP (P.pf [116, 101, 115, 116, 115]) (fun c => (P.pr [116, 101, 115, 116, 115] c).map P.fn) [116, 101, 115, 116, 115])) mNil)) (addOM fun c => (P.ad c).map P.fn)) (mC (.str []))) (gN 1)) (gSeq (gAsg (mIf (mBool (m2 (mA (mCons (m1 (mVar 0) (getMP (P.pf [100, 101, 101, 100, 115]) (fun c => (P.pr [100, 101, 101, 100, 115] c).map P.fn) [100, 101, 101, 100, 115])) mNil) (lenOM P.ns.length fun c => (P.ln c).map P.fn)) (mC (.int 0)) gtM)) (m2 (mC (.str [32, 100, 111, 32])) (mMt (mC (.str [32, 116, 104, 101, 110, 32])) (bmA 5) (mCons (m1 (mVar 0) (getMP (P.pf [100, 101, 101, 100, 115]) (fun c => (P.pr [100, 101, 101, 100, 115] c).map P.fn) [100, 101, 101, 100, 115])) mNil)) (addOM fun c => (P.ad c).map P.fn)) (mC (.str []))) (gN 2)) (gSeq (gRet (mJoined [(mC (.str [111, 110, 32])), (m1 (m1 (mVar 0) (getMP (P.pf [107, 105, 110, 100]) (fun c => (P.pr [107, 105, 110, 100] c).map P.fn) [107, 105, 110, 100])) fmtM), (m1 (mVar 1) fmtM), (m1 (mVar 2) fmtM)])) gNext)))
def b8 : Bd := ⟨1, 3, [], c8, false⟩
theorem o8 : BdOk d8 b8 := ⟨rfl, rfl, rfl, fun P => by kernel_rfl, rfl⟩
def c9 (P : Pg) : Sl → M Fl := (gSeq (gAsg (mA (mCons (mVar 0) (mCons (mA mNil tupM) mNil)) tupM) (gUn 2 (gsCons (gN 1) (gsCons (gN 2) gsNil)))) (gSeq (gIf (mBool (m2 (mC (.str [32, 100, 111, 32])) (mVar 0) inM)) (gSeq (gAsg (mMt (mVar 0) (bmA 4) (mCons (mC (.str [32, 100, 111, 32])) mNil)) (gN 3)) (gSeq (gAsg (mA (mCons (mSl P.ns (mVar 0) (mPart none) (mPart (some (mVar 3)))) (mCons (mA (mCons (mMt (mSl P.ns (mVar 0) (mPart (some (m2 (mVar 3) (mC (.int 4)) (addOM fun c => (P.ad c).map P.fn)))) (mPart none)) (bmA 6) (mCons (mC (.str [32, 116, 104, 101, 110, 32])) mNil)) mNil) tupleM) mNil)) tupM) (gUn 2 (gsCons (gN 1) (gsCons (gN 2) gsNil)))) gNext)) gNext) (gSeq (gIf (mBool (m2 (mC (.str [32, 105, 102, 32])) (mVar 1) inM)) (gSeq (gAsg (mMt (mVar 1) (bmA 4) (mCons (mC (.str [32, 105, 102, 32])) mNil)) (gN 3)) (gSeq (gRet (mA (mCons (mSl P.ns (mVar 1) (mPart (some (mC (.int 3)))) (mPart (some (mVar 3)))) (mCons (mA (mCons (mMt (mSl P.ns (mVar 1) (mPart (some (m2 (mVar 3) (mC (.int 4)) (addOM fun c => (P.ad c).map P.fn)))) (mPart none)) (bmA 6) (mCons (mC (.str [32, 97, 110, 100, 32])) mNil)) mNil) tupleM) (mCons (mVar 2) mNil))) tupM)) gNext)) gNext) (gSeq (gRet (mA (mCons (mSl P.ns (mVar 1) (mPart (some (mC (.int 3)))) (mPart none)) (mCons (mA mNil tupM) (mCons (mVar 2) mNil))) tupM)) gNext))))
def b9 : Bd := ⟨1, 4, [], c9, false⟩
theorem o9 : BdOk d9 b9 := ⟨rfl, rfl, rfl, fun P => by kernel_rfl, rfl⟩
def c10 (P : Pg) : Sl → M Fl := (gSeq (gIf (mBool (m2 (mSl P.ns (mVar 0) (mPart none) (mPart (some (mC (.int 3))))) (mC (.str [111, 110, 32])) (cmpOM true (fun c c' => (P.eqf c c').map P.fn) neM))) (gSeq (gRet (mC (.non))) gNext) gNext) (gSeq (gAsg (mA (mCons (mVar 0) mNil) (P.fn 9)) (gUn 3 (gsCons (gN 1) (gsCons (gN 2) (gsCons (gN 3) gsNil))))) (gSeq (fun σ => M.fl ((gSeq (gRet (mMkI P 5 (mCons (mVar 1) (mCons (mVar 2) (mCons (mVar 3) mNil))))) gNext) σ)) gNext)))
def b10 : Bd := ⟨1, 4, [], c10, false⟩
theorem o10 : BdOk d10 b10 := ⟨rfl, rfl, rfl, fun P => by kernel_rfl, rfl⟩
def c11 (P : Pg) : Sl → M Fl := (gSeq (gIf (mOr (mNot (mBool (mA (mCons (mVar 0) mNil) (P.fn 0)))) (mNot (mBool (mA (mCons (mLock (pathOf 0 [.var 0]) (mLc (mAny (mVar 0)) (.nm 2) (fun _ => M.pure true) (mA (mCons (mVar 2) (mCons (mC (.tup [.str [97, 115, 107], .str [100, 97, 121], .str [111, 102, 102], .str [115, 116, 111, 112]])) mNil)) (P.fn 1)) [1, 2])) mNil) allM)))) (gSeq (gRet (mC (.bl false))) gNext) gNext) (gSeq (gRet (m2 (m1 (mVar 0) lenSetM) (mA (mCons (mVar 0) mNil) (lenOM P.ns.length fun c => (P.ln c).map P.fn)) (cmpOM false (fun c c' => (P.eqf c c').map P.fn) eqM))) gNext))
def b11 : Bd := ⟨1, 3, [], c11, false⟩
theorem o11 : BdOk d11 b11 := ⟨rfl, rfl, rfl, fun P => by kernel_rfl, rfl⟩
def c12 (P : Pg) : Sl → M Fl := (gSeq (gIf (mNot (mBool (mA (mCons (mVar 0) mNil) (P.fn 11)))) (gSeq (fun _ => M.fail) gNext) gNext) (gSeq (gRet (mA (mCons (mLock (fun _ _ => none) (mLc (mAny (mC (.tup [.str [97, 115, 107], .str [100, 97, 121], .str [111, 102, 102], .str [115, 116, 111, 112]]))) (.nm 2) (mBool (m2 (mVar 2) (mVar 0) inM)) (mVar 2) [1, 2])) mNil) tupleM)) gNext))
def b12 : Bd := ⟨1, 3, [], c12, false⟩
theorem o12 : BdOk d12 b12 := ⟨rfl, rfl, rfl, fun P => by kernel_rfl, rfl⟩
def c13 (P : Pg) : Sl → M Fl := (gSeq (gAsg (mA (mCons (mVar 1) mNil) (P.fn 12)) (gAttr (P.pf [114, 97, 105, 115, 101, 115]) [114, 97, 105, 115, 101, 115] (mVar 0))) (gSeq (gIf (mOr (mNot (mBool (mA (mCons (mVar 2) mNil) (P.fn 0)))) (mNot (mBool (mA (mCons (mLock (pathOf 0 [.var 2]) (mLc (mAny (mVar 2)) (.nm 4) (fun _ => M.pure true) (mA (mCons (mVar 4) (mCons (mC (.cls 5)) mNil)) (isiM P.kit)) [3, 4])) mNil) allM)))) (gSeq (fun _ => M.fail) gNext) gNext) (gSeq (gAsg (mA (mCons (mVar 2) mNil) tupleM) (gAttr (P.pf [114, 117, 108, 101, 115]) [114, 117, 108, 101, 115] (mVar 0))) (gSeq (gAsg (mDisp []) (gAttr (P.pf [119, 97, 108, 107, 101, 100]) [119, 97, 108, 107, 101, 100] (mVar 0))) gNext))))
def b13 : Bd := ⟨3, 5, [.tup [], .tup []], c13, false⟩
theorem o13 : BdOk d13 b13 := ⟨rfl, rfl, rfl, fun P => by kernel_rfl, rfl⟩
def c14 (P : Pg) : Sl → M Fl := (gSeq (gAsg (mMt (mVar 1) (bmA 6) (mCons (mC (.str [10])) mNil)) (gN 2)) (gSeq (gAsg (mMt (m2 (mVar 2) (mC (.int 0)) (ixOM fun c => (P.gi c).map P.fn)) (bmA 6) (mCons (mC (.str [32])) mNil)) (gN 3)) (gSeq (gIf (mOr (mBool (m2 (m2 (mVar 3) (mC (.int 0)) (ixOM fun c => (P.gi c).map P.fn)) (mC (.str [114, 97, 105, 115, 101])) (cmpOM true (fun c c' => (P.eqf c c').map P.fn) neM))) (mNot (mBool (mA (mCons (mSl P.ns (mVar 3) (mPart (some (mC (.int 1)))) (mPart none)) mNil) (P.fn 11))))) (gSeq (fun _ => M.fail) gNext) gNext) (gSeq (gLock (fun _ _ => none) (gAsg (mLc (mAny (mSl P.ns (mVar 2) (mPart (some (mC (.int 1)))) (mPart none))) (.nm 8) (fun _ => M.pure true) (mA (mCons (mVar 8) mNil) (P.fn 10)) [7, 8]) (gN 4))) (gSeq (gLock (fun _ _ => none) (gFor (mEn (mVar 4)) (gUn 2 (gsCons (gN 5) (gsCons (gN 6) gsNil))) (gSeq (gIf (mBool (m2 (mVar 6) (mC (.non)) isM)) (gSeq (fun _ => M.fail) gNext) gNext) gNext))) (gSeq (gRet (mMkL 0 (fun c => (P.ini c).map P.fn) (mCons (mSl P.ns (mVar 3) (mPart (some (mC (.int 1)))) (mPart none)) (mCons (mVar 4) mNil)))) gNext))))))
def b14 : Bd := ⟨2, 9, [], c14, false⟩
theorem o14 : BdOk d14 b14 := ⟨rfl, rfl, rfl, fun P => by kernel_rfl, rfl⟩
def c15 (P : Pg) : Sl → M Fl := (gSeq (gIf (mNot (mBool (mChain (mC (.int 0)) (mVar 1) (mA (mCons (m1 (mVar 0) (getMP (P.pf [114, 117, 108, 101, 115]) (fun c => (P.pr [114, 117, 108, 101, 115] c).map P.fn) [114, 117, 108, 101, 115])) mNil) (lenOM P.ns.length fun c => (P.ln c).map P.fn)) leM ltM))) (gSeq (fun _ => M.fail) gNext) gNext) gNext)
def b15 : Bd := ⟨2, 2, [], c15, false⟩
theorem o15 : BdOk d15 b15 := ⟨rfl, rfl, rfl, fun P => by kernel_rfl, rfl⟩
def c16 (P : Pg) : Sl → M Fl := (gSeq (gRet (mA (mCons (m1 (mVar 0) (getMP (P.pf [114, 117, 108, 101, 115]) (fun c => (P.pr [114, 117, 108, 101, 115] c).map P.fn) [114, 117, 108, 101, 115])) mNil) (lenOM P.ns.length fun c => (P.ln c).map P.fn))) gNext)
def b16 : Bd := ⟨1, 1, [], c16, false⟩
theorem o16 : BdOk d16 b16 := ⟨rfl, rfl, rfl, fun P => by kernel_rfl, rfl⟩
def c17 (P : Pg) : Sl → M Fl := (gSeq (gExpr (mMe (mVar 0) (mtOf P P.me 3) (P.mn 3) (mCons (mVar 1) mNil))) (gSeq (gRet (m2 (m1 (mVar 0) (getMP (P.pf [114, 117, 108, 101, 115]) (fun c => (P.pr [114, 117, 108, 101, 115] c).map P.fn) [114, 117, 108, 101, 115])) (mVar 1) (ixOM fun c => (P.gi c).map P.fn))) gNext))
def b17 : Bd := ⟨2, 2, [], c17, false⟩
theorem o17 : BdOk d17 b17 := ⟨rfl, rfl, rfl, fun P => by kernel_rfl, rfl⟩
def c18 (P : Pg) : Sl → M Fl := (gSeq (gIf (mNot (mBool (mA (mCons (mVar 1) (mCons (mC (.cls 6)) mNil)) (isiM P.kit)))) (gSeq (fun _ => M.fail) gNext) gNext) (gSeq (gLock (fun _ _ => none) (gAsg (mLc (mAny (mC (.tup [.str [97, 115, 107], .str [100, 97, 121], .str [111, 102, 102], .str [115, 116, 111, 112]]))) (.nm 4) (mOr (mBool (m2 (mVar 4) (m1 (mVar 0) (getMP (P.pf [114, 97, 105, 115, 101, 115]) (fun c => (P.pr [114, 97, 105, 115, 101, 115] c).map P.fn) [114, 97, 105, 115, 101, 115])) inM)) (mBool (m2 (mVar 4) (m1 (mVar 1) (getMP (P.pf [114, 97, 105, 115, 101, 115]) (fun c => (P.pr [114, 97, 105, 115, 101, 115] c).map P.fn) [114, 97, 105, 115, 101, 115])) inM))) (mVar 4) [3, 4]) (gN 2))) (gSeq (gRet (mMkI P 6 (mCons (mVar 2) (mCons (m2 (m1 (mVar 0) (getMP (P.pf [114, 117, 108, 101, 115]) (fun c => (P.pr [114, 117, 108, 101, 115] c).map P.fn) [114, 117, 108, 101, 115])) (m1 (mVar 1) (getMP (P.pf [114, 117, 108, 101, 115]) (fun c => (P.pr [114, 117, 108, 101, 115] c).map P.fn) [114, 117, 108, 101, 115])) (addOM fun c => (P.ad c).map P.fn)) mNil)))) gNext)))
def b18 : Bd := ⟨2, 5, [], c18, false⟩
theorem o18 : BdOk d18 b18 := ⟨rfl, rfl, rfl, fun P => by kernel_rfl, rfl⟩
def c19 (P : Pg) : Sl → M Fl := (gSeq (gRet (mAndV (mA (mCons (mVar 1) (mCons (mC (.cls 6)) mNil)) (isiM P.kit)) (m2 (mA (mCons (mVar 0) mNil) (strOM fun c => (P.sf c).map P.fn)) (mA (mCons (mVar 1) mNil) (strOM fun c => (P.sf c).map P.fn)) (cmpOM false (fun c c' => (P.eqf c c').map P.fn) eqM)))) gNext)
def b19 : Bd := ⟨2, 2, [], c19, false⟩
theorem o19 : BdOk d19 b19 := ⟨rfl, rfl, rfl, fun P => by kernel_rfl, rfl⟩
def c20 (P : Pg) : Sl → M Fl := (gSeq (gRet (mMt (mC (.str [10])) (bmA 5) (mCons (mA (mCons (mMt (mC (.str [32])) (bmA 5) (mCons (mA (mCons (mC (.str [114, 97, 105, 115, 101])) (mStar (m1 (mVar 0) (getMP (P.pf [114, 97, 105, 115, 101, 115]) (fun c => (P.pr [114, 97, 105, 115, 101, 115] c).map P.fn) [114, 97, 105, 115, 101, 115])) mNil)) lstM) mNil)) (mStar (mLock (pathOf 0 [.fld [114, 117, 108, 101, 115] (.var 0)]) (mLc (mAny (m1 (mVar 0) (getMP (P.pf [114, 117, 108, 101, 115]) (fun c => (P.pr [114, 117, 108, 101, 115] c).map P.fn) [114, 117, 108, 101, 115]))) (.nm 2) (fun _ => M.pure true) (mA (mCons (mVar 2) mNil) (strOM fun c => (P.sf c).map P.fn)) [1, 2])) mNil)) lstM) mNil))) gNext)
def b20 : Bd := ⟨1, 3, [], c20, false⟩
theorem o20 : BdOk d20 b20 := ⟨rfl, rfl, rfl, fun P => by kernel_rfl, rfl⟩
def c21 (P : Pg) : Sl → M Fl := (gSeq (gLock (fun _ _ => none) (gAsg (mLc (mAny (mSl P.ns (mVar 0) (mPart (some (mVar 1))) (mPart (some (mC (.int 63)))))) (.nm 2) (fun _ => M.pure true) (mA (mCons (mVar 2) mNil) absM) [5, 2]) (gN 3))) (gSeq (gAsg (m2 (mC (.int 16127)) (m2 (mC (.int 7919)) (mVar 1) mulM) (addOM fun c => (P.ad c).map P.fn)) (gN 4)) (gSeq (gLock (pathOf 0 [.var 3]) (gFor (mAny (mVar 3)) (gN 2) (gSeq (gAsg (m2 (mA (mCons (m2 (m2 (mVar 4) (mC (.int 48271)) mulM) (m2 (mA (mCons (mVar 2) mNil) intM) (mC (.int 2147483629)) modM) (addOM fun c => (P.ad c).map P.fn)) mNil) intM) (mC (.int 2147483647)) modM) (gN 4)) gNext))) (gSeq (gRet (mA (mCons (m1 (mLock (pathOf 0 [.var 3]) (mLc (mAny (mVar 3)) (.nm 2) (mBool (m2 (mVar 2) (m2 (mC (.int 10)) (mC (.int 18)) powM) geM)) (mVar 2) [5, 2])) revAM) (mCons (mVar 4) mNil)) lstM)) gNext))))
def b21 : Bd := ⟨2, 6, [], c21, false⟩
theorem o21 : BdOk d21 b21 := ⟨rfl, rfl, rfl, fun P => by kernel_rfl, rfl⟩
def c22 (P : Pg) : Sl → M Fl := (gSeq (gWhile 1000000 (mAnd (mBool (m2 (m2 (mVar 0) (mC (.int 0)) (ixOM fun c => (P.gi c).map P.fn)) (mA mNil lstM) (cmpOM true (fun c c' => (P.eqf c c').map P.fn) neM))) (mBool (m2 (m2 (m2 (mVar 0) (mC (.int 0)) (ixOM fun c => (P.gi c).map P.fn)) (m1 (mC (.int 1)) negM) (ixOM fun c => (P.gi c).map P.fn)) (mC (.int 0)) (cmpOM false (fun c c' => (P.eqf c c').map P.fn) eqM)))) (gSeq (gExpr (mMt (m2 (mVar 0) (mC (.int 0)) (ixOM fun c => (P.gi c).map P.fn)) (bmA 2) mNil)) gNext)) (gSeq (gIf (mBool (m2 (m2 (mVar 0) (mC (.int 0)) (ixOM fun c => (P.gi c).map P.fn)) (mA mNil lstM) (cmpOM true (fun c c' => (P.eqf c c').map P.fn) neM))) (gSeq (gAsg (mMt (m2 (mVar 0) (mC (.int 0)) (ixOM fun c => (P.gi c).map P.fn)) (bmA 2) mNil) (gN 2)) (gSeq (gExpr (mMt (m2 (mVar 0) (mC (.int 0)) (ixOM fun c => (P.gi c).map P.fn)) (bmA 0) (mCons (m2 (mVar 2) (mVar 1) fdivM) mNil))) (gSeq (gRet (m2 (mA (mCons (mVar 2) mNil) intM) (mVar 1) modM)) gNext))) gNext) (gSeq (gAsg (m2 (mA (mCons (m2 (m2 (m2 (mVar 0) (mC (.int 1)) (ixOM fun c => (P.gi c).map P.fn)) (mC (.int 69621)) mulM) (mC (.int 40961)) (addOM fun c => (P.ad c).map P.fn)) mNil) intM) (mC (.int 2147483647)) modM) (gSubT (mVar 0) (mC (.int 1)))) (gSeq (gRet (m2 (mA (mCons (m2 (m2 (mVar 0) (mC (.int 1)) (ixOM fun c => (P.gi c).map P.fn)) (mC (.int 16)) fdivM) mNil) intM) (mVar 1) modM)) gNext))))
def b22 : Bd := ⟨2, 3, [], c22, false⟩
theorem o22 : BdOk d22 b22 := ⟨rfl, rfl, rfl, fun P => by kernel_rfl, rfl⟩
def c23 (P : Pg) : Sl → M Fl := (gSeq (gRet (m2 (mVar 1) (mA (mCons (mVar 0) (mCons (mA (mCons (mVar 1) mNil) (lenOM P.ns.length fun c => (P.ln c).map P.fn)) mNil)) (P.fn 22)) (ixOM fun c => (P.gi c).map P.fn))) gNext)
def b23 : Bd := ⟨2, 2, [], c23, false⟩
theorem o23 : BdOk d23 b23 := ⟨rfl, rfl, rfl, fun P => by kernel_rfl, rfl⟩
def c24 (P : Pg) : Sl → M Fl := (gSeq (gIf (mBool (m2 (mVar 0) (mC (.str [97, 110, 115, 119, 101, 114])) (cmpOM false (fun c c' => (P.eqf c c').map P.fn) eqM))) (gSeq (gRet (mA (mCons (mC (.str [108, 101, 118, 101, 108])) mNil) lstM)) gNext) gNext) (gSeq (gAsg (mA (mCons (mC (.str [119, 104, 111, 108, 101])) (mCons (mC (.str [111, 119, 110])) mNil)) lstM) (gN 1)) (gSeq (gLock (fun _ _ => none) (gFor (mAny (mA (mCons (mC (.str [97, 98, 111, 118, 101])) (mCons (mC (.str [108, 101, 118, 101, 108])) (mCons (mC (.str [108, 97, 116, 101, 114])) mNil))) tupM)) (gN 2) (gSeq (gExpr (mMt (mVar 1) (bmA 1) (mCons (mA (mCons (m2 (mVar 2) (mC (.str [32, 119, 104, 111, 108, 101])) (addOM fun c => (P.ad c).map P.fn)) (mCons (m2 (mVar 2) (mC (.str [32, 111, 119, 110])) (addOM fun c => (P.ad c).map P.fn)) mNil)) lstM) mNil))) gNext))) (gSeq (gRet (mVar 1)) gNext))))
def b24 : Bd := ⟨1, 3, [], c24, false⟩
theorem o24 : BdOk d24 b24 := ⟨rfl, rfl, rfl, fun P => by kernel_rfl, rfl⟩
def c25 (P : Pg) : Sl → M Fl := (gSeq (gRet (mIf (mBool (m2 (mVar 0) (mC (.str [97, 110, 115, 119, 101, 114])) (cmpOM false (fun c c' => (P.eqf c c').map P.fn) eqM))) (mA (mCons (mC (.str [99, 111, 117, 110, 116])) (mCons (mC (.str [99, 111, 117, 110, 116])) (mCons (mC (.str [100, 114, 111, 112])) mNil))) lstM) (mA (mCons (mC (.str [116, 97, 107, 101])) (mCons (mC (.str [116, 97, 107, 101])) (mCons (mC (.str [119, 105, 112, 101])) mNil))) lstM))) gNext)
def b25 : Bd := ⟨1, 1, [], c25, false⟩
theorem o25 : BdOk d25 b25 := ⟨rfl, rfl, rfl, fun P => by kernel_rfl, rfl⟩
def c26 (P : Pg) : Sl → M Fl := (gSeq (gAsg (m2 (m2 (mC (.str [111, 110, 32])) (m2 (mVar 0) (mC (.int 0)) (ixOM fun c => (P.gi c).map P.fn)) (addOM fun c => (P.ad c).map P.fn)) (mIf (mBool (m2 (m2 (mVar 0) (mC (.int 1)) (ixOM fun c => (P.gi c).map P.fn)) (mA mNil tupM) (cmpOM true (fun c c' => (P.eqf c c').map P.fn) neM))) (m2 (mC (.str [32, 105, 102, 32])) (mMt (mC (.str [32, 97, 110, 100, 32])) (bmA 5) (mCons (m2 (mVar 0) (mC (.int 1)) (ixOM fun c => (P.gi c).map P.fn)) mNil)) (addOM fun c => (P.ad c).map P.fn)) (mC (.str []))) (addOM fun c => (P.ad c).map P.fn)) (gN 1)) (gSeq (gRet (m2 (mVar 1) (mIf (mBool (m2 (m2 (mVar 0) (mC (.int 2)) (ixOM fun c => (P.gi c).map P.fn)) (mA mNil tupM) (cmpOM true (fun c c' => (P.eqf c c').map P.fn) neM))) (m2 (mC (.str [32, 100, 111, 32])) (mMt (mC (.str [32, 116, 104, 101, 110, 32])) (bmA 5) (mCons (m2 (mVar 0) (mC (.int 2)) (ixOM fun c => (P.gi c).map P.fn)) mNil)) (addOM fun c => (P.ad c).map P.fn)) (mC (.str []))) (addOM fun c => (P.ad c).map P.fn))) gNext))
def b26 : Bd := ⟨1, 2, [], c26, false⟩
theorem o26 : BdOk d26 b26 := ⟨rfl, rfl, rfl, fun P => by kernel_rfl, rfl⟩
def c27 (P : Pg) : Sl → M Fl := (gSeq (gRet (mMt (mC (.str [10])) (bmA 5) (mCons (m2 (mA (mCons (mMt (mC (.str [32])) (bmA 5) (mCons (m2 (mA (mCons (mC (.str [114, 97, 105, 115, 101])) mNil) tupM) (m2 (mVar 0) (mC (.int 0)) (ixOM fun c => (P.gi c).map P.fn)) (addOM fun c => (P.ad c).map P.fn)) mNil)) mNil) lstM) (mLock (fun _ _ => none) (mLc (mAny (m2 (mVar 0) (mC (.int 1)) (ixOM fun c => (P.gi c).map P.fn))) (.nm 2) (fun _ => M.pure true) (mA (mCons (mVar 2) mNil) (P.fn 26)) [1, 2])) (addOM fun c => (P.ad c).map P.fn)) mNil))) gNext)
def b27 : Bd := ⟨1, 3, [], c27, false⟩
theorem o27 : BdOk d27 b27 := ⟨rfl, rfl, rfl, fun P => by kernel_rfl, rfl⟩
def c28 (P : Pg) : Sl → M Fl := (gSeq (gAsg (mA (mCons (mVar 0) (mCons (mA (mCons (mC (.str [97, 115, 107])) (mCons (mC (.str [100, 97, 121])) (mCons (mC (.str [111, 102, 102])) (mCons (mC (.str [115, 116, 111, 112])) (mCons (mC (.str [97, 110, 115, 119, 101, 114])) mNil))))) lstM) mNil)) (P.fn 23)) (gN 1)) (gSeq (gAsg (mA (mCons (mA mNil lstM) (mCons (mA mNil lstM) mNil)) tupM) (gUn 2 (gsCons (gN 2) (gsCons (gN 3) gsNil)))) (gSeq (gLock (fun _ _ => none) (gFor (mRng1 (mA (mCons (mVar 0) (mCons (mC (.int 5)) mNil)) (P.fn 22))) (gN 4) (gSeq (gExpr (mMt (mVar 2) (bmA 0) (mCons (m2 (mA (mCons (mVar 0) (mCons (mA (mCons (mC (.str [])) (mCons (mC (.str [110, 111, 116, 32])) mNil)) lstM) mNil)) (P.fn 23)) (mA (mCons (mVar 0) (mCons (mA (mCons (mVar 1) mNil) (P.fn 24)) mNil)) (P.fn 23)) (addOM fun c => (P.ad c).map P.fn)) mNil))) gNext))) (gSeq (gLock (fun _ _ => none) (gFor (mRng1 (mA (mCons (mVar 0) (mCons (mC (.int 5)) mNil)) (P.fn 22))) (gN 4) (gSeq (gExpr (mMt (mVar 3) (bmA 0) (mCons (mA (mCons (mVar 0) (mCons (mA (mCons (mVar 1) mNil) (P.fn 25)) mNil)) (P.fn 23)) mNil))) gNext))) (gSeq (gRet (mA (mCons (mVar 1) (mCons (mA (mCons (mVar 2) mNil) tupleM) (mCons (mA (mCons (mVar 3) mNil) tupleM) mNil))) tupM)) gNext)))))
def b28 : Bd := ⟨1, 5, [], c28, false⟩
theorem o28 : BdOk d28 b28 := ⟨rfl, rfl, rfl, fun P => by kernel_rfl, rfl⟩
def c29 (P : Pg) : Sl → M Fl := (gSeq (gLock (fun _ _ => none) (gAsg (mLc (mAny (mA (mCons (mC (.str [97, 115, 107])) (mCons (mC (.str [100, 97, 121])) (mCons (mC (.str [111, 102, 102])) (mCons (mC (.str [115, 116, 111, 112])) mNil)))) tupM)) (.nm 4) (mBool (m2 (mA (mCons (mVar 0) (mCons (mC (.int 2)) mNil)) (P.fn 22)) (mC (.int 0)) (cmpOM false (fun c c' => (P.eqf c c').map P.fn) eqM))) (mVar 4) [3, 4]) (gN 2))) (gSeq (gRet (mA (mCons (mA (mCons (mVar 2) mNil) tupleM) (mCons (mLock (fun _ _ => none) (mLc (mRng1 (mA (mCons (mVar 0) (mCons (m2 (mVar 1) (mC (.int 1)) (addOM fun c => (P.ad c).map P.fn)) mNil)) (P.fn 22))) (.nm 5) (fun _ => M.pure true) (mA (mCons (mVar 0) mNil) (P.fn 28)) [3, 5])) mNil)) tupM)) gNext))
def b29 : Bd := ⟨2, 6, [], c29, false⟩
theorem o29 : BdOk d29 b29 := ⟨rfl, rfl, rfl, fun P => by kernel_rfl, rfl⟩
def c30 (P : Pg) : Sl → M Fl := (gSeq (gRet (mCM (mC (.cls 6)) (mtOf P P.cm 0) (mCons (mA (mCons (mVar 0) mNil) (P.fn 27)) mNil))) gNext)
def b30 : Bd := ⟨1, 1, [], c30, false⟩
theorem o30 : BdOk d30 b30 := ⟨rfl, rfl, rfl, fun P => by kernel_rfl, rfl⟩
def c31 (P : Pg) : Sl → M Fl := (gSeq (gLock (fun _ _ => none) (gFor (mRng1 (mA (mCons (mC (.int 2)) (mCons (mA (mCons (mC (.int 5)) (mCons (mA (mCons (mVar 0) mNil) (lenOM P.ns.length fun c => (P.ln c).map P.fn)) mNil)) min2M) mNil)) max2M)) (gN 1) (gSeq (gAsg (mA (mCons (mVar 0) (mCons (mVar 1) mNil)) (P.fn 21)) (gN 2)) (gSeq (gAsg (mLock (fun _ _ => none) (mLc (mRng1 (mC (.int 3))) (.nm 13) (fun _ => M.pure true) (mA (mCons (mVar 2) (mCons (mC (.int 3)) mNil)) (P.fn 29)) [12, 13])) (gUn 3 (gsCons (gN 3) (gsCons (gN 4) (gsCons (gN 5) gsNil))))) (gSeq (gAsg (mA (mCons (mA (mCons (mVar 3) mNil) (P.fn 30)) (mCons (mA (mCons (mVar 4) mNil) (P.fn 30)) (mCons (mA (mCons (mVar 5) mNil) (P.fn 30)) mNil))) tupM) (gUn 3 (gsCons (gN 6) (gsCons (gN 7) (gsCons (gN 8) gsNil))))) (gSeq (gAsg (mA (mCons (mLock (fun _ _ => none) (mLc (mAny (mA (mCons (mC (.str [97, 115, 107])) (mCons (mC (.str [100, 97, 121])) (mCons (mC (.str [111, 102, 102])) (mCons (mC (.str [115, 116, 111, 112])) mNil)))) tupM)) (.nm 14) (mBool (m2 (mVar 14) (m2 (m2 (mVar 3) (mC (.int 0)) (ixOM fun c => (P.gi c).map P.fn)) (m2 (mVar 4) (mC (.int 0)) (ixOM fun c => (P.gi c).map P.fn)) (addOM fun c => (P.ad c).map P.fn)) inM)) (mVar 14) [12, 14])) mNil) tupleM) (gN 9)) (gSeq (gAsg (m2 (mVar 6) (mVar 7) (addOM fun c => (P.ad c).map P.fn)) (gN 10)) (gSeq (gIf (mOr (mBool (m2 (mA (mCons (mVar 10) mNil) (strOM fun c => (P.sf c).map P.fn)) (mA (mCons (mA (mCons (mVar 9) (mCons (m2 (m2 (mVar 3) (mC (.int 1)) (ixOM fun c => (P.gi c).map P.fn)) (m2 (mVar 4) (mC (.int 1)) (ixOM fun c => (P.gi c).map P.fn)) (addOM fun c => (P.ad c).map P.fn)) mNil)) tupM) mNil) (P.fn 27)) (cmpOM true (fun c c' => (P.eqf c c').map P.fn) neM))) (mOr (mBool (m2 (mA (mCons (mVar 6) mNil) (strOM fun c => (P.sf c).map P.fn)) (mA (mCons (mVar 3) mNil) (P.fn 27)) (cmpOM true (fun c c' => (P.eqf c c').map P.fn) neM))) (mBool (m2 (mA (mCons (mVar 7) mNil) (strOM fun c => (P.sf c).map P.fn)) (mA (mCons (mVar 4) mNil) (P.fn 27)) (cmpOM true (fun c c' => (P.eqf c c').map P.fn) neM))))) (gSeq (gRet (mC (.bl false))) gNext) gNext) (gSeq (gAsg (mVar 6) (gN 11)) (gSeq (gAsg (m2 (mVar 11) (mVar 7) (iaddOM fun c => (P.ad c).map P.fn)) (gN 11)) (gSeq (gIf (mOr (mBool (m2 (mVar 11) (mVar 10) (cmpOM true (fun c c' => (P.eqf c c').map P.fn) neM))) (mOr (mBool (m2 (mA (mCons (mVar 6) mNil) (strOM fun c => (P.sf c).map P.fn)) (mA (mCons (mVar 3) mNil) (P.fn 27)) (cmpOM true (fun c c' => (P.eqf c c').map P.fn) neM))) (mBool (m2 (mA (mCons (mVar 11) mNil) (lenOM P.ns.length fun c => (P.ln c).map P.fn)) (m2 (mA (mCons (mVar 6) mNil) (lenOM P.ns.length fun c => (P.ln c).map P.fn)) (mA (mCons (mVar 7) mNil) (lenOM P.ns.length fun c => (P.ln c).map P.fn)) (addOM fun c => (P.ad c).map P.fn)) (cmpOM true (fun c c' => (P.eqf c c').map P.fn) neM))))) (gSeq (gRet (mC (.bl false))) gNext) gNext) (gSeq (gIf (mOr (mBool (m2 (m2 (m2 (mVar 6) (mVar 7) (addOM fun c => (P.ad c).map P.fn)) (mVar 8) (addOM fun c => (P.ad c).map P.fn)) (m2 (mVar 6) (m2 (mVar 7) (mVar 8) (addOM fun c => (P.ad c).map P.fn)) (addOM fun c => (P.ad c).map P.fn)) (cmpOM true (fun c c' => (P.eqf c c').map P.fn) neM))) (mOr (mBool (m2 (m2 (mVar 6) (mMkI P 6 mNil) (addOM fun c => (P.ad c).map P.fn)) (mVar 6) (cmpOM true (fun c c' => (P.eqf c c').map P.fn) neM))) (mBool (m2 (m2 (mMkI P 6 mNil) (mVar 6) (addOM fun c => (P.ad c).map P.fn)) (mVar 6) (cmpOM true (fun c c' => (P.eqf c c').map P.fn) neM))))) (gSeq (gRet (mC (.bl false))) gNext) gNext) (gSeq (gIf (mOr (mBool (m2 (m1 (m2 (mVar 6) (mVar 6) (addOM fun c => (P.ad c).map P.fn)) (getMP (P.pf [114, 97, 105, 115, 101, 115]) (fun c => (P.pr [114, 97, 105, 115, 101, 115] c).map P.fn) [114, 97, 105, 115, 101, 115])) (m1 (mVar 6) (getMP (P.pf [114, 97, 105, 115, 101, 115]) (fun c => (P.pr [114, 97, 105, 115, 101, 115] c).map P.fn) [114, 97, 105, 115, 101, 115])) (cmpOM true (fun c c' => (P.eqf c c').map P.fn) neM))) (mBool (m2 (mA (mCons (m2 (mVar 6) (mVar 6) (addOM fun c => (P.ad c).map P.fn)) mNil) (lenOM P.ns.length fun c => (P.ln c).map P.fn)) (m2 (mC (.int 2)) (mA (mCons (mVar 6) mNil) (lenOM P.ns.length fun c => (P.ln c).map P.fn)) mulM) (cmpOM true (fun c c' => (P.eqf c c').map P.fn) neM)))) (gSeq (gRet (mC (.bl false))) gNext) gNext) gNext))))))))))))) (gSeq (gRet (mC (.bl true))) gNext))
def b31 : Bd := ⟨1, 15, [], c31, false⟩
theorem o31 : BdOk d31 b31 := ⟨rfl, rfl, rfl, fun P => by kernel_rfl, rfl⟩
def tb : List Bd := [b0, b1, b2, b3, b4, b5, b6, b7, b8, b9, b10, b11, b12, b13, b14, b15, b16, b17, b18, b19, b20, b21, b22, b23, b24, b25, b26, b27, b28, b29, b30, b31]
theorem tbOk : BdAll lw.defs tb := show BdAll [d0, d1, d2, d3, d4, d5, d6, d7, d8, d9, d10, d11, d12, d13, d14, d15, d16, d17, d18, d19, d20, d21, d22, d23, d24, d25, d26, d27, d28, d29, d30, d31] [b0, b1, b2, b3, b4, b5, b6, b7, b8, b9, b10, b11, b12, b13, b14, b15, b16, b17, b18, b19, b20, b21, b22, b23, b24, b25, b26, b27, b28, b29, b30, b31] from ⟨o0, o1, o2, o3, o4, o5, o6, o7, o8, o9, o10, o11, o12, o13, o14, o15, o16, o17, o18, o19, o20, o21, o22, o23, o24, o25, o26, o27, o28, o29, o30, o31, trivial⟩
theorem k0 (K : PySem.W.Frag) : DOk lw K d0 := ⟨by kernel_rfl, ⟨rfl, rfl, rfl, by decide +kernel, rfl, by decide +kernel, by decide +kernel⟩, fun fd F => bndN F fun _ _ _ _ _ _ us hl => match us, hl with | [_], _ => rfl⟩
theorem k1 (K : PySem.W.Frag) : DOk lw K d1 := ⟨by kernel_rfl, ⟨rfl, rfl, rfl, by decide +kernel, rfl, by decide +kernel, by decide +kernel⟩, fun fd F => bndN F fun _ _ _ _ _ _ us hl => match us, hl with | [_, _], _ => rfl⟩
theorem k2 (K : PySem.W.Frag) : DOk lw K d2 := ⟨by kernel_rfl, ⟨rfl, rfl, rfl, by decide +kernel, rfl, by decide +kernel, by decide +kernel⟩, fun fd F => bndN F fun _ _ _ _ _ _ us hl => match us, hl with | [_, _], _ => rfl⟩
theorem k3 (K : PySem.W.Frag) : DOk lw K d3 := ⟨by kernel_rfl, ⟨rfl, rfl, rfl, by decide +kernel, rfl, by decide +kernel, by decide +kernel⟩, fun fd F => bndN F fun _ _ _ _ _ _ us hl => match us, hl with | [_], _ => rfl⟩
theorem k4 (K : PySem.W.Frag) : DOk lw K d4 := ⟨by kernel_rfl, ⟨rfl, rfl, rfl, by decide +kernel, rfl, by decide +kernel, by decide +kernel⟩, fun fd F => bndN F fun _ _ _ _ _ _ us hl => match us, hl with | [_], _ => rfl⟩
theorem k5 (K : PySem.W.Frag) : DOk lw K d5 := ⟨by kernel_rfl, ⟨rfl, rfl, rfl, by decide +kernel, rfl, by decide +kernel, by decide +kernel⟩, fun fd F => bndD F (fun z => by cases z) fun _ _ _ _ _ _ _ us its hi h1 h2 => by
    have h1' : us.length ≤ 4 := h1
    have h2' : 4 ≤ us.length + 2 := h2
    have h : us.length = 2 ∨ us.length = 3 ∨ us.length = 4 := by omega
    rcases h with h | h | h
    · match us, h, its, hi with
      | [_, _], _, [_, _], _ => exact ⟨_, rfl, rfl⟩
    · match us, h, its, hi with
      | [_, _, _], _, [_, _], _ => exact ⟨_, rfl, rfl⟩
    · match us, h, its, hi with
      | [_, _, _, _], _, [_, _], _ => exact ⟨_, rfl, rfl⟩
  ⟩
theorem k6 (K : PySem.W.Frag) : DOk lw K d6 := ⟨by kernel_rfl, ⟨rfl, rfl, rfl, by decide +kernel, rfl, by decide +kernel, by decide +kernel⟩, fun fd F => bndN F fun _ _ _ _ _ _ us hl => match us, hl with | [_, _], _ => rfl⟩
theorem k7 (K : PySem.W.Frag) : DOk lw K d7 := ⟨by kernel_rfl, ⟨rfl, rfl, rfl, by decide +kernel, rfl, by decide +kernel, by decide +kernel⟩, fun fd F => bndN F fun _ _ _ _ _ _ us hl => match us, hl with | [_, _], _ => rfl⟩
theorem k8 (K : PySem.W.Frag) : DOk lw K d8 := ⟨by kernel_rfl, ⟨rfl, rfl, rfl, by decide +kernel, rfl, by decide +kernel, by decide +kernel⟩, fun fd F => bndN F fun _ _ _ _ _ _ us hl => match us, hl with | [_], _ => rfl⟩
theorem k9 (K : PySem.W.Frag) : DOk lw K d9 := ⟨by kernel_rfl, ⟨rfl, rfl, rfl, by decide +kernel, rfl, by decide +kernel, by decide +kernel⟩, fun fd F => bndN F fun _ _ _ _ _ _ us hl => match us, hl with | [_], _ => rfl⟩
theorem k10 (K : PySem.W.Frag) : DOk lw K d10 := ⟨by kernel_rfl, ⟨rfl, rfl, rfl, by decide +kernel, rfl, by decide +kernel, by decide +kernel⟩, fun fd F => bndN F fun _ _ _ _ _ _ us hl => match us, hl with | [_], _ => rfl⟩
theorem k11 (K : PySem.W.Frag) : DOk lw K d11 := ⟨by kernel_rfl, ⟨rfl, rfl, rfl, by decide +kernel, rfl, by decide +kernel, by decide +kernel⟩, fun fd F => bndN F fun _ _ _ _ _ _ us hl => match us, hl with | [_], _ => rfl⟩
theorem k12 (K : PySem.W.Frag) : DOk lw K d12 := ⟨by kernel_rfl, ⟨rfl, rfl, rfl, by decide +kernel, rfl, by decide +kernel, by decide +kernel⟩, fun fd F => bndN F fun _ _ _ _ _ _ us hl => match us, hl with | [_], _ => rfl⟩
theorem k13 (K : PySem.W.Frag) : DOk lw K d13 := ⟨by kernel_rfl, ⟨rfl, rfl, rfl, by decide +kernel, rfl, by decide +kernel, by decide +kernel⟩, fun fd F => bndD F (fun z => by cases z) fun _ _ _ _ _ _ _ us its hi h1 h2 => by
    have h1' : us.length ≤ 3 := h1
    have h2' : 3 ≤ us.length + 2 := h2
    have h : us.length = 1 ∨ us.length = 2 ∨ us.length = 3 := by omega
    rcases h with h | h | h
    · match us, h, its, hi with
      | [_], _, [_, _], _ => exact ⟨_, rfl, rfl⟩
    · match us, h, its, hi with
      | [_, _], _, [_, _], _ => exact ⟨_, rfl, rfl⟩
    · match us, h, its, hi with
      | [_, _, _], _, [_, _], _ => exact ⟨_, rfl, rfl⟩
  ⟩
theorem k14 (K : PySem.W.Frag) : DOk lw K d14 := ⟨by kernel_rfl, ⟨rfl, rfl, rfl, by decide +kernel, rfl, by decide +kernel, by decide +kernel⟩, fun fd F => bndN F fun _ _ _ _ _ _ us hl => match us, hl with | [_, _], _ => rfl⟩
theorem k15 (K : PySem.W.Frag) : DOk lw K d15 := ⟨by kernel_rfl, ⟨rfl, rfl, rfl, by decide +kernel, rfl, by decide +kernel, by decide +kernel⟩, fun fd F => bndN F fun _ _ _ _ _ _ us hl => match us, hl with | [_, _], _ => rfl⟩
theorem k16 (K : PySem.W.Frag) : DOk lw K d16 := ⟨by kernel_rfl, ⟨rfl, rfl, rfl, by decide +kernel, rfl, by decide +kernel, by decide +kernel⟩, fun fd F => bndN F fun _ _ _ _ _ _ us hl => match us, hl with | [_], _ => rfl⟩
theorem k17 (K : PySem.W.Frag) : DOk lw K d17 := ⟨by kernel_rfl, ⟨rfl, rfl, rfl, by decide +kernel, rfl, by decide +kernel, by decide +kernel⟩, fun fd F => bndN F fun _ _ _ _ _ _ us hl => match us, hl with | [_, _], _ => rfl⟩
theorem k18 (K : PySem.W.Frag) : DOk lw K d18 := ⟨by kernel_rfl, ⟨rfl, rfl, rfl, by decide +kernel, rfl, by decide +kernel, by decide +kernel⟩, fun fd F => bndN F fun _ _ _ _ _ _ us hl => match us, hl with | [_, _], _ => rfl⟩
theorem k19 (K : PySem.W.Frag) : DOk lw K d19 := ⟨by kernel_rfl, ⟨rfl, rfl, rfl, by decide +kernel, rfl, by decide +kernel, by decide +kernel⟩, fun fd F => bndN F fun _ _ _ _ _ _ us hl => match us, hl with | [_, _], _ => rfl⟩
theorem k20 (K : PySem.W.Frag) : DOk lw K d20 := ⟨by kernel_rfl, ⟨rfl, rfl, rfl, by decide +kernel, rfl, by decide +kernel, by decide +kernel⟩, fun fd F => bndN F fun _ _ _ _ _ _ us hl => match us, hl with | [_], _ => rfl⟩
theorem k21 (K : PySem.W.Frag) : DOk lw K d21 := ⟨by kernel_rfl, ⟨rfl, rfl, rfl, by decide +kernel, rfl, by decide +kernel, by decide +kernel⟩, fun fd F => bndN F fun _ _ _ _ _ _ us hl => match us, hl with | [_, _], _ => rfl⟩
theorem k22 (K : PySem.W.Frag) : DOk lw K d22 := ⟨by kernel_rfl, ⟨rfl, rfl, rfl, by decide +kernel, rfl, by decide +kernel, by decide +kernel⟩, fun fd F => bndN F fun _ _ _ _ _ _ us hl => match us, hl with | [_, _], _ => rfl⟩
theorem k23 (K : PySem.W.Frag) : DOk lw K d23 := ⟨by kernel_rfl, ⟨rfl, rfl, rfl, by decide +kernel, rfl, by decide +kernel, by decide +kernel⟩, fun fd F => bndN F fun _ _ _ _ _ _ us hl => match us, hl with | [_, _], _ => rfl⟩
theorem k24 (K : PySem.W.Frag) : DOk lw K d24 := ⟨by kernel_rfl, ⟨rfl, rfl, rfl, by decide +kernel, rfl, by decide +kernel, by decide +kernel⟩, fun fd F => bndN F fun _ _ _ _ _ _ us hl => match us, hl with | [_], _ => rfl⟩
theorem k25 (K : PySem.W.Frag) : DOk lw K d25 := ⟨by kernel_rfl, ⟨rfl, rfl, rfl, by decide +kernel, rfl, by decide +kernel, by decide +kernel⟩, fun fd F => bndN F fun _ _ _ _ _ _ us hl => match us, hl with | [_], _ => rfl⟩
theorem k26 (K : PySem.W.Frag) : DOk lw K d26 := ⟨by kernel_rfl, ⟨rfl, rfl, rfl, by decide +kernel, rfl, by decide +kernel, by decide +kernel⟩, fun fd F => bndN F fun _ _ _ _ _ _ us hl => match us, hl with | [_], _ => rfl⟩
theorem k27 (K : PySem.W.Frag) : DOk lw K d27 := ⟨by kernel_rfl, ⟨rfl, rfl, rfl, by decide +kernel, rfl, by decide +kernel, by decide +kernel⟩, fun fd F => bndN F fun _ _ _ _ _ _ us hl => match us, hl with | [_], _ => rfl⟩
theorem k28 (K : PySem.W.Frag) : DOk lw K d28 := ⟨by kernel_rfl, ⟨rfl, rfl, rfl, by decide +kernel, rfl, by decide +kernel, by decide +kernel⟩, fun fd F => bndN F fun _ _ _ _ _ _ us hl => match us, hl with | [_], _ => rfl⟩
theorem k29 (K : PySem.W.Frag) : DOk lw K d29 := ⟨by kernel_rfl, ⟨rfl, rfl, rfl, by decide +kernel, rfl, by decide +kernel, by decide +kernel⟩, fun fd F => bndN F fun _ _ _ _ _ _ us hl => match us, hl with | [_, _], _ => rfl⟩
theorem k30 (K : PySem.W.Frag) : DOk lw K d30 := ⟨by kernel_rfl, ⟨rfl, rfl, rfl, by decide +kernel, rfl, by decide +kernel, by decide +kernel⟩, fun fd F => bndN F fun _ _ _ _ _ _ us hl => match us, hl with | [_], _ => rfl⟩
theorem k31 (K : PySem.W.Frag) : DOk lw K d31 := ⟨by kernel_rfl, ⟨rfl, rfl, rfl, by decide +kernel, rfl, by decide +kernel, by decide +kernel⟩, fun fd F => bndN F fun _ _ _ _ _ _ us hl => match us, hl with | [_], _ => rfl⟩
theorem dok (K : PySem.W.Frag) : ∀ (i : Nat) (d : Df), lw.defs[i]? = some d → DOk lw K d := dall (show DAll lw K [d0, d1, d2, d3, d4, d5, d6, d7, d8, d9, d10, d11, d12, d13, d14, d15, d16, d17, d18, d19, d20, d21, d22, d23, d24, d25, d26, d27, d28, d29, d30, d31] from ⟨k0 K, k1 K, k2 K, k3 K, k4 K, k5 K, k6 K, k7 K, k8 K, k9 K, k10 K, k11 K, k12 K, k13 K, k14 K, k15 K, k16 K, k17 K, k18 K, k19 K, k20 K, k21 K, k22 K, k23 K, k24 K, k25 K, k26 K, k27 K, k28 K, k29 K, k30 K, k31 K, trivial⟩)

def prim : Nat → Option (List D → M D) := fun i => bif Nat.beq i 21 then some dealM else bif Nat.beq i 22 then some drawM else none
theorem prOk (i : Nat) (f : List D → M D) (e : prim i = some f) : PrOk lw i f := by
  unfold prim at e
  cases h1 : Nat.beq i 21 with
  | true =>
    rw [h1] at e
    cases e
    rw [Nat.eq_of_beq_eq_true h1]
    exact ⟨d21, rfl, rfl, fun P G vs H Q E h => sp_dealAA (hi := 63) (c0 := 16127) (c1 := 7919) (mu := 48271) rfl rfl rfl h⟩
  | false =>
    rw [h1] at e
    cases h2 : Nat.beq i 22 with
    | true =>
      rw [h2] at e
      cases e
      rw [Nat.eq_of_beq_eq_true h2]
      exact ⟨d22, rfl, rfl, fun P G vs H Q E h => sp_draw (mu := 69621) (ad := 40961) (dv := 16) ⟨rfl, rfl⟩ h⟩
    | false => rw [h2] at e; cases e
theorem kok (K : PySem.W.Frag) : ∀ (j : Nat) (q : Str × List Str × Nat × List Nat), lw.kws[j]? = some q → prim q.2.2.1 = none ∧ ∃ d, lw.defs[q.2.2.1]? = some d ∧ KBd K d q.2.1 q.2.2.2 := kall (show KAll lw prim K lw.kws from trivial)
abbrev R : PySem.W.OpenRow := PySem.W.OpenLaw.row PySem.Challenge.rw_overtaken_k08_plans_put_together
abbrev hk : PySem.W.Hook := hookEv 5 lw
def ob (s : PySem.W.SharedT) : AlE := obsEG 5 lw (HandSHeadRun.getT s)
theorem ob_eq (s : PySem.W.SharedT) : ob s = hk.obs s.abs := obsEG_eq (HandSHeadRun.getT_eq s)
def nms : List PySem.Str := (["_wall", "LetterError", "InvalidRule", "InvalidPlan", "InvalidText", "NoRule", "KINDS", "ANSWER", "LETTER_TESTS", "ANSWER_TESTS", "LETTER_DEEDS", "ANSWER_DEEDS", "is_sequence", "is_word", "are_words", "tests_of", "deeds_of", "Rule", "parts_in", "rule_in", "are_kinds", "need_kinds", "Plan", "_law_deal", "_law_draw", "_law_pick", "_law_mixed", "_law_tests_of", "_law_deeds_of", "_law_any_rule"] : List PySem.Str) ++ (["_law_usual_rules", "_law_raised", "_law_plan", "_law_rule_text", "_law_text", "_law_wide_rule", "_law_wide_plan", "_law_made"] : List PySem.Str)
theorem run (w : World) : HandSHeadRun.RunEq R (PySem.W.view R.prog [43]) hk ob 6000 nms w := by
  intro os
  kernel_rfl
section
open PySem PySem.Spec PyProof.Rows L2 Ev
def fKIND : Cs := [107, 105, 110, 100]
def fTESTS : Cs := [116, 101, 115, 116, 115]
def fDEEDS : Cs := [100, 101, 101, 100, 115]
def fRAISES : Cs := [114, 97, 105, 115, 101, 115]
def fRULES : Cs := [114, 117, 108, 101, 115]
def fWALKED : Cs := [119, 97, 108, 107, 101, 100]
def ruleO (k : Cs) (ts ds : List Cs) : O := .ins 5 [(fKIND, .str k), (fTESTS, .tup (ts.map .str)), (fDEEDS, .tup (ds.map .str))]
def planO (rs : List Cs) (as : List Nat) (w : Nat) : O := .ins 6 [(fRAISES, .tup (rs.map .str)), (fRULES, .tup (as.map .ref)), (fWALKED, .ref w)]
/-- a plan that stands: its address, its kinds, its rules' addresses, its rules -/
structure PlA where
  p : Nat
  w : Nat
  as : List Nat
  rs : List Cs
  rows : List Rw
def rulesH (as : List Nat) (rows : List Rw) : Hc := List.zipWith (fun a r => ro a (ruleO r.k r.ts r.ds)) as rows
def plH (P : PlA) : HP := hstar (ro P.p (planO P.rs P.as P.w) :: rulesH P.as P.rows)
theorem has_plan {L : Hc} {i : Nat} {P : PlA} (e : L[i]? = some (plH P)) : Has L P.p (planO P.rs P.as P.w) := Has.star e (Has.ro (i := 0) rfl)
theorem has_rule {L : Hc} {i n b : Nat} {r : Rw} {P : PlA} (e : L[i]? = some (plH P)) (h : P.as[n]? = some b) (hr : P.rows[n]? = some r) : Has L b (ruleO r.k r.ts r.ds) := Has.star e (Has.ro (i := n + 1) (by
  rw [List.getElem?_cons_succ, rulesH, List.getElem?_zipWith, h, hr]))
section
variable {ns : List Int} {j : Nat} {L : Hc} {K : D → Hc → Prop}
/-- a rule, or none -/
inductive RuleV (L : Hc) : D → List Cs → Prop
  | non : RuleV L .non []
  | ref {b : Nat} {k : Cs} {ts ds : List Cs} : Has L b (ruleO k ts ds) → RuleV L (.ref b) ds
end
end
section
open PySem PySem.Spec PyProof.Rows L2 Ev
def fPLAN : Cs := [112, 108, 97, 110]
def fLETTERS : Cs := [108, 101, 116, 116, 101, 114, 115]
def fNEWEST : Cs := [110, 101, 119, 101, 115, 116]
def fWHOLE : Cs := [119, 104, 111, 108, 101]
def fOWN : Cs := [111, 119, 110]
def fANSWERS : Cs := [97, 110, 115, 119, 101, 114, 115]
def fCOUNTED : Cs := [99, 111, 117, 110, 116, 101, 100]
def fCAME : Cs := [99, 97, 109, 101]
def fSEEN : Cs := [115, 101, 101, 110]
def fSHOWS : Cs := [115, 104, 111, 119, 115]
def fDONE : Cs := [100, 111, 110, 101]
def fMET : Cs := [109, 101, 116]
/-- where a course's parts stand -/
structure CrA where
  a : Nat
  ls : Nat
  an : Nat
  ca : Nat
  se : Nat
  sh : Nat
  dn : Nat
  mt : Nat
def letD (l : Cs × Nat) : D := .tup [.str l.1, .int l.2]
section
variable {ns : List Int} {j : Nat} {F : Hc} {K : D → Hc → Prop} {A : CrA} {p : Nat} {c : Crs}
end
end
section
open PySem PySem.Spec PyProof.Rows L2 Ev
section
variable {ns : List Int} {j : Nat} {F : Hc} {K : D → Hc → Prop} {A : CrA} {P : PlA} {c : Crs} {N : Nat}
theorem kind_ne {n : Nat} (C : Crs.Ok N c) (hn : n < c.ls.length) : c.kind n ≠ wANSWER := by
  unfold Crs.kind
  rw [List.getElem?_eq_getElem hn]
  have h := C.kd _ (List.getElem_mem hn)
  intro e
  have e : c.ls[n].1 = wANSWER := e
  rw [e] at h
  revert h
  decide
end
end
section
open PySem PySem.Spec PyProof.Rows L2 Ev
section
variable {ns : List Int} {j : Nat} {L F : Hc} {K : D → Hc → Prop} {A : CrA} {P : PlA} {c : Crs} {N p : Nat}
end
end
section
open PySem PySem.Spec PyProof.Rows L2 Ev
section
variable {ns : List Int} {j : Nat} {L F : Hc} {K : D → Hc → Prop} {A : CrA} {P : PlA} {c : Crs} {N p : Nat}
end
end
section
open PySem PySem.Spec PyProof.Rows L2 Ev
section
variable {ns : List Int} {j : Nat} {L F : Hc} {K : D → Hc → Prop} {A : CrA} {P : PlA} {c : Crs} {N p : Nat}
/-- a plan that stands and is sound -/
structure PlA.G (P : PlA) : Prop where
  len : P.as.length = P.rows.length
  g : RowsG P.rows
end
end
section
open PySem PySem.Spec PyProof.Rows L2 Ev
section
variable {ns : List Int} {j : Nat} {L F : Hc} {K : D → Hc → Prop} {A : CrA} {P : PlA} {c : Crs} {N p : Nat}
theorem not_first {t : Cs} {x : Nat} (h : t[0]? = some x) {ws : List Cs} (hw : ws.all (fun w => decide (w[0]? ≠ some x)) = true) : ¬ t ∈ ws := fun m => by
  have := List.all_eq_true.mp hw t m
  rw [decide_eq_true_eq] at this
  exact this h
theorem spl_oth (k : Cs) (h : 32 ∉ k) : TL.spl [32] 0 [] (wOTHERb ++ k) = [wOTHER, k] := spl_two (a := wOTHER) (by decide) h
theorem kinds_no : ∀ k ∈ kinds, 32 ∉ k := by decide
end
end
section
open PySem PySem.Spec PyProof.Rows L2 Ev
def fGOALS : Cs := [103, 111, 97, 108, 115]
section
variable {ns : List Int} {j : Nat} {L F : Hc} {K : D → Hc → Prop} {A : CrA} {P : PlA} {c : Crs} {N p : Nat}
theorem sp_seq {v : D} {ds : List D} (h : SeqL L v ds) (q : K (.bl true) L) : sq (fnI lw ns prim tb (j + 1) 0 [v]) L K := by
  refine sq_fnB (c := c0) (σ := [some (v)]) rfl rfl rfl ?_
  unfold c0
  cases h with
  | tup =>
    refine sq_seq (sq_ret (sq_mA (sq_cons (sq_var rfl (sq_cons (sq_mA (sq_cons (sq_C (sq_cons (sq_C (sq_nil ?_)))))))))))
    refine sq_tup (by first | exact Nat.le_of_ble_eq_true rfl | omega | (simp only [List.length_append, List.length_map, List.length_cons, List.length_nil]; omega)) ?_
    refine sq_nil ?_
    refine sq_isiT .tup (by rfl) (by rfl) ?_
    refine jS_rt (jO_rt ?_)
    exact jE_ok q
  | lst g =>
    refine sq_seq (sq_ret (sq_mA (sq_cons (sq_var rfl (sq_cons (sq_mA (sq_cons (sq_C (sq_cons (sq_C (sq_nil ?_)))))))))))
    refine sq_tup (by first | exact Nat.le_of_ble_eq_true rfl | omega | (simp only [List.length_append, List.length_map, List.length_cons, List.length_nil]; omega)) ?_
    refine sq_nil ?_
    refine sq_isiT (.lst g) (by rfl) (by rfl) ?_
    refine jS_rt (jO_rt ?_)
    exact jE_ok q
end
end
section
open PySem PySem.Spec PyProof.Rows L2 Ev
section
variable {ns : List Int} {j : Nat} {L F : Hc} {K : D → Hc → Prop}
theorem sq_is_word {x : Cs} {ws : List Cs} (q : K (.bl (decide (x ∈ ws))) L) : sq (fnI lw ns prim tb (j + 1) 1 [.str x, .tup (ws.map .str)]) L K := by
  refine sq_fnB (c := c1) (σ := [some (.str x), some (.tup (ws.map .str))]) rfl rfl rfl ?_
  unfold c1
  refine sq_seq (sq_ret (sq_andV (sq_mA (sq_cons (sq_var rfl (sq_cons (sq_C (sq_nil ?_))))))))
  refine sq_isiY .str (by rfl) ?_
  refine jB_t (sq_m2 (sq_var rfl (sq_var rfl ?_)))
  try dsimp only [List.set, List.cons_append, List.nil_append]
  refine sq_inT ?_
  refine jS_rt (jO_rt ?_)
  exact jE_ok q
theorem sq_are_words {v : D} {xs ws : List Cs} (h : SeqL L v (xs.map .str)) (hl : xs.length < 1000000) (q : K (.bl (xs.all fun x => decide (x ∈ ws))) L) : sq (fnI lw ns prim tb (j + 1 + 1) 2 [v, .tup (ws.map .str)]) L K := by
  refine sq_fnB (c := c2) (σ := [some (v), some (.tup (ws.map .str)), none, none]) rfl rfl rfl ?_
  unfold c2
  refine sq_seq (sq_ret (sq_andV (sq_mA (sq_cons (sq_var rfl (sq_nil (sq_fn ?_)))))))
  refine sp_seq h ?_
  refine jB_t (sq_mA (sq_cons ?_))
  refine sq_lockS rfl h ?_
  refine sq_lcN (fun x : Cs => .bl (decide (x ∈ ws))) ?_
  refine sq_any (sq_var rfl ?_)
  refine sq_walkV h fun it hit => ⟨xs, .str, hl, hit L h, fun x hx => ⟨_, .nm, ?_⟩, fun m => ?_⟩
  · refine sq_mA (sq_cons (sq_var rfl (sq_cons (sq_var rfl (sq_nil (sq_fn ?_))))))
    exact sq_is_word ⟨rfl, .rfl⟩
  · refine sq_nil ?_
    refine sq_allF (Has.cell (i := 0) rfl) ?_
    refine jS_rt (jO_rt ?_)
    exact jE_drop (jE_ok q)
theorem sq_deeds_of {k : Cs} (q : K (.tup ((deedsK k).map .str)) L) : sq (fnI lw ns prim tb (j + 1) 4 [.str k]) L K := by
  refine sq_fnB (c := c4) (σ := [some (.str k)]) rfl rfl rfl ?_
  unfold c4
  refine sq_seq (sq_ret (sq_ifC (sq_bool (sq_m2 (sq_var rfl (sq_C (sq_eqS (jV_b (jS_rt (jO_rt ?_))))))))))
  refine jE_ok ?_
  have e : (bif decide (k = [97, 110, 115, 119, 101, 114]) then D.tup [.str [99, 111, 117, 110, 116], .str [100, 114, 111, 112]] else D.tup [.str [116, 97, 107, 101], .str [119, 105, 112, 101]]) = D.tup ((deedsK k).map .str) := by
    unfold deedsK
    by_cases h : k = wANS
    · rw [decide_eq_true (show k = [97, 110, 115, 119, 101, 114] from h), if_pos h]; rfl
    · rw [decide_eq_false (show ¬ k = [97, 110, 115, 119, 101, 114] from h), if_neg h]; rfl
  rw [e]
  exact q
theorem sq_tests_of {k : Cs} (q : K (.tup ((testsK k).map .str)) L) : sq (fnI lw ns prim tb (j + 1) 3 [.str k]) L K := by
  refine sq_fnB (c := c3) (σ := [some (.str k), none, none, none]) rfl rfl rfl ?_
  unfold c3
  obtain ⟨h8, h100⟩ := plainW_ok k
  have e : (bif decide (k = [97, 110, 115, 119, 101, 114]) then D.tup [.str [108, 101, 118, 101, 108]] else D.tup (LT8.map .str)) = D.tup ((plainW k).map .str) := by
    unfold plainW
    by_cases h : k = wANS
    · rw [decide_eq_true (show k = [97, 110, 115, 119, 101, 114] from h), if_pos h]; rfl
    · rw [decide_eq_false (show ¬ k = [97, 110, 115, 119, 101, 114] from h), if_neg h]; rfl
  simp only [LT8, List.map_cons, List.map_nil] at e
  refine sq_seq ?_
  refine sq_asg ?_
  refine sq_ifC ?_
  refine sq_bool (sq_m2 (sq_var rfl (sq_C (sq_eqS (jV_b (sq_gN (jS_nx (sq_seq (sq_ret (sq_mA (sq_star' (sq_var rfl ?_))))))))))))
  try dsimp only [List.set, List.cons_append, List.nil_append]
  rw [e]
  refine sq_seqv .tup ?_
  refine sq_star' ?_
  refine sq_lockX (v := .tup _) rfl rfl ?_
  refine sq_lcN (fun t : Cs => .str (wNOT ++ t)) ?_
  refine sq_any (sq_var rfl (sq_walkT ?_))
  refine ⟨plainW k, .str, by omega, .tup, fun t ht => ⟨_, .nm, ?_⟩, fun m => ?_⟩
  · have := h100 t ht
    refine sq_joined (sq_jsCons (sq_C ?_))
    refine jJ_str (by first | exact Nat.le_of_ble_eq_true rfl | omega | (simp only [List.length_append, List.length_map, List.length_cons, List.length_nil]; omega)) ?_
    refine sq_jsCons (sq_m1 (sq_var rfl (sq_fmtS ?_)))
    refine jJ_str (by first | exact Nat.le_of_ble_eq_true rfl | omega | (simp only [List.length_append, List.length_map, List.length_cons, List.length_nil]; omega)) ?_
    refine sq_jsNil ?_
    exact ⟨rfl, .rfl⟩
  · refine sq_seqv (.lst (Has.cell (i := 0) rfl)) ?_
    refine sq_nil ?_
    refine sq_tup (by first | exact Nat.le_of_ble_eq_true rfl | omega | (simp only [List.length_append, List.length_map, List.length_cons, List.length_nil]; omega)) ?_
    refine jS_rt (jO_rt ?_)
    refine jE_drop (jE_ok ?_)
    rw [List.append_nil]
    unfold testsK at q
    rw [List.map_append, List.map_map] at q
    exact q
theorem sq_Rule_init {a : Nat} {k : Cs} {tv dv : D} {ts ds : List Cs} (ht : SeqL F tv (ts.map .str)) (hd : SeqL F dv (ds.map .str)) (R : RuleK k ts ds) (q : K .non (ro a (ruleO k ts ds) :: F)) : sq (fnI lw ns prim tb (j + 1 + 1 + 1) 5 [.ref a, .str k, tv, dv]) (cell a (.ins 5 []) :: F) K := by
  refine sq_fnB (c := c5) (σ := [some (.ref a), some (.str k), some (tv), some (dv)]) rfl rfl rfl ?_
  unfold c5
  have e1 : (ts.all fun x => decide (x ∈ testsK k)) = true := List.all_eq_true.mpr fun t h => decide_eq_true (R.ht t h)
  have e2 : (ds.all fun x => decide (x ∈ deedsK k)) = true := List.all_eq_true.mpr fun t h => decide_eq_true (R.hd t h)
  have sub : ∀ {x : HP} {v : D} {l : List D}, SeqL F v l → SeqL (x :: F) v l := fun h => h.sub (List.sublist_cons_self _ _)
  have l1 := R.lt
  have l2 := R.ld
  refine sq_seq ?_
  refine sq_gifF ?_
  refine sq_andP (x := !decide (k ∈ kinds)) (y := !decide (k ∈ [wANS])) ?_ (fun _ => ?_) ⟨?_, ?_⟩
  · refine sq_not (sq_bool (sq_mA (sq_cons (sq_var rfl (sq_cons (sq_C (sq_nil (sq_fn ?_))))))))
    exact sq_is_word (ws := kinds) ⟨rfl, rfl⟩
  · refine sq_not (sq_bool (sq_mA (sq_cons (sq_var rfl (sq_cons (sq_mA (sq_cons (sq_C (sq_nil ?_)))))))))
    refine sq_tup (by first | exact Nat.le_of_ble_eq_true rfl | omega | (simp only [List.length_append, List.length_map, List.length_cons, List.length_nil]; omega)) ?_
    refine sq_nil (sq_fn ?_)
    exact sq_is_word (ws := [wANS]) ⟨rfl, rfl⟩
  · rcases List.mem_append.mp R.hk with z | z
    · rw [decide_eq_true z]; rfl
    · rw [decide_eq_true z, Bool.not_true, Bool.and_false]
  refine sq_next (jS_nx (sq_seq (sq_gifF (sq_not (sq_bool (sq_mA (sq_cons (sq_var rfl (sq_cons (sq_mA (sq_cons (sq_var rfl (sq_nil (sq_fn ?_))))))))))))))
  refine sq_tests_of ?_
  refine sq_nil (sq_fn ?_)
  refine sq_are_words (sub ht) (by omega) ?_
  rw [e1]
  refine jV_b ?_
  refine ⟨rfl, ?_⟩
  refine sq_next (jS_nx (sq_seq (sq_gifF (sq_not (sq_bool (sq_mA (sq_cons (sq_var rfl (sq_cons (sq_mA (sq_cons (sq_var rfl (sq_nil (sq_fn ?_))))))))))))))
  refine sq_deeds_of ?_
  refine sq_nil (sq_fn ?_)
  refine sq_are_words (sub hd) (by omega) ?_
  rw [e2]
  refine jV_b ?_
  refine ⟨rfl, ?_⟩
  refine sq_next (jS_nx (sq_seq (sq_asg (sq_var rfl (sq_gAttr (sq_var rfl ?_))))))
  refine sq_setFn (i := 0) rfl (by kernel_rfl) (by kernel_rfl) (Nat.le_of_ble_eq_true rfl) (by rfl) ?_
  refine jS_nx (sq_seq (sq_asg (sq_mA (sq_cons (sq_var rfl (sq_nil ?_))))))
  try dsimp only [List.set, List.cons_append, List.nil_append]
  refine sq_tuple (sub ht) ?_
  refine sq_gAttr (sq_var rfl ?_)
  refine sq_setFn (i := 0) rfl (by kernel_rfl) (by kernel_rfl) (Nat.le_of_ble_eq_true rfl) (by rfl) ?_
  refine jS_nx (sq_seq (sq_asg (sq_mA (sq_cons (sq_var rfl (sq_nil ?_))))))
  try dsimp only [List.set, List.cons_append, List.nil_append]
  refine sq_tuple (sub hd) ?_
  refine sq_gAttr (sq_var rfl ?_)
  refine sq_setZ (i := 0) rfl (by kernel_rfl) (Nat.le_of_ble_eq_true rfl) (by rfl) ?_
  refine jS_nx (sq_next (jO_nx ?_))
  try dsimp only [List.set, List.cons_append, List.nil_append]
  exact jE_ok q
end
end
section
open PySem PySem.Spec PyProof.Rows L2 Ev
section
variable {ns : List Int} {j : Nat} {L F : Hc} {K : D → Hc → Prop}
theorem hd_nil (k : Cs) : hdT k [] = cON ++ k := by
  unfold hdT optT
  rw [if_pos rfl, List.append_nil]
theorem hd_ne {k : Cs} {ts : List Cs} (h : ts ≠ []) : hdT k ts = (cON ++ k) ++ (cIF ++ TL.joinL cAND ts) := by
  unfold hdT optT
  rw [if_neg h]
theorem txt_nil (k : Cs) (ts : List Cs) : txt k ts [] = hdT k ts := by
  show hdT k ts ++ optT cDO cTHEN [] = _
  unfold optT
  rw [if_pos rfl, List.append_nil]
theorem txt_ne {k : Cs} {ts ds : List Cs} (h : ds ≠ []) : txt k ts ds = hdT k ts ++ (cDO ++ TL.joinL cTHEN ds) := by
  show hdT k ts ++ optT cDO cTHEN ds = _
  unfold optT
  rw [if_neg h]
theorem drop_if (a J : Cs) : (a ++ (cIF ++ J)).drop (a.length + 4) = J := by
  rw [← List.append_assoc, List.drop_left' (by rw [List.length_append]; rfl)]
theorem drop_do (a J : Cs) : (a ++ (cDO ++ J)).drop (a.length + 4) = J := by
  rw [← List.append_assoc, List.drop_left' (by rw [List.length_append]; rfl)]
theorem mid_k (k X : Cs) : cutD ((cON ++ k) ++ X) (some 3) (some ((cON ++ k).length : Nat)) = k := cut_mid cON k X rfl rfl
theorem sq_parts_in {k : Cs} {ts ds : List Cs} (R : RuleK k ts ds) (q : K (.tup [.str k, .tup (ts.map .str), .tup (ds.map .str)]) L) : sq (fnI lw ns prim tb (j + 1) 9 [.str (txt k ts ds)]) L K := by
  refine sq_fnB (c := c9) (σ := [some (.str (txt k ts ds)), none, none, none]) rfl rfl rfl ?_
  unfold c9
  have fd := fnd_do R
  have fi := fnd_if R
  refine sq_seq (sq_asg (sq_mA (sq_cons (sq_var rfl (sq_cons (sq_mA (sq_nil ?_)))))))
  refine sq_tup (by first | exact Nat.le_of_ble_eq_true rfl | omega | (simp only [List.length_append, List.length_map, List.length_cons, List.length_nil]; omega)) ?_
  refine sq_nil ?_
  refine sq_tup (by first | exact Nat.le_of_ble_eq_true rfl | omega | (simp only [List.length_append, List.length_map, List.length_cons, List.length_nil]; omega)) ?_
  refine sq_gUn ?_
  refine sq_seqv .tup ?_
  refine jU_ok rfl ?_
  refine sq_gsCons (sq_gN (sq_gsCons (sq_gN (sq_gsNil (jS_nx (sq_seq (sq_gif (sq_bool (sq_m2 (sq_C (sq_var rfl ?_)))))))))))
  try dsimp only [List.set, List.cons_append, List.nil_append]
  refine sq_inS' (List.cons_ne_nil _ _) ?_
  refine jV_b ?_
  by_cases hds : ds = []
  · subst hds
    rw [if_pos rfl] at fd
    refine jT_fe (by rw [show fnd [32, 100, 111, 32] 0 (txt k ts []) = none from fd]; rfl) ?_
    rw [txt_nil]
    refine sq_next (jS_nx (sq_seq (sq_gif (sq_bool (sq_m2 (sq_C (sq_var rfl ?_)))))))
    refine sq_inS' (List.cons_ne_nil _ _) ?_
    refine jV_b ?_
    by_cases hts : ts = []
    · subst hts
      rw [if_pos rfl] at fi
      refine jT_fe (by rw [show fnd [32, 105, 102, 32] 0 (hdT k []) = none from fi]; rfl) ?_
      rw [hd_nil]
      refine sq_next (jS_nx (sq_seq (sq_ret (sq_mA (sq_cons (sq_sl (sq_var rfl (sq_part1 (sq_C (jI_int (sq_part0 ?_)))))))))))
      refine sq_slSd ?_
      refine sq_cons (sq_mA (sq_nil ?_))
      refine sq_tup (by first | exact Nat.le_of_ble_eq_true rfl | omega | (simp only [List.length_append, List.length_map, List.length_cons, List.length_nil]; omega)) ?_
      refine sq_cons (sq_var rfl (sq_nil ?_))
      refine sq_tup (by first | exact Nat.le_of_ble_eq_true rfl | omega | (simp only [List.length_append, List.length_map, List.length_cons, List.length_nil]; omega)) ?_
      refine jS_rt (jO_rt ?_)
      exact jE_ok q
    · rw [if_neg hts] at fi
      refine jT_te (by rw [show fnd [32, 105, 102, 32] 0 (hdT k ts) = some (cON ++ k).length from fi]; rfl) ?_
      refine sq_seq (sq_asg (sq_mt (sq_var rfl ?_)))
      refine jM_str rfl ?_
      refine sq_cons (sq_C (sq_nil ?_))
      refine sq_indexS (List.cons_ne_nil _ _) fi ?_
      rw [hd_ne hts]
      refine sq_gN (jS_nx (sq_seq (sq_ret (sq_mA (sq_cons (sq_sl (sq_var rfl (sq_part1 (sq_C (jI_int (sq_part1 (sq_var rfl (jI_int ?_)))))))))))))
      try dsimp only [List.set, List.cons_append, List.nil_append]
      refine sq_slS ?_
      refine sq_cons (sq_mA (sq_cons (sq_mt (sq_sl (sq_var rfl (sq_part1 (sq_m2 (sq_var rfl (sq_C (sq_addI (jI_int (sq_part0 ?_))))))))))))
      refine sq_slSd ?_
      refine jM_str rfl ?_
      refine sq_cons (sq_C (sq_nil ?_))
      rw [drop_if]
      refine sq_split (by decide) fun m2 => ?_
      rw [show TL.spl [32, 97, 110, 100, 32] 0 [] (TL.joinL cAND ts) = ts from spl_and hts fun t h => testsK_no k t (R.ht t h)]
      refine sq_nil ?_
      refine sq_tuple (.lst (Has.cell (i := 0) rfl)) ?_
      refine sq_cons (sq_var rfl (sq_nil ?_))
      refine sq_tup (by first | exact Nat.le_of_ble_eq_true rfl | omega | (simp only [List.length_append, List.length_map, List.length_cons, List.length_nil]; omega)) ?_
      refine jS_rt (jS_rt (jO_rt ?_))
      rw [mid_k]
      exact jE_drop (jE_ok q)
  · rw [if_neg hds] at fd
    refine jT_te (by rw [show fnd [32, 100, 111, 32] 0 (txt k ts ds) = some (hdT k ts).length from fd]; rfl) ?_
    refine sq_seq (sq_asg (sq_mt (sq_var rfl ?_)))
    refine jM_str rfl ?_
    refine sq_cons (sq_C (sq_nil ?_))
    refine sq_indexS (List.cons_ne_nil _ _) fd ?_
    rw [txt_ne hds]
    refine sq_gN (jS_nx (sq_seq (sq_asg (sq_mA (sq_cons (sq_sl (sq_var rfl (sq_part0 (sq_part1 (sq_var rfl (jI_int ?_)))))))))))
    try dsimp only [List.set, List.cons_append, List.nil_append]
    refine sq_slSt ?_
    refine sq_cons (sq_mA (sq_cons (sq_mt (sq_sl (sq_var rfl (sq_part1 (sq_m2 (sq_var rfl (sq_C (sq_addI (jI_int (sq_part0 ?_))))))))))))
    refine sq_slSd ?_
    refine jM_str rfl ?_
    refine sq_cons (sq_C (sq_nil ?_))
    rw [drop_do]
    refine sq_split (by decide) fun m1 => ?_
    rw [show TL.spl [32, 116, 104, 101, 110, 32] 0 [] (TL.joinL cTHEN ds) = ds from spl_then R hds]
    refine sq_nil ?_
    refine sq_tuple (.lst (Has.cell (i := 0) rfl)) ?_
    refine sq_nil ?_
    refine sq_tup (by first | exact Nat.le_of_ble_eq_true rfl | omega | (simp only [List.length_append, List.length_map, List.length_cons, List.length_nil]; omega)) ?_
    refine sq_gUn ?_
    refine sq_seqv .tup ?_
    refine jU_ok rfl ?_
    refine sq_gsCons (sq_gN (sq_gsCons (sq_gN (sq_gsNil (jS_nx (sq_next (jS_nx (sq_seq (sq_gif (sq_bool (sq_m2 (sq_C (sq_var rfl ?_)))))))))))))
    try dsimp only [List.set, List.cons_append, List.nil_append]
    refine sq_inS' (List.cons_ne_nil _ _) ?_
    refine jV_b ?_
    rw [List.take_left' rfl]
    skip
    by_cases hts : ts = []
    · subst hts
      rw [if_pos rfl] at fi
      refine jT_fe (by rw [show fnd [32, 105, 102, 32] 0 (hdT k []) = none from fi]; rfl) ?_
      rw [hd_nil]
      refine sq_next (jS_nx (sq_seq (sq_ret (sq_mA (sq_cons (sq_sl (sq_var rfl (sq_part1 (sq_C (jI_int (sq_part0 ?_)))))))))))
      refine sq_slSd ?_
      refine sq_cons (sq_mA (sq_nil ?_))
      refine sq_tup (by first | exact Nat.le_of_ble_eq_true rfl | omega | (simp only [List.length_append, List.length_map, List.length_cons, List.length_nil]; omega)) ?_
      refine sq_cons (sq_var rfl (sq_nil ?_))
      refine sq_tup (by first | exact Nat.le_of_ble_eq_true rfl | omega | (simp only [List.length_append, List.length_map, List.length_cons, List.length_nil]; omega)) ?_
      refine jS_rt (jO_rt ?_)
      exact jE_drop (jE_ok q)
    · rw [if_neg hts] at fi
      refine jT_te (by rw [show fnd [32, 105, 102, 32] 0 (hdT k ts) = some (cON ++ k).length from fi]; rfl) ?_
      refine sq_seq (sq_asg (sq_mt (sq_var rfl ?_)))
      refine jM_str rfl ?_
      refine sq_cons (sq_C (sq_nil ?_))
      refine sq_indexS (List.cons_ne_nil _ _) fi ?_
      rw [hd_ne hts]
      refine sq_gN (jS_nx (sq_seq (sq_ret (sq_mA (sq_cons (sq_sl (sq_var rfl (sq_part1 (sq_C (jI_int (sq_part1 (sq_var rfl (jI_int ?_)))))))))))))
      try dsimp only [List.set, List.cons_append, List.nil_append]
      refine sq_slS ?_
      refine sq_cons (sq_mA (sq_cons (sq_mt (sq_sl (sq_var rfl (sq_part1 (sq_m2 (sq_var rfl (sq_C (sq_addI (jI_int (sq_part0 ?_))))))))))))
      refine sq_slSd ?_
      refine jM_str rfl ?_
      refine sq_cons (sq_C (sq_nil ?_))
      rw [drop_if]
      refine sq_split (by decide) fun m2 => ?_
      rw [show TL.spl [32, 97, 110, 100, 32] 0 [] (TL.joinL cAND ts) = ts from spl_and hts fun t h => testsK_no k t (R.ht t h)]
      refine sq_nil ?_
      refine sq_tuple (.lst (Has.cell (i := 0) rfl)) ?_
      refine sq_cons (sq_var rfl (sq_nil ?_))
      refine sq_tup (by first | exact Nat.le_of_ble_eq_true rfl | omega | (simp only [List.length_append, List.length_map, List.length_cons, List.length_nil]; omega)) ?_
      refine jS_rt (jS_rt (jO_rt ?_))
      rw [mid_k]
      exact jE_drop (jE_drop (jE_ok q))
end
end
section
open PySem PySem.Spec PyProof.Rows L2 Ev
section
variable {ns : List Int} {j : Nat} {L F : Hc} {K : D → Hc → Prop}
theorem sq_rule_in {k : Cs} {ts ds : List Cs} (R : RuleK k ts ds) (q : ∀ a, K (.ref a) (ro a (ruleO k ts ds) :: L)) : sq (fnI lw ns prim tb (j + 1 + 1 + 1 + 1) 10 [.str (txt k ts ds)]) L K := by
  refine sq_fnB (c := c10) (σ := [some (.str (txt k ts ds)), none, none, none]) rfl rfl rfl ?_
  unfold c10
  refine sq_seq (sq_gif (sq_bool (sq_m2 (sq_sl (sq_var rfl (sq_part0 (sq_part1 (sq_C (jI_int ?_)))))))))
  refine sq_slSt ?_
  refine sq_C (sq_neS (jV_b ?_))
  refine jT_fe rfl ?_
  refine sq_next (jS_nx (sq_seq (sq_asg (sq_mA (sq_cons (sq_var rfl (sq_nil (sq_fn ?_))))))))
  refine sq_parts_in R ?_
  refine sq_gUn ?_
  refine sq_seqv .tup ?_
  refine jU_ok rfl ?_
  refine sq_gsCons (sq_gN (sq_gsCons (sq_gN (sq_gsCons (sq_gN (sq_gsNil (jS_nx (sq_seq ?_))))))))
  try dsimp only [List.set, List.cons_append, List.nil_append]
  refine sq_tryN ?_
  refine sq_seq (sq_ret ?_)
  refine sq_mkI (by rfl) (sq_mk ?_)
  refine sq_cons (sq_var rfl (sq_cons (sq_var rfl (sq_cons (sq_var rfl (sq_nil ?_))))))
  try dsimp only [List.set, List.cons_append, List.nil_append]
  refine fun n1 => ?_
  refine sq_fn ?_
  refine sq_Rule_init .tup .tup R ⟨rfl, ?_⟩
  refine jS_rt ?_
  refine ⟨fun _ _ h => (by cases h), ?_⟩
  refine jS_rt (jO_rt ?_)
  exact jE_ok (q n1)
end
end
section
open PySem PySem.Spec PyProof.Rows L2 Ev
section
variable {ns : List Int} {j : Nat} {L F : Hc} {K : D → Hc → Prop}
theorem sq_are_kinds {v : D} {rs : List Cs} (h : SeqL L v (rs.map .str)) (hk : ∀ r ∈ rs, r ∈ kinds) (hc : dcnC rs rs.length = rs.length) (hl : rs.length ≤ 4000) (q : K (.bl true) L) : sq (fnI lw ns prim tb (j + 1 + 1) 11 [v]) L K := by
  refine sq_fnB (c := c11) (σ := [some (v), none, none]) rfl rfl rfl ?_
  unfold c11
  have ha : (rs.all fun x => decide (x ∈ kinds)) = true := List.all_eq_true.mpr fun t ht => decide_eq_true (hk t ht)
  refine sq_seq (sq_gif (sq_or (sq_not (sq_bool (sq_mA (sq_cons (sq_var rfl (sq_nil (sq_fn ?_)))))))))
  refine sp_seq h ?_
  refine jV_b ?_
  refine jT_fe rfl ?_
  refine sq_not (sq_bool (sq_mA (sq_cons ?_)))
  refine sq_lockS rfl h ?_
  refine sq_lcN (fun x : Cs => .bl (decide (x ∈ kinds))) ?_
  refine sq_any (sq_var rfl ?_)
  refine sq_walkV h fun it hit => ⟨rs, .str, by omega, hit L h, fun x hx => ⟨_, .nm, ?_⟩, fun m => ?_⟩
  · refine sq_mA (sq_cons (sq_var rfl (sq_cons (sq_C (sq_nil (sq_fn ?_))))))
    exact sq_is_word (ws := kinds) ⟨rfl, .rfl⟩
  · refine sq_nil ?_
    refine sq_allF (Has.cell (i := 0) rfl) ?_
    refine jV_b ?_
    rw [ha]
    refine jT_fe rfl ?_
    refine sq_next (jS_nx (sq_seq (sq_ret (sq_m2 (sq_m1 (sq_var rfl ?_))))))
    refine sq_lenset (h.sub (List.sublist_cons_self _ _)) hl ?_
    refine sq_mA (sq_cons (sq_var rfl (sq_nil ?_)))
    refine sq_lenV (h.sub (List.sublist_cons_self _ _)) ?_
    refine sq_eqN (jS_rt (jO_rt ?_))
    rw [hc, List.length_map, decide_eq_true rfl]
    exact jE_drop (jE_ok q)
theorem sq_need_kinds {v : D} {rs : List Cs} (h : SeqL L v (rs.map .str)) (hk : ∀ r ∈ rs, r ∈ kinds) (hc : dcnC rs rs.length = rs.length) (hl : rs.length ≤ 4000) (q : K (.tup ((kinds.filter fun k => decide (k ∈ rs)).map .str)) L) : sq (fnI lw ns prim tb (j + 1 + 1 + 1) 12 [v]) L K := by
  refine sq_fnB (c := c12) (σ := [some (v), none, none]) rfl rfl rfl ?_
  unfold c12
  refine sq_seq (sq_gifF (sq_not (sq_bool (sq_mA (sq_cons (sq_var rfl (sq_nil (sq_fn ?_))))))))
  refine sq_are_kinds h hk hc hl ?_
  refine jV_b ?_
  refine ⟨rfl, ?_⟩
  refine sq_next (jS_nx (sq_seq (sq_ret (sq_mA (sq_cons (sq_lockN ?_))))))
  refine sq_lcM (fun x : Cs => decide (x ∈ rs)) (fun x => .str x) ?_
  refine sq_any (sq_C (sq_walkT ?_))
  refine ⟨kinds, .str, by decide, .tup, fun x hx => ⟨_, .nm, ?_⟩, fun m => ?_⟩
  · refine sq_bool (sq_m2 (sq_var rfl (sq_var rfl ?_)))
    refine sq_inV h ?_
    refine jV_b ?_
    refine ⟨rfl, .rfl, fun _ => ?_⟩
    refine sq_var rfl ?_
    exact ⟨rfl, .rfl⟩
  · refine sq_nil ?_
    refine sq_tuple (.lst (Has.cell (i := 0) rfl)) ?_
    refine jS_rt (jO_rt ?_)
    exact jE_drop (jE_ok q)
theorem sq_Plan_init {a : Nat} {rv v : D} {rs : List Cs} {as : List Nat} (hr : SeqL F rv (rs.map .str)) (hk : ∀ r ∈ rs, r ∈ kinds) (hc : dcnC rs rs.length = rs.length) (hl : rs.length ≤ 4000) (hf : (kinds.filter fun k => decide (k ∈ rs)) = rs) (h : SeqL F v (as.map .ref)) (ha : ∀ b ∈ as, ∃ fs, Has F b (.ins 5 fs)) (l : as.length < 1000000)
    (q : ∀ w, K .non (ro a (planO rs as w) :: F)) : sq (fnI lw ns prim tb (j + 1 + 1 + 1 + 1) 13 [.ref a, rv, v]) (cell a (.ins 6 []) :: F) K := by
  refine sq_fnB (c := c13) (σ := [some (.ref a), some (rv), some (v), none, none]) rfl rfl rfl ?_
  unfold c13
  have sub : ∀ {x : HP} {v : D} {l : List D}, SeqL F v l → SeqL (x :: F) v l := fun h => h.sub (List.sublist_cons_self _ _)
  have sub2 : ∀ {x y : HP} {v : D} {l : List D}, SeqL F v l → SeqL (x :: y :: F) v l := fun h => (h.sub (List.sublist_cons_self _ _)).sub (List.sublist_cons_self _ _)
  have ht : (as.all fun _ => true) = true := List.all_eq_true.mpr fun _ _ => rfl
  refine sq_seq (sq_asg (sq_mA (sq_cons (sq_var rfl (sq_nil (sq_fn ?_))))))
  refine sq_need_kinds (sub hr) hk hc hl ?_
  rw [hf]
  refine sq_gAttr (sq_var rfl ?_)
  refine sq_setFn (i := 0) rfl (by kernel_rfl) (by kernel_rfl) (Nat.le_of_ble_eq_true rfl) (by rfl) ?_
  refine jS_nx (sq_seq (sq_gifF (sq_or (sq_not (sq_bool (sq_mA (sq_cons (sq_var rfl (sq_nil (sq_fn ?_))))))))))
  try dsimp only [List.set, List.cons_append, List.nil_append]
  refine sp_seq (sub h) ?_
  refine jV_b ?_
  refine jT_fe rfl ?_
  refine sq_not (sq_bool (sq_mA (sq_cons ?_)))
  refine sq_lockS rfl (sub h) ?_
  refine sq_lcN (fun _ : Nat => .bl true) ?_
  refine sq_any (sq_var rfl ?_)
  refine sq_walkV (sub h) fun it hit => ⟨as, .ref, by omega, hit _ (sub h), fun x hx => ⟨_, .nm, ?_⟩, fun m => ?_⟩
  · obtain ⟨fs, g⟩ := ha x hx
    refine sq_mA (sq_cons (sq_var rfl (sq_cons (sq_C (sq_nil ?_)))))
    refine sq_isiC (.ins (Has.tl g)) (by rfl) ?_
    try dsimp only [List.set, List.cons_append, List.nil_append]
    exact ⟨rfl, .rfl⟩
  · refine sq_nil ?_
    refine sq_allF (Has.cell (i := 0) rfl) ?_
    refine jV_b ?_
    rw [ht]
    refine ⟨rfl, ?_⟩
    refine sq_next (jS_nx (sq_seq (sq_asg (sq_mA (sq_cons (sq_var rfl (sq_nil ?_)))))))
    refine sq_tuple (sub2 h) ?_
    refine sq_gAttr (sq_var rfl ?_)
    refine sq_setFn (i := 1) rfl (by kernel_rfl) (by kernel_rfl) (Nat.le_of_ble_eq_true rfl) (by rfl) ?_
    refine jS_nx (sq_seq (sq_asg ?_))
    try dsimp only [List.set, List.cons_append, List.nil_append]
    refine sq_disp0 fun n1 => ?_
    refine sq_gAttr (sq_var rfl ?_)
    refine sq_setZ (i := 2) rfl (by kernel_rfl) (Nat.le_of_ble_eq_true rfl) (by rfl) ?_
    refine jS_nx (sq_next (jO_nx ?_))
    try dsimp only [List.set, List.cons_append, List.nil_append]
    exact jE_drop (jE_drop (jE_ok (q n1)))
end
end
section
open PySem PySem.Spec PyProof.Rows L2 Ev
section
variable {ns : List Int} {j : Nat} {L F : Hc} {K : D → Hc → Prop}
theorem rules_snoc {r : Rw} {a : Nat} : ∀ {as : List Nat} {rows : List Rw}, as.length = rows.length → rulesH (as ++ [a]) (rows ++ [r]) = rulesH as rows ++ [ro a (ruleO r.k r.ts r.ds)]
  | [], [], _ => rfl
  | [], _ :: _, h => by cases h
  | _ :: _, [], h => by cases h
  | b :: as, x :: rows, h => by
    show _ :: rulesH (as ++ [a]) (rows ++ [r]) = _
    rw [rules_snoc (Nat.succ.inj h)]
    rfl
theorem rules_has {i b : Nat} {as : List Nat} {rows : List Rw} (e : L[i]? = some (hstar (rulesH as rows))) (l : as.length = rows.length) (h : b ∈ as) : ∃ fs, Has L b (.ins 5 fs) := by
  obtain ⟨n, hn⟩ := List.getElem?_of_mem h
  have hl := (List.getElem?_eq_some_iff.mp hn).1
  exact ⟨_, Has.star e (Has.ro (i := n) (o := ruleO (rows[n]'(by omega)).k (rows[n]'(by omega)).ts (rows[n]'(by omega)).ds) (by rw [rulesH, List.getElem?_zipWith, hn, List.getElem?_eq_getElem (by omega)]))⟩
theorem sq_Plan_read {rs : List Cs} {rows : List Rw} (B : PlK rs rows) (q : ∀ P : PlA, P.rs = rs → P.rows = rows → P.G → K (.ref P.p) (plH P :: L)) : sq (fnI lw ns prim tb (j + 1 + 1 + 1 + 1 + 1) 14 [.cls 6, .str (ptxt rs rows)]) L K := by
  refine sq_fnB (c := c14) (σ := [some (.cls 6), some (.str (ptxt rs rows)), none, none, none, none, none, none, none]) rfl rfl rfl ?_
  unfold c14
  obtain ⟨hk, hc, hl, hf⟩ := subs_ok rs B.rk
  have hr : ∀ r ∈ rows, RuleK r.k r.ts r.ds := fun r h => (B.rw r h).toK
  have hn := B.n
  refine sq_seq (sq_asg (sq_mt (sq_var rfl ?_)))
  refine jM_str rfl ?_
  refine sq_cons (sq_C (sq_nil ?_))
  refine sq_split (u := [10]) (by decide) fun n1 => ?_
  rw [spl_lines hk hr]
  refine sq_gN (jS_nx (sq_seq (sq_asg (sq_mt (sq_m2 (sq_var rfl (sq_C ?_)))))))
  try dsimp only [List.set, List.cons_append, List.nil_append]
  refine sq_ixL (d := .str (TL.joinL [32] (cRAISE :: rs))) (Has.cell (i := 0) rfl) (atI_nat (j := 0) rfl) ?_
  refine jM_str rfl ?_
  refine sq_cons (sq_C (sq_nil ?_))
  refine sq_split (u := [32]) (by decide) fun n2 => ?_
  rw [spl_words hk]
  refine sq_gN (jS_nx (sq_seq (sq_gifF (sq_or (sq_bool (sq_m2 (sq_m2 (sq_var rfl (sq_C ?_)))))))))
  try dsimp only [List.set, List.cons_append, List.nil_append]
  refine sq_ixL (d := .str cRAISE) (Has.cell (i := 0) rfl) (atI_nat (j := 0) rfl) ?_
  refine sq_C (sq_neS (jV_b ?_))
  refine jT_fe rfl ?_
  refine sq_not (sq_bool (sq_mA (sq_cons (sq_sl (sq_var rfl (sq_part1 (sq_C (jI_int (sq_part0 ?_)))))))))
  refine sq_slL (Has.cell (i := 0) rfl) fun n3 => ?_
  refine sq_nil (sq_fn ?_)
  rw [List.map_cons, cut1]
  refine sq_are_kinds (.lst (Has.cell (i := 0) rfl)) hk hc (by omega) ?_
  refine jV_b ?_
  refine ⟨rfl, ?_⟩
  refine sq_next (jS_nx (sq_seq (sq_glockN (sq_asg ?_))))
  refine sq_ent (Ent.fold (L1 := [])) ?_
  refine sq_lc ?_
  refine sq_any (sq_sl (sq_var rfl (sq_part1 (sq_C (jI_int (sq_part0 ?_))))))
  refine sq_slL (Has.cell (i := 3) rfl) fun n4 => ?_
  refine sq_walkL (Has.cell (i := 0) rfl) ?_
  rw [List.map_cons, cut1]
  generalize hB : cell n3 (O.lst (rs.map D.str)) :: cell n2 (.lst (D.str cRAISE :: rs.map .str)) :: cell n1 (.lst (D.str (TL.joinL [32] (cRAISE :: rs)) :: (rows.map Rw.t).map .str)) :: L = B0
  refine ⟨(rows.map Rw.t).map .str, fun i acc s' => ∃ as : List Nat, acc = as.map .ref ∧ as.length = i ∧ s' = cell n4 (.lst ((rows.map Rw.t).map .str)) :: hstar (rulesH as (rows.take i)) :: B0, by rw [List.length_map, List.length_map]; omega, ⟨[], rfl, rfl, rfl⟩, fun i acc s' _ hI => ?_, fun i d acc s' hd hI => ?_, fun acc s' n hI => ?_⟩
  · obtain ⟨as, rfl, _, rfl⟩ := hI
    exact .lst (Has.cell (i := 0) rfl)
  · obtain ⟨as, rfl, hl, rfl⟩ := hI
    obtain ⟨r, hr', rfl⟩ : ∃ r, rows[i]? = some r ∧ D.str r.t = d := by
      rw [List.getElem?_map, List.getElem?_map] at hd
      cases e : rows[i]? with
      | none => rw [e] at hd; cases hd
      | some r => rw [e] at hd; exact ⟨r, rfl, Option.some.inj hd⟩
    have tk : rows.take (i + 1) = rows.take i ++ [r] := by rw [List.take_succ, hr']; rfl
    have hi := (List.getElem?_eq_some_iff.mp hr').1
    refine ⟨_, .nm, sq_pure (jT_t ?_)⟩
    refine sq_post ?_
    refine sq_mA (sq_cons (sq_var rfl (sq_nil (sq_fn ?_))))
    try dsimp only [List.set, List.cons_append, List.nil_append]
    refine sq_rule_in (hr r (List.mem_of_getElem? hr')) fun a => ⟨_, (Ent.sel [1, 0, 2] (by decide)).trans (Ent.cons Ent.snocStar), as ++ [a], by rw [List.map_append]; rfl, by rw [List.length_append, hl]; rfl, ?_⟩
    rw [tk, rules_snoc (by rw [hl, List.length_take]; omega)]
    rfl
  · obtain ⟨as, rfl, hl, rfl⟩ := hI
    rw [List.length_map, List.length_map] at hl ⊢
    rw [List.take_length]
    refine sq_gN (jS_nx (sq_seq (sq_glockN ?_)))
    try dsimp only [List.set, List.cons_append, List.nil_append]
    refine sq_for ?_
    refine sq_en (sq_var rfl ?_)
    refine jEn_L (Has.cell (i := 0) rfl) ?_
    refine ⟨enumD (as.map .ref), fun i σ' L' => (∃ x y, σ' = [some (.cls 6), some (.str (ptxt rs rows)), some (.ref n1), some (.ref n2), some (.ref n), x, y, none, none]) ∧ L' = cell n (.lst (as.map .ref)) :: cell n4 (.lst ((rows.map Rw.t).map .str)) :: hstar (rulesH as rows) :: B0, ⟨⟨_, _, rfl⟩, rfl⟩, fun i σ' L' _ hI => ?_, fun i d σ' L' hd hI => ?_, fun σ' L' hI => ?_⟩
    · obtain ⟨_, rfl⟩ := hI
      exact .enL (Has.cell (i := 0) rfl)
    · obtain ⟨⟨x, y, rfl⟩, rfl⟩ := hI
      obtain ⟨z, hz, rfl⟩ := enum_at hd
      obtain ⟨a, _, rfl⟩ := List.mem_map.mp (List.mem_of_getElem? hz)
      refine sq_gUn ?_
      try dsimp only [List.set, List.cons_append, List.nil_append]
      refine sq_seqv .tup ?_
      refine jU_ok rfl ?_
      refine sq_gsCons (sq_gN (sq_gsCons (sq_gN (sq_gsNil (sq_seq (sq_gifF (sq_bool (sq_m2 (sq_var rfl (sq_C (sq_isN (jV_b ?_))))))))))))
      try dsimp only [List.set, List.cons_append, List.nil_append]
      refine ⟨rfl, ?_⟩
      refine sq_next (jS_nx (sq_next (jL_nx ?_)))
      exact jG_ok ⟨⟨_, _, rfl⟩, rfl⟩
    · obtain ⟨⟨x, y, rfl⟩, rfl⟩ := hI
      subst hB
      refine jS_nx (sq_seq (sq_ret ?_))
      refine sq_mkL (c := 6) (f := fnI lw ns prim tb (j + 1 + 1 + 1 + 1) 13) rfl (by kernel_rfl) (sq_mk ?_)
      refine sq_cons (sq_sl (sq_var rfl (sq_part1 (sq_C (jI_int (sq_part0 ?_))))))
      refine sq_slL (Has.cell (i := 4) rfl) fun n5 => ?_
      refine sq_cons (sq_var rfl (sq_nil ?_))
      refine fun n6 => ?_
      rw [cut1]
      refine sq_Plan_init (rs := rs) (as := as) (.lst (Has.cell (i := 0) rfl)) hk hc (by omega) hf (.lst (Has.cell (i := 1) rfl)) (fun b hb => rules_has (i := 3) (rows := rows) rfl hl hb) (by omega) fun w => ?_
      refine ⟨rfl, ?_⟩
      refine jS_rt (jO_rt ?_)
      exact jE_ent ((Ent.cons (Ent.drop (Ent.drop (Ent.drop (Ent.cons (Ent.drop (Ent.drop (Ent.drop .rfl)))))))).trans Ent.consStar) (q ⟨n6, w, as, rs, rows⟩ rfl rfl ⟨hl, B.g⟩)
end
end
section
open PySem PySem.Spec PyProof.Rows L2 Ev
section
variable {ns : List Int} {j : Nat} {L F : Hc} {K : D → Hc → Prop} {d i : Nat}
theorem sq_law_draw {n : Nat} (e : L[i]? = some (dealH d)) (h0 : 0 < n) (h1 : n < 1000000) (q : ∀ i, i < n → K (.int (i : Nat)) L) : sq (fnI lw ns prim tb (j + 3 + 1) 22 [.ref d, .int (n : Nat)]) L K :=
  sq_prim (f := drawM) rfl (sq_drawM e (by omega) (by omega) fun i hi => q i (by omega))
theorem sq_law_pick {v : D} {ds : List D} (e : L[i]? = some (dealH d)) (hv : SeqL L v ds) (hn : 0 < ds.length) (hl : ds.length < 1000000) (q : ∀ x ∈ ds, K x L) : sq (fnI lw ns prim tb (j + 3 + 1 + 1) 23 [.ref d, v]) L K := by
  refine sq_fnB (c := c23) (σ := [some (.ref d), some (v)]) rfl rfl rfl ?_
  unfold c23
  refine sq_seq (sq_ret (sq_m2 (sq_var rfl (sq_mA (sq_cons (sq_var rfl (sq_cons (sq_mA (sq_cons (sq_var rfl (sq_nil ?_)))))))))))
  refine sq_lenV hv ?_
  refine sq_nil (sq_fn ?_)
  refine sq_law_draw e hn hl fun i hi => ?_
  refine sq_ixV hv (atI_nat (List.getElem?_eq_getElem hi)) ?_
  refine jS_rt (jO_rt ?_)
  exact jE_ok (q _ (List.getElem_mem hi))
theorem sq_law_tests_of {k : Cs} (q : ∀ n, K (.ref n) (cell n (.lst ((plainW k).map .str)) :: L)) : sq (fnI lw ns prim tb (j + 1) 24 [.str k]) L K := by
  refine sq_fnB (c := c24) (σ := [some (.str k), none, none]) rfl rfl rfl ?_
  unfold c24
  unfold plainW at q
  refine sq_seq (sq_gif (sq_bool (sq_m2 (sq_var rfl (sq_C (sq_eqS (jV_b ?_)))))))
  refine jT_d (fun h => ?_) fun h => ?_
  · rw [if_pos (show k = wANS from h)] at q
    refine sq_seq (sq_ret (sq_mA (sq_cons (sq_C (sq_nil ?_)))))
    refine sq_lstM (by first | exact Nat.le_of_ble_eq_true rfl | omega | (simp only [List.length_append, List.length_map, List.length_cons, List.length_nil]; omega)) fun n1 => ?_
    refine jS_rt (jS_rt (jO_rt ?_))
    exact jE_ok (q n1)
  · rw [if_neg (show ¬ k = wANS from h)] at q
    refine sq_next (jS_nx (sq_seq (sq_asg (sq_mA (sq_cons (sq_C (sq_cons (sq_C (sq_nil ?_)))))))))
    refine sq_lstM (by first | exact Nat.le_of_ble_eq_true rfl | omega | (simp only [List.length_append, List.length_map, List.length_cons, List.length_nil]; omega)) fun n1 => ?_
    refine sq_gN (jS_nx (sq_seq (sq_glockN ?_)))
    try dsimp only [List.set, List.cons_append, List.nil_append]
    refine sq_forU ?_
    refine sq_any (sq_mA (sq_cons (sq_C (sq_cons (sq_C (sq_cons (sq_C (sq_nil ?_))))))))
    refine sq_tup (by first | exact Nat.le_of_ble_eq_true rfl | omega | (simp only [List.length_append, List.length_map, List.length_cons, List.length_nil]; omega)) ?_
    refine sq_walkT (jW_at (unr_cons (sq_gN (sq_seq (sq_expr (sq_mt (sq_var rfl ?_)))))))
    try dsimp only [List.set, List.cons_append, List.nil_append]
    refine jM_lst (Has.cell (i := 0) rfl) rfl ?_
    refine sq_cons (sq_mA (sq_cons (sq_m2 (sq_var rfl (sq_C ?_)))))
    refine sq_addS (Nat.le_of_ble_eq_true rfl) ?_
    refine sq_cons (sq_m2 (sq_var rfl (sq_C ?_)))
    refine sq_addS (Nat.le_of_ble_eq_true rfl) ?_
    refine sq_nil ?_
    refine sq_lstM (by first | exact Nat.le_of_ble_eq_true rfl | omega | (simp only [List.length_append, List.length_map, List.length_cons, List.length_nil]; omega)) fun n2 => ?_
    refine sq_nil ?_
    refine sq_extend (i := 1) rfl (Has.cell (i := 0) rfl) (Nat.le_of_ble_eq_true rfl) ?_
    refine jS_nx (sq_next (jL_nx ?_))
    try dsimp only [List.set, List.cons_append, List.nil_append]
    refine jG_ok ?_
    refine unr_cons (sq_gN (sq_seq (sq_expr (sq_mt (sq_var rfl ?_)))))
    try dsimp only [List.set, List.cons_append, List.nil_append]
    refine jM_lst (Has.cell (i := 1) rfl) rfl ?_
    refine sq_cons (sq_mA (sq_cons (sq_m2 (sq_var rfl (sq_C ?_)))))
    refine sq_addS (Nat.le_of_ble_eq_true rfl) ?_
    refine sq_cons (sq_m2 (sq_var rfl (sq_C ?_)))
    refine sq_addS (Nat.le_of_ble_eq_true rfl) ?_
    refine sq_nil ?_
    refine sq_lstM (by first | exact Nat.le_of_ble_eq_true rfl | omega | (simp only [List.length_append, List.length_map, List.length_cons, List.length_nil]; omega)) fun n3 => ?_
    refine sq_nil ?_
    refine sq_extend (i := 2) rfl (Has.cell (i := 0) rfl) (Nat.le_of_ble_eq_true rfl) ?_
    refine jS_nx (sq_next (jL_nx ?_))
    try dsimp only [List.set, List.cons_append, List.nil_append]
    refine jG_ok ?_
    refine unr_cons (sq_gN (sq_seq (sq_expr (sq_mt (sq_var rfl ?_)))))
    try dsimp only [List.set, List.cons_append, List.nil_append]
    refine jM_lst (Has.cell (i := 2) rfl) rfl ?_
    refine sq_cons (sq_mA (sq_cons (sq_m2 (sq_var rfl (sq_C ?_)))))
    refine sq_addS (Nat.le_of_ble_eq_true rfl) ?_
    refine sq_cons (sq_m2 (sq_var rfl (sq_C ?_)))
    refine sq_addS (Nat.le_of_ble_eq_true rfl) ?_
    refine sq_nil ?_
    refine sq_lstM (by first | exact Nat.le_of_ble_eq_true rfl | omega | (simp only [List.length_append, List.length_map, List.length_cons, List.length_nil]; omega)) fun n4 => ?_
    refine sq_nil ?_
    refine sq_extend (i := 3) rfl (Has.cell (i := 0) rfl) (Nat.le_of_ble_eq_true rfl) ?_
    refine jS_nx (sq_next (jL_nx ?_))
    try dsimp only [List.set, List.cons_append, List.nil_append]
    refine jG_ok ?_
    refine unr_nil (jS_nx (sq_seq (sq_ret (sq_var rfl (jS_rt (jO_rt ?_))))))
    exact jE_drop (jE_drop (jE_drop (jE_ok (q n1))))
theorem sq_law_deeds_of {k : Cs} (q : ∀ (n : Nat) (ds : List Cs), ds.length = 3 → (∀ d ∈ ds, d ∈ deedsK k) → K (.ref n) (cell n (.lst (ds.map .str)) :: L)) : sq (fnI lw ns prim tb (j + 1) 25 [.str k]) L K := by
  refine sq_fnB (c := c25) (σ := [some (.str k)]) rfl rfl rfl ?_
  unfold c25
  refine sq_seq (sq_ret (sq_if (sq_bool (sq_m2 (sq_var rfl (sq_C (sq_eqS (jV_b ?_))))))))
  refine jT_d (fun h => ?_) fun h => ?_
  · have h : k = wANS := h
    refine sq_mA (sq_cons (sq_C (sq_cons (sq_C (sq_cons (sq_C (sq_nil ?_)))))))
    refine sq_lstM (by first | exact Nat.le_of_ble_eq_true rfl | omega | (simp only [List.length_append, List.length_map, List.length_cons, List.length_nil]; omega)) fun n1 => ?_
    refine jS_rt (jO_rt ?_)
    exact jE_ok (q n1 [[99, 111, 117, 110, 116], [99, 111, 117, 110, 116], [100, 114, 111, 112]] rfl (by rw [deedsK, if_pos h]; decide))
  · have h : ¬ k = wANS := h
    refine sq_mA (sq_cons (sq_C (sq_cons (sq_C (sq_cons (sq_C (sq_nil ?_)))))))
    refine sq_lstM (by first | exact Nat.le_of_ble_eq_true rfl | omega | (simp only [List.length_append, List.length_map, List.length_cons, List.length_nil]; omega)) fun n1 => ?_
    refine jS_rt (jO_rt ?_)
    exact jE_ok (q n1 [[116, 97, 107, 101], [116, 97, 107, 101], [119, 105, 112, 101]] rfl (by rw [deedsK, if_neg h]; decide))
theorem sq_law_wide_rule (e : L[i]? = some (dealH d)) (q : ∀ r : Rw, r.K4 → K r.d L) : sq (fnI lw ns prim tb (j + 3 + 1 + 1 + 1) 28 [.ref d]) L K := by
  refine sq_fnB (c := c28) (σ := [some (.ref d), none, none, none, none]) rfl rfl rfl ?_
  unfold c28
  refine sq_seq (sq_asg (sq_mA (sq_cons (sq_var rfl (sq_cons (sq_mA (sq_cons (sq_C (sq_cons (sq_C (sq_cons (sq_C (sq_cons (sq_C (sq_cons (sq_C (sq_nil ?_)))))))))))))))))
  refine sq_lstM (by first | exact Nat.le_of_ble_eq_true rfl | omega | (simp only [List.length_append, List.length_map, List.length_cons, List.length_nil]; omega)) fun n1 => ?_
  refine sq_nil (sq_fn ?_)
  refine sq_law_pick (i := i + 1) e (.lst (Has.cell (i := 0) rfl)) (by decide) (by decide) fun x hx => ?_
  obtain ⟨k, hk, rfl⟩ : ∃ k ∈ kinds ++ [wANS], D.str k = x := List.mem_map.mp (show x ∈ (kinds ++ [wANS]).map D.str from hx)
  clear hx
  refine sq_ent (Ent.drop .rfl) ?_
  refine sq_gN (jS_nx (sq_seq (sq_asg (sq_mA (sq_cons (sq_mA (sq_nil ?_)))))))
  try dsimp only [List.set, List.cons_append, List.nil_append]
  refine sq_lstM (by first | exact Nat.le_of_ble_eq_true rfl | omega | (simp only [List.length_append, List.length_map, List.length_cons, List.length_nil]; omega)) fun n2 => ?_
  refine sq_cons (sq_mA (sq_nil ?_))
  refine sq_lstM (by first | exact Nat.le_of_ble_eq_true rfl | omega | (simp only [List.length_append, List.length_map, List.length_cons, List.length_nil]; omega)) fun n3 => ?_
  refine sq_nil ?_
  refine sq_tup (by first | exact Nat.le_of_ble_eq_true rfl | omega | (simp only [List.length_append, List.length_map, List.length_cons, List.length_nil]; omega)) ?_
  refine sq_gUn ?_
  refine sq_seqv .tup ?_
  refine jU_ok rfl ?_
  refine sq_gsCons (sq_gN (sq_gsCons (sq_gN (sq_gsNil (jS_nx (sq_seq (sq_glockN ?_)))))))
  try dsimp only [List.set, List.cons_append, List.nil_append]
  refine sq_for ?_
  refine sq_rng1 (sq_mA (sq_cons (sq_var rfl (sq_cons (sq_C (sq_nil (sq_fn ?_)))))))
  refine sq_law_draw (n := 5) (i := i + 2) e (by decide) (by decide) fun m hm => ?_
  refine jRg_n (by first | exact Nat.le_of_ble_eq_true rfl | omega | (simp only [List.length_append, List.length_map, List.length_cons, List.length_nil]; omega)) ?_
  refine ⟨rngD 0 m, fun n' σ' L' => ∃ (ts : List Cs) (x : Option D), σ' = [some (.ref d), some (.str k), some (.ref n2), some (.ref n3), x] ∧ L' = cell n3 (.lst []) :: cell n2 (.lst (ts.map .str)) :: L ∧ (∀ t ∈ ts, t ∈ testsK k) ∧ ts.length ≤ n', ⟨[], _, rfl, rfl, fun _ h => (by cases h), Nat.le_refl _⟩, fun _ _ _ _ _ => .rng, fun n' td σ' L' hd hI => ?_, fun σ' L' hI => ?_⟩
  · obtain ⟨ts, x, rfl, rfl, hts, hl⟩ := hI
    obtain ⟨hn', rfl⟩ := rng_nth hd
    clear hd
    refine sq_gN (sq_seq (sq_expr (sq_mt (sq_var rfl ?_))))
    try dsimp only [List.set, List.cons_append, List.nil_append]
    refine jM_lst (Has.cell (i := 1) rfl) rfl ?_
    refine sq_cons (sq_m2 (sq_mA (sq_cons (sq_var rfl (sq_cons (sq_mA (sq_cons (sq_C (sq_cons (sq_C (sq_nil ?_)))))))))))
    refine sq_lstM (by first | exact Nat.le_of_ble_eq_true rfl | omega | (simp only [List.length_append, List.length_map, List.length_cons, List.length_nil]; omega)) fun n4 => ?_
    refine sq_nil (sq_fn ?_)
    refine sq_law_pick (i := i + 3) e (.lst (Has.cell (i := 0) rfl)) (by decide) (by decide) fun x hx => ?_
    obtain ⟨a, ha, rfl⟩ : ∃ a ∈ [[], wNOT], D.str a = x := List.mem_map.mp (show x ∈ ([[], wNOT] : List Cs).map D.str from hx)
    clear hx
    refine sq_mA (sq_cons (sq_var rfl (sq_cons (sq_mA (sq_cons (sq_var rfl (sq_nil (sq_fn ?_))))))))
    refine sq_law_tests_of fun n => ?_
    refine sq_nil (sq_fn ?_)
    refine sq_law_pick (i := i + 4) e (.lst (Has.cell (i := 0) rfl)) (by rw [List.length_map]; exact plain_len k) (by rw [List.length_map]; have := (plainW_ok k).1; omega) fun y hy => ?_
    obtain ⟨t, ht, rfl⟩ := List.mem_map.mp hy
    clear hy
    have h1 := (plainW_ok k).2 t ht
    have h2 : a.length ≤ 4 := (show ∀ a ∈ ([[], wNOT] : List Cs), a.length ≤ 4 by decide) a ha
    refine sq_addS (by rw [List.length_append]; omega) ?_
    refine sq_nil ?_
    refine sq_append (i := 3) rfl (by first | exact Nat.le_of_ble_eq_true rfl | omega | (simp only [List.length_append, List.length_map, List.length_cons, List.length_nil]; omega)) ?_
    refine jS_nx (sq_next (jL_nx ?_))
    try dsimp only [List.set, List.cons_append, List.nil_append]
    refine jG_ent (Ent.drop (Ent.drop .rfl)) ⟨ts ++ [a ++ t], _, rfl, by rw [List.map_append]; rfl, fun z hz => ?_, by rw [List.length_append]; show _ + 1 ≤ _; omega⟩
    rcases List.mem_append.mp hz with y | y
    · exact hts z y
    · rw [List.mem_singleton.mp y]
      exact not_in ha ht
  · obtain ⟨ts, x, rfl, rfl, hts, hl⟩ := hI
    rw [len_rng] at hl
    refine jS_nx (sq_seq (sq_glockN ?_))
    refine sq_for ?_
    refine sq_rng1 (sq_mA (sq_cons (sq_var rfl (sq_cons (sq_C (sq_nil (sq_fn ?_)))))))
    refine sq_law_draw (n := 5) (i := i + 2) e (by decide) (by decide) fun m2 hm2 => ?_
    refine jRg_n (by first | exact Nat.le_of_ble_eq_true rfl | omega | (simp only [List.length_append, List.length_map, List.length_cons, List.length_nil]; omega)) ?_
    refine ⟨rngD 0 m2, fun n' σ' L' => ∃ (ds : List Cs) (x : Option D), σ' = [some (.ref d), some (.str k), some (.ref n2), some (.ref n3), x] ∧ L' = cell n3 (.lst (ds.map .str)) :: cell n2 (.lst (ts.map .str)) :: L ∧ (∀ t ∈ ds, t ∈ deedsK k) ∧ ds.length ≤ n', ⟨[], _, rfl, rfl, fun _ h => (by cases h), Nat.le_refl _⟩, fun _ _ _ _ _ => .rng, fun n' td σ' L' hd hI => ?_, fun σ' L' hI => ?_⟩
    · obtain ⟨ds, x, rfl, rfl, hds, hl2⟩ := hI
      obtain ⟨hn', rfl⟩ := rng_nth hd
      clear hd
      refine sq_gN (sq_seq (sq_expr (sq_mt (sq_var rfl ?_))))
      try dsimp only [List.set, List.cons_append, List.nil_append]
      refine jM_lst (Has.cell (i := 0) rfl) rfl ?_
      refine sq_cons (sq_mA (sq_cons (sq_var rfl (sq_cons (sq_mA (sq_cons (sq_var rfl (sq_nil (sq_fn ?_)))))))))
      refine sq_law_deeds_of fun n es e3 hes => ?_
      refine sq_nil (sq_fn ?_)
      refine sq_law_pick (i := i + 3) e (.lst (Has.cell (i := 0) rfl)) (by rw [List.length_map]; omega) (by rw [List.length_map]; omega) fun y hy => ?_
      obtain ⟨t, ht, rfl⟩ := List.mem_map.mp hy
      clear hy
      refine sq_nil ?_
      refine sq_append (i := 1) rfl (by first | exact Nat.le_of_ble_eq_true rfl | omega | (simp only [List.length_append, List.length_map, List.length_cons, List.length_nil]; omega)) ?_
      refine jS_nx (sq_next (jL_nx ?_))
      try dsimp only [List.set, List.cons_append, List.nil_append]
      refine jG_drop (jG_ok ⟨ds ++ [t], _, rfl, by rw [List.map_append]; rfl, fun z hz => ?_, by rw [List.length_append]; show _ + 1 ≤ _; omega⟩)
      rcases List.mem_append.mp hz with y | y
      · exact hds z y
      · rw [List.mem_singleton.mp y]
        exact hes t ht
    · obtain ⟨ds, x, rfl, rfl, hds, hl2⟩ := hI
      rw [len_rng] at hl2
      refine jS_nx (sq_seq (sq_ret (sq_mA (sq_cons (sq_var rfl (sq_cons (sq_mA (sq_cons (sq_var rfl (sq_nil ?_))))))))))
      refine sq_tuple (.lst (Has.cell (i := 1) rfl)) ?_
      refine sq_cons (sq_mA (sq_cons (sq_var rfl (sq_nil ?_))))
      refine sq_tuple (.lst (Has.cell (i := 0) rfl)) ?_
      refine sq_nil ?_
      refine sq_tup (by first | exact Nat.le_of_ble_eq_true rfl | omega | (simp only [List.length_append, List.length_map, List.length_cons, List.length_nil]; omega)) ?_
      refine jS_rt (jO_rt ?_)
      exact jE_drop (jE_drop (jE_ok (q ⟨k, ts, ds⟩ ⟨hk, hts, hds, by show ts.length ≤ 4; omega, by show ds.length ≤ 4; omega⟩)))
theorem sq_law_wide_plan {most : Nat} (hm : most ≤ 50) (e : L[i]? = some (dealH d)) (q : ∀ (n : Nat) (rs : List Cs) (rows : List Rw), PlK rs rows → rows.length ≤ most → K (.tup [.tup (rs.map .str), .ref n]) (cell n (.lst (rows.map Rw.d)) :: L)) : sq (fnI lw ns prim tb (j + 3 + 1 + 1 + 1 + 1) 29 [.ref d, .int most]) L K := by
  refine sq_fnB (c := c29) (σ := [some (.ref d), some (.int most), none, none, none, none]) rfl rfl rfl ?_
  unfold c29
  refine sq_seq (sq_glockN (sq_asg ?_))
  refine sq_lc ?_
  refine sq_any (sq_mA (sq_cons (sq_C (sq_cons (sq_C (sq_cons (sq_C (sq_cons (sq_C (sq_nil ?_))))))))))
  refine sq_tup (by first | exact Nat.le_of_ble_eq_true rfl | omega | (simp only [List.length_append, List.length_map, List.length_cons, List.length_nil]; omega)) ?_
  refine sq_walkT ?_
  refine ⟨kinds.map .str, fun n acc s' => ∃ rs : List Cs, acc = rs.map .str ∧ rs.Sublist (kinds.take n) ∧ s' = L, by decide, ⟨[], rfl, .slnil, rfl⟩, fun n acc s' _ hI => .tup, fun n x acc s' hd hI => ?_, fun acc s' n1 hI => ?_⟩
  · obtain ⟨rs, rfl, hs, rfl⟩ := hI
    rw [List.getElem?_map] at hd
    cases hk : kinds[n]? with
    | none => rw [hk] at hd; cases hd
    | some k =>
      rw [hk] at hd
      cases hd
      have tk : kinds.take (n + 1) = kinds.take n ++ [k] := by rw [List.take_succ, hk]; rfl
      refine ⟨_, .nm, ?_⟩
      refine sq_bool (sq_m2 (sq_mA (sq_cons (sq_var rfl (sq_cons (sq_C (sq_nil (sq_fn ?_))))))))
      try dsimp only [List.set, List.cons_append, List.nil_append]
      refine sq_law_draw (n := 2) (i := i) e (by decide) (by decide) fun m hm => ?_
      refine sq_C (sq_eqI (jV_b ?_))
      refine jT_b (fun _ => ?_) fun _ => ?_
      · refine sq_var rfl ?_
        exact ⟨rs ++ [k], by rw [List.map_append]; rfl, by rw [tk]; exact hs.append (List.Sublist.refl _), rfl⟩
      · exact ⟨rs, rfl, by rw [tk]; exact hs.trans (List.sublist_append_left _ _), rfl⟩
  obtain ⟨rs, rfl, hs, rfl⟩ := hI
  have hs : rs ∈ subs kinds := mem_subs hs
  refine sq_gN (jS_nx (sq_seq (sq_ret (sq_mA (sq_cons (sq_mA (sq_cons (sq_var rfl (sq_nil ?_)))))))))
  try dsimp only [List.set, List.cons_append, List.nil_append]
  refine sq_tuple (.lst (Has.cell (i := 0) rfl)) ?_
  refine sq_cons (sq_lockN ?_)
  refine sq_lcR (fun _ y => ∃ r : Rw, r.K4 ∧ y = r.d) ?_
  refine sq_rng1 (sq_mA (sq_cons (sq_var rfl (sq_cons (sq_m2 (sq_var rfl (sq_C (sq_addN1 (sq_nil (sq_fn ?_))))))))))
  refine sq_law_draw (n := most + 1) (i := i + 1) e (by omega) (by omega) fun m hm => ?_
  refine jRg_n (by first | exact Nat.le_of_ble_eq_true rfl | omega | (simp only [List.length_append, List.length_map, List.length_cons, List.length_nil]; omega)) ?_
  refine ⟨rngD 0 m, by rw [len_rng]; omega, .rng, fun x _ => ⟨_, .nm, ?_⟩, fun ys n2 hys => ?_⟩
  · refine sq_mA (sq_cons (sq_var rfl (sq_nil (sq_fn ?_))))
    exact sq_law_wide_rule (i := i + 1) e fun r hr => ⟨⟨r, hr, rfl⟩, .rfl⟩
  obtain ⟨rows, rfl, hr, l2⟩ := all2_map hys
  rw [len_rng] at l2
  refine sq_nil ?_
  refine sq_tup (by first | exact Nat.le_of_ble_eq_true rfl | omega | (simp only [List.length_append, List.length_map, List.length_cons, List.length_nil]; omega)) ?_
  refine jS_rt (jO_rt ?_)
  exact jE_ent (Ent.cons (Ent.drop .rfl)) (q n2 rs rows ⟨hs, hr, by omega⟩ (by omega))
theorem sq_law_rule_text {r : Rw} (R : r.K4) (q : K (.str r.t) L) : sq (fnI lw ns prim tb (j + 1) 26 [r.d]) L K := by
  cases r with
  | mk k ts ds =>
  refine sq_fnB (c := c26) (σ := [some (.tup [.str k, .tup (ts.map .str), .tup (ds.map .str)]), none]) rfl rfl rfl ?_
  unfold c26
  have kl : k.length ≤ 100 := R.toK.kl
  have hj1 := join_ok (sep := cAND) R.toK.tl R.toK.lt (by decide)
  have hj2 := join_ok (sep := cTHEN) R.toK.dl R.toK.ld (by decide)
  have hl1 : (TL.joinL cAND ts).length ≤ 200000 := Nat.le_trans (join_len cAND ts) hj1
  have hl2 : (TL.joinL cTHEN ds).length ≤ 200000 := Nat.le_trans (join_len cTHEN ds) hj2
  obtain ⟨l1, l2⟩ := R.toK.lens
  have c1 : cON.length = 3 := rfl
  refine sq_seq (sq_asg (sq_m2 (sq_m2 (sq_C (sq_m2 (sq_var rfl (sq_C ?_)))))))
  refine sq_ixT (by rfl) ?_
  refine sq_addS (by rw [List.length_append]; show 3 + k.length ≤ _; omega) ?_
  refine sq_ifP (x := !decide (ts = [])) (a := .str (cIF ++ TL.joinL cAND ts)) (b := .str []) ?_ (fun _ => ?_) (fun _ => ?_) ?_
  · refine sq_bool (sq_m2 (sq_m2 (sq_var rfl (sq_C ?_))))
    refine sq_ixT (by rfl) ?_
    refine sq_mA (sq_nil ?_)
    refine sq_tup (by first | exact Nat.le_of_ble_eq_true rfl | omega | (simp only [List.length_append, List.length_map, List.length_cons, List.length_nil]; omega)) ?_
    refine sq_neT (ys := []) ?_
    exact ⟨rfl, rfl⟩
  · refine sq_m2 (sq_C (sq_mt (sq_C ?_)))
    refine jM_str rfl ?_
    refine sq_cons (sq_m2 (sq_var rfl (sq_C ?_)))
    refine sq_ixT (by rfl) ?_
    refine sq_nil ?_
    refine sq_join (t := cAND) (ws := ts) .tup (Nat.le_trans hj1 (by decide)) ?_
    refine sq_addS (by rw [List.length_append]; show 4 + (TL.joinL cAND ts).length ≤ _; omega) ?_
    exact ⟨rfl, rfl⟩
  · refine sq_C ?_
    exact ⟨rfl, rfl⟩
  rw [optT_ne]
  refine sq_addS (by rw [List.length_append, List.length_append]; show 3 + k.length + _ ≤ _; have := l1; dsimp only at this; omega) ?_
  refine sq_gN (jS_nx (sq_seq (sq_ret (sq_m2 (sq_var rfl ?_)))))
  refine sq_ifP (x := !decide (ds = [])) (a := .str (cDO ++ TL.joinL cTHEN ds)) (b := .str []) ?_ (fun _ => ?_) (fun _ => ?_) ?_
  · refine sq_bool (sq_m2 (sq_m2 (sq_var rfl (sq_C ?_))))
    try dsimp only [List.set, List.cons_append, List.nil_append]
    refine sq_ixT (by rfl) ?_
    refine sq_mA (sq_nil ?_)
    refine sq_tup (by first | exact Nat.le_of_ble_eq_true rfl | omega | (simp only [List.length_append, List.length_map, List.length_cons, List.length_nil]; omega)) ?_
    refine sq_neT (ys := []) ?_
    exact ⟨rfl, rfl⟩
  · refine sq_m2 (sq_C (sq_mt (sq_C ?_)))
    try dsimp only [List.set, List.cons_append, List.nil_append]
    refine jM_str rfl ?_
    refine sq_cons (sq_m2 (sq_var rfl (sq_C ?_)))
    refine sq_ixT (by rfl) ?_
    refine sq_nil ?_
    refine sq_join (t := cTHEN) (ws := ds) .tup (Nat.le_trans hj2 (by decide)) ?_
    refine sq_addS (by rw [List.length_append]; show 4 + (TL.joinL cTHEN ds).length ≤ _; omega) ?_
    exact ⟨rfl, rfl⟩
  · refine sq_C ?_
    try dsimp only [List.set, List.cons_append, List.nil_append]
    exact ⟨rfl, rfl⟩
  rw [optT_ne]
  refine sq_addS (by rw [List.length_append, List.length_append, List.length_append]; show 3 + k.length + _ + _ ≤ _; have := l1; have := l2; dsimp only at *; omega) ?_
  refine jS_rt (jO_rt ?_)
  exact jE_ok q
theorem sq_law_text {b : Nat} {rs : List Cs} {rows : List Rw} (B : PlK rs rows) (g : Has L b (.lst (rows.map Rw.d))) (q : K (.str (ptxt rs rows)) L) : sq (fnI lw ns prim tb (j + 1 + 1) 27 [.tup [.tup (rs.map .str), .ref b]]) L K := by
  refine sq_fnB (c := c27) (σ := [some (.tup [.tup (rs.map .str), .ref b]), none, none]) rfl rfl rfl ?_
  unfold c27
  have h0 := line0_len B.rk
  have lns := lines_ok B
  have hl := (subs_ok rs B.rk).2.2.1
  have hn := B.n
  refine sq_seq (sq_ret (sq_mt (sq_C ?_)))
  refine jM_str rfl ?_
  refine sq_cons (sq_m2 (sq_mA (sq_cons (sq_mt (sq_C ?_)))))
  refine jM_str rfl ?_
  refine sq_cons (sq_m2 (sq_mA (sq_cons (sq_C (sq_nil ?_)))))
  refine sq_tup (by first | exact Nat.le_of_ble_eq_true rfl | omega | (simp only [List.length_append, List.length_map, List.length_cons, List.length_nil]; omega)) ?_
  refine sq_m2 (sq_var rfl (sq_C ?_))
  refine sq_ixT (by rfl) ?_
  refine sq_catT (by rw [List.length_map]; show 1 + rs.length ≤ _; omega) ?_
  refine sq_nil ?_
  try dsimp only [List.set, List.cons_append, List.nil_append]
  refine sq_join (t := [32]) (ws := cRAISE :: rs) .tup (Nat.le_trans h0.2 (by decide)) ?_
  refine sq_nil ?_
  refine sq_lstM (by first | exact Nat.le_of_ble_eq_true rfl | omega | (simp only [List.length_append, List.length_map, List.length_cons, List.length_nil]; omega)) fun n1 => ?_
  refine sq_lockN ?_
  refine sq_lcN (fun r : Rw => .str r.t) ?_
  refine sq_any (sq_m2 (sq_var rfl (sq_C ?_)))
  refine sq_ixT (by rfl) ?_
  refine sq_walkL (Has.tl g) ?_
  refine ⟨rows, Rw.d, by omega, .lst g.tl, fun r hr => ⟨_, .nm, ?_⟩, fun m => ?_⟩
  · refine sq_mA (sq_cons (sq_var rfl (sq_nil (sq_fn ?_))))
    exact sq_law_rule_text (B.rw r hr) ⟨rfl, .rfl⟩
  skip
  refine sq_catL (Has.cell (i := 1) rfl) (Has.cell (i := 0) rfl) (by rw [List.length_map]; show 1 + _ ≤ _; omega) fun m2 => ?_
  refine sq_nil ?_
  try dsimp only [List.set, List.cons_append, List.nil_append]
  refine sq_join (t := [10]) (ws := TL.joinL [32] (cRAISE :: rs) :: rows.map Rw.t) (.lst (by rw [List.map_cons, List.map_map]; exact Has.cell (i := 0) rfl)) lns ?_
  refine jS_rt (jO_rt ?_)
  exact jE_drop (jE_drop (jE_drop (jE_ok q)))
theorem sq_law_made {b : Nat} {rs : List Cs} {rows : List Rw} (B : PlK rs rows) (g : Has L b (.lst (rows.map Rw.d))) (q : ∀ P : PlA, P.rs = rs → P.rows = rows → P.G → K (.ref P.p) (plH P :: L)) : sq (fnI lw ns prim tb (j + 1 + 1 + 1 + 1 + 1 + 1) 30 [.tup [.tup (rs.map .str), .ref b]]) L K := by
  refine sq_fnB (c := c30) (σ := [some (.tup [.tup (rs.map .str), .ref b])]) rfl rfl rfl ?_
  unfold c30
  refine sq_seq (sq_ret ?_)
  refine sq_cm (c := 6) (f := fnI lw ns prim tb (j + 5) 14) (by kernel_rfl) ?_
  refine sq_C ?_
  refine ⟨rfl, ?_⟩
  refine sq_cons (sq_mA (sq_cons (sq_var rfl (sq_nil (sq_fn ?_)))))
  refine sq_law_text B g ?_
  refine sq_nil ?_
  refine sq_Plan_read B fun P e1 e2 G => ?_
  refine jS_rt (jO_rt ?_)
  exact jE_ok (q P e1 e2 G)
end
end
section
open PySem PySem.Spec PyProof.Rows L2 Ev
section
variable {ns : List Int} {j : Nat} {L F : Hc} {K : D → Hc → Prop} {P Q : PlA} {i k : Nat}
theorem sq_Rule_str {b : Nat} {r : Rw} (g : Has L b (ruleO r.k r.ts r.ds)) (R : r.K4) (q : K (.str r.t) L) : sq (fnI lw ns prim tb (j + 1) 8 [.ref b]) L K := by
  cases r with
  | mk k ts ds =>
  refine sq_fnB (c := c8) (σ := [some (.ref b), none, none]) rfl rfl rfl ?_
  unfold c8
  have kl : k.length ≤ 100 := R.toK.kl
  have hj1 := join_ok (sep := cAND) R.toK.tl R.toK.lt (by decide)
  have hj2 := join_ok (sep := cTHEN) R.toK.dl R.toK.ld (by decide)
  have hl1 : (TL.joinL cAND ts).length ≤ 200000 := Nat.le_trans (join_len cAND ts) hj1
  have hl2 : (TL.joinL cTHEN ds).length ≤ 200000 := Nat.le_trans (join_len cTHEN ds) hj2
  obtain ⟨l1, l2⟩ := R.toK.lens
  have c1 : cON.length = 3 := rfl
  dsimp only at l1 l2 hj1 hj2
  refine sq_seq (sq_asg ?_)
  refine sq_ifP (x := decide ((0 : Int) < ((ts.map D.str).length : Nat))) (a := .str (cIF ++ TL.joinL cAND ts)) (b := .str []) ?_ (fun _ => ?_) (fun _ => ?_) ?_
  · refine sq_bool (sq_m2 (sq_mA (sq_cons (sq_m1 (sq_var rfl ?_)))))
    refine sq_fld g (by kernel_rfl) (by kernel_rfl) rfl ?_
    refine sq_nil (sq_lenT (sq_C (sq_gtI (jV_b ?_))))
    try dsimp only [List.set, List.cons_append, List.nil_append]
    exact ⟨rfl, rfl⟩
  · refine sq_m2 (sq_C (sq_mt (sq_C ?_)))
    refine jM_str rfl ?_
    refine sq_cons (sq_m1 (sq_var rfl ?_))
    refine sq_fld g (by kernel_rfl) (by kernel_rfl) rfl ?_
    refine sq_nil ?_
    try dsimp only [List.set, List.cons_append, List.nil_append]
    refine sq_join (t := cAND) (ws := ts) .tup (Nat.le_trans hj1 (by decide)) ?_
    refine sq_addS (by rw [List.length_append]; show 4 + (TL.joinL cAND ts).length ≤ _; omega) ?_
    exact ⟨rfl, rfl⟩
  · refine sq_C ?_
    exact ⟨rfl, rfl⟩
  rw [optT_len2]
  refine sq_gN (jS_nx (sq_seq (sq_asg ?_)))
  dsimp only [List.set]
  refine sq_ifP (x := decide ((0 : Int) < ((ds.map D.str).length : Nat))) (a := .str (cDO ++ TL.joinL cTHEN ds)) (b := .str []) ?_ (fun _ => ?_) (fun _ => ?_) ?_
  · refine sq_bool (sq_m2 (sq_mA (sq_cons (sq_m1 (sq_var rfl ?_)))))
    refine sq_fld g (by kernel_rfl) (by kernel_rfl) rfl ?_
    refine sq_nil (sq_lenT (sq_C (sq_gtI (jV_b ?_))))
    try dsimp only [List.set, List.cons_append, List.nil_append]
    exact ⟨rfl, rfl⟩
  · refine sq_m2 (sq_C (sq_mt (sq_C ?_)))
    refine jM_str rfl ?_
    refine sq_cons (sq_m1 (sq_var rfl ?_))
    refine sq_fld g (by kernel_rfl) (by kernel_rfl) rfl ?_
    refine sq_nil ?_
    try dsimp only [List.set, List.cons_append, List.nil_append]
    refine sq_join (t := cTHEN) (ws := ds) .tup (Nat.le_trans hj2 (by decide)) ?_
    refine sq_addS (by rw [List.length_append]; show 4 + (TL.joinL cTHEN ds).length ≤ _; omega) ?_
    exact ⟨rfl, rfl⟩
  · refine sq_C ?_
    exact ⟨rfl, rfl⟩
  rw [optT_len2]
  refine sq_gN (jS_nx (sq_seq (sq_ret (sq_joined (sq_jsCons (sq_C ?_))))))
  try dsimp only [List.set, List.cons_append, List.nil_append]
  refine jJ_str (by first | exact Nat.le_of_ble_eq_true rfl | omega | (simp only [List.length_append, List.length_map, List.length_cons, List.length_nil]; omega)) ?_
  refine sq_jsCons (sq_m1 (sq_m1 (sq_var rfl ?_)))
  refine sq_fld g (by kernel_rfl) (by kernel_rfl) rfl ?_
  refine sq_fmtS ?_
  try dsimp only [List.set, List.cons_append, List.nil_append]
  refine jJ_str (by first | exact Nat.le_of_ble_eq_true rfl | omega | (simp only [List.length_append, List.length_map, List.length_cons, List.length_nil]; omega)) ?_
  refine sq_jsCons (sq_m1 (sq_var rfl (sq_fmtS ?_)))
  refine jJ_str (by first | exact Nat.le_of_ble_eq_true rfl | omega | (simp only [List.length_append, List.length_map, List.length_cons, List.length_nil]; omega)) ?_
  refine sq_jsCons (sq_m1 (sq_var rfl (sq_fmtS ?_)))
  refine jJ_str (by first | exact Nat.le_of_ble_eq_true rfl | omega | (simp only [List.length_append, List.length_map, List.length_cons, List.length_nil]; omega)) ?_
  refine sq_jsNil (jS_rt (jO_rt ?_))
  exact jE_ok q
theorem zip_fst : ∀ {as : List Nat} {rows : List Rw}, as.length = rows.length → ((as.zip rows).map fun x => D.ref x.1) = as.map .ref
  | [], [], _ => rfl
  | [], _ :: _, h => by cases h
  | _ :: _, [], h => by cases h
  | a :: as, r :: rows, h => by
    exact congrArg (D.ref a :: ·) (zip_fst (Nat.succ.inj h))
theorem zip_snd : ∀ {as : List Nat} {rows : List Rw}, as.length = rows.length → ((as.zip rows).map fun x => D.str x.2.t) = (rows.map Rw.t).map .str
  | [], [], _ => rfl
  | [], _ :: _, h => by cases h
  | _ :: _, [], h => by cases h
  | a :: as, r :: rows, h => by
    exact congrArg (D.str r.t :: ·) (zip_snd (Nat.succ.inj h))
theorem zip_has (e : L[i]? = some (plH P)) {x : Nat × Rw} (hx : x ∈ P.as.zip P.rows) : Has L x.1 (ruleO x.2.k x.2.ts x.2.ds) ∧ x.2 ∈ P.rows := by
  obtain ⟨n, hn⟩ := List.getElem?_of_mem hx
  rw [List.getElem?_zip_eq_some] at hn
  exact ⟨has_rule e hn.1 hn.2, List.mem_of_getElem? hn.2⟩
theorem sq_Plan_len (e : L[i]? = some (plH P)) (q : K (.int (P.as.length : Nat)) L) : sq (fnI lw ns prim tb (j + 1) 16 [.ref P.p]) L K := by
  refine sq_fnB (c := c16) (σ := [some (.ref P.p)]) rfl rfl rfl ?_
  unfold c16
  have gp := has_plan e
  refine sq_seq (sq_ret (sq_mA (sq_cons (sq_m1 (sq_var rfl ?_)))))
  refine sq_fld gp (by kernel_rfl) (by kernel_rfl) rfl ?_
  refine sq_nil (sq_lenT (jS_rt (jO_rt ?_)))
  try dsimp only [List.set, List.cons_append, List.nil_append]
  rw [List.length_map]
  exact jE_ok q
theorem sq_Plan_str (e : L[i]? = some (plH P)) (l : P.as.length = P.rows.length) (B : PlK P.rs P.rows) (q : K (.str (ptxt P.rs P.rows)) L) : sq (fnI lw ns prim tb (j + 1 + 1) 20 [.ref P.p]) L K := by
  refine sq_fnB (c := c20) (σ := [some (.ref P.p), none, none]) rfl rfl rfl ?_
  unfold c20
  have gp := has_plan e
  have h0 := line0_len B.rk
  have lns := lines_ok B
  have hl := (subs_ok _ B.rk).2.2.1
  have hn := B.n
  refine sq_seq (sq_ret (sq_mt (sq_C ?_)))
  refine jM_str rfl ?_
  refine sq_cons (sq_mA (sq_cons (sq_mt (sq_C ?_))))
  refine jM_str rfl ?_
  refine sq_cons (sq_mA (sq_cons (sq_C (sq_star' (sq_m1 (sq_var rfl ?_))))))
  refine sq_fld gp (by kernel_rfl) (by kernel_rfl) rfl ?_
  try dsimp only [List.set, List.cons_append, List.nil_append]
  refine sq_seqv .tup ?_
  refine sq_nil ?_
  refine sq_lstM (by first | exact Nat.le_of_ble_eq_true rfl | omega | (simp only [List.length_append, List.length_map, List.length_cons, List.length_nil]; omega)) fun n1 => ?_
  refine sq_nil ?_
  rw [List.append_nil]
  refine sq_join (t := [32]) (ws := cRAISE :: P.rs) (.lst (Has.cell (i := 0) rfl)) (Nat.le_trans h0.2 (by decide)) ?_
  refine sq_star' ?_
  refine sq_lockF rfl (Has.tl gp) rfl .tup ?_
  refine sq_lcN (fun x : Nat × Rw => .str x.2.t) ?_
  refine sq_any (sq_m1 (sq_var rfl ?_))
  refine sq_fld (Has.tl gp) (by kernel_rfl) (by kernel_rfl) rfl ?_
  refine sq_walkT ?_
  try dsimp only [List.set, List.cons_append, List.nil_append]
  refine ⟨P.as.zip P.rows, fun x => .ref x.1, by rw [List.length_zip]; omega, by rw [zip_fst l]; exact .tup, fun x hx => ⟨_, .nm, ?_⟩, fun m => ?_⟩
  · obtain ⟨g, hm⟩ := zip_has (i := i + 1) (L := cell n1 (.lst (D.str [114, 97, 105, 115, 101] :: P.rs.map D.str)) :: L) e hx
    refine sq_mA (sq_cons (sq_var rfl (sq_nil ?_)))
    try dsimp only [List.set, List.cons_append, List.nil_append]
    refine sq_strO (c := 5) (g := fnI lw ns prim tb (j + 1) 8) g (by kernel_rfl) ?_
    exact sq_Rule_str g (B.rw _ hm) ⟨_, rfl, rfl, .rfl⟩
  rw [zip_snd l]
  refine sq_seqv (.lst (Has.cell (i := 0) rfl)) ?_
  refine sq_nil ?_
  refine sq_lstM (by first | exact Nat.le_of_ble_eq_true rfl | omega | (simp only [List.length_append, List.length_map, List.length_cons, List.length_nil]; omega)) fun n2 => ?_
  refine sq_nil ?_
  rw [List.append_nil]
  refine sq_join (t := [10]) (ws := TL.joinL [32] (cRAISE :: P.rs) :: P.rows.map Rw.t) (.lst (Has.cell (i := 0) rfl)) lns ?_
  refine jS_rt (jO_rt ?_)
  exact jE_drop (jE_drop (jE_drop (jE_ok q)))
theorem sq_Plan_eq (e : L[i]? = some (plH P)) (e2 : L[k]? = some (plH Q)) (l : P.as.length = P.rows.length) (l2 : Q.as.length = Q.rows.length) (B : PlK P.rs P.rows) (B2 : PlK Q.rs Q.rows) (q : K (.bl (decide (ptxt P.rs P.rows = ptxt Q.rs Q.rows))) L) : sq (fnI lw ns prim tb (j + 1 + 1 + 1) 19 [.ref P.p, .ref Q.p]) L K := by
  refine sq_fnB (c := c19) (σ := [some (.ref P.p), some (.ref Q.p)]) rfl rfl rfl ?_
  unfold c19
  have gp := has_plan e
  have gq := has_plan e2
  refine sq_seq (sq_ret (sq_andV (sq_mA (sq_cons (sq_var rfl (sq_cons (sq_C (sq_nil ?_))))))))
  refine sq_isiC (.ins gq) (by rfl) ?_
  refine jB_t (sq_m2 (sq_mA (sq_cons (sq_var rfl (sq_nil ?_)))))
  try dsimp only [List.set, List.cons_append, List.nil_append]
  refine sq_strO (c := 6) (g := fnI lw ns prim tb (j + 1 + 1) 20) gp (by kernel_rfl) ?_
  refine sq_Plan_str e l B ⟨_, rfl, ?_⟩
  refine sq_mA (sq_cons (sq_var rfl (sq_nil ?_)))
  refine sq_strO (c := 6) (g := fnI lw ns prim tb (j + 1 + 1) 20) gq (by kernel_rfl) ?_
  refine sq_Plan_str e2 l2 B2 ⟨_, rfl, ?_⟩
  refine sq_eqS (jS_rt (jO_rt ?_))
  exact jE_ok q
theorem rules_ent : ∀ {as : List Nat} {rows : List Rw}, as.length = rows.length → (∀ (n b : Nat) (r : Rw), as[n]? = some b → rows[n]? = some r → Has L b (ruleO r.k r.ts r.ds)) → Ent L (rulesH as rows ++ L)
  | [], [], _, _ => .rfl
  | [], _ :: _, h, _ => by cases h
  | _ :: _, [], h, _ => by cases h
  | a :: as, r :: rows, h, g => by
    have ih := rules_ent (Nat.succ.inj h) fun n b r h1 h2 => g (n + 1) b r h1 h2
    exact ih.trans (Ent.roI ((g 0 a r rfl rfl).sub (List.sublist_append_right _ _)) (by kernel_rfl))
/-- a plan put together of two -/
def both (rs rs' : List Cs) : List Cs := kinds.filter fun k => decide (k ∈ rs) || decide (k ∈ rs')
theorem both_ok (rs rs' : List Cs) : both rs rs' ∈ subs kinds := mem_subs List.filter_sublist
theorem mem_both {rs rs' : List Cs} {k : Cs} (hk : k ∈ kinds) : decide (k ∈ both rs rs') = (decide (k ∈ rs) || decide (k ∈ rs')) := by
  unfold both
  rw [← Bool.decide_or]
  refine decide_eq_decide.mpr ?_
  rw [List.mem_filter, ← Bool.decide_or, decide_eq_true_eq]
  exact ⟨fun h => h.2, fun h => ⟨hk, h⟩⟩
theorem both_assoc (a b c : List Cs) : both (both a b) c = both a (both b c) := by
  show kinds.filter _ = kinds.filter _
  refine List.filter_congr fun k hk => ?_
  rw [mem_both hk, mem_both hk, Bool.or_assoc]
theorem both_nil {rs : List Cs} (h : rs ∈ subs kinds) : both rs [] = rs ∧ both [] rs = rs ∧ both rs rs = rs := by
  have hf := (subs_ok rs h).2.2.2
  refine ⟨?_, ?_, ?_⟩
  · refine Eq.trans (List.filter_congr fun k _ => ?_) hf
    exact Bool.or_false _
  · refine Eq.trans (List.filter_congr fun k _ => ?_) hf
    exact Bool.false_or _
  · refine Eq.trans (List.filter_congr fun k _ => ?_) hf
    exact Bool.or_self _
theorem sq_Plan_add (e : L[i]? = some (plH P)) (e2 : L[k]? = some (plH Q)) (l : P.as.length = P.rows.length) (l2 : Q.as.length = Q.rows.length) (hl : P.rows.length ≤ 100) (hl2 : Q.rows.length ≤ 100) (q : ∀ R : PlA, R.rs = both P.rs Q.rs → R.rows = P.rows ++ Q.rows → R.as.length = R.rows.length → K (.ref R.p) (plH R :: L)) : sq (fnI lw ns prim tb (j + 1 + 1 + 1 + 1 + 1) 18 [.ref P.p, .ref Q.p]) L K := by
  refine sq_fnB (c := c18) (σ := [some (.ref P.p), some (.ref Q.p), none, none, none]) rfl rfl rfl ?_
  unfold c18
  have gp := has_plan e
  have gq := has_plan e2
  refine sq_seq (sq_gifF (sq_not (sq_bool (sq_mA (sq_cons (sq_var rfl (sq_cons (sq_C (sq_nil ?_)))))))))
  refine sq_isiC (.ins gq) (by rfl) ?_
  refine jV_b ?_
  try dsimp only [List.set, List.cons_append, List.nil_append]
  refine ⟨rfl, ?_⟩
  refine sq_next (jS_nx (sq_seq (sq_glockN (sq_asg ?_))))
  refine sq_lcM (fun x : Cs => decide (x ∈ P.rs) || decide (x ∈ Q.rs)) (fun x => .str x) ?_
  refine sq_any (sq_C (sq_walkT ?_))
  refine ⟨kinds, .str, by decide, .tup, fun x hx => ⟨_, .nm, ?_⟩, fun m => ?_⟩
  · refine sq_orP (x := decide (x ∈ P.rs)) (y := decide (x ∈ Q.rs)) ?_ (fun _ => ?_) ?_
    · refine sq_bool (sq_m2 (sq_var rfl (sq_m1 (sq_var rfl ?_))))
      refine sq_fld gp (by kernel_rfl) (by kernel_rfl) rfl ?_
      try dsimp only [List.set, List.cons_append, List.nil_append]
      refine sq_inT ?_
      refine jV_b ?_
      exact ⟨rfl, rfl⟩
    · refine sq_bool (sq_m2 (sq_var rfl (sq_m1 (sq_var rfl ?_))))
      refine sq_fld gq (by kernel_rfl) (by kernel_rfl) rfl ?_
      try dsimp only [List.set, List.cons_append, List.nil_append]
      refine sq_inT ?_
      refine jV_b ?_
      exact ⟨rfl, rfl⟩
    · refine ⟨rfl, .rfl, fun _ => ?_⟩
      refine sq_var rfl ?_
      exact ⟨rfl, .rfl⟩
  obtain ⟨hk, hc, hl4, hf⟩ := subs_ok _ (both_ok P.rs Q.rs)
  refine sq_gN (jS_nx (sq_seq (sq_ret ?_)))
  try dsimp only [List.set, List.cons_append, List.nil_append]
  refine sq_mkI (by rfl) (sq_mk ?_)
  refine sq_cons (sq_var rfl (sq_cons (sq_m2 (sq_m1 (sq_var rfl ?_)))))
  try dsimp only [List.set, List.cons_append, List.nil_append]
  refine sq_fld (Has.tl gp) (by kernel_rfl) (by kernel_rfl) rfl ?_
  refine sq_m1 (sq_var rfl ?_)
  try dsimp only [List.set, List.cons_append, List.nil_append]
  refine sq_fld (Has.tl gq) (by kernel_rfl) (by kernel_rfl) rfl ?_
  try dsimp only [List.set, List.cons_append, List.nil_append]
  refine sq_catT (by rw [List.length_map, List.length_map]; omega) ?_
  rw [← List.map_append]
  refine sq_nil ?_
  refine fun n1 => ?_
  refine sq_fn ?_
  have hal : (P.as ++ Q.as).length = (P.rows ++ Q.rows).length := by rw [List.length_append, List.length_append, l, l2]
  have hhas : ∀ (n b : Nat) (r : Rw), (P.as ++ Q.as)[n]? = some b → (P.rows ++ Q.rows)[n]? = some r → Has L b (ruleO r.k r.ts r.ds) := fun n b r h1 h2 => by
    by_cases hn : n < P.as.length
    · rw [List.getElem?_append_left hn] at h1
      rw [List.getElem?_append_left (by omega)] at h2
      exact has_rule e h1 h2
    · rw [List.getElem?_append_right (by omega)] at h1
      rw [List.getElem?_append_right (by omega), ← l] at h2
      exact has_rule e2 h1 h2
  refine sq_Plan_init (rs := both P.rs Q.rs) (as := P.as ++ Q.as) (.lst (Has.cell (i := 0) rfl)) hk hc (by omega) hf .tup (fun b hb => ?_) (by rw [List.length_append]; omega) fun w => ?_
  · obtain ⟨n, hn⟩ := List.getElem?_of_mem hb
    have hlt := (List.getElem?_eq_some_iff.mp hn).1
    exact ⟨_, (hhas n b _ hn (List.getElem?_eq_getElem (by omega))).tl⟩
  refine ⟨rfl, ?_⟩
  refine jS_rt (jO_rt ?_)
  exact jE_ent (((Ent.cons (Ent.drop (rules_ent hal hhas))).trans (Ent.cons Ent.fold)).trans Ent.consStar) (q ⟨_, w, P.as ++ Q.as, both P.rs Q.rs, P.rows ++ Q.rows⟩ rfl rfl hal)
theorem x_add (e : L[i]? = some (plH P)) (e2 : L[k]? = some (plH Q)) (l : P.as.length = P.rows.length) (l2 : Q.as.length = Q.rows.length) (hl : P.rows.length ≤ 100) (hl2 : Q.rows.length ≤ 100) (q : ∀ R : PlA, R.rs = both P.rs Q.rs → R.rows = P.rows ++ Q.rows → R.as.length = R.rows.length → K (.ref R.p) (plH R :: L)) : sq (addOM (fun c => ((pgOf lw ns (fnI lw ns prim tb (j + 5))).ad c).map (pgOf lw ns (fnI lw ns prim tb (j + 5))).fn) (.ref P.p) (.ref Q.p)) L K :=
  sq_addO (g := fnI lw ns prim tb (j + 5) 18) (has_plan e) (has_plan e2) (by kernel_rfl) (sq_Plan_add e e2 l l2 hl hl2 fun R h1 h2 h3 => ⟨_, rfl, q R h1 h2 h3⟩)
theorem x_iadd (e : L[i]? = some (plH P)) (e2 : L[k]? = some (plH Q)) (l : P.as.length = P.rows.length) (l2 : Q.as.length = Q.rows.length) (hl : P.rows.length ≤ 100) (hl2 : Q.rows.length ≤ 100) (q : ∀ R : PlA, R.rs = both P.rs Q.rs → R.rows = P.rows ++ Q.rows → R.as.length = R.rows.length → K (.ref R.p) (plH R :: L)) : sq (iaddOM (fun c => ((pgOf lw ns (fnI lw ns prim tb (j + 5))).ad c).map (pgOf lw ns (fnI lw ns prim tb (j + 5))).fn) (.ref P.p) (.ref Q.p)) L K :=
  sq_iaddO (g := fnI lw ns prim tb (j + 5) 18) (has_plan e) (has_plan e2) (by kernel_rfl) (sq_Plan_add e e2 l l2 hl hl2 fun R h1 h2 h3 => ⟨_, rfl, q R h1 h2 h3⟩)
theorem x_str (e : L[i]? = some (plH P)) (l : P.as.length = P.rows.length) (B : PlK P.rs P.rows) (q : K (.str (ptxt P.rs P.rows)) L) : sq (strOM (fun c => ((pgOf lw ns (fnI lw ns prim tb (j + 2))).sf c).map (pgOf lw ns (fnI lw ns prim tb (j + 2))).fn) [.ref P.p]) L K :=
  sq_strO (c := 6) (g := fnI lw ns prim tb (j + 2) 20) (has_plan e) (by kernel_rfl) (sq_Plan_str e l B ⟨_, rfl, q⟩)
theorem x_ne (e : L[i]? = some (plH P)) (e2 : L[k]? = some (plH Q)) (l : P.as.length = P.rows.length) (l2 : Q.as.length = Q.rows.length) (B : PlK P.rs P.rows) (B2 : PlK Q.rs Q.rows) (q : K (.bl (!decide (ptxt P.rs P.rows = ptxt Q.rs Q.rows))) L) : sq (cmpOM true (fun c c' => ((pgOf lw ns (fnI lw ns prim tb (j + 3))).eqf c c').map (pgOf lw ns (fnI lw ns prim tb (j + 3))).fn) neM (.ref P.p) (.ref Q.p)) L K :=
  sq_cmpO (g := fnI lw ns prim tb (j + 3) 19) (has_plan e) (has_plan e2) (by kernel_rfl) (sq_Plan_eq e e2 l l2 B B2 ⟨_, rfl, q⟩)
theorem x_len (e : L[i]? = some (plH P)) (hl : P.as.length < 1000000) (q : K (.int (P.as.length : Nat)) L) : sq (lenOM (pgOf lw ns (fnI lw ns prim tb (j + 1))).ns.length (fun c => ((pgOf lw ns (fnI lw ns prim tb (j + 1))).ln c).map (pgOf lw ns (fnI lw ns prim tb (j + 1))).fn) [.ref P.p]) L K :=
  sq_lenO (c := 6) (g := fnI lw ns prim tb (j + 1) 16) (has_plan e) (by kernel_rfl) (sq_Plan_len e ⟨_, rfl, hl, q⟩)
theorem x_init0 {n : Nat} (q : ∀ P : PlA, P.p = n → P.rs = [] → P.rows = [] → P.as.length = P.rows.length → K .non (plH P :: L)) : sq (fnI lw ns prim tb (j + 1 + 1 + 1 + 1) 13 [.ref n]) (cell n (.ins 6 []) :: L) K := by
  refine sq_dfl (ds' := [.ref n, .tup [], .tup []]) rfl rfl rfl rfl ?_
  refine sq_post ?_
  refine sq_Plan_init (rs := []) (as := []) (.tup (ds := [])) (fun _ h => by cases h) rfl (by decide) rfl (.tup (ds := [])) (fun _ h => by cases h) (by decide) fun w => ?_
  exact ⟨_, Ent.fold (L1 := [ro n (planO [] [] w)]), q ⟨n, w, [], [], []⟩ rfl rfl rfl rfl⟩
theorem PlK.both {rs rs' : List Cs} {rows rows' : List Rw} (B : PlK rs rows) (B' : PlK rs' rows') (h : (rows ++ rows').length ≤ 100) : PlK (both rs rs') (rows ++ rows') := ⟨both_ok _ _, fun r hr => by
  rcases List.mem_append.mp hr with z | z
  · exact B.rw r z
  · exact B'.rw r z, h⟩
end
end
section
open PySem PySem.Spec PyProof.Rows L2 Ev
section
variable {ns : List Int} {j : Nat}
def dw (w : Nat × List Cs × List Rw) : D := .tup [.tup (w.2.1.map .str), .ref w.1]
def cw (w : Nat × List Cs × List Rw) : HP := cell w.1 (.lst (w.2.2.map Rw.d))
theorem three {X : Type} : ∀ {l : List X}, l.length = 3 → ∃ a b c, l = [a, b, c]
  | [a, b, c], _ => ⟨a, b, c, rfl⟩
theorem at_end {l : Hc} {x : HP} : (l ++ [x])[l.length]? = some x := by
  rw [List.getElem?_append_right (Nat.le_refl _), Nat.sub_self]
  rfl
theorem run_law : sq (fnI lw ns prim tb (j + 3 + 1 + 1 + 1 + 1 + 1) 31 [.scr]) [] fun v _ => v = .bl true := by
  refine sq_fnB (c := c31) (σ := [some (.scr), none, none, none, none, none, none, none, none, none, none, none, none, none, none]) rfl rfl rfl ?_
  unfold c31
  refine sq_seq (sq_glockN ?_)
  refine sq_for (sq_rng1 ?_)
  refine sq_mA (sq_cons (sq_C (sq_cons (sq_mA (sq_cons (sq_C (sq_cons (sq_mA (sq_cons (sq_var rfl (sq_nil ?_))))))))))) 
  refine sq_of_eq (m' := M.pure (.int ns.length)) (fun _ _ => rfl) (sq_pure ?_)
  refine sq_nil ?_
  refine sq_of_eq (m' := M.pure (.int (if (ns.length : Int) < 5 then (ns.length : Int) else 5))) (fun _ _ => rfl) (sq_pure ?_)
  refine sq_nil ?_
  refine sq_of_eq (m' := M.pure (.int (if (if (ns.length : Int) < 5 then (ns.length : Int) else 5) > 2 then (if (ns.length : Int) < 5 then (ns.length : Int) else 5) else 2))) (fun _ _ => rfl) (sq_pure ?_)
  refine ⟨max 2 (min 5 ns.length), ?_, by omega, ?_⟩
  · congr 1
    split <;> split <;> omega
  refine ⟨rngD 0 _, fun i σ' L' => ∃ x1 x2 x3 x4 x5 x6 x7 x8 x9 x10 x11 x12 x13 x14, σ' = [some .scr, x1, x2, x3, x4, x5, x6, x7, x8, x9, x10, x11, x12, x13, x14] ∧ L' = [], ⟨_, _, _, _, _, _, _, _, _, _, _, _, _, _, rfl, rfl⟩, fun _ _ _ _ _ => .rng, fun i dd σ' L' hd hI => ?_, fun σ' L' hI => ?_⟩
  · obtain ⟨x1, x2, x3, x4, x5, x6, x7, x8, x9, x10, x11, x12, x13, x14, rfl, rfl⟩ := hI
    obtain ⟨_, rfl⟩ := rng_nth hd
    clear hd
    refine sq_gN (sq_seq (sq_asg (sq_mA (sq_cons (sq_var rfl (sq_cons (sq_var rfl (sq_nil (sq_fn ?_)))))))))
    try dsimp only [List.set, List.cons_append, List.nil_append]
    refine sq_prim (f := dealM) rfl (sq_dealM fun d => ?_)
    refine sq_gN (jS_nx (sq_seq (sq_asg (sq_lockN ?_))))
    try dsimp only [List.set, List.cons_append, List.nil_append]
    refine sq_lc ?_
    refine sq_rng1 (sq_C ?_)
    refine jRg_n (by first | exact Nat.le_of_ble_eq_true rfl | omega | (simp only [List.length_append, List.length_map, List.length_cons, List.length_nil]; omega)) ?_
    refine ⟨rngD 0 3, fun n acc s' => ∃ ws : List (Nat × List Cs × List Rw), acc = ws.map dw ∧ ws.length = n ∧ (∀ w ∈ ws, PlK w.2.1 w.2.2 ∧ w.2.2.length ≤ 3) ∧ s' = ws.reverse.map cw ++ [dealH d], by decide, ⟨[], rfl, rfl, fun _ h => (by cases h), rfl⟩, fun _ _ _ _ _ => .rng, fun n x acc s' hd hI => ?_, fun acc s' n1 hI => ?_⟩
    · obtain ⟨ws, rfl, hl, hw, rfl⟩ := hI
      clear hd
      refine ⟨_, .nm, ?_⟩
      refine sq_pure (jT_t (sq_mA (sq_cons (sq_var rfl (sq_cons (sq_C (sq_nil (sq_fn ?_))))))))
      try dsimp only [List.set, List.cons_append, List.nil_append]
      refine sq_law_wide_plan (most := 3) (i := (ws.reverse.map cw).length) (by decide) at_end fun b rs rows B hb => ⟨ws ++ [(b, rs, rows)], by rw [List.map_append]; rfl, by rw [List.length_append, hl]; rfl, fun w hw' => ?_, by rw [List.reverse_append]; rfl⟩
      rcases List.mem_append.mp hw' with z | z
      · exact hw w z
      · rw [List.mem_singleton.mp z]
        exact ⟨B, hb⟩
    obtain ⟨ws, rfl, hl, hw, rfl⟩ := hI
    obtain ⟨⟨b1, rs1, rw1⟩, ⟨b2, rs2, rw2⟩, ⟨b3, rs3, rw3⟩, rfl⟩ := three (hl.trans len_rng)
    obtain ⟨B1, l1⟩ := hw _ (List.mem_cons_self)
    obtain ⟨B2, l2⟩ := hw _ (List.mem_cons_of_mem _ List.mem_cons_self)
    obtain ⟨B3, l3⟩ := hw _ (List.mem_cons_of_mem _ (List.mem_cons_of_mem _ List.mem_cons_self))
    clear hw hl
    dsimp only at B1 B2 B3 l1 l2 l3
    simp only [List.map_cons, List.map_nil, List.reverse_cons, List.reverse_nil, List.nil_append, List.cons_append]
    unfold dw cw
    dsimp only
    refine sq_gUn ?_
    refine sq_seqv (.lst (Has.cell (i := 0) rfl)) ?_
    refine jU_ok rfl ?_
    refine sq_gsCons (sq_gN (sq_gsCons (sq_gN (sq_gsCons (sq_gN (sq_gsNil (jS_nx (sq_seq (sq_asg (sq_mA (sq_cons (sq_mA (sq_cons (sq_var rfl (sq_nil (sq_fn ?_))))))))))))))))
    try dsimp only [List.set, List.cons_append, List.nil_append]
    refine sq_ent (Ent.drop .rfl) ?_
    refine sq_law_made B1 (Has.cell (i := 2) rfl) fun P e1 e2 GP => ?_
    subst e1 e2
    refine sq_cons (sq_mA (sq_cons (sq_var rfl (sq_nil (sq_fn ?_)))))
    refine sq_law_made B2 (Has.cell (i := 2) rfl) fun Q e1 e2 GQ => ?_
    subst e1 e2
    refine sq_cons (sq_mA (sq_cons (sq_var rfl (sq_nil (sq_fn ?_)))))
    refine sq_law_made B3 (Has.cell (i := 2) rfl) fun R e1 e2 GR => ?_
    subst e1 e2
    refine sq_nil ?_
    refine sq_tup (Nat.le_of_ble_eq_true rfl) ?_
    refine sq_gUn (sq_seqv .tup (jU_ok rfl ?_))
    with_reducible refine sq_gsCons ?_
    with_reducible refine sq_gN ?_
    with_reducible refine sq_gsCons ?_
    with_reducible refine sq_gN ?_
    with_reducible refine sq_gsCons ?_
    with_reducible refine sq_gN ?_
    dsimp only [List.set]
    with_reducible refine sq_gsNil ?_
    with_reducible refine jS_nx ?_
    with_reducible refine sq_seq ?_
    with_reducible refine sq_asg ?_
    with_reducible refine sq_mA ?_
    with_reducible refine sq_cons ?_
    with_reducible refine sq_lockN ?_
    have lp := GP.len
    have lq := GQ.len
    have lr := GR.len
    have hP := (subs_ok _ B1.rk).2.2.1
    have hQ := (subs_ok _ B2.rk).2.2.1
    -- the kinds
    refine sq_lcM (fun x : Cs => decide (x ∈ P.rs ++ Q.rs)) (fun x => .str x) ?_
    refine sq_any (sq_mA (sq_cons (sq_C (sq_cons (sq_C (sq_cons (sq_C (sq_cons (sq_C (sq_nil ?_))))))))))
    refine sq_tup (by first | exact Nat.le_of_ble_eq_true rfl | omega | (simp only [List.length_append, List.length_map, List.length_cons, List.length_nil]; omega)) ?_
    refine sq_walkT ?_
    refine ⟨kinds, .str, by decide, .tup, fun x hx => ⟨_, .nm, ?_⟩, fun m => ?_⟩
    · refine sq_bool (sq_m2 (sq_var rfl (sq_m2 (sq_m2 (sq_var rfl (sq_C ?_))))))
      refine sq_ixT (by rfl) ?_
      refine sq_m2 (sq_var rfl (sq_C ?_))
      refine sq_ixT (by rfl) ?_
      refine sq_catT (by rw [List.length_map, List.length_map]; omega) ?_
      rw [← List.map_append]
      refine sq_inT ?_
      refine jV_b ?_
      refine ⟨rfl, .rfl, fun _ => ?_⟩
      refine sq_var rfl ?_
      exact ⟨rfl, .rfl⟩
    rw [show kinds.filter (fun x => decide (x ∈ P.rs ++ Q.rs)) = both P.rs Q.rs from List.filter_congr fun x _ => by rw [← Bool.decide_or]; exact decide_eq_decide.mpr List.mem_append]
    refine sq_nil ?_
    refine sq_tuple (.lst (Has.cell (i := 0) rfl)) ?_
    refine sq_gN (jS_nx (sq_seq (sq_asg (sq_m2 (sq_var rfl (sq_var rfl ?_))))))
    try dsimp only [List.set, List.cons_append, List.nil_append]
    refine sq_ent (Ent.drop .rfl) ?_
    refine x_add (i := 2) (k := 1) rfl rfl lp lq (by omega) (by omega) fun Bo h1 h2 h3 => ?_
    have BB : PlK (both P.rs Q.rs) (P.rows ++ Q.rows) := PlK.both B1 B2 (by rw [List.length_append]; omega)
    have BBo : PlK Bo.rs Bo.rows := by rw [h1, h2]; exact BB
    refine sq_gN (jS_nx (sq_seq (sq_gif (sq_or (sq_bool (sq_m2 (sq_mA (sq_cons (sq_var rfl (sq_nil ?_))))))))))
    try dsimp only [List.set, List.cons_append, List.nil_append]
    refine x_str (i := 0) rfl h3 BBo ?_
    refine sq_mA (sq_cons (sq_mA (sq_cons (sq_var rfl (sq_cons (sq_m2 (sq_m2 (sq_var rfl (sq_C ?_)))))))))
    refine sq_ixT (by rfl) ?_
    refine sq_m2 (sq_var rfl (sq_C ?_))
    refine sq_ixT (by rfl) ?_
    refine sq_catL (Has.cell (i := 6) rfl) (Has.cell (i := 5) rfl) (by rw [List.length_map, List.length_map]; omega) fun m1 => ?_
    rw [← List.map_append]
    refine sq_nil ?_
    refine sq_tup (by first | exact Nat.le_of_ble_eq_true rfl | omega | (simp only [List.length_append, List.length_map, List.length_cons, List.length_nil]; omega)) ?_
    refine sq_nil (sq_fn ?_)
    refine sq_law_text (rs := both P.rs Q.rs) (rows := P.rows ++ Q.rows) BB (Has.cell (i := 0) rfl) ?_
    refine sq_neS (jV_b ?_)
    rw [h1, h2]
    refine jT_ny rfl ?_
    refine sq_ent (Ent.drop .rfl) ?_
    refine sq_or (sq_bool (sq_m2 (sq_mA (sq_cons (sq_var rfl (sq_nil ?_))))))
    refine x_str (i := 3) rfl lp B1 ?_
    refine sq_mA (sq_cons (sq_var rfl (sq_nil (sq_fn ?_))))
    refine sq_law_text B1 (Has.cell (i := 6) rfl) ?_
    refine sq_neS (jV_b ?_)
    refine jT_ny rfl ?_
    refine sq_bool (sq_m2 (sq_mA (sq_cons (sq_var rfl (sq_nil ?_)))))
    refine x_str (i := 2) rfl lq B2 ?_
    refine sq_mA (sq_cons (sq_var rfl (sq_nil (sq_fn ?_))))
    refine sq_law_text B2 (Has.cell (i := 5) rfl) ?_
    refine sq_neS (jV_b ?_)
    refine jT_ny rfl ?_
    refine sq_next (jS_nx (sq_seq (sq_asg (sq_var rfl (sq_gN (jS_nx (sq_seq (sq_asg (sq_m2 (sq_var rfl (sq_var rfl ?_)))))))))))
    try dsimp only [List.set, List.cons_append, List.nil_append]
    refine x_iadd (i := 3) (k := 2) rfl rfl lp lq (by omega) (by omega) fun H g1 g2 g3 => ?_
    have BH : PlK H.rs H.rows := by rw [g1, g2]; exact BB
    refine sq_gN (jS_nx (sq_seq (sq_gif (sq_or (sq_bool (sq_m2 (sq_var rfl (sq_var rfl ?_))))))))
    try dsimp only [List.set, List.cons_append, List.nil_append]
    refine x_ne (i := 0) (k := 1) rfl rfl g3 h3 BH BBo ?_
    rw [g1, g2, h1, h2]
    refine jV_b ?_
    refine jT_ny rfl ?_
    refine sq_or (sq_bool (sq_m2 (sq_mA (sq_cons (sq_var rfl (sq_nil ?_))))))
    refine x_str (i := 4) rfl lp B1 ?_
    refine sq_mA (sq_cons (sq_var rfl (sq_nil (sq_fn ?_))))
    refine sq_law_text B1 (Has.cell (i := 7) rfl) ?_
    refine sq_neS (jV_b ?_)
    refine jT_ny rfl ?_
    refine sq_bool (sq_m2 (sq_mA (sq_cons (sq_var rfl (sq_nil ?_)))))
    have hlH : H.as.length = P.as.length + Q.as.length := by rw [g3, g2, List.length_append, lp, lq]
    refine x_len (i := 0) rfl (by omega) ?_
    refine sq_m2 (sq_mA (sq_cons (sq_var rfl (sq_nil ?_))))
    refine x_len (i := 4) rfl (by omega) ?_
    refine sq_mA (sq_cons (sq_var rfl (sq_nil ?_)))
    refine x_len (i := 3) rfl (by omega) ?_
    refine sq_addN (sq_neN (jV_b ?_))
    refine jT_ny hlH ?_
    refine sq_next (jS_nx (sq_seq (sq_gif (sq_or (sq_bool (sq_m2 (sq_m2 (sq_m2 (sq_var rfl (sq_var rfl ?_))))))))))
    refine x_add (i := 4) (k := 3) rfl rfl lp lq (by omega) (by omega) fun S g1 g2 g3 => ?_
    refine sq_var rfl ?_
    have lS : S.rows.length ≤ 6 := by rw [g2, List.length_append]; omega
    refine x_add (i := 0) (k := 3) rfl rfl g3 lr (by omega) (by omega) fun T t1 t2 t3 => ?_
    refine sq_m2 (sq_var rfl (sq_m2 (sq_var rfl (sq_var rfl ?_))))
    refine x_add (i := 5) (k := 4) rfl rfl lq lr (by omega) (by omega) fun U u1 u2 u3 => ?_
    have lU : U.rows.length ≤ 6 := by rw [u2, List.length_append]; omega
    skip
    refine x_add (i := 7) (k := 0) rfl rfl lp u3 (by omega) (by omega) fun V v1 v2 v3 => ?_
    have rT : T.rs = V.rs := by rw [t1, v1, g1, u1, both_assoc]
    have wT : T.rows = V.rows := by rw [t2, v2, g2, u2, List.append_assoc]
    have BV : PlK V.rs V.rows := by
      rw [v1, v2, u1, u2]
      exact PlK.both B1 (PlK.both B2 B3 (by rw [List.length_append]; omega)) (by rw [List.length_append, List.length_append]; omega)
    have BT : PlK T.rs T.rows := by rw [rT, wT]; exact BV
    refine x_ne (i := 2) (k := 0) rfl rfl t3 v3 BT BV ?_
    rw [rT, wT]
    refine jV_b ?_
    refine jT_ny rfl ?_
    refine sq_ent (Ent.drop (Ent.drop (Ent.drop (Ent.drop (Ent.drop (Ent.drop .rfl)))))) ?_
    refine sq_or (sq_bool (sq_m2 (sq_m2 (sq_var rfl ?_))))
    refine sq_mkI (by rfl) (sq_mk ?_)
    refine sq_nil ?_
    try dsimp only [List.set, List.cons_append, List.nil_append]
    refine fun n2 => ?_
    refine sq_fn ?_
    refine x_init0 fun E e0 e1 e2 e3 => ?_
    subst e0
    refine ⟨rfl, ?_⟩
    have lE : E.rows.length ≤ 0 := by rw [e2]; exact Nat.le_refl _
    refine x_add (i := 3) (k := 0) rfl rfl lp e3 (by omega) (by omega) fun W w1 w2 w3 => ?_
    have rW : W.rs = P.rs := by rw [w1, e1]; exact (both_nil B1.rk).1
    have wW : W.rows = P.rows := by rw [w2, e2, List.append_nil]
    refine sq_var rfl ?_
    refine x_ne (i := 0) (k := 4) rfl rfl w3 lp (by rw [rW, wW]; exact B1) B1 ?_
    rw [rW, wW]
    refine jV_b ?_
    refine jT_ny rfl ?_
    refine sq_ent (Ent.drop (Ent.drop .rfl)) ?_
    refine sq_bool (sq_m2 (sq_m2 ?_))
    refine sq_mkI (by rfl) (sq_mk ?_)
    refine sq_nil ?_
    try dsimp only [List.set, List.cons_append, List.nil_append]
    refine fun n2 => ?_
    refine sq_fn ?_
    refine x_init0 fun E e0 e1 e2 e3 => ?_
    subst e0
    refine ⟨rfl, ?_⟩
    refine sq_var rfl ?_
    have lE : E.rows.length ≤ 0 := by rw [e2]; exact Nat.le_refl _
    refine x_add (i := 0) (k := 3) rfl rfl e3 lp (by omega) (by omega) fun W w1 w2 w3 => ?_
    have rW : W.rs = P.rs := by rw [w1, e1]; exact (both_nil B1.rk).2.1
    have wW : W.rows = P.rows := by rw [w2, e2]; rfl
    refine sq_var rfl ?_
    refine x_ne (i := 0) (k := 4) rfl rfl w3 lp (by rw [rW, wW]; exact B1) B1 ?_
    rw [rW, wW]
    refine jV_b ?_
    refine jT_ny rfl ?_
    refine sq_ent (Ent.drop (Ent.drop .rfl)) ?_
    refine sq_next (jS_nx (sq_seq (sq_gif (sq_or (sq_bool (sq_m2 (sq_m1 (sq_m2 (sq_var rfl (sq_var rfl ?_))))))))))
    refine x_add (i := 2) (k := 2) rfl rfl lp lp (by omega) (by omega) fun W w1 w2 w3 => ?_
    refine sq_fld (has_plan (i := 0) (P := W) rfl) rfl (by kernel_rfl) rfl ?_
    refine sq_m1 (sq_var rfl ?_)
    try dsimp only [List.set, List.cons_append, List.nil_append]
    refine sq_fld (has_plan (i := 3) (P := P) rfl) rfl (by kernel_rfl) rfl ?_
    refine sq_neT ?_
    rw [w1, (both_nil B1.rk).2.2]
    refine jV_b ?_
    refine jT_ny rfl ?_
    refine sq_ent (Ent.drop .rfl) ?_
    refine sq_bool (sq_m2 (sq_mA (sq_cons (sq_m2 (sq_var rfl (sq_var rfl ?_))))))
    clear w1 w2 w3
    refine x_add (i := 2) (k := 2) rfl rfl lp lp (by omega) (by omega) fun W w1 w2 w3 => ?_
    refine sq_nil ?_
    have hW : W.as.length = 2 * P.as.length := by rw [w3, w2, List.length_append, lp]; omega
    refine x_len (i := 0) rfl (by omega) ?_
    refine sq_m2 (sq_C (sq_mA (sq_cons (sq_var rfl (sq_nil ?_)))))
    refine x_len (i := 3) rfl (by omega) ?_
    refine sq_of_eq (m' := M.pure (.int (2 * P.as.length : Nat))) (fun _ _ => rfl) (sq_pure ?_)
    refine sq_neN (jV_b ?_)
    refine jT_ny hW ?_
    refine sq_next (jS_nx (sq_next (jL_nx ?_)))
    exact jG_ent (Ent.sub (List.nil_sublist _)) ⟨_, _, _, _, _, _, _, _, _, _, _, _, _, _, rfl, rfl⟩
  · obtain ⟨x1, x2, x3, x4, x5, x6, x7, x8, x9, x10, x11, x12, x13, x14, rfl, rfl⟩ := hI
    refine jS_nx (sq_seq (sq_ret (sq_C (jS_rt (jO_rt ?_)))))
    exact ⟨_, .rfl, rfl⟩
end
end
theorem runs1 (ns : List Int) : sq (fnI lw ns prim tb (20 + 1) 31 [.scr]) [] (fun v _ => v = .bl true) := run_law (j := 13)
theorem runs (ns : List Int) (hl : ns.length ≤ 63) : wp (runF (pgOf lw ns (fnL lw ns prim 20)) ⟨1, d31.N.length, [], d31.ir⟩ [.scr]) S.empty (fun v _ => v = .bl true) fun _ _ => False := by
  refine no_implicit_lambda% ?_
  with_reducible exact no_implicit_lambda% (runs_sq (L := lw) (ns := ns) (prim := prim) (tb := tb) (J := 20) (i := 31) (d := d31) (q := b31) tbOk o31 rfl rfl rfl rfl rfl (runs1 ns))
end Lwk08
open PySem PySem.W PySem.Calls PyProof.Rows
theorem PySem.Challenge.cw_overtaken_k08_plans_put_together_holds : PySem.Challenge.rw_overtaken_k08_plans_put_together.Holds := by
  w_on; o_law
  refine HandSHeadRun.head_any (r := OpenLaw.row PySem.Challenge.rw_overtaken_k08_plans_put_together) (q := view (OpenLaw.row PySem.Challenge.rw_overtaken_k08_plans_put_together).prog [43]) (H := Lwk08.hk) (ob := Lwk08.ob) (M := 6000) (loose := Lwk08.nms) (d := HandSHeadRun.topDef (OpenLaw.row PySem.Challenge.rw_overtaken_k08_plans_put_together).prog 43) (kwd := []) Lwk08.ob_eq
    (by kernel_rfl) (fun s => by kernel_rfl) Lwk08.run (by kernel_rfl) (by kernel_rfl) (by kernel_rfl) (by rfl) (by first | assumption | decide +kernel) (by decide +kernel) ⟨rfl, rfl, rfl, rfl, rfl, by decide +kernel⟩ ?hw ?hc
  case hw => w_witness2
  case hc =>
    refine L2.walk_ofE (l := PySem.Challenge.rw_overtaken_k08_plans_put_together) (n := 63) (k := 4 * 20 + 3 + 1) (x := "_law_script") (CX := L2.CX0) rfl (by decide) (by kernel_rfl) ⟨rfl, by decide, by decide⟩ ?F (fun _ _ _ _ z => z)
    intro w mg fa h Y G hmg0
    have hmg : mg Lwk08.d31.name = some (.ref fa) := by
      have e : (HandSHeadRun.topDef (OpenLaw.row PySem.Challenge.rw_overtaken_k08_plans_put_together).prog 43).name = Lwk08.d31.name := by kernel_rfl
      rw [← e]
      exact hmg0
    exact Ev.law_F (P := (PySem.Challenge.rw_overtaken_k08_plans_put_together).prog) (prim := Lwk08.prim) (J := 20) (i := 31) (d := Lwk08.d31) (L := Lwk08.lw) rfl rfl rfl rfl rfl Lwk08.dok Lwk08.prOk Lwk08.kok (fun _ _ _ _ _ _ us hl => match us, hl with | [_], _ => rfl) Lwk08.runs w mg fa h Y G hmg

