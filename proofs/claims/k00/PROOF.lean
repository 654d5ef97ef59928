import PyProof.Rows.All
import Wide.All
import OpenK.AllK
import Wide.FinOn
import HandS.ForMost
import HandS.ForExc
import HandS.Walk
import HandS.Wide
import HandS.CallSlots
import HandS.Defaults
import HandS.HotCalls
import HandS.TupAny
import HandS.TupMul
import HandS.Flow
import HandS.RaiseMore
import HandS.IsInst
import HandS.Dict
import HandS.Replace
import HandS.Text
import HandS.Zip
import HandS.Style
import HandS.ExcField
import HandS.ExcIs
import HandS.TryMany
import KE.KExcIs
import HandS.ExcInit
import KE.KExcSuper
import HandS.Words
import HandS.HeadHook1
import HandS.HeadHook2
import HandS.HeadEnd
import PyProof.ReprBulk
import PyProof.FitsInt
import KE.IntTextLaws
import KE.KStateDown
import HandS.Head0
import HandS.Head1
import HandS.Head2
import PySem.Challenge.RW_portsalike_k00_errors_and_limits
set_option Elab.async false
set_option linter.all false
set_option maxRecDepth 100000
set_option maxHeartbeats 4000000
/-! Z0: plain data for what stands in the heap; which part of the heap is laid for good, which is a slot's own, which is a cell. -/
namespace Z
open PySem PySem.Spec PyProof.Rows L2

/-- a value as data -/
inductive D where
  | non | bl (b : Bool) | int (i : Int) | str (s : Str)
  | tup (ds : List D) | lst (ds : List D) | dct (ks : List Key) (ds : List D)
  /-- the script -/
  | scr (ns : List Int)
  /-- the n-th cell -/
  | ref (n : Nat)
  /-- a function of the module -/
  | fn (x : Nat)
  deriving Inhabited

/-- who has an address: nobody told, all (it stays as it is), a slot of this def, a cell, somebody outside -/
inductive Tag where
  | no | fz | own (i : Nat) | cell (n : Nat) | out
  deriving DecidableEq

section
variable (K : PySem.W.Frag) (fad : Nat → Option Addr) (T : Addr → Tag) (H : Hp)
/-- a tuple that stays -/
def RdT (a : Addr) (vs : List V) : Prop := (T a = .fz ∧ SqT K H a vs) ∨ SqT K (fun _ => none) a vs
mutual
def Rep : D → V → Prop
  | .non, v => v = .non
  | .bl b, v => v = .bl b
  | .int i, v => v = .int i
  | .str s, v => v = .str s
  | .tup ds, v => ∃ a vs, v = .ref a ∧ RdT K T H a vs ∧ RepL ds vs
  | .lst ds, v => ∃ a vs, v = .ref a ∧ T a = .fz ∧ H a = some (.lst vs) ∧ RepL ds vs
  | .dct ks ds, v => ∃ a kvs, v = .ref a ∧ T a = .fz ∧ H a = some (.dK kvs) ∧ kvs.map Prod.fst = ks ∧ RepL ds (kvs.map Prod.snd)
  | .scr ns, v => ∃ a, v = .ref a ∧ (T a = .fz ∧ SqL K H a (ns.map V.int) ∨ SqL K (fun _ => none) a (ns.map V.int))
  | .ref n, v => ∃ a, v = .ref a ∧ T a = .cell n
  | .fn x, v => ∃ f, v = .ref f ∧ fad x = some f
def RepL : List D → List V → Prop
  | [], vs => vs = []
  | d :: ds, vs => ∃ v ws, vs = v :: ws ∧ Rep d v ∧ RepL ds ws
end
end

/-- what stays -/
structure Ke (T : Addr → Tag) (H : Hp) (T' : Addr → Tag) (H' : Hp) : Prop where
  fz : ∀ a, T a = .fz → T' a = .fz ∧ H' a = H a
  cell : ∀ a n, T a = .cell n → T' a = .cell n
theorem Ke.refl {T : Addr → Tag} {H : Hp} : Ke T H T H := ⟨fun _ h => ⟨h, rfl⟩, fun _ _ h => h⟩
theorem Ke.trans {T T1 T2 : Addr → Tag} {H H1 H2 : Hp} (a : Ke T H T1 H1) (b : Ke T1 H1 T2 H2) : Ke T H T2 H2 :=
  ⟨fun x h => ⟨(b.fz x (a.fz x h).1).1, ((b.fz x (a.fz x h).1).2).trans (a.fz x h).2⟩, fun x n h => b.cell x n (a.cell x n h)⟩

theorem sqT_at {K : PySem.W.Frag} {H H' : Hp} {a : Addr} {xs : List V} (e : H' a = H a) (h : SqT K H a xs) : SqT K H' a xs := by
  rcases h with (h | ⟨o, h⟩) | h
  · exact .inl (.inl (e.trans h))
  · exact .inl (.inr ⟨o, e.trans h⟩)
  · exact .inr h
theorem sqL_at {K : PySem.W.Frag} {H H' : Hp} {a : Addr} {xs : List V} (e : H' a = H a) (h : SqL K H a xs) : SqL K H' a xs := by
  rcases h with (h | ⟨o, h⟩) | h
  · exact .inl (.inl (e.trans h))
  · exact .inl (.inr ⟨o, e.trans h⟩)
  · exact .inr h
theorem sqT_none {K : PySem.W.Frag} {H : Hp} {a : Addr} {xs : List V} (h : SqT K (fun _ => none) a xs) : SqT K H a xs := by
  rcases h with (h | ⟨o, h⟩) | h
  · cases h
  · cases h
  · exact .inr h
theorem sqL_none {K : PySem.W.Frag} {H : Hp} {a : Addr} {xs : List V} (h : SqL K (fun _ => none) a xs) : SqL K H a xs := by
  rcases h with (h | ⟨o, h⟩) | h
  · cases h
  · cases h
  · exact .inr h

section
variable {K : PySem.W.Frag} {fad : Nat → Option Addr} {T T' : Addr → Tag} {H H' : Hp}
theorem RdT.ke {a : Addr} {vs : List V} (k : Ke T H T' H') (h : RdT K T H a vs) : RdT K T' H' a vs := by
  rcases h with ⟨h1, h2⟩ | h
  · exact .inl ⟨(k.fz a h1).1, sqT_at (k.fz a h1).2 h2⟩
  · exact .inr h
theorem RdT.sq {a : Addr} {vs : List V} (h : RdT K T H a vs) : SqT K H a vs := h.elim (fun x => x.2) sqT_none
mutual
theorem Rep.ke (k : Ke T H T' H') : ∀ {d : D} {v : V}, Rep K fad T H d v → Rep K fad T' H' d v
  | .non, _, h => by simpa only [Rep] using h
  | .bl _, _, h => by simpa only [Rep] using h
  | .int _, _, h => by simpa only [Rep] using h
  | .str _, _, h => by simpa only [Rep] using h
  | .tup ds, v, h => by
    simp only [Rep] at h ⊢
    obtain ⟨a, vs, e, h1, h2⟩ := h
    exact ⟨a, vs, e, h1.ke k, RepL.ke k h2⟩
  | .lst ds, v, h => by
    simp only [Rep] at h ⊢
    obtain ⟨a, vs, e, h1, h2, h3⟩ := h
    exact ⟨a, vs, e, (k.fz a h1).1, ((k.fz a h1).2).trans h2, RepL.ke k h3⟩
  | .dct ks ds, v, h => by
    simp only [Rep] at h ⊢
    obtain ⟨a, vs, e, h1, h2, h3, h4⟩ := h
    exact ⟨a, vs, e, (k.fz a h1).1, ((k.fz a h1).2).trans h2, h3, RepL.ke k h4⟩
  | .scr ns, v, h => by
    simp only [Rep] at h ⊢
    obtain ⟨a, e, h1⟩ := h
    refine ⟨a, e, h1.imp (fun q => ⟨(k.fz a q.1).1, sqL_at (k.fz a q.1).2 q.2⟩) id⟩
  | .ref n, v, h => by
    simp only [Rep] at h ⊢
    obtain ⟨a, e, h1⟩ := h
    exact ⟨a, e, k.cell a n h1⟩
  | .fn x, _, h => by simpa only [Rep] using h
theorem RepL.ke (k : Ke T H T' H') : ∀ {ds : List D} {vs : List V}, RepL K fad T H ds vs → RepL K fad T' H' ds vs
  | [], _, h => by simpa only [RepL] using h
  | d :: ds, vs, h => by
    simp only [RepL] at h ⊢
    obtain ⟨v, ws, e, h1, h2⟩ := h
    exact ⟨v, ws, e, Rep.ke k h1, RepL.ke k h2⟩
end
theorem RepL.length : ∀ {ds : List D} {vs : List V}, RepL K fad T H ds vs → vs.length = ds.length
  | [], _, h => by simp only [RepL] at h; subst h; rfl
  | d :: ds, vs, h => by
    simp only [RepL] at h
    obtain ⟨v, ws, e, h1, h2⟩ := h
    subst e
    simp [RepL.length h2]
theorem RepL.get : ∀ {ds : List D} {vs : List V} {i : Nat} {d : D}, RepL K fad T H ds vs → ds[i]? = some d → ∃ v, vs[i]? = some v ∧ Rep K fad T H d v
  | [], _, _, _, _, e => by simp at e
  | d :: ds, vs, i, x, h, e => by
    simp only [RepL] at h
    obtain ⟨v, ws, e1, h1, h2⟩ := h
    subst e1
    cases i with
    | zero => simp at e; subst e; exact ⟨v, rfl, h1⟩
    | succ i => simpa using RepL.get h2 (by simpa using e)
theorem RepL.getV : ∀ {ds : List D} {vs : List V} {i : Nat} {v : V}, RepL K fad T H ds vs → vs[i]? = some v → ∃ d, ds[i]? = some d ∧ Rep K fad T H d v
  | [], _, _, _, h, e => by simp only [RepL] at h; subst h; simp at e
  | d :: ds, vs, i, x, h, e => by
    simp only [RepL] at h
    obtain ⟨v, ws, e1, h1, h2⟩ := h
    subst e1
    cases i with
    | zero => simp at e; subst e; exact ⟨d, rfl, h1⟩
    | succ i => simpa using RepL.getV h2 (by simpa using e)
theorem RepL.nil : RepL K fad T H [] [] := by simp only [RepL]
theorem RepL.cons {d : D} {v : V} {ds : List D} {vs : List V} (h : Rep K fad T H d v) (t : RepL K fad T H ds vs) : RepL K fad T H (d :: ds) (v :: vs) := by
  simp only [RepL]
  exact ⟨v, vs, rfl, h, t⟩
theorem RepL.append : ∀ {ds es : List D} {vs ws : List V}, RepL K fad T H ds vs → RepL K fad T H es ws → RepL K fad T H (ds ++ es) (vs ++ ws)
  | [], _, _, _, h, t => by simp only [RepL] at h; subst h; exact t
  | d :: ds, es, vs, ws, h, t => by
    simp only [RepL] at h
    obtain ⟨v, us, e, h1, h2⟩ := h
    subst e
    exact .cons h1 (RepL.append h2 t)
theorem RepL.take : ∀ {ds : List D} {vs : List V} (n : Nat), RepL K fad T H ds vs → RepL K fad T H (ds.take n) (vs.take n)
  | [], _, n, h => by simp only [RepL] at h; subst h; simp only [List.take_nil]; exact .nil
  | d :: ds, vs, 0, h => by simp only [List.take_zero]; exact .nil
  | d :: ds, vs, n + 1, h => by
    simp only [RepL] at h
    obtain ⟨v, us, e, h1, h2⟩ := h
    subst e
    simp only [List.take_succ_cons]
    exact .cons h1 (RepL.take n h2)
theorem RepL.drop : ∀ {ds : List D} {vs : List V} (n : Nat), RepL K fad T H ds vs → RepL K fad T H (ds.drop n) (vs.drop n)
  | [], _, n, h => by simp only [RepL] at h; subst h; simp only [List.drop_nil]; exact .nil
  | d :: ds, vs, 0, h => by simpa only [List.drop_zero] using h
  | d :: ds, vs, n + 1, h => by
    simp only [RepL] at h
    obtain ⟨v, us, e, h1, h2⟩ := h
    subst e
    simp only [List.drop_succ_cons]
    exact RepL.drop n h2
theorem RepL.set : ∀ {ds : List D} {vs : List V} (i : Nat) {d : D} {v : V}, RepL K fad T H ds vs → Rep K fad T H d v → RepL K fad T H (ds.set i d) (vs.set i v)
  | [], _, _, _, _, h, _ => by simp only [RepL] at h; subst h; exact .nil
  | d :: ds, vs, 0, x, y, h, q => by
    simp only [RepL] at h
    obtain ⟨v, us, e, h1, h2⟩ := h
    subst e
    exact .cons q h2
  | d :: ds, vs, i + 1, x, y, h, q => by
    simp only [RepL] at h
    obtain ⟨v, us, e, h1, h2⟩ := h
    subst e
    exact .cons h1 (RepL.set i h2 q)
theorem RepL.eraseIdx : ∀ {ds : List D} {vs : List V} (i : Nat), RepL K fad T H ds vs → RepL K fad T H (ds.eraseIdx i) (vs.eraseIdx i)
  | [], _, _, h => by simp only [RepL] at h; subst h; exact .nil
  | d :: ds, vs, 0, h => by
    simp only [RepL] at h
    obtain ⟨v, us, e, h1, h2⟩ := h
    subst e
    exact h2
  | d :: ds, vs, i + 1, h => by
    simp only [RepL] at h
    obtain ⟨v, us, e, h1, h2⟩ := h
    subst e
    exact .cons h1 (RepL.eraseIdx i h2)
theorem RepL.ints : ∀ (ns : List Int), RepL K fad T H (ns.map D.int) (ns.map V.int)
  | [] => .nil
  | n :: ns => .cons (by simp only [Rep]) (RepL.ints ns)
end
end Z
set_option Elab.async false
set_option linter.all false
set_option maxRecDepth 100000
set_option maxHeartbeats 4000000
/-! Z1: a small language over data, and what its pieces come to. -/
namespace Z
open PySem PySem.Spec PyProof.Rows L2

/-- an exception: its class, its fields -/
structure XV where
  cls : Nat
  fs : List (Str × D)
inductive Slot where
  | un | sh (d : D) | ow (d : D) | ex (x : XV)
  deriving Inhabited
abbrev Ro := List Slot
/-- the cells -/
abbrev Sto := List (List D)
inductive Res (α : Type) where
  | ok (a : α) (s : Sto)
  | exc (x : XV) (s : Sto)
  | stuck
abbrev M (α : Type) := Sto → Res α
@[reducible] def Res.bind {α β : Type} (r : Res α) (f : α → Sto → Res β) : Res β := match r with
  | .ok a s => f a s
  | .exc x s => .exc x s
  | .stuck => .stuck
@[reducible] def M.bind {α β : Type} (m : M α) (f : α → M β) : M β := fun s => match m s with
  | .ok a s => f a s
  | .exc x s => .exc x s
  | .stuck => .stuck
@[reducible] def M.pure {α : Type} (a : α) : M α := fun s => .ok a s
/-- a pure answer, or none -/
@[reducible] def M.opt {α : Type} (o : Option α) : M α := fun s => match o with
  | some a => .ok a s
  | none => .stuck

/-! ### data -/
mutual
def toP : D → Option PyData
  | .non => some .none
  | .bl b => some (.bool b)
  | .int i => some (.int i)
  | .str s => some (.str s)
  | .tup ds => match toPs ds with
    | some ps => some (.tuple ps)
    | none => none
  | .lst ds => match toPs ds with
    | some ps => some (.list ps)
    | none => none
  | _ => none
def toPs : List D → Option (List PyData)
  | [] => some []
  | d :: ds => match toP d with
    | some p => match toPs ds with
      | some ps => some (p :: ps)
      | none => none
    | none => none
end
/-- == -/
def strsD : D → D → Option Bool
  | .str s, .str t => some (decide (s = t))
  | _, _ => none
def eqD0 (x y : D) : Option Bool := match toP x with
  | some p => match toP y with
    | some q => match SeqAt.shaped p && SeqAt.shaped q with
      | true => some (PyData.eqv p q)
      | false => none
    | none => none
  | none => none
def eqD (x y : D) : Option Bool := match strsD x y with
  | some b => some b
  | none => eqD0 x y
def truthD : D → Option Bool
  | .non => some false
  | .bl b => some b
  | .int i => some (i != 0)
  | .str s => if s.length ≤ sizeLine then some (!s.cps.isEmpty) else none
  | .tup ds => some (!ds.isEmpty)
  | .lst ds => some (!ds.isEmpty)
  | .dct ks _ => some (!ks.isEmpty)
  | _ => none
inductive Bop where
  | add | sub | mul | fdiv | mod | pow
  deriving DecidableEq
def addD : D → D → Option D
  | .int i, .int j => some (.int (i + j))
  | .str s, .str t => if s.length + t.length ≤ sizeLine then some (.str (s ++ t)) else none
  | .tup xs, .tup ys => if xs.length + ys.length ≤ sizeLine then some (.tup (xs ++ ys)) else none
  | .lst xs, .lst ys => if xs.length + ys.length ≤ sizeLine then some (.lst (xs ++ ys)) else none
  | _, _ => none
def repD (xs : List D) (k : Int) : List D := (List.replicate k.toNat xs).flatten
def mulD : D → D → Option D
  | .int i, .int j => if i.natAbs.log2 + j.natAbs.log2 < 1000000 then some (.int (i * j)) else none
  | .lst xs, .int k => if -(2 ^ 63) ≤ k ∧ k < 2 ^ 63 ∧ xs.length * k.toNat ≤ sizeLine then some (.lst (repD xs k)) else none
  | .tup xs, .int k => if xs.length ≠ 0 ∧ 2 ≤ k ∧ k ≤ 1000 ∧ xs.length ≤ 1000 then some (.tup (repD xs k)) else none
  | _, _ => none
def subD : D → D → Option D
  | .int i, .int j => some (.int (i - j))
  | _, _ => none
def fdivD : D → D → Option D
  | .int i, .int j => if j ≠ 0 ∧ j.natAbs.log2 < 9000 then some (.int (i.fdiv j)) else none
  | _, _ => none
def modD : D → D → Option D
  | .int i, .int j => if j ≠ 0 then some (.int (i.fmod j)) else none
  | _, _ => none
def powD : D → D → Option D
  | .int i, .int j => if 0 ≤ j ∧ j ≤ 1000000 ∧ i.natAbs < 2 ^ 64 then some (.int (i ^ j.toNat)) else none
  | _, _ => none
def negD : D → Option D
  | .int i => some (.int (-i))
  | _ => none
def binD : Bop → D → D → Option D
  | .add => addD
  | .sub => subD
  | .mul => mulD
  | .fdiv => fdivD
  | .mod => modD
  | .pow => powD
inductive Cop where
  | eq | ne | lt | le | gt | ge | isin | notin
  deriving DecidableEq
/-- flat data as a value -/
def flatD : D → Option V
  | .non => some .non
  | .bl b => some (.bl b)
  | .int i => some (.int i)
  | .str s => some (.str s)
  | _ => none
def flatDs : List D → Option (List V)
  | [] => some []
  | d :: ds => match flatD d with
    | some v => match flatDs ds with
      | some vs => some (v :: vs)
      | none => none
    | none => none
def keyD : D → Option Key
  | .int i => some (.inl i)
  | .str s => some (.inr s)
  | _ => none
def seqD : D → Option (List D)
  | .tup ds => some ds
  | .lst ds => some ds
  | _ => none
def inD (x : D) : D → Option Bool
  | .str z => match x with
    | .str c => if c.cps.size = 1 then some (decide (c.cps.getD 0 0 ∈ z.cps.toList)) else none
    | _ => none
  | y => match seqD y with
    | some ds => match flatD x with
      | some v => match flatDs ds with
        | some vs => some (inV v vs)
        | none => none
      | none => none
    | none => none
def ltD (f : Int → Int → Bool) : D → D → Option Bool
  | .int i, .int j => some (f i j)
  | _, _ => none
def cmpD : Cop → D → D → Option Bool
  | .eq, x, y => eqD x y
  | .ne, x, y => (eqD x y).map not
  | .lt, x, y => ltD (fun i j => decide (i < j)) x y
  | .le, x, y => ltD (fun i j => decide (i ≤ j)) x y
  | .gt, x, y => ltD (fun i j => decide (j < i)) x y
  | .ge, x, y => ltD (fun i j => decide (j ≤ i)) x y
  | .isin, x, y => inD x y
  | .notin, x, y => (inD x y).map not
def isNonD : D → Bool
  | .non => true
  | _ => false
def cutD (xs : List D) (lo hi : Option Int) : List D := (xs.drop (HT.sIx xs.length 0 lo)).take (HT.sIx xs.length xs.length hi - HT.sIx xs.length 0 lo)
def ixD : D → D → Option D
  | .tup ds, .int i => atI ds i
  | .lst ds, .int i => atI ds i
  | .str s, .int i => if s.length ≤ sizeLine then (atI s.cps.toList i).map fun c => .str ⟨#[c]⟩ else none
  | _, _ => none
def slD : D → Option Int → Option Int → Option D
  | .tup ds, lo, hi => some (.tup (cutD ds lo hi))
  | .lst ds, lo, hi => some (.lst (cutD ds lo hi))
  | .scr ns, lo, hi => some (.lst (cutD (ns.map D.int) lo hi))
  | .str s, lo, hi => if s.length ≤ sizeLine then some (.str (cutS s lo hi)) else none
  | _, _, _ => none
def intsD : List D → Option (List Int)
  | [] => some []
  | .int i :: ds => match intsD ds with
    | some ns => some (i :: ns)
    | none => none
  | _ :: _ => none
def blsD : List D → Option (List Bool)
  | [] => some []
  | .bl b :: ds => match blsD ds with
    | some ns => some (b :: ns)
    | none => none
  | _ :: _ => none
inductive Bi where
  | len | abs | max2 | min2 | int1 | str1 | repr1 | tuple1 | list1 | sum1 | all1 | any1
  deriving DecidableEq
def reprD (x : D) : Option D := match toP x with
  | some p => match PyData.showable p && decide (p.shown.length ≤ sizeLine) && decide (p.depth ≤ 64) with
    | true => some (.str p.shown)
    | false => none
  | none => none
def evBi : Bi → List D → Option D
  | .len, [.str s] => if s.length ≤ sizeLine then some (.int s.length) else none
  | .len, [.tup ds] => some (.int ds.length)
  | .len, [.lst ds] => some (.int ds.length)
  | .len, [.dct ks _] => some (.int ks.length)
  | .abs, [.int i] => some (.int (if i < 0 then -i else i))
  | .max2, [.int i, .int j] => some (.int (if j > i then j else i))
  | .min2, [.int i, .int j] => some (.int (if j < i then j else i))
  | .int1, [.int i] => some (.int i)
  | .int1, [.bl b] => some (.int (if b then 1 else 0))
  | .int1, [.str s] => match PySem.intText? s with
    | some n => if s.length ≤ 640 then some (.int n) else none
    | none => none
  | .str1, [.int i] => if i.natAbs.log2 < 1920 then some (.str (toString i)) else none
  | .repr1, [x] => reprD x
  | .tuple1, [.tup ds] => some (.tup ds)
  | .tuple1, [.lst ds] => some (.tup ds)
  | .list1, [.tup ds] => some (.lst ds)
  | .list1, [.lst ds] => some (.lst ds)
  | .sum1, [.lst ds] => (intsD ds).map fun ns => .int ns.sum
  | .all1, [.lst ds] => (blsD ds).map fun bs => .bl (bs.all id)
  | .any1, [.lst ds] => (blsD ds).map fun bs => .bl (bs.any id)
  | _, _ => none
/-- the built-in classes of isinstance -/
inductive Ty where
  | int | bool | str | tuple | list
  deriving DecidableEq
def isTy : Ty → D → Option Bool
  | .int, .int _ => some true
  | .int, .bl _ => some true
  | .bool, .bl _ => some true
  | .str, .str _ => some true
  | .tuple, .tup _ => some true
  | .list, .lst _ => some true
  | _, .ref _ => none
  | _, .fn _ => none
  | _, .scr _ => none
  | _, .dct _ _ => none
  | _, _ => some false

/-! ### the language -/
mutual
inductive E where
  | var (i : Nat)
  | own (i : Nat)
  | non | bl (b : Bool) | int (i : Int) | str (s : Str)
  | glob (x : Nat)
  | fnv (x : Nat)
  | bin (op : Bop) (a b : E)
  | neg (a : E)
  | cmp (op : Cop) (a b : E)
  | chain (op op' : Cop) (a b c : E)
  | isN (a : E) | notN (a : E)
  | conj (es : Es) | disj (es : Es)
  | not (a : E)
  | ite (c a b : E)
  | tup (es : Es) | lst (es : Es)
  /-- a new cell -/
  | newc (es : Es)
  | ix (a b : E)
  | sl (a : E) (lo hi : O)
  | call (f : Nat) (es : Es)
  | callv (f : E) (es : Es)
  | bi (f : Bi) (es : Es)
  | isi (a : E) (ty : Ty)
  | sindex (a b : E)
  | comp (vs : List Nat) (t : Tg) (it : It) (c : O) (e : E)
  | exf (i : Nat) (f : Str)
  | exi (i : Nat) (c : Nat)
  /-- is the error a ValueError: they all are -/
  | exv (i : Nat)
  /-- a def, called with the error -/
  | callx (f : Nat) (i : Nat)
inductive Es where
  | nil
  | cons (e : E) (es : Es)
inductive O where
  | none
  | some (e : E)
inductive It where
  | seq (e : E)
  | rng1 (a : E)
  | rng2 (a b : E)
  | enum (e : E)
  | zip (a b : E)
inductive Tg where
  | name (i : Nat)
  | tup (ts : Tgs)
inductive Tgs where
  | nil
  | cons (t : Tg) (ts : Tgs)
end

/-! ### its meaning -/
/-- what stands in the module -/
structure G where
  cst : Nat → Option D
  fns : Nat → Option (Nat × (List D → M D))
  sup : Nat → Nat → Option Bool
  /-- defs of one error -/
  fxs : Nat → Option (XV → M D)

mutual
/-- a target takes a value -/
def bindT : Tg → D → Ro → Option Ro
  | .name i, d, ρ => some (ρ.set i (.sh d))
  | .tup ts, .tup ds, ρ => bindTs ts ds ρ
  | .tup _, _, _ => none
def bindTs : Tgs → List D → Ro → Option Ro
  | .nil, [], ρ => some ρ
  | .cons t ts, d :: ds, ρ => match bindT t d ρ with
    | some ρ' => bindTs ts ds ρ'
    | none => none
  | _, _, _ => none
end
def wipeR (ρ : Ro) : List Nat → Ro
  | [] => ρ
  | v :: vs => (wipeR ρ vs).set v .un
def rngD (lo : Int) : Nat → List D
  | 0 => []
  | n + 1 => .int lo :: rngD (lo + 1) n
def zipD : List D → List D → List D
  | x :: xs, y :: ys => .tup [x, y] :: zipD xs ys
  | _, _ => []
def enumD (k : Nat) : List D → List D
  | [] => []
  | x :: xs => .tup [.int k, x] :: enumD (k + 1) xs
/-- what an iteration walks -/
def strDs (s : Str) : List D := s.cps.toList.map fun c => .str ⟨#[c]⟩
def walkD : D → Option (List D)
  | .tup ds => some ds
  | .lst ds => some ds
  | .str z => some (strDs z)
  | _ => none
def rng1D : D → Option (List D)
  | .int j => if -(2 ^ 62) ≤ j ∧ j < 2 ^ 62 then some (rngD 0 j.toNat) else none
  | _ => none
def rng2D : D → D → Option (List D)
  | .int i, .int j => if -(2 ^ 62) ≤ i ∧ i < 2 ^ 62 ∧ -(2 ^ 62) ≤ j ∧ j < 2 ^ 62 then some (rngD i (j - i).toNat) else none
  | _, _ => none
def enumS : D → Option (List D)
  | .lst ds => some (enumD 0 ds)
  | _ => none
def zipS : D → D → Option (List D)
  | .lst xs, .lst ys => some (zipD xs ys)
  | .tup xs, .tup ys => some (zipD xs ys)
  | _, _ => none
def sidxD (z : Str) : D → Option D
  | .str c => match Builtin.Str.occurrences z c 0 z.length 1 with
    | i :: _ => some (.int (i : Nat))
    | [] => none
  | _ => none
/-- only for a text -/
@[reducible] def strB {α : Type} (x : D) (f : Str → M α) : M α := match x with
  | .str z => f z
  | _ => fun _ => .stuck
def partD : D → Option (Option Int)
  | .int i => some (some i)
  | _ => none
def ixS (s : Sto) : D → D → Option D
  | .ref n, y => match s[n]? with
    | some ds => ixD (.lst ds) y
    | none => none
  | x, y => ixD x y
/-- one turn after another, what is kept -/
def compM (f : D → M (Option D)) : List D → M (List D)
  | [] => fun s => .ok [] s
  | x :: xs => fun s => match f x s with
    | .ok o s1 => match compM f xs s1 with
      | .ok r s2 => .ok (match o with | some d => d :: r | none => r) s2
      | _ => .stuck
    | _ => .stuck
/-- how an expression is asked: for its value, for a look at it, for its truth -/
inductive Md where
  | val | pk | tst
  deriving DecidableEq
@[reducible] def fin (md : Md) (m : M D) : M D := match md with
  | .tst => M.bind m fun x => M.opt ((truthD x).map D.bl)
  | _ => m
@[reducible] def ifB {α : Type} (m : M D) (t e : M α) : M α := M.bind m fun x => match x with
  | .bl true => t
  | .bl false => e
  | _ => fun _ => .stuck

variable (Γ : G)
mutual
def ev : E → Md → Ro → M D
  | .var i, md, ρ => fin md fun s => match ρ[i]? with
    | some (.sh d) => .ok d s
    | _ => .stuck
  | .own i, md, ρ => match md with
    | .val => fun _ => .stuck
    | md => fin md fun s => match ρ[i]? with
      | some (.ow d) => .ok d s
      | _ => .stuck
  | .non, md, _ => fin md fun s => .ok .non s
  | .bl b, md, _ => fin md fun s => .ok (.bl b) s
  | .int i, md, _ => fin md fun s => .ok (.int i) s
  | .str z, md, _ => fin md fun s => .ok (.str z) s
  | .glob x, md, _ => fin md (M.opt (Γ.cst x))
  | .fnv x, md, _ => fin md fun s => match Γ.fns x with
    | some _ => .ok (.fn x) s
    | none => .stuck
  | .bin op a b, md, ρ => fin md (M.bind (ev a .val ρ) fun x => M.bind (ev b .val ρ) fun y => M.opt (binD op x y))
  | .neg a, md, ρ => fin md (M.bind (ev a .val ρ) fun x => M.opt (negD x))
  | .cmp op a b, md, ρ => fin md (M.bind (ev a .pk ρ) fun x => M.bind (ev b .pk ρ) fun y => M.opt ((cmpD op x y).map D.bl))
  | .chain op op' a b c, md, ρ => fin md (M.bind (ev a .val ρ) fun x => M.bind (ev b .val ρ) fun y => M.bind (M.opt (cmpD op x y)) fun k => match k with
    | true => M.bind (ev c .val ρ) fun z => M.opt ((cmpD op' y z).map D.bl)
    | false => M.pure (.bl false))
  | .isN a, md, ρ => fin md (M.bind (ev a .val ρ) fun x => M.pure (.bl (isNonD x)))
  | .notN a, md, ρ => fin md (M.bind (ev a .val ρ) fun x => M.pure (.bl (!isNonD x)))
  | .conj es, md, ρ => match md with
    | .tst => evAndT es ρ
    | _ => evAnd es ρ
  | .disj es, md, ρ => match md with
    | .tst => evOrT es ρ
    | _ => evOr es ρ
  | .not a, md, ρ => match md with
    | .tst => ifB (ev a .tst ρ) (M.pure (.bl false)) (M.pure (.bl true))
    | _ => M.bind (ev a .pk ρ) fun x => M.opt ((truthD x).map fun b => D.bl (!b))
  | .ite c a b, md, ρ => match md with
    | .tst => ifB (ev c .tst ρ) (ev a .tst ρ) (ev b .tst ρ)
    | _ => ifB (ev c .tst ρ) (ev a .val ρ) (ev b .val ρ)
  | .tup es, md, ρ => fin md (M.bind (evEs es .val ρ) fun ds => M.opt (if ds.length ≤ sizeLine then some (.tup ds) else none))
  | .lst es, md, ρ => fin md (M.bind (evEs es .val ρ) fun ds => M.opt (if ds.length ≤ sizeLine then some (.lst ds) else none))
  | .newc es, md, ρ => fin md (M.bind (evEs es .val ρ) fun ds s => if ds.length ≤ sizeLine then .ok (.ref s.length) (s ++ [ds]) else .stuck)
  | .ix a b, md, ρ => fin md (M.bind (ev a .pk ρ) fun x => M.bind (ev b .val ρ) fun y s => M.opt (ixS s x y) s)
  | .sl a lo hi, md, ρ => fin md (M.bind (ev a .pk ρ) fun x => M.bind (evO lo ρ) fun l => M.bind (evO hi ρ) fun h => M.opt (slD x l h))
  | .call f es, md, ρ => fin md (match Γ.fns f with
    | some (n, m) => M.bind (evEs es .val ρ) fun ds => if ds.length = n then m ds else fun _ => .stuck
    | none => fun _ => .stuck)
  | .callv f es, md, ρ => fin md (M.bind (ev f .val ρ) fun x => match x with
    | .fn f => match Γ.fns f with
      | some (n, m) => M.bind (evEs es .val ρ) fun ds => if ds.length = n then m ds else fun _ => .stuck
      | none => fun _ => .stuck
    | _ => fun _ => .stuck)
  | .bi f es, md, ρ => fin md (M.bind (evEs es .pk ρ) fun ds => M.opt (evBi f ds))
  | .isi a ty, md, ρ => fin md (M.bind (ev a .val ρ) fun x => M.opt ((isTy ty x).map D.bl))
  | .sindex a b, md, ρ => fin md (M.bind (ev a .val ρ) fun x => strB x fun z => M.bind (ev b .val ρ) fun y => M.opt (sidxD z y))
  | .comp vs t it c e, md, ρ => fin md (M.bind (evIt it .pk ρ) fun ds => if ds.length ≤ sizeLine then M.bind (compM (fun d => match bindT t d (wipeR ρ vs) with
      | some ρ' => M.bind (evC c ρ') fun k => match k with
        | true => M.bind (ev e .val ρ') fun y => M.pure (some y)
        | false => M.pure none
      | none => fun _ => .stuck) ds) fun r => M.pure (.lst r) else fun _ => .stuck)
  | .exf i f, md, ρ => fin md fun s => match ρ[i]? with
    | some (.ex x) => match x.fs.lookup f with
      | some d => .ok d s
      | none => .stuck
    | _ => .stuck
  | .exi i c, md, ρ => fin md fun s => match ρ[i]? with
    | some (.ex x) => match Γ.sup x.cls c with
      | some b => .ok (.bl b) s
      | none => .stuck
    | _ => .stuck
  | .exv i, md, ρ => fin md fun s => match ρ[i]? with
    | some (.ex _) => .ok (.bl true) s
    | _ => .stuck
  | .callx f i, md, ρ => fin md fun s => match ρ[i]? with
    | some (.ex x) => match Γ.fxs f with
      | some m => m x s
      | none => .stuck
    | _ => .stuck
def evEs : Es → Md → Ro → M (List D)
  | .nil, _, _ => fun s => .ok [] s
  | .cons e es, md, ρ => M.bind (ev e md ρ) fun d => M.bind (evEs es md ρ) fun ds => M.pure (d :: ds)
def evO : O → Ro → M (Option Int)
  | .none, _ => fun s => .ok Option.none s
  | .some e, ρ => M.bind (ev e .val ρ) fun d => M.opt (partD d)
/-- a comprehension's test -/
def evC : O → Ro → M Bool
  | .none, _ => fun s => .ok true s
  | .some e, ρ => ifB (ev e .tst ρ) (M.pure true) (M.pure false)
def evAndT : Es → Ro → M D
  | .nil, _ => fun s => .ok (.bl true) s
  | .cons e es, ρ => ifB (ev e .tst ρ) (evAndT es ρ) (M.pure (.bl false))
def evOrT : Es → Ro → M D
  | .nil, _ => fun s => .ok (.bl false) s
  | .cons e es, ρ => ifB (ev e .tst ρ) (M.pure (.bl true)) (evOrT es ρ)
def evAnd : Es → Ro → M D
  | .nil, _ => fun _ => .stuck
  | .cons e es, ρ => match es with
    | .nil => ev e .val ρ
    | es => M.bind (ev e .val ρ) fun x => M.bind (M.opt (truthD x)) fun b => match b with
      | true => evAnd es ρ
      | false => M.pure x
def evOr : Es → Ro → M D
  | .nil, _ => fun _ => .stuck
  | .cons e es, ρ => match es with
    | .nil => ev e .val ρ
    | es => M.bind (ev e .val ρ) fun x => M.bind (M.opt (truthD x)) fun b => match b with
      | true => M.pure x
      | false => evOr es ρ
def evIt : It → Md → Ro → M (List D)
  | .seq e, md, ρ => M.bind (ev e md ρ) fun x => M.opt (walkD x)
  | .rng1 a, _, ρ => M.bind (ev a .val ρ) fun x => M.opt (rng1D x)
  | .rng2 a b, _, ρ => M.bind (ev a .val ρ) fun x => M.bind (ev b .val ρ) fun y => M.opt (rng2D x y)
  | .enum e, md, ρ => M.bind (ev e md ρ) fun x => M.opt (enumS x)
  | .zip a b, md, ρ => M.bind (ev a md ρ) fun x => M.bind (ev b md ρ) fun y => M.opt (zipS x y)
end
end Z
set_option Elab.async false
set_option linter.all false
set_option maxRecDepth 100000
set_option maxHeartbeats 4000000
/-! Z2: statements, and what they come to. -/
namespace Z
open PySem PySem.Spec PyProof.Rows L2

mutual
inductive S where
  | expr (e : E)
  /-- name (or a tuple of names) = value -/
  | set (t : Tg) (e : E)
  /-- name = a new list, its own from now on -/
  | own (i : Nat) (e : E)
  /-- a, b = x, y; a, b, c = x, y, z: each own or not -/
  | par (ts : List (Nat × Bool)) (es : Es)
  | app (i : Nat) (e : E)
  | put (i : Nat) (k e : E)
  | putC (a k e : E)
  | popS (j i : Nat) (k : E)
  | aug (i : Nat) (op : Bop) (e : E)
  | ret (e : E)
  | retN
  | ifs (c : E) (a b : Ss)
  | fors (t : Tg) (it : It) (b : Ss)
  | whil (μ : Ro → Nat) (c : E) (b : Ss)
  | brk | cont | pass
  | raise (c : Nat) (es : Es)
  | tryx (b : Ss) (hs : Hs)
  /-- a slot's own list is laid for good (no statement of the text) -/
  | frz (i : Nat)
inductive Ss where
  | nil
  | cons (s : S) (ss : Ss)
inductive Hs where
  | nil
  | cons (c : Nat) (n : Option Nat) (b : Ss) (hs : Hs)
end
inductive SRes where
  | nx (ρ : Ro) (s : Sto)
  | ret (d : D) (s : Sto)
  | bk (ρ : Ro) (s : Sto)
  | ct (ρ : Ro) (s : Sto)
  | ex (x : XV) (ρ : Ro) (s : Sto)
  | stuck
/-- an expression's answer, then a statement's -/
@[reducible] def thenS {α : Type} (r : Res α) (ρ : Ro) (f : α → Sto → SRes) : SRes := match r with
  | .ok a s => f a s
  | .exc x s => .ex x ρ s
  | .stuck => .stuck
def forS (f : D → Ro → Sto → SRes) : List D → Ro → Sto → SRes
  | [], ρ, s => .nx ρ s
  | x :: xs, ρ, s => match f x ρ s with
    | .nx ρ' s' => forS f xs ρ' s'
    | .ct ρ' s' => forS f xs ρ' s'
    | .bk ρ' s' => .nx ρ' s'
    | .ret d s' => .ret d s'
    | .ex x ρ' s' => .ex x ρ' s'
    | .stuck => .stuck
def whileS (c : Ro → Sto → Res D) (f : Ro → Sto → SRes) : Nat → Ro → Sto → SRes
  | 0, ρ, s => thenS (c ρ s) ρ fun b s1 => match b with
    | .bl false => .nx ρ s1
    | _ => .stuck
  | n + 1, ρ, s => thenS (c ρ s) ρ fun b s1 => match b with
    | .bl true => match f ρ s1 with
      | .nx ρ' s' => whileS c f n ρ' s'
      | .ct ρ' s' => whileS c f n ρ' s'
      | .bk ρ' s' => .nx ρ' s'
      | .ret d s' => .ret d s'
      | .ex x ρ' s' => .ex x ρ' s'
      | .stuck => .stuck
    | .bl false => .nx ρ s1
    | _ => .stuck
/-- several slots take values -/
def setAll : List (Nat × Bool) → List D → Ro → Option Ro
  | [], [], ρ => some ρ
  | (i, b) :: ts, d :: ds, ρ => match b with
    | false => setAll ts ds (ρ.set i (.sh d))
    | true => match d with
      | .lst _ => setAll ts ds (ρ.set i (.ow d))
      | .dct _ _ => setAll ts ds (ρ.set i (.ow d))
      | _ => none
  | _, _, _ => none
def augD : Bop → D → D → Option D
  | .add, .int i, .int j => some (.int (i + j))
  | .sub, .int i, .int j => some (.int (i - j))
  | _, _, _ => none
/-- a place of a list takes a value -/
def putD (ds : List D) (q d : D) : Option (List D) := match q with
  | .int n => match ixN ds.length n with
    | some j => some (ds.set j d)
    | none => none
  | _ => none
def putCD (s : Sto) (c q d : D) : Option Sto := match c with
  | .ref m => match s[m]? with
    | some ds => match putD ds q d with
      | some es => some (s.set m es)
      | none => none
    | none => none
  | _ => none
def popD (ds : List D) (q : D) : Option (D × List D) := match q with
  | .int n => if -(2 ^ 63) ≤ n ∧ n < 2 ^ 63 then match seqIndex? n ds.length with
    | some m => match ds[m]? with
      | some d => some (d, ds.eraseIdx m)
      | none => none
    | none => none
    else none
  | _ => none
/-- what the errors' classes are: their fields -/
structure GS extends G where
  exc : Nat → Option (List Str)
/-- behind a clause no slot holds an error -/
def unEx : Slot → Slot
  | .ex _ => .un
  | s => s
def clrE (n : Option Nat) (ρ : Ro) : Ro := match n with
  | none => ρ.map unEx
  | some i => (ρ.map unEx).set i .un
def inH (n : Option Nat) (x : XV) (ρ : Ro) : Ro := match n with
  | none => ρ
  | some i => ρ.set i (.ex x)
def endH (n : Option Nat) : SRes → SRes
  | .nx ρ s => .nx (clrE n ρ) s
  | .bk ρ s => .bk (clrE n ρ) s
  | .ct ρ s => .ct (clrE n ρ) s
  | .ret d s => .ret d s
  | _ => .stuck
variable (Γ : GS)
mutual
def evS : S → Ro → Sto → SRes
  | .expr e, ρ, s => thenS (ev Γ.toG e .val ρ s) ρ fun _ s => .nx ρ s
  | .set t e, ρ, s => thenS (ev Γ.toG e .val ρ s) ρ fun d s => match bindT t d ρ with
    | some ρ' => .nx ρ' s
    | none => .stuck
  | .own i e, ρ, s => thenS (ev Γ.toG e .val ρ s) ρ fun d s => match d with
    | .lst ds => .nx (ρ.set i (.ow (.lst ds))) s
    | .dct ks ds => .nx (ρ.set i (.ow (.dct ks ds))) s
    | _ => .stuck
  | .par ts es, ρ, s => thenS (evEs Γ.toG es .val ρ s) ρ fun ds s => match setAll ts ds ρ with
    | some ρ' => .nx ρ' s
    | none => .stuck
  | .app i e, ρ, s => match ρ[i]? with
    | some (.ow (.lst ds)) => thenS (ev Γ.toG e .val ρ s) ρ fun d s => if ds.length < sizeLine then .nx (ρ.set i (.ow (.lst (ds ++ [d])))) s else .stuck
    | _ => .stuck
  | .put i k e, ρ, s => match ρ[i]? with
    | some (.ow (.lst ds)) => thenS (ev Γ.toG e .val ρ s) ρ fun d s => thenS (ev Γ.toG k .val ρ s) ρ fun q s => match putD ds q d with
      | some es => .nx (ρ.set i (.ow (.lst es))) s
      | none => .stuck
    | _ => .stuck
  | .putC a k e, ρ, s => thenS (ev Γ.toG e .val ρ s) ρ fun d s => thenS (ev Γ.toG a .val ρ s) ρ fun c s => thenS (ev Γ.toG k .val ρ s) ρ fun q s => match putCD s c q d with
    | some s' => .nx ρ s'
    | none => .stuck
  | .popS j i k, ρ, s => match ρ[i]? with
    | some (.ow (.lst ds)) => thenS (ev Γ.toG k .val ρ s) ρ fun q s => match popD ds q with
      | some (d, es) => .nx ((ρ.set i (.ow (.lst es))).set j (.sh d)) s
      | none => .stuck
    | _ => .stuck
  | .aug i op e, ρ, s => match ρ[i]? with
    | some (.sh x) => thenS (ev Γ.toG e .val ρ s) ρ fun y s => match augD op x y with
      | some z => .nx (ρ.set i (.sh z)) s
      | none => .stuck
    | _ => .stuck
  | .ret e, ρ, s => thenS (ev Γ.toG e .val ρ s) ρ fun d s => .ret d s
  | .retN, _, s => .ret .non s
  | .ifs c a b, ρ, s => thenS (ev Γ.toG c .tst ρ s) ρ fun k s => match k with
    | .bl true => evSs a ρ s
    | .bl false => evSs b ρ s
    | _ => .stuck
  | .fors t it b, ρ, s => thenS (evIt Γ.toG it .val ρ s) ρ fun ds s => forS (fun d ρ s => match bindT t d ρ with
    | some ρ' => evSs b ρ' s
    | none => .stuck) ds ρ s
  | .whil μ c b, ρ, s => whileS (fun ρ => ev Γ.toG c .tst ρ) (fun ρ s => evSs b ρ s) (μ ρ) ρ s
  | .brk, ρ, s => .bk ρ s
  | .cont, ρ, s => .ct ρ s
  | .pass, ρ, s => .nx ρ s
  | .raise c es, ρ, s => match Γ.exc c with
    | some fs => thenS (evEs Γ.toG es .val ρ s) ρ fun ds s => if ds.length = fs.length then .ex ⟨c, fs.zip ds⟩ ρ s else .stuck
    | none => .stuck
  | .tryx b hs, ρ, s => match evSs b ρ s with
    | .ex x ρ' s' => evHs hs x ρ' s'
    | r => r
  | .frz i, ρ, s => match ρ[i]? with
    | some (.ow d) => .nx (ρ.set i (.sh d)) s
    | _ => .stuck
def evSs : Ss → Ro → Sto → SRes
  | .nil, ρ, s => .nx ρ s
  | .cons a r, ρ, s => match evS a ρ s with
    | .nx ρ' s' => evSs r ρ' s'
    | z => z
/-- the clauses, one after another -/
def evHs : Hs → XV → Ro → Sto → SRes
  | .nil, x, ρ, s => .ex x ρ s
  | .cons c n b hs, x, ρ, s => match Γ.sup x.cls c with
    | some true => endH n (evSs b (inH n x ρ) s)
    | some false => evHs hs x ρ s
    | none => .stuck
end
/-- a def: its body at its arguments -/
def run (n : Nat) (b : Ss) (m : Nat) (ds : List D) : M D := fun s => match evSs Γ b (ds.map Slot.sh ++ List.replicate (m - n) .un) s with
  | .nx _ s => .ok .non s
  | .ret d s => .ok d s
  | .ex x _ s => .exc x s
  | _ => .stuck
/-- no def of one error -/
def noX : Nat → Option (XV → M D) := fun _ => none
/-- a def of one error: its body, the error in its first slot -/
def runX (b : Ss) (m : Nat) (x : XV) : M D := fun s => match evSs Γ b (.ex x :: List.replicate (m - 1) .un) s with
  | .nx _ s => .ok .non s
  | .ret d s => .ok d s
  | .ex x _ s => .exc x s
  | _ => .stuck
/-- measures of whiles: an int's size, a text's length -/
def muI (i : Nat) (ρ : Ro) : Nat := match ρ[i]? with
  | some (Slot.sh (D.int n)) => n.natAbs + 1
  | _ => 0
def muS (i : Nat) (ρ : Ro) : Nat := match ρ[i]? with
  | some (Slot.sh (D.str n)) => n.length + 1
  | _ => 0
end Z
set_option Elab.async false
set_option linter.all false
set_option maxRecDepth 100000
set_option maxHeartbeats 4000000
/-! Z3: how data, slots and cells stand in a heap; a step; what is asked behind an answer. -/
namespace Z
open PySem PySem.Spec PyProof.Rows L2

/-- the ground: the written part, where functions and errors stand, the error that a suite holds -/
structure GC where
  K : PySem.W.Frag
  fad : Nat → Option Addr
  cad : Nat → Option Addr
  sx : Option (Addr × Value × Option Addr) := none
abbrev Tg' := Addr → Tag
section
variable (g : GC)
/-- an error as it lies: its class, its own dict -/
def ExR (T : Tg') (H : Hp) (x : XV) (cls : Value) (dd : Option Addr) : Prop :=
  ∃ C d fs, g.cad x.cls = some C ∧ cls = .ref C ∧ dd = some d ∧ T d = .fz ∧ H d = some (.xd fs) ∧ fs.map Prod.fst = x.fs.map Prod.fst ∧ RepL g.K g.fad T H (x.fs.map Prod.snd) (fs.map Prod.snd)
/-- a slot's own object -/
def OwR (T : Tg') (H : Hp) (a : Addr) : D → Prop
  | .lst ds => ∃ vs, H a = some (.lst vs) ∧ RepL g.K g.fad T H ds vs
  | .dct ks ds => ∃ kvs, H a = some (.dK kvs) ∧ kvs.map Prod.fst = ks ∧ RepL g.K g.fad T H ds (kvs.map Prod.snd)
  | _ => False
structure WF (T : Tg') (θ : List Addr) (H : Hp) (st : Sto) : Prop where
  trk : ∀ a, T a = .fz → H a ≠ none
  own : ∀ a i, T a = .own i → H a ≠ none
  cel : ∀ (a : Addr) (n : Nat), T a = .cell n ↔ θ[n]? = some a
  len : st.length = θ.length
  sto : ∀ (n : Nat) (a : Addr) (ds : List D), θ[n]? = some a → st[n]? = some ds → ∃ vs, H a = some (.lst vs) ∧ RepL g.K g.fad T H ds vs
def SlR (T : Tg') (H : Hp) (i : Nat) (o : Option (Option V)) : Slot → Prop
  | .un => True
  | .sh d => ∃ v, o = some (some v) ∧ Rep g.K g.fad T H d v
  | .ow d => ∃ a, o = some (some (.ref a)) ∧ T a = .own i ∧ OwR g T H a d
  | .ex x => ∃ a cls dd, g.sx = some (a, cls, dd) ∧ o = some (some (.ref a)) ∧ ExR g T H x cls dd
structure SR (T : Tg') (θ : List Addr) (H : Hp) (σ : L2.St) (ρ : Ro) (st : Sto) : Prop where
  wf : WF g T θ H st
  len : ρ.length = σ.length
  sl : ∀ (i : Nat) (s : Slot), ρ[i]? = some s → SlR g T H i σ[i]? s
/-- a step: what is tracked keeps its place; all but cells stay as they are -/
structure Stp (T : Tg') (θ : List Addr) (H : Hp) (T' : Tg') (θ' : List Addr) (H' : Hp) : Prop where
  tg : ∀ a, H a ≠ none → T' a = T a
  hp : ∀ a, H a ≠ none → (∀ n, T a ≠ .cell n) → H' a = H a
  live : ∀ a, H a ≠ none → H' a ≠ none
  th : ∃ more, θ' = θ ++ more
end
section
variable {g : GC} {T T' T2 : Tg'} {θ θ' θ2 : List Addr} {H H' H2 : Hp} {σ : L2.St} {ρ : Ro} {st st' : Sto}
theorem Stp.refl : Stp T θ H T θ H := ⟨fun _ _ => rfl, fun _ _ _ => rfl, fun _ h => h, [], by simp⟩
theorem Stp.trans (a : Stp T θ H T' θ' H') (b : Stp T' θ' H' T2 θ2 H2) : Stp T θ H T2 θ2 H2 where
  tg := fun x h => (b.tg x (a.live x h)).trans (a.tg x h)
  hp := fun x h c => (b.hp x (a.live x h) (fun n e => c n (by rw [← a.tg x h]; exact e))).trans (a.hp x h c)
  live := fun x h => b.live x (a.live x h)
  th := by
    obtain ⟨m, e⟩ := a.th
    obtain ⟨m', e'⟩ := b.th
    exact ⟨m ++ m', by rw [e', e, List.append_assoc]⟩
theorem WF.cellTrk (w : WF g T θ H st) {a : Addr} {n : Nat} (h : T a = .cell n) : H a ≠ none := by
  have e := (w.cel a n).mp h
  have hl : n < st.length := by rw [w.len]; exact (List.getElem?_eq_some_iff.mp e).1
  obtain ⟨vs, q, _⟩ := w.sto n a st[n] e (List.getElem?_eq_getElem hl)
  rw [q]
  exact fun z => nomatch z
theorem Stp.ke (w : WF g T θ H st) (s : Stp T θ H T' θ' H') : Ke T H T' H' :=
  ⟨fun a h => ⟨(s.tg a (w.trk a h)).trans h, s.hp a (w.trk a h) (fun n e => by rw [h] at e; cases e)⟩, fun a n h => (s.tg a (w.cellTrk h)).trans h⟩
theorem SlR.stp (w : WF g T θ H st) (s : Stp T θ H T' θ' H') {i : Nat} {o : Option (Option V)} {sl : Slot} (h : SlR g T H i o sl) : SlR g T' H' i o sl := by
  have k := s.ke w
  cases sl with
  | un => trivial
  | sh d =>
    obtain ⟨v, e, r⟩ := h
    exact ⟨v, e, r.ke k⟩
  | ow d =>
    obtain ⟨a, e, t, r⟩ := h
    have ha := w.own a i t
    have hn : ∀ n, T a ≠ .cell n := fun n z => by rw [t] at z; cases z
    refine ⟨a, e, (s.tg a ha).trans t, ?_⟩
    cases d with
    | lst ds =>
      obtain ⟨vs, q, r⟩ := r
      exact ⟨vs, (s.hp a ha hn).trans q, r.ke k⟩
    | dct ks ds =>
      obtain ⟨kvs, q, e2, r⟩ := r
      exact ⟨kvs, (s.hp a ha hn).trans q, e2, r.ke k⟩
    | _ => exact r.elim
  | ex x =>
    obtain ⟨a, cls, dd, e1, e2, C, d, fs, c1, c2, c3, c4, c5, c6, c7⟩ := h
    exact ⟨a, cls, dd, e1, e2, C, d, fs, c1, c2, c3, (k.fz d c4).1, ((k.fz d c4).2).trans c5, c6, c7.ke k⟩
theorem SR.stp (r : SR g T θ H σ ρ st) (s : Stp T θ H T' θ' H') (w : WF g T' θ' H' st') : SR g T' θ' H' σ ρ st' :=
  ⟨w, r.len, fun i sl e => (r.sl i sl e).stp r.wf s⟩
/-- a new address: it is nobody's -/
theorem WF.new (w : WF g T θ H st) {p : Addr} (h : H p = none) : T p ≠ .fz ∧ (∀ i, T p ≠ .own i) ∧ (∀ n, T p ≠ .cell n) :=
  ⟨fun e => w.trk p e h, fun i e => w.own p i e h, fun n e => w.cellTrk e h⟩
def updT (T : Tg') (a : Addr) (t : Tag) : Tg' := fun b => if b = a then t else T b
theorem updT_same {a : Addr} {t : Tag} : updT T a t a = t := if_pos rfl
theorem updT_ne {a b : Addr} {t : Tag} (h : b ≠ a) : updT T a t b = T b := if_neg h
theorem Ke.new (w : WF g T θ H st) {p : Addr} {o : HO} {t : Tag} (h : H p = none) : Ke T H (updT T p t) (upd H p o) := by
  obtain ⟨n1, n2, n3⟩ := w.new h
  exact ⟨fun a e => by
    have hn : a ≠ p := fun z => n1 (z ▸ e)
    rw [updT_ne hn, upd_ne hn]
    exact ⟨e, rfl⟩, fun a n e => by
    have hn : a ≠ p := fun z => n3 n (z ▸ e)
    rw [updT_ne hn]
    exact e⟩
theorem Stp.new {p : Addr} {o : HO} {t : Tag} (h : H p = none) : Stp T θ H (updT T p t) θ (upd H p o) :=
  ⟨fun a q => updT_ne (fun z => q (by rw [z]; exact h)), fun a q _ => upd_ne (fun z => q (by rw [z]; exact h)), fun a q => by
    have hn : a ≠ p := fun z => q (by rw [z]; exact h)
    rw [upd_ne hn]; exact q, [], by simp⟩
/-- a new object, laid for good or a slot's own (or let go) -/
theorem WF.laid (w : WF g T θ H st) {p : Addr} {o : HO} {t : Tag} (h : H p = none) (ht : ∀ n, t ≠ .cell n) : WF g (updT T p t) θ (upd H p o) st := by
  have k : Ke T H (updT T p t) (upd H p o) := .new w h
  obtain ⟨n1, n2, n3⟩ := w.new h
  refine ⟨fun a e => ?_, fun a i e => ?_, fun a n => ?_, w.len, fun n a ds e1 e2 => ?_⟩
  · by_cases ha : a = p
    · rw [ha, upd_same]; exact fun z => nomatch z
    · rw [updT_ne ha] at e; rw [upd_ne ha]; exact w.trk a e
  · by_cases ha : a = p
    · rw [ha, upd_same]; exact fun z => nomatch z
    · rw [updT_ne ha] at e; rw [upd_ne ha]; exact w.own a i e
  · by_cases ha : a = p
    · subst ha
      rw [updT_same]
      exact ⟨fun e => absurd e (ht n), fun e => absurd ((w.cel a n).mpr e) (n3 n)⟩
    · rw [updT_ne ha]; exact w.cel a n
  · obtain ⟨vs, q, r⟩ := w.sto n a ds e1 e2
    have ha : a ≠ p := fun z => by rw [z, h] at q; cases q
    exact ⟨vs, by rw [upd_ne ha]; exact q, r.ke k⟩
/-- a new cell -/
theorem WF.cell (w : WF g T θ H st) {p : Addr} {ds : List D} {vs : List V} (h : H p = none) (r : RepL g.K g.fad T H ds vs) :
    WF g (updT T p (.cell st.length)) (θ ++ [p]) (upd H p (.lst vs)) (st ++ [ds]) := by
  have k : Ke T H (updT T p (.cell st.length)) (upd H p (.lst vs)) := .new w h
  obtain ⟨n1, n2, n3⟩ := w.new h
  have lt : ∀ {n : Nat} {a : Addr}, θ[n]? = some a → n < st.length := fun e => by rw [w.len]; exact (List.getElem?_eq_some_iff.mp e).1
  refine ⟨fun a e => ?_, fun a i e => ?_, fun a n => ?_, by simp [w.len], fun n a es e1 e2 => ?_⟩
  · by_cases ha : a = p
    · rw [ha, upd_same]; exact fun z => nomatch z
    · rw [updT_ne ha] at e; rw [upd_ne ha]; exact w.trk a e
  · by_cases ha : a = p
    · rw [ha, upd_same]; exact fun z => nomatch z
    · rw [updT_ne ha] at e; rw [upd_ne ha]; exact w.own a i e
  · by_cases ha : a = p
    · subst ha
      rw [updT_same]
      constructor
      · intro e
        injection e with e
        subst e
        rw [w.len]
        simp
      · intro e
        by_cases hn : n < θ.length
        · rw [List.getElem?_append_left hn] at e
          exact absurd ((w.cel a n).mpr e) (n3 n)
        · by_cases hq : n = θ.length
          · rw [w.len, hq]
          · rw [List.getElem?_eq_none (by simp; omega)] at e
            cases e
    · rw [updT_ne ha, w.cel a n]
      constructor
      · intro e
        rw [List.getElem?_append_left (by have := lt e; rw [w.len] at this; exact this)]
        exact e
      · intro e
        by_cases hn : n < θ.length
        · rwa [List.getElem?_append_left hn] at e
        · by_cases hq : n = θ.length
          · subst hq
            simp at e
            exact absurd e.symm ha
          · rw [List.getElem?_eq_none (by simp; omega)] at e
            cases e
  · by_cases hn : n < θ.length
    · rw [List.getElem?_append_left hn] at e1
      rw [List.getElem?_append_left (by rw [w.len]; exact hn)] at e2
      obtain ⟨us, q, r'⟩ := w.sto n a es e1 e2
      have ha : a ≠ p := fun z => by rw [z, h] at q; cases q
      exact ⟨us, by rw [upd_ne ha]; exact q, r'.ke k⟩
    · by_cases hq : n = θ.length
      · subst hq
        have e1' : p = a := by simpa using e1
        have e2' : ds = es := by
          rw [← w.len] at e2
          simpa using e2
        subst e1' e2'
        exact ⟨vs, upd_same, r.ke k⟩
      · rw [List.getElem?_eq_none (by simp; omega)] at e1
        cases e1
end

/-! ### what is asked behind an answer -/
section
variable (g : GC) (W : WX) (σ : L2.St)
def Po {α : Type} (r : Res α) (T : Tg') (θ : List Addr) (H : Hp) (k : α → Sto → Tg' → List Addr → Hp → Prop) : Prop := match r with
  | .ok a st => ∀ T' θ' H', Stp T θ H T' θ' H' → WF g T' θ' H' st → k a st T' θ' H'
  | .exc x st => ∀ T' θ' H' cls dd, Stp T θ H T' θ' H' → WF g T' θ' H' st → ExR g T' H' x cls dd → W cls dd σ H'
  | .stuck => False
end
section
variable {g : GC} {W : WX} {σ : L2.St} {α β : Type} {T : Tg'} {θ : List Addr} {H : Hp} {st : Sto}
theorem Po.mono {r : Res α} {k k' : α → Sto → Tg' → List Addr → Hp → Prop} (h : Po g W σ r T θ H k)
    (f : ∀ a st' T' θ' H', Stp T θ H T' θ' H' → WF g T' θ' H' st' → k a st' T' θ' H' → k' a st' T' θ' H') : Po g W σ r T θ H k' := by
  cases r with
  | ok a s => exact fun T' θ' H' s1 w1 => f a s T' θ' H' s1 w1 (h T' θ' H' s1 w1)
  | exc x s => exact h
  | stuck => exact h
theorem Po.later {r : Res α} {k : α → Sto → Tg' → List Addr → Hp → Prop} {T' : Tg'} {θ' : List Addr} {H' : Hp} (h : Po g W σ r T θ H k) (s : Stp T θ H T' θ' H') : Po g W σ r T' θ' H' k := by
  cases r with
  | ok a s2 => exact fun T2 θ2 H2 s1 w1 => h T2 θ2 H2 (s.trans s1) w1
  | exc x s2 => exact fun T2 θ2 H2 cls dd s1 w1 e => h T2 θ2 H2 cls dd (s.trans s1) w1 e
  | stuck => exact h
theorem Po.bind {m : M α} {f : α → M β} {k : β → Sto → Tg' → List Addr → Hp → Prop} (h : Po g W σ (M.bind m f st) T θ H k) :
    Po g W σ (m st) T θ H fun a st' T' θ' H' => Po g W σ (f a st') T' θ' H' k := by
  unfold M.bind at h
  cases e : m st with
  | ok a s =>
    rw [e] at h
    exact fun T' θ' H' s1 w1 => Po.later h s1
  | exc x s =>
    rw [e] at h
    exact h
  | stuck =>
    rw [e] at h
    exact h
theorem Po.opt {o : Option α} {k : α → Sto → Tg' → List Addr → Hp → Prop} (h : Po g W σ (M.opt o st) T θ H k) (w : WF g T θ H st) : ∃ a, o = some a ∧ ∀ T' θ' H', Stp T θ H T' θ' H' → WF g T' θ' H' st → k a st T' θ' H' := by
  cases o with
  | none => exact h.elim
  | some a => exact ⟨a, rfl, h⟩
theorem Po.pure {a : α} {k : α → Sto → Tg' → List Addr → Hp → Prop} (h : Po g W σ (M.pure a st) T θ H k) (w : WF g T θ H st) : k a st T θ H := h T θ H .refl w
end
/-- values -/
abbrev RelR := GC → Tg' → Hp → D → V → Prop
def rVal : RelR := fun g T H d v => Rep g.K g.fad T H d v
/-- a value, or a slot's own object -/
def rPk : RelR := fun g T H d v => Rep g.K g.fad T H d v ∨ ∃ a i, v = .ref a ∧ T a = .own i ∧ OwR g T H a d
/-- .. of several -/
def RLs (R : RelR) (g : GC) (T : Tg') (H : Hp) : List D → List V → Prop
  | [], vs => vs = []
  | d :: ds, vs => ∃ v ws, vs = v :: ws ∧ R g T H d v ∧ RLs R g T H ds ws
theorem RLs.rep {g : GC} {T : Tg'} {H : Hp} : ∀ {ds : List D} {vs : List V}, RLs rVal g T H ds vs → RepL g.K g.fad T H ds vs
  | [], _, h => by
    have e : _ = [] := h
    subst e
    exact .nil
  | d :: ds, _, h => by
    obtain ⟨v, ws, rfl, h1, h2⟩ := h
    exact .cons h1 (RLs.rep h2)
section
variable (g : GC) (W : WX)
/-- a reading: m from the slots; the value as R has it -/
def rdR (R : RelR) (m : Ro → M D) : TE := fun σ H Q => ∃ T θ ρ st, SR g T θ H σ ρ st ∧ Po g W σ (m ρ st) T θ H fun d _ T' _ H' => ∀ v, R g T' H' d v → Q v H'
abbrev rd (m : Ro → M D) : TE := rdR g W rVal m
abbrev rdP (m : Ro → M D) : TE := rdR g W rPk m
/-- .. new lists and dicts as new ones -/
def kF (Q : VK) : D → Sto → Tg' → List Addr → Hp → Prop := fun d _ T' _ H' => match d with
  | .lst ds => ∀ vs p, H' p = none → RepL g.K g.fad T' H' ds vs → Q (.ref p) (upd H' p (.lst vs))
  | .dct ks ds => ∀ kvs p, H' p = none → kvs.map Prod.fst = ks → RepL g.K g.fad T' H' ds (kvs.map Prod.snd) → Q (.ref p) (upd H' p (.dK kvs))
  | d => ∀ v, Rep g.K g.fad T' H' d v → Q v H'
def rdF (m : Ro → M D) : TE := fun σ H Q => ∃ T θ ρ st, SR g T θ H σ ρ st ∧ Po g W σ (m ρ st) T θ H (kF g Q)
def rdT (m : Ro → M D) : TT := fun σ H Q => ∃ T θ ρ st, SR g T θ H σ ρ st ∧ Po g W σ (m ρ st) T θ H fun d _ _ _ H' => ∃ b, d = .bl b ∧ Q b H'
def rdA (R : RelR) (m : Ro → M (List D)) : TA := fun σ H Q => ∃ T θ ρ st, SR g T θ H σ ρ st ∧ Po g W σ (m ρ st) T θ H fun ds _ T' _ H' => ∀ vs, RLs R g T' H' ds vs → Q vs H'
end
section
variable {g : GC} {W : WX}
/-- what is new may be laid for good -/
theorem rdF_of {m : Ro → M D} {σ : L2.St} {H : Hp} {Q : VK} (h : rd g W m σ H Q) : rdF g W m σ H Q := by
  obtain ⟨T, θ, ρ, st, r, p⟩ := h
  refine ⟨T, θ, ρ, st, r, ?_⟩
  cases e : m ρ st with
  | ok d s =>
    rw [e] at p
    intro T' θ' H' s1 w1
    have fin : ∀ (d' : D) (o : HO) (p' : Addr), d = d' → H' p' = none → (∀ T2 H2, T2 = updT T' p' .fz → H2 = upd H' p' o → Rep g.K g.fad T2 H2 d' (.ref p')) → Q (.ref p') (upd H' p' o) := fun d' o p' ed hp hr => by
      subst ed
      exact p _ θ' _ (s1.trans (.new (t := .fz) hp)) (w1.laid hp (fun _ z => nomatch z)) _ (hr _ _ rfl rfl)
    cases d with
    | lst ds =>
      intro vs p' hp hr
      refine fin _ _ p' rfl hp fun T2 H2 e1 e2 => ?_
      subst e1 e2
      simp only [Rep]
      exact ⟨p', vs, rfl, updT_same, upd_same, hr.ke (.new w1 hp)⟩
    | dct ks ds =>
      intro kvs p' hp hk hr
      refine fin _ _ p' rfl hp fun T2 H2 e1 e2 => ?_
      subst e1 e2
      simp only [Rep]
      exact ⟨p', kvs, rfl, updT_same, upd_same, hk, hr.ke (.new w1 hp)⟩
    | _ => exact p T' θ' H' s1 w1
  | exc x s => rw [e] at p; exact p
  | stuck => rw [e] at p; exact p
theorem rdP_rd {m : Ro → M D} {σ : L2.St} {H : Hp} {Q : VK} (h : rdP g W m σ H Q) : rd g W m σ H Q := by
  obtain ⟨T, θ, ρ, st, r, p⟩ := h
  exact ⟨T, θ, ρ, st, r, p.mono fun _ _ _ _ _ _ _ q v hv => q v (.inl hv)⟩
end
section
variable {X : Cx} {e : Expr}
theorem PE_imp {t t' : TE} (h : PE X e t) (f : ∀ σ H Q, t' σ H Q → t σ H Q) : PE X e t' := ⟨fun pins s σ H Q I q => h.run pins s σ H Q I (f σ H Q q)⟩
theorem PT_imp {t t' : TT} (h : PT X e t) (f : ∀ σ H Q, t' σ H Q → t σ H Q) : PT X e t' := ⟨fun pins s σ H Q I q => h.run pins s σ H Q I (f σ H Q q)⟩
end
section
variable {g : GC} {W : WX} {σ : L2.St} {H : Hp}
/-- one, then another -/
theorem rd_one {R : RelR} {m : Ro → M D} {f : Ro → D → M D} {k : D → Sto → Tg' → List Addr → Hp → Prop}
    (h : ∃ T θ ρ st, SR g T θ H σ ρ st ∧ Po g W σ (M.bind (m ρ) (f ρ) st) T θ H k) :
    rdR g W R m σ H fun v H1 => ∃ T θ ρ st x, SR g T θ H1 σ ρ st ∧ R g T H1 x v ∧ Po g W σ (f ρ x st) T θ H1 k := by
  obtain ⟨T, θ, ρ, st, r, p⟩ := h
  exact ⟨T, θ, ρ, st, r, p.bind.mono fun a st' T' θ' H' s w q v hv => ⟨T', θ', ρ, st', a, r.stp s w, hv, q⟩⟩
theorem rd_two {R R' : RelR} {m n : Ro → M D} {f : Ro → D → D → M D} {k : D → Sto → Tg' → List Addr → Hp → Prop} (hR : ∀ {T θ H st T' θ' H' x v}, WF g T θ H st → Stp T θ H T' θ' H' → R g T H x v → R g T' H' x v)
    (h : ∃ T θ ρ st, SR g T θ H σ ρ st ∧ Po g W σ (M.bind (m ρ) (fun x => M.bind (n ρ) (f ρ x)) st) T θ H k) :
    rdR g W R m σ H fun v H1 => rdR g W R' n σ H1 fun u H2 => ∃ T θ ρ st x y, SR g T θ H2 σ ρ st ∧ R g T H2 x v ∧ R' g T H2 y u ∧ Po g W σ (f ρ x y st) T θ H2 k := by
  obtain ⟨T, θ, ρ, st, r, p⟩ := h
  refine ⟨T, θ, ρ, st, r, p.bind.mono fun a st' T' θ' H' s w q v hv => ?_⟩
  refine ⟨T', θ', ρ, st', r.stp s w, q.bind.mono fun b st2 T2 θ2 H2 s2 w2 q2 u hu => ?_⟩
  exact ⟨T2, θ2, ρ, st2, a, b, (r.stp s w).stp s2 w2, hR w s2 hv, hu, q2⟩
theorem rVal_stp {T T' : Tg'} {θ θ' : List Addr} {H H' : Hp} {st : Sto} {x : D} {v : V} (w : WF g T θ H st) (s : Stp T θ H T' θ' H') (h : rVal g T H x v) : rVal g T' H' x v := Rep.ke (s.ke w) h
theorem rPk_stp {T T' : Tg'} {θ θ' : List Addr} {H H' : Hp} {st : Sto} {x : D} {v : V} (w : WF g T θ H st) (s : Stp T θ H T' θ' H') (h : rPk g T H x v) : rPk g T' H' x v := by
  rcases h with h | ⟨a, i, e, t, r⟩
  · exact .inl (Rep.ke (s.ke w) h)
  · refine .inr ⟨a, i, e, ?_⟩
    have q : SlR g T H i (some (some (.ref a))) (.ow x) := ⟨a, rfl, t, r⟩
    obtain ⟨a', e', t', r'⟩ := q.stp w s
    injection e' with e'
    injection e' with e'
    injection e' with e'
    subst e'
    exact ⟨t', r'⟩
end
end Z
set_option Elab.async false
set_option linter.all false
set_option maxRecDepth 100000
set_option maxHeartbeats 4000000
/-! Z4: functions: a promise that knows that no text is being shown (guards), its call, its proof from a body. -/
namespace Z
open PySem PySem.Spec PyProof.Rows L2

/-- as the layer's FnOk, where nothing is being shown -/
structure FnG (P : Program) (w : World) (K : PySem.W.Frag) (mg : Str → Option Value) (base : Heap) (k : Nat) (f : Addr) (fd : FuncData) (ps : List Str) (sp : Sp) : Prop where
  len : ∀ vs H Q E, sp vs H Q E → vs.length = ps.length
  run : ∀ (A : Around) (outer : List Env) (s : Shared) (H : Hp) (args : Args) (us : List Value) (vs : List V) (Q : VK) (E : XK), A.guards = some [] → Room k A →
    Env0 P w K mg base A outer s H → BindsTo s fd args (ps.zip us) → Vals vs us → sp vs H Q E → codeAny (model P w) A (.call (.ref f) args) (CR (L2.CX P w) outer P w H s Q E) s
theorem FnG.up {P : Program} {w : World} {K : PySem.W.Frag} {mg : Str → Option Value} {base : Heap} {j k : Nat} {f : Addr} {fd : FuncData} {ps : List Str} {sp : Sp} (F : FnG P w K mg base j f fd ps sp) (h : j ≤ k) : FnG P w K mg base k f fd ps sp :=
  ⟨F.len, fun A outer s H args us vs Q E hg hr => F.run A outer s H args us vs Q E hg (hr.mono h)⟩
section
variable {X : Cx} {k : Nat} {f : Addr} {fd : FuncData} {ps : List Str} {sp : Sp} {W : WX} {pins : List (Addr × Obj)} {σ : L2.St} {H : Hp} {s : Shared} {Q : VK} {us : List Value} {vs : List V}
theorem run_fnG (F : FnG X.prog X.w X.K X.mg X.base k f fd ps sp) (hg : X.A.guards = some []) (hr : Room k X.A) (hb : Binds X.K fd ps []) (tk : Takes X W) (I : Inv X pins σ H s) (r : Vals vs us)
    (h : sp vs H Q fun cls d H' => W cls d σ H') : wpAny (model X.prog X.w) X.A (call (.ref f) us) (EP X pins σ Q) X.xe s := by
  have hl : us.length = ps.length := by rw [← r.length]; exact F.len _ _ _ _ h
  have bt := hb s us I.kIn (by rw [List.append_nil]; exact hl)
  rw [List.append_nil] at bt
  have go := F.run X.A X.stack s H ⟨us, []⟩ us vs Q _ hg hr I.env0 bt r h
  apply wpAny_call
  refine codeAny_mono go ?_
  intro r s' q
  match r, q with
  | .ok (.ret u), q => exact I.after q
  | .error e, q => exact tk e s' (XE.of_call I (fun _ _ _ z => z) q)
end

/-- a def of the text, by its body; an exception leaves as CX says -/
theorem fnG_of {P : Program} {w : World} {K : PySem.W.Frag} {mg : Str → Option Value} {base : Heap} {k : Nat} {f : Addr} {x qual : Str} {params : Arguments} {body : List Stmt} {scope : Scope} {dvs : List V} {kws : List (Str × V)} {fd : FuncData} {N ps : List Str} {sp : Sp} (F : FunD K x qual params body scope dvs kws f fd) (S : FnScope N ps scope)
    (len : ∀ vs H Q E, sp vs H Q E → vs.length = ps.length)
    (hbody : ∀ (cd : Value) (A : Around) (outer : List Env) (s : Shared) (H : Hp) (vs : List V) (Q : VK) (E : XK), (A.deeper (envOfC qual scope s.heap.objs.size f cd)).guards = some [] → Room k (A.deeper (envOfC qual scope s.heap.objs.size f cd)) →
      sp vs H Q E → ∃ t, PSs (cxOf (L2.CX P w) P w K mg base N qual scope f cd A outer s H E) body t ∧ t { nx := fun _ H' => Q .non H', rt := Q } (start N vs) H) : FnG P w K mg base (k + 1) f fd ps sp := by
  obtain ⟨oc, od, dV, kV, doc, pm, an, cd, ct, osl, rfl, lk, hcd, _, _⟩ := F.ex
  refine ⟨len, fun A outer s H args us vs Q E hg hr e0 hb r hs => ?_⟩
  have kp : ∀ b o, base.get? b = some o → s.heap.get? b = some o := fun b o e => (e0.bs b o e).1
  have hK : K.In s.heap := e0.mod.kin.keeps kp
  have inS : ∀ y ∈ ps.zip us, scope.names.lookup y.1 = some .local ∨ (scope.names.lookup y.1 = some .cell ∧ ((cellsFrom (s.heap.objs.size + 1) scope.names []).lookup y.1).isSome = true) := by
    rintro ⟨n, v⟩ hy
    have hp := (List.of_mem_zip hy).1
    exact (S.par n hp).imp id fun q => ⟨q, PySem.W.cellsFrom_some _ _ _ (.inl q)⟩
  apply codeAny_call_function hr.depth (hK _ _ lk) rfl S.co S.gen rfl (PySem.W.codeRec_of hK hcd)
  apply hb
  apply wpAny_newFunctionEnv_cells S.kind inS
  intro env he s1 x
  subst he
  obtain ⟨t, ht, hq⟩ := hbody cd A outer s H vs Q E (by first | exact hg | simpa using hg) (hr.deeper _) hs
  have J := inv_start (CX := L2.CX P w) (E := E) (qual := qual) (f := f) (cd := cd) S hr.hd e0 (len _ _ _ _ hs) r x
  refine ⟨(e0.mod.nolimit.keeps kp).keeps x.toInCall.keep, codeAny_func ?_⟩
  refine wpAny_mono (ht.run [] s1 _ H _ J hq) ?_ fun _ _ z => z
  intro fl s' hfl
  match fl, hfl with
  | .ret u, ⟨v, σ', H', J', rv, q⟩ => exact ⟨v, H', J'.os, J'.bare, J'.base, J'.hok, rv, q⟩
  | .next, ⟨σ', H', J', q⟩ => exact ⟨.non, H', J'.os, J'.bare, J'.base, J'.hok, rfl, q⟩
  | .brk, ⟨_, _, _, q⟩ => exact q.elim
  | .cont, ⟨_, _, _, q⟩ => exact q.elim

/-! ### a function as a map of data -/
def NoOwn (T : Tg') : Prop := ∀ a i, T a ≠ .own i
def PoC (g : GC) (r : Res D) (T : Tg') (θ : List Addr) (H : Hp) (Q : VK) (E : XK) : Prop := match r with
  | .ok d st => ∀ T' θ' H' v, Stp T θ H T' θ' H' → WF g T' θ' H' st → NoOwn T' → Rep g.K g.fad T' H' d v → Q v H'
  | .exc x st => ∀ T' θ' H' cls dd, Stp T θ H T' θ' H' → WF g T' θ' H' st → NoOwn T' → ExR g T' H' x cls dd → E cls dd H'
  | .stuck => False
/-- the promise: data in, data out -/
def spD (g : GC) (n : Nat) (m : List D → M D) : Sp := fun vs H Q E => ∃ T θ st ds, WF g T θ H st ∧ NoOwn T ∧ RepL g.K g.fad T H ds vs ∧ ds.length = n ∧ PoC g (m ds st) T θ H Q E
theorem spD_len {g : GC} {n : Nat} {m : List D → M D} {vs : List V} {H : Hp} {Q : VK} {E : XK} (h : spD g n m vs H Q E) : vs.length = n := by
  obtain ⟨T, θ, st, ds, _, _, r, e, _⟩ := h
  rw [r.length, e]
/-- the caller's own objects, seen from within -/
def hideT (T : Tg') : Tg' := fun a => match T a with
  | .own _ => .out
  | t => t
def showT (T T' : Tg') : Tg' := fun a => match T a with
  | .own i => .own i
  | _ => T' a
section
variable {g : GC} {T T' : Tg'} {θ θ' : List Addr} {H H' : Hp} {st st' : Sto}
theorem hideT_eq (a : Addr) : (∃ i, T a = .own i ∧ hideT T a = .out) ∨ ((∀ i, T a ≠ .own i) ∧ hideT T a = T a) := by
  unfold hideT
  cases e : T a with
  | own i => exact .inl ⟨i, rfl, rfl⟩
  | _ => exact .inr ⟨fun i z => (nomatch z), rfl⟩
theorem showT_eq (a : Addr) : (∃ i, T a = .own i ∧ showT T T' a = .own i) ∨ ((∀ i, T a ≠ .own i) ∧ showT T T' a = T' a) := by
  unfold showT
  cases e : T a with
  | own i => exact .inl ⟨i, rfl, rfl⟩
  | _ => exact .inr ⟨fun i z => (nomatch z), rfl⟩
theorem hide_ke : Ke T H (hideT T) H := by
  refine ⟨fun a e => ⟨?_, rfl⟩, fun a n e => ?_⟩
  · rcases hideT_eq (T := T) a with ⟨i, q, _⟩ | ⟨_, q⟩
    · rw [e] at q; cases q
    · rw [q]; exact e
  · rcases hideT_eq (T := T) a with ⟨i, q, _⟩ | ⟨_, q⟩
    · rw [e] at q; cases q
    · rw [q]; exact e
theorem hide_noOwn : NoOwn (hideT T) := fun a i e => by
  rcases hideT_eq (T := T) a with ⟨j, _, q⟩ | ⟨n, q⟩
  · rw [q] at e; cases e
  · rw [q] at e; exact n i e
theorem WF.hide (w : WF g T θ H st) : WF g (hideT T) θ H st := by
  refine ⟨fun a e => ?_, fun a i e => absurd e (hide_noOwn a i), fun a n => ?_, w.len, fun n a ds e1 e2 => ?_⟩
  · rcases hideT_eq (T := T) a with ⟨j, _, q⟩ | ⟨_, q⟩
    · rw [q] at e; cases e
    · rw [q] at e; exact w.trk a e
  · rcases hideT_eq (T := T) a with ⟨j, q1, q⟩ | ⟨_, q⟩
    · rw [q]
      exact ⟨fun z => (nomatch z), fun z => by rw [(w.cel a n).mpr z] at q1; cases q1⟩
    · rw [q]; exact w.cel a n
  · obtain ⟨vs, q, r⟩ := w.sto n a ds e1 e2
    exact ⟨vs, q, r.ke hide_ke⟩
/-- behind the call, seen from without again -/
theorem show_stp (w : WF g T θ H st) (s : Stp (hideT T) θ H T' θ' H') (w' : WF g T' θ' H' st') (n : NoOwn T') : Stp T θ H (showT T T') θ' H' ∧ WF g (showT T T') θ' H' st' ∧ Ke T' H' (showT T T') H' := by
  have own_at : ∀ {a i}, T a = .own i → T' a = .out ∧ H' a = H a := fun {a i} e => by
    have hl := w.own a i e
    have q : hideT T a = .out := by
      rcases hideT_eq (T := T) a with ⟨j, _, q⟩ | ⟨k, _⟩
      · exact q
      · exact absurd e (k i)
    exact ⟨(s.tg a hl).trans q, s.hp a hl fun n z => by rw [q] at z; cases z⟩
  have ke : Ke T' H' (showT T T') H' := by
    refine ⟨fun a e => ⟨?_, rfl⟩, fun a n e => ?_⟩
    · rcases showT_eq (T := T) (T' := T') a with ⟨i, q, _⟩ | ⟨_, q⟩
      · rw [(own_at q).1] at e; cases e
      · rw [q]; exact e
    · rcases showT_eq (T := T) (T' := T') a with ⟨i, q, _⟩ | ⟨_, q⟩
      · rw [(own_at q).1] at e; cases e
      · rw [q]; exact e
  refine ⟨⟨fun a h => ?_, fun a h c => ?_, s.live, s.th⟩, ⟨fun a e => ?_, fun a i e => ?_, fun a n => ?_, w'.len, fun n a ds e1 e2 => ?_⟩, ke⟩
  · rcases showT_eq (T := T) (T' := T') a with ⟨i, q1, q⟩ | ⟨k, q⟩
    · rw [q, q1]
    · rw [q, s.tg a h]
      rcases hideT_eq (T := T) a with ⟨i, z, _⟩ | ⟨_, z⟩
      · exact absurd z (k i)
      · exact z
  · refine s.hp a h fun n z => ?_
    rcases hideT_eq (T := T) a with ⟨i, _, q⟩ | ⟨_, q⟩
    · rw [q] at z; cases z
    · rw [q] at z; exact c n z
  · rcases showT_eq (T := T) (T' := T') a with ⟨i, q1, q⟩ | ⟨k, q⟩
    · rw [q] at e; cases e
    · rw [q] at e; exact w'.trk a e
  · rcases showT_eq (T := T) (T' := T') a with ⟨j, q1, q⟩ | ⟨k, q⟩
    · exact s.live a (w.own a j q1)
    · rw [q] at e; exact absurd e (n a i)
  · rcases showT_eq (T := T) (T' := T') a with ⟨i, q1, q⟩ | ⟨k, q⟩
    · rw [q]
      exact ⟨fun z => (nomatch z), fun z => by rw [← w'.cel a n, (own_at q1).1] at z; cases z⟩
    · rw [q]; exact w'.cel a n
  · obtain ⟨vs, q, r⟩ := w'.sto n a ds e1 e2
    exact ⟨vs, q, r.ke ke⟩
theorem ExR.ke {g : GC} {T T' : Tg'} {H H' : Hp} {x : XV} {cls : Value} {dd : Option Addr} (k : Ke T H T' H') (h : ExR g T H x cls dd) : ExR g T' H' x cls dd := by
  obtain ⟨C, d, fs, c1, c2, c3, c4, c5, c6, c7⟩ := h
  exact ⟨C, d, fs, c1, c2, c3, (k.fz d c4).1, ((k.fz d c4).2).trans c5, c6, c7.ke k⟩
/-- at a call: what is wanted behind it is what the promise asks -/
theorem spD_of {W : WX} {σ : L2.St} {n : Nat} {m : List D → M D} {ds : List D} {vs : List V} {Q : VK} (w : WF g T θ H st) (r : RepL g.K g.fad T H ds vs) (hn : ds.length = n)
    (p : Po g W σ (m ds st) T θ H fun d _ T' _ H' => ∀ v, Rep g.K g.fad T' H' d v → Q v H') : spD g n m vs H Q fun cls d H' => W cls d σ H' := by
  refine ⟨hideT T, θ, st, ds, w.hide, hide_noOwn, r.ke hide_ke, hn, ?_⟩
  cases e : m ds st with
  | ok d s2 =>
    rw [e] at p
    intro T' θ' H' v s1 w1 no hv
    obtain ⟨a, b, c⟩ := show_stp w s1 w1 no
    exact p _ θ' H' a b v (hv.ke c)
  | exc x s2 =>
    rw [e] at p
    intro T' θ' H' cls dd s1 w1 no hx
    obtain ⟨a, b, c⟩ := show_stp w s1 w1 no
    exact p _ θ' H' cls dd a b (hx.ke c)
  | stuck => rw [e] at p; exact p
end
end Z
set_option Elab.async false
set_option linter.all false
set_option maxRecDepth 100000
set_option maxHeartbeats 4000000
/-! ZX: a def of one error, called in a suite that holds that error. -/
namespace Z
open PySem PySem.Spec PyProof.Rows L2

abbrev SpX := Addr → Value → Option Addr → Hp → VK → Prop
structure FnX (P : Program) (w : World) (K : PySem.W.Frag) (mg : Str → Option Value) (base : Heap) (k : Nat) (f : Addr) (fd : FuncData) (y : Str) (sp : SpX) : Prop where
  run : ∀ (A : Around) (outer : List Env) (s : Shared) (H : Hp) (args : Args) (Q : VK) (a : Addr) (oe : Obj) (cls : Value) (dd : Option Addr), A.guards = some [] → L2H.RoomH k A → A.handled = some (.ref a) → L2H.PinOk outer H s (a, oe) → Zc cls dd oe →
    (∃ vs, oe.data = .fields vs) → Env0 P w K mg base A outer s H → BindsTo s fd args [(y, .ref a)] → sp a cls dd H Q → codeAny (model P w) A (.call (.ref f) args) (CR (L2.CX P w) outer P w H s Q fun _ _ _ => False) s
theorem FnX.up {P : Program} {w : World} {K : PySem.W.Frag} {mg : Str → Option Value} {base : Heap} {j k : Nat} {f : Addr} {fd : FuncData} {y : Str} {sp : SpX} (F : FnX P w K mg base j f fd y sp) (h : j ≤ k) : FnX P w K mg base k f fd y sp :=
  ⟨fun A outer s H args Q a oe cls dd hg hr => F.run A outer s H args Q a oe cls dd hg (hr.mono h)⟩
theorem mark_same {A : Around} {v : Value} (h : A.handled = some v) : A.mark (some v) = A := by
  cases A
  subst h
  rfl
/-- the context of such a def's body -/
abbrev cxX (P : Program) (w : World) (K : PySem.W.Frag) (mg : Str → Option Value) (base : Heap) (N : List Str) (qual : Str) (scope : Scope) (f : Addr) (cd : Value) (A : Around) (outer : List Env) (s : Shared) (H : Hp) (a : Addr) (oe : Obj) : Cx :=
  (L2H.cxH (L2.CX P w) P w K mg base N qual scope f cd A outer s H (fun _ _ _ => False) (a, oe)).suite a ((a, oe) :: [(a, oe)])
theorem fnX_of {P : Program} {w : World} {K : PySem.W.Frag} {mg : Str → Option Value} {base : Heap} {k : Nat} {f : Addr} {x qual : Str} {params : Arguments} {body : List Stmt} {scope : Scope} {dvs : List V} {kws : List (Str × V)} {fd : FuncData} {N : List Str} {y : Str} {sp : SpX} (F : FunD K x qual params body scope dvs kws f fd) (S : FnScope N [y] scope)
    (hbody : ∀ (cd : Value) (A : Around) (outer : List Env) (s : Shared) (H : Hp) (Q : VK) (a : Addr) (oe : Obj) (cls : Value) (dd : Option Addr), (A.deeper (envOfC qual scope s.heap.objs.size f cd)).guards = some [] → L2H.RoomH k (A.deeper (envOfC qual scope s.heap.objs.size f cd)) →
      Zc cls dd oe → (∃ vs, oe.data = .fields vs) → sp a cls dd H Q → ∃ t, PSs (cxX P w K mg base N qual scope f cd A outer s H a oe) body t ∧ t { nx := fun _ H' => Q .non H', rt := Q } (start N [.ref a]) H) : FnX P w K mg base (k + 1) f fd y sp := by
  obtain ⟨oc, od, dV, kV, doc, pm, an, cd, ct, osl, rfl, lk, hcd, _, _⟩ := F.ex
  refine ⟨fun A outer s H args Q a oe cls dd hg hr hh hpin hz hv e0 hb hs => ?_⟩
  have kp : ∀ b o, base.get? b = some o → s.heap.get? b = some o := fun b o e => (e0.bs b o e).1
  have hK : K.In s.heap := e0.mod.kin.keeps kp
  have inS : ∀ z ∈ [(y, Value.ref a)], scope.names.lookup z.1 = some .local ∨ (scope.names.lookup z.1 = some .cell ∧ ((cellsFrom (s.heap.objs.size + 1) scope.names []).lookup z.1).isSome = true) := by
    intro z hz
    rw [List.mem_singleton] at hz
    subst hz
    exact (S.par y List.mem_cons_self).imp id fun q => ⟨q, PySem.W.cellsFrom_some _ _ _ (.inl q)⟩
  apply codeAny_call_function hr.depth (hK _ _ lk) rfl S.co S.gen rfl (PySem.W.codeRec_of hK hcd)
  apply hb
  apply wpAny_newFunctionEnv_cells S.kind inS
  intro env he s1 x
  subst he
  obtain ⟨t, ht, hq⟩ := hbody cd A outer s H Q a oe cls dd (by first | exact hg | simpa using hg) (hr.deeper _) hz hv hs
  have J0 := L2H.inv_startH (CX := L2.CX P w) (E := fun _ _ _ => False) (qual := qual) (f := f) (cd := cd) S hpin e0 (vs := [.ref a]) (us := [.ref a]) rfl (.cons rfl .nil) x
  have P1 := J0.pin (a, oe) (List.mem_append.mpr (.inl List.mem_cons_self))
  obtain ⟨vs, hd⟩ := hv
  have J := J0.suite P1.1 hd P1.2.1 P1.2.2.1 P1.2.2.2.1
  refine ⟨(e0.mod.nolimit.keeps kp).keeps x.toInCall.keep, codeAny_func ?_⟩
  have go := ht.run [] s1 _ H _ J hq
  have mk : (L2H.cxH (L2.CX P w) P w K mg base N qual scope f cd A outer s H (fun _ _ _ => False) (a, oe)).A.mark (some (.ref a)) = A.deeper (envOfC qual scope s.heap.objs.size f cd) := mark_same (show (A.deeper _).handled = _ from hh)
  have go' : wpAny (model P w) ((L2H.cxH (L2.CX P w) P w K mg base N qual scope f cd A outer s H (fun _ _ _ => False) (a, oe)).A.mark (some (.ref a))) _ _ _ s1 := go
  rw [mk] at go'
  refine wpAny_mono go' ?_ fun _ _ z => z.elim
  intro fl s' hfl
  match fl, hfl with
  | .ret u, ⟨v, σ', H', J', rv, q⟩ => exact ⟨v, H', J'.os, J'.bare, J'.base, J'.hok, rv, q⟩
  | .next, ⟨σ', H', J', q⟩ => exact ⟨.non, H', J'.os, J'.bare, J'.base, J'.hok, rfl, q⟩
  | .brk, ⟨_, _, _, q⟩ => exact q.elim
  | .cont, ⟨_, _, _, q⟩ => exact q.elim
section
variable {X : Cx} {k : Nat} {f : Addr} {fd : FuncData} {y : Str} {sp : SpX}
theorem run_fnX (F : FnX X.prog X.w X.K X.mg X.base k f fd y sp) {a : Addr} {oe : Obj} {cls : Value} {dd : Option Addr} {pn : List (Addr × Obj)} (hz : Zc cls dd oe) (hv : ∃ vs, oe.data = .fields vs) (hg : X.A.guards = some []) (hr : L2H.RoomH k X.A) (hb : Binds X.K fd [y] []) {pins : List (Addr × Obj)} {σ : L2.St} {H : Hp} {s : Shared} {Q : VK}
    (I : Inv (X.suite a ((a, oe) :: pn)) pins σ H s) (h : sp a cls dd H Q) : wpAny (model X.prog X.w) (X.suite a ((a, oe) :: pn)).A (call (.ref f) [.ref a]) (EP (X.suite a ((a, oe) :: pn)) pins σ Q) (X.suite a ((a, oe) :: pn)).xe s := by
  have bt := hb s [.ref a] I.kIn rfl
  have P1 := I.pin (a, oe) (List.mem_append.mpr (.inl List.mem_cons_self))
  have hpin : L2H.PinOk X.stack H s (a, oe) := ⟨P1.1, P1.2.1, fun hm => (List.mem_cons.mp (I.stkSub a hm)).elim P1.2.2.1 P1.2.2.2.1, P1.2.2.2.2⟩
  have go := F.run (X.A.mark (some (.ref a))) X.stack s H ⟨[.ref a], []⟩ Q a oe cls dd hg ⟨hr.dp, hr.un⟩ rfl hpin hz hv I.env0 bt h
  apply wpAny_call
  refine codeAny_mono go ?_
  intro r s' q
  match r, q with
  | .ok (.ret u), q => exact I.after q
  | .error e, q =>
    obtain ⟨_, _, _, _, _, _, _, _, _, _, _, _, z⟩ := q
    exact z.elim
end
/-- the promise -/
def spX (g : GC) (m : XV → M D) : SpX := fun a cls dd H Q => ∃ T θ st x, WF g T θ H st ∧ NoOwn T ∧ ExR g T H x cls dd ∧ PoC g (m x st) T θ H Q fun _ _ _ => False
theorem spX_of {g : GC} {T : Tg'} {θ : List Addr} {H : Hp} {st : Sto} {σ : L2.St} {m : XV → M D} {x : XV} {a : Addr} {cls : Value} {dd : Option Addr} {Q : VK} (w : WF g T θ H st) (hx : ExR g T H x cls dd)
    (p : Po g (fun _ _ _ _ => False) σ (m x st) T θ H fun d _ T' _ H' => ∀ v, Rep g.K g.fad T' H' d v → Q v H') : spX g m a cls dd H Q := by
  refine ⟨hideT T, θ, st, x, w.hide, hide_noOwn, hx.ke hide_ke, ?_⟩
  cases e : m x st with
  | ok d s2 =>
    rw [e] at p
    intro T' θ' H' v s1 w1 no hv
    obtain ⟨a, b, c⟩ := show_stp w s1 w1 no
    exact p _ θ' H' a b v (hv.ke c)
  | exc x s2 =>
    rw [e] at p
    intro T' θ' H' cls dd s1 w1 no hx
    obtain ⟨a, b, c⟩ := show_stp w s1 w1 no
    exact p _ θ' H' cls dd a b (hx.ke c)
  | stuck => rw [e] at p; exact p
end Z
set_option Elab.async false
set_option linter.all false
set_option maxRecDepth 100000
set_option maxHeartbeats 4000000
/-! Z5: operators by data. -/
namespace Z
open PySem PySem.Spec PyProof.Rows L2

section
variable {g : GC} {T : Tg'} {θ : List Addr} {H : Hp} {st : Sto} {Q : VK}
/-- what may follow an answer d -/
def After (g : GC) (T : Tg') (θ : List Addr) (H : Hp) (st : Sto) (Q : VK) (d : D) : Prop := ∀ T' θ' H', Stp T θ H T' θ' H' → WF g T' θ' H' st → kF g Q d st T' θ' H'
theorem After.val {d : D} (a : After g T θ H st Q d) (w : WF g T θ H st) (hd : (∀ ds, d ≠ .lst ds) ∧ ∀ ks ds, d ≠ .dct ks ds) {v : V} (h : Rep g.K g.fad T H d v) : Q v H := by
  have z := a T θ H .refl w
  cases d with
  | lst ds => exact absurd rfl (hd.1 ds)
  | dct ks ds => exact absurd rfl (hd.2 ks ds)
  | _ => exact z v h
theorem After.int {i : Int} (a : After g T θ H st Q (.int i)) (w : WF g T θ H st) : Q (.int i) H := a.val w ⟨fun _ z => (nomatch z), fun _ _ z => (nomatch z)⟩ (by simp only [Rep])
theorem After.bl {i : Bool} (a : After g T θ H st Q (.bl i)) (w : WF g T θ H st) : Q (.bl i) H := a.val w ⟨fun _ z => (nomatch z), fun _ _ z => (nomatch z)⟩ (by simp only [Rep])
theorem After.str {i : Str} (a : After g T θ H st Q (.str i)) (w : WF g T θ H st) : Q (.str i) H := a.val w ⟨fun _ z => (nomatch z), fun _ _ z => (nomatch z)⟩ (by simp only [Rep])
theorem After.non (a : After g T θ H st Q .non) (w : WF g T θ H st) : Q .non H := a.val w ⟨fun _ z => (nomatch z), fun _ _ z => (nomatch z)⟩ (by simp only [Rep])
theorem After.tupOld {ds : List D} (a : After g T θ H st Q (.tup ds)) (w : WF g T θ H st) {p : Addr} {vs : List V} (h : RdT g.K T H p vs) (r : RepL g.K g.fad T H ds vs) : Q (.ref p) H :=
  a.val w ⟨fun _ z => (nomatch z), fun _ _ z => (nomatch z)⟩ (by simp only [Rep]; exact ⟨p, vs, rfl, h, r⟩)
theorem After.tupNew {ds : List D} (a : After g T θ H st Q (.tup ds)) (w : WF g T θ H st) {vs : List V} (r : RepL g.K g.fad T H ds vs) : ∀ p, H p = none → Q (.ref p) (upd H p (.tup vs)) := by
  intro p hp
  have z := a (updT T p .fz) θ (upd H p (.tup vs)) (.new hp) (w.laid hp fun _ z => nomatch z)
  refine z (.ref p) ?_
  simp only [Rep]
  exact ⟨p, vs, rfl, .inl ⟨updT_same, SqT.of upd_same⟩, r.ke (.new w hp)⟩
theorem After.lst {ds : List D} (a : After g T θ H st Q (.lst ds)) (w : WF g T θ H st) {vs : List V} (r : RepL g.K g.fad T H ds vs) : ∀ p, H p = none → Q (.ref p) (upd H p (.lst vs)) :=
  fun p hp => a T θ H .refl w vs p hp r
end

def SpecB (g : GC) (f : D → D → Option D) (r : R2) : Prop := ∀ (T : Tg') (θ : List Addr) (H : Hp) (st : Sto) (x y d : D) (v u : V) (Q : VK), WF g T θ H st → Rep g.K g.fad T H x v → Rep g.K g.fad T H y u → f x y = some d → After g T θ H st Q d → r v u H Q
theorem pe_binD {X : Cx} {g : GC} {W : WX} {a b : Expr} {op : Operator} {pos : Pos} {ma mb : Ro → M D} {f : D → D → Option D} {r : R2} (ho : OpR X (binaryOp op) r) (hs : SpecB g f r) (ha : PE X a (rd g W ma)) (hb : PE X b (rd g W mb)) :
    PE X (.BinOp a op b pos) (rdF g W fun ρ => M.bind (ma ρ) fun x => M.bind (mb ρ) fun y => M.opt (f x y)) := by
  refine PE_imp (pe_op ho ha hb) fun σ H Q h => ?_
  have h2 := rd_two (R := rVal) (R' := rVal) (f := fun _ x y => M.opt (f x y)) rVal_stp h
  show rd g W ma σ H fun v H1 => rd g W mb σ H1 fun u H2 => r v u H2 Q
  obtain ⟨T, θ, ρ, st, r0, p⟩ := h2
  refine ⟨T, θ, ρ, st, r0, p.mono fun a st' T' θ' H' _ _ q v hv => ?_⟩
  obtain ⟨T1, θ1, ρ1, st1, r1, p1⟩ := q v hv
  refine ⟨T1, θ1, ρ1, st1, r1, p1.mono fun b st2 T2 θ2 H2 _ _ q u hu => ?_⟩
  obtain ⟨T3, θ3, ρ3, st3, x, y, r3, hx, hy, p3⟩ := q u hu
  obtain ⟨d, e, k⟩ := Po.opt p3 r3.wf
  exact hs T3 θ3 H2 st3 x y d v u Q r3.wf hx hy e k

/-! ### the operators -/
section
variable {X : Cx} {g : GC}
theorem rep_int {T : Tg'} {H : Hp} {i : Int} {v : V} (h : Rep g.K g.fad T H (.int i) v) : v = .int i := by simpa only [Rep] using h
theorem rep_str {T : Tg'} {H : Hp} {i : Str} {v : V} (h : Rep g.K g.fad T H (.str i) v) : v = .str i := by simpa only [Rep] using h
theorem rep_bl {T : Tg'} {H : Hp} {i : Bool} {v : V} (h : Rep g.K g.fad T H (.bl i) v) : v = .bl i := by simpa only [Rep] using h
theorem rep_non {T : Tg'} {H : Hp} {v : V} (h : Rep g.K g.fad T H .non v) : v = .non := by simpa only [Rep] using h
theorem rep_tup {T : Tg'} {H : Hp} {ds : List D} {v : V} (h : Rep g.K g.fad T H (.tup ds) v) : ∃ a vs, v = .ref a ∧ RdT g.K T H a vs ∧ RepL g.K g.fad T H ds vs := by simpa only [Rep] using h
theorem rep_lst {T : Tg'} {H : Hp} {ds : List D} {v : V} (h : Rep g.K g.fad T H (.lst ds) v) : ∃ a vs, v = .ref a ∧ T a = .fz ∧ H a = some (.lst vs) ∧ RepL g.K g.fad T H ds vs := by simpa only [Rep] using h
theorem RepL.nil_iff {T : Tg'} {H : Hp} {ds : List D} {vs : List V} (h : RepL g.K g.fad T H ds vs) : vs = [] ↔ ds = [] := by
  have := h.length
  constructor
  · intro e; subst e; exact List.eq_nil_of_length_eq_zero this.symm
  · intro e; subst e; exact List.eq_nil_of_length_eq_zero this
def rAddD (K : PySem.W.Frag) : R2 := fun x y H Q => rI0 (fun i j => .int (i + j)) x y H Q ∨ ((∃ i j, x = .str i ∧ y = .str j ∧ i.length + j.length ≤ sizeLine ∧ Q (.str (i ++ j)) H) ∨ (rCatA K x y H Q ∨ rCat x y H Q))
theorem op_addD : OpR X (binaryOp .Add) (rAddD X.K) := op_add.or (op_add_str.or (op_catA.or op_cat))
theorem spec_add (hK : X.K = g.K) : SpecB g addD (rAddD X.K) := by
  intro T θ H st x y d v u Q w hx hy e a
  rw [hK]
  unfold addD at e
  split at e
  · cases e
    obtain rfl := rep_int hx
    obtain rfl := rep_int hy
    exact .inl ⟨_, _, rfl, rfl, a.int w⟩
  · split at e <;> cases e
    rename_i hz
    obtain rfl := rep_str hx
    obtain rfl := rep_str hy
    exact .inr (.inl ⟨_, _, rfl, rfl, hz, a.str w⟩)
  · split at e <;> cases e
    rename_i xs ys hz
    obtain ⟨p, vs, rfl, h1, r1⟩ := rep_tup hx
    obtain ⟨q, us, rfl, h2, r2⟩ := rep_tup hy
    refine .inr (.inr (.inl ⟨p, q, vs, us, rfl, rfl, h1.sq, h2.sq, by rw [r1.length, r2.length]; exact hz, fun z => ?_, fun z z2 => ?_, fun _ _ => a.tupNew w (r1.append r2)⟩))
    · rw [r1.nil_iff] at z
      subst z
      exact a.tupOld w h2 (by simpa using r2)
    · rw [r2.nil_iff] at z2
      subst z2
      exact a.tupOld w h1 (by simpa using r1)
  · split at e <;> cases e
    rename_i xs ys hz
    obtain ⟨p, vs, rfl, _, h1, r1⟩ := rep_lst hx
    obtain ⟨q, us, rfl, _, h2, r2⟩ := rep_lst hy
    exact .inr (.inr (.inr ⟨p, q, vs, us, rfl, rfl, h1, h2, by rw [r1.length, r2.length]; exact hz, a.lst w (r1.append r2)⟩))
  · cases e
theorem spec_sub : SpecB g subD (rI0 fun i j => .int (i - j)) := by
  intro T θ H st x y d v u Q w hx hy e a
  unfold subD at e
  split at e <;> cases e
  obtain rfl := rep_int hx
  obtain rfl := rep_int hy
  exact ⟨_, _, rfl, rfl, a.int w⟩
theorem op_fdivD : OpR X (binaryOp .FloorDiv) (rI (fun _ j => j ≠ 0 ∧ j.natAbs.log2 < 9000) fun i j => .int (i.fdiv j)) := opI fun _ _ _ _ _ _ _ hc q => floordiv_int hc.1 q (.inl (PyProof.noPylong_of_log2 hc.2))
theorem spec_fdiv : SpecB g fdivD (rI (fun _ j => j ≠ 0 ∧ j.natAbs.log2 < 9000) fun i j => .int (i.fdiv j)) := by
  intro T θ H st x y d v u Q w hx hy e a
  unfold fdivD at e
  split at e
  · split at e <;> cases e
    rename_i hz
    obtain rfl := rep_int hx
    obtain rfl := rep_int hy
    exact ⟨_, _, rfl, rfl, hz, a.int w⟩
  · cases e
theorem spec_mod : SpecB g modD (rI (fun _ j => j ≠ 0) fun i j => .int (i.fmod j)) := by
  intro T θ H st x y d v u Q w hx hy e a
  unfold modD at e
  split at e
  · split at e <;> cases e
    rename_i hz
    obtain rfl := rep_int hx
    obtain rfl := rep_int hy
    exact ⟨_, _, rfl, rfl, hz, a.int w⟩
  · cases e
theorem spec_pow : SpecB g powD (rI CPow fun i j => .int (i ^ j.toNat)) := by
  intro T θ H st x y d v u Q w hx hy e a
  unfold powD at e
  split at e
  · split at e <;> cases e
    rename_i hz
    obtain rfl := rep_int hx
    obtain rfl := rep_int hy
    exact ⟨_, _, rfl, rfl, hz, a.int w⟩
  · cases e
def rMulD (K : PySem.W.Frag) : R2 := fun x y H Q => rI CMulW (fun i j => .int (i * j)) x y H Q ∨ (rRep x y H Q ∨ rRepT K x y H Q)
theorem op_mulD : OpR X (binaryOp .Mult) (rMulD X.K) := op_mulW.or (op_rep.or op_repT)
theorem RepL.rep {T : Tg'} {H : Hp} {ds : List D} {vs : List V} (h : RepL g.K g.fad T H ds vs) : ∀ k : Nat, RepL g.K g.fad T H (List.replicate k ds).flatten (List.replicate k vs).flatten
  | 0 => .nil
  | k + 1 => by
    simp only [List.replicate_succ, List.flatten_cons]
    exact h.append (RepL.rep h k)
theorem spec_mul (hK : X.K = g.K) : SpecB g mulD (rMulD X.K) := by
  intro T θ H st x y d v u Q w hx hy e a
  rw [hK]
  unfold mulD at e
  split at e
  · split at e <;> cases e
    rename_i hz
    obtain rfl := rep_int hx
    obtain rfl := rep_int hy
    exact .inl ⟨_, _, rfl, rfl, hz, a.int w⟩
  · split at e <;> cases e
    rename_i hz
    obtain ⟨p, vs, rfl, _, h1, r1⟩ := rep_lst hx
    obtain rfl := rep_int hy
    exact .inr (.inl ⟨p, _, vs, rfl, rfl, h1, hz.1, hz.2.1, by rw [r1.length]; exact hz.2.2, a.lst w (r1.rep _)⟩)
  · split at e <;> cases e
    rename_i hz
    obtain ⟨p, vs, rfl, h1, r1⟩ := rep_tup hx
    obtain rfl := rep_int hy
    exact .inr (.inr ⟨p, _, vs, rfl, rfl, h1.sq, fun z => hz.1 (by rw [← r1.length, z]; rfl), hz.2.1, hz.2.2.1, by rw [r1.length]; exact hz.2.2.2, a.tupNew w (r1.rep _)⟩)
  · cases e
/-- each operator of the text -/
def Bop.py : Bop → Operator
  | .add => .Add
  | .sub => .Sub
  | .mul => .Mult
  | .fdiv => .FloorDiv
  | .mod => .Mod
  | .pow => .Pow
theorem bin_ok (hK : X.K = g.K) (op : Bop) : ∃ r : R2, OpR X (binaryOp op.py) r ∧ SpecB g (binD op) r := by
  cases op with
  | add => exact ⟨_, op_addD, spec_add hK⟩
  | sub => exact ⟨_, op_sub, spec_sub⟩
  | mul => exact ⟨_, op_mulD, spec_mul hK⟩
  | fdiv => exact ⟨_, op_fdivD, spec_fdiv⟩
  | mod => exact ⟨_, op_modN, spec_mod⟩
  | pow => exact ⟨_, op_pow, spec_pow⟩
end
end Z
set_option Elab.async false
set_option linter.all false
set_option maxRecDepth 100000
set_option maxHeartbeats 4000000
/-! Z6: comparisons, truth, and, or, not by data. -/
namespace Z
open PySem PySem.Spec PyProof.Rows L2

section
variable {X : Cx} {g : GC} {T : Tg'} {H : Hp}
mutual
theorem dp_of (hK : X.K = g.K) : ∀ {d : D} {v : V} {p : PyData}, Rep g.K g.fad T H d v → toP d = some p → Dp X.K H v p
  | .non, v, p, h, e => by
    obtain rfl := rep_non h
    simp only [toP, Option.some.injEq] at e
    subst e
    exact .non
  | .bl b, v, p, h, e => by
    obtain rfl := rep_bl h
    simp only [toP, Option.some.injEq] at e
    subst e
    exact .bl b
  | .int b, v, p, h, e => by
    obtain rfl := rep_int h
    simp only [toP, Option.some.injEq] at e
    subst e
    exact .int b
  | .str b, v, p, h, e => by
    obtain rfl := rep_str h
    simp only [toP, Option.some.injEq] at e
    subst e
    exact .str b
  | .tup ds, v, p, h, e => by
    obtain ⟨a, vs, rfl, h1, r⟩ := rep_tup h
    simp only [toP] at e
    split at e
    · rename_i ps q
      cases e
      exact .tup (by rw [hK]; exact h1.sq) (dps_of hK r q)
    · cases e
  | .lst ds, v, p, h, e => by
    obtain ⟨a, vs, rfl, _, h1, r⟩ := rep_lst h
    simp only [toP] at e
    split at e
    · rename_i ps q
      cases e
      exact .lst (SqL.of h1) (dps_of hK r q)
    · cases e
  | .dct _ _, _, _, _, e => by simp [toP] at e
  | .scr _, _, _, _, e => by simp [toP] at e
  | .ref _, _, _, _, e => by simp [toP] at e
  | .fn _, _, _, _, e => by simp [toP] at e
theorem dps_of (hK : X.K = g.K) : ∀ {ds : List D} {vs : List V} {ps : List PyData}, RepL g.K g.fad T H ds vs → toPs ds = some ps → DpAll X.K H vs ps
  | [], vs, ps, h, e => by
    simp only [RepL] at h
    subst h
    simp only [toPs, Option.some.injEq] at e
    subst e
    exact .nil
  | d :: ds, vs, ps, h, e => by
    simp only [RepL] at h
    obtain ⟨v, ws, rfl, h1, h2⟩ := h
    simp only [toPs] at e
    split at e
    · rename_i p q
      split at e
      · rename_i ps' q'
        cases e
        exact .cons (dp_of hK h1 q) (dps_of hK h2 q')
      · cases e
    · cases e
end
theorem dp_pk (hK : X.K = g.K) {d : D} {v : V} {p : PyData} (h : rPk g T H d v) (e : toP d = some p) : Dp X.K H v p := by
  rcases h with h | ⟨a, i, rfl, t, r⟩
  · exact dp_of hK h e
  · cases d with
    | lst ds =>
      obtain ⟨vs, q, r⟩ := r
      simp only [toP] at e
      split at e
      · rename_i ps q'
        cases e
        exact .lst (SqL.of q) (dps_of hK r q')
      · cases e
    | dct ks ds => simp [toP] at e
    | _ => exact r.elim
/-- the place of a sequence that is looked at -/
theorem pk_seq (hK : X.K = g.K) {d : D} {v : V} {ds : List D} (h : rPk g T H d v) (e : seqD d = some ds) : ∃ a vs, v = .ref a ∧ (SqL X.K H a vs ∨ SqT X.K H a vs) ∧ RepL g.K g.fad T H ds vs := by
  rcases h with h | ⟨a, i, rfl, t, r⟩
  · cases d with
    | tup es =>
      simp only [seqD, Option.some.injEq] at e
      subst e
      obtain ⟨a, vs, rfl, h1, r⟩ := rep_tup h
      exact ⟨a, vs, rfl, .inr (by rw [hK]; exact h1.sq), r⟩
    | lst es =>
      simp only [seqD, Option.some.injEq] at e
      subst e
      obtain ⟨a, vs, rfl, _, h1, r⟩ := rep_lst h
      exact ⟨a, vs, rfl, .inl (SqL.of h1), r⟩
    | _ => simp [seqD] at e
  · cases d with
    | lst es =>
      simp only [seqD, Option.some.injEq] at e
      subst e
      obtain ⟨vs, q, r⟩ := r
      exact ⟨a, vs, rfl, .inl (SqL.of q), r⟩
    | dct ks ds => simp [seqD] at e
    | _ => exact r.elim
theorem pk_val {d : D} {v : V} (h : rPk g T H d v) (hd : (∀ ds, d ≠ .lst ds) ∧ ∀ ks ds, d ≠ .dct ks ds) : Rep g.K g.fad T H d v := by
  rcases h with h | ⟨a, i, rfl, t, r⟩
  · exact h
  · cases d with
    | lst es => exact absurd rfl (hd.1 es)
    | dct ks ds => exact absurd rfl (hd.2 ks ds)
    | _ => exact r.elim
theorem flat_of {d : D} {v w : V} (h : Rep g.K g.fad T H d v) (e : flatD d = some w) : v = w ∧ flatV w = true := by
  cases d with
  | non =>
    obtain rfl := rep_non h
    simp only [flatD, Option.some.injEq] at e
    subst e
    exact ⟨rfl, rfl⟩
  | bl b =>
    obtain rfl := rep_bl h
    simp only [flatD, Option.some.injEq] at e
    subst e
    exact ⟨rfl, rfl⟩
  | int b =>
    obtain rfl := rep_int h
    simp only [flatD, Option.some.injEq] at e
    subst e
    exact ⟨rfl, rfl⟩
  | str b =>
    obtain rfl := rep_str h
    simp only [flatD, Option.some.injEq] at e
    subst e
    exact ⟨rfl, rfl⟩
  | _ => simp [flatD] at e
theorem flats_of : ∀ {ds : List D} {vs ws : List V}, RepL g.K g.fad T H ds vs → flatDs ds = some ws → vs = ws ∧ ws.all flatV = true
  | [], vs, ws, h, e => by
    simp only [RepL] at h
    subst h
    simp only [flatDs, Option.some.injEq] at e
    subst e
    exact ⟨rfl, rfl⟩
  | d :: ds, vs, ws, h, e => by
    simp only [RepL] at h
    obtain ⟨v, us, rfl, h1, h2⟩ := h
    simp only [flatDs] at e
    split at e
    · rename_i w q
      split at e
      · rename_i ws' q'
        cases e
        obtain ⟨rfl, f1⟩ := flat_of h1 q
        obtain ⟨rfl, f2⟩ := flats_of h2 q'
        exact ⟨rfl, by simp [f1, f2]⟩
      · cases e
    · cases e
end

/-! ### comparisons -/
def SpecC (g : GC) (f : D → D → Option Bool) (r : R2) : Prop := ∀ (T : Tg') (θ : List Addr) (H : Hp) (st : Sto) (x y : D) (b : Bool) (v u : V) (Q : VK), WF g T θ H st → rPk g T H x v → rPk g T H y u → f x y = some b → Q (.bl b) H → r v u H Q
def Cop.py : Cop → CmpOp
  | .eq => .Eq
  | .ne => .NotEq
  | .lt => .Lt
  | .le => .LtE
  | .gt => .Gt
  | .ge => .GtE
  | .isin => .In
  | .notin => .NotIn
section
variable {X : Cx} {g : GC}
theorem eqD0_some {x y : D} {b : Bool} (e : eqD0 x y = some b) : ∃ p q, toP x = some p ∧ toP y = some q ∧ SeqAt.shaped p = true ∧ SeqAt.shaped q = true ∧ b = PyData.eqv p q := by
  unfold eqD0 at e
  split at e
  · rename_i p hp
    split at e
    · rename_i q hq
      split at e
      · rename_i hs
        cases e
        rw [Bool.and_eq_true] at hs
        exact ⟨p, q, hp, hq, hs.1, hs.2, rfl⟩
      · cases e
    · cases e
  · cases e
theorem eqD_some {x y : D} {b : Bool} (e : eqD x y = some b) : (∃ s t, x = .str s ∧ y = .str t ∧ b = decide (s = t)) ∨ eqD0 x y = some b := by
  unfold eqD at e
  split at e
  · rename_i c hc
    cases e
    unfold strsD at hc
    split at hc
    · rename_i s t
      cases hc
      exact .inl ⟨s, t, rfl, rfl, rfl⟩
    · cases hc
  · exact .inr e
def rEqS (K : PySem.W.Frag) : R2 := fun x y H Q => rEq x y H Q ∨ rEqD K x y H Q
def rNeS (K : PySem.W.Frag) : R2 := fun x y H Q => rNe x y H Q ∨ rNeD K x y H Q
theorem dec_strs {s t : Str} : decide (V.str s = V.str t) = decide (s = t) := by
  rw [Bool.eq_iff_iff]
  simp
theorem pk_strE {T : Tg'} {H : Hp} {s : Str} {v : V} (h : rPk g T H (.str s) v) : v = .str s := rep_str (pk_val h ⟨fun _ z => (nomatch z), fun _ _ z => (nomatch z)⟩)
theorem spec_eq (hK : X.K = g.K) : SpecC g eqD (rEqS X.K) := by
  intro T θ H st x y b v u Q w hx hy e q
  rcases eqD_some e with ⟨s, t, rfl, rfl, rfl⟩ | e
  · obtain rfl := pk_strE hx
    obtain rfl := pk_strE hy
    exact .inl ⟨rfl, by rw [dec_strs]; exact q⟩
  · obtain ⟨p, p', e1, e2, s1, s2, rfl⟩ := eqD0_some e
    exact .inr ⟨p, p', dp_pk hK hx e1, dp_pk hK hy e2, s1, s2, q⟩
theorem spec_ne (hK : X.K = g.K) : SpecC g (fun x y => (eqD x y).map not) (rNeS X.K) := by
  intro T θ H st x y b v u Q w hx hy e q
  obtain ⟨c, e0, rfl⟩ := Option.map_eq_some_iff.mp e
  rcases eqD_some e0 with ⟨s, t, rfl, rfl, rfl⟩ | e0
  · obtain rfl := pk_strE hx
    obtain rfl := pk_strE hy
    exact .inl ⟨rfl, by rw [dec_strs]; exact q⟩
  · obtain ⟨p, p', e1, e2, s1, s2, rfl⟩ := eqD0_some e0
    exact .inr ⟨p, p', dp_pk hK hx e1, dp_pk hK hy e2, s1, s2, q⟩
theorem spec_lt (f : Int → Int → Bool) : SpecC g (ltD f) (rI0 fun i j => .bl (f i j)) := by
  intro T θ H st x y b v u Q w hx hy e q
  unfold ltD at e
  split at e
  · cases e
    obtain rfl := rep_int (pk_val hx ⟨fun _ z => (nomatch z), fun _ _ z => (nomatch z)⟩)
    obtain rfl := rep_int (pk_val hy ⟨fun _ z => (nomatch z), fun _ _ z => (nomatch z)⟩)
    exact ⟨_, _, rfl, rfl, q⟩
  · cases e
def rInD (K : PySem.W.Frag) (neg : Bool) : R2 := fun x y H Q => (∃ (c : Nat) (z : Str), x = .str ⟨#[c]⟩ ∧ y = .str z ∧ Q (.bl (if neg then !decide (c ∈ z.cps.toList) else decide (c ∈ z.cps.toList))) H) ∨ rIn K neg x y H Q
theorem op_inD : OpR X (compareOp .In) (rInD X.K false) := op_in_sign.or op_in_seq
theorem op_notinD : OpR X (compareOp .NotIn) (rInD X.K true) := op_notIn_sign.or op_notIn_seq
theorem one_sign {c : Str} (h : c.cps.size = 1) : c = ⟨#[c.cps.getD 0 0]⟩ := by
  obtain ⟨⟨l⟩⟩ := c
  have h' : l.length = 1 := by simpa using h
  match l, h' with
  | [a], _ => rfl
theorem spec_in (hK : X.K = g.K) (neg : Bool) : SpecC g (fun x y => (inD x y).map fun b => if neg then !b else b) (rInD X.K neg) := by
  intro T θ H st x y b v u Q w hx hy e q
  obtain ⟨c, e1, rfl⟩ := Option.map_eq_some_iff.mp e
  have seq : ∀ {y : D}, (match seqD y with
      | some ds => match flatD x with
        | some v => match flatDs ds with
          | some vs => some (inV v vs)
          | none => none
        | none => none
      | none => none) = some c → rPk g T H y u → rIn X.K neg v u H Q := fun {y} e1 hy => by
    split at e1
    · rename_i ds hs
      split at e1
      · rename_i v' hv
        split at e1
        · rename_i vs' hvs
          cases e1
          obtain ⟨a, vs, rfl, h1, r⟩ := pk_seq hK hy hs
          obtain ⟨rfl, f2⟩ := flats_of r hvs
          have hx' : Rep g.K g.fad T H x v := pk_val hx ⟨fun _ z => by rw [z] at hv; simp [flatD] at hv, fun _ _ z => by rw [z] at hv; simp [flatD] at hv⟩
          obtain ⟨rfl, f1⟩ := flat_of hx' hv
          exact ⟨a, vs, rfl, h1, f1, f2, q⟩
        · cases e1
      · cases e1
    · cases e1
  unfold inD at e1
  split at e1
  · split at e1
    · split at e1
      · rename_i h1
        cases e1
        obtain rfl := rep_str (pk_val hx ⟨fun _ z => (nomatch z), fun _ _ z => (nomatch z)⟩)
        obtain rfl := rep_str (pk_val hy ⟨fun _ z => (nomatch z), fun _ _ z => (nomatch z)⟩)
        exact .inl ⟨_, _, congrArg V.str (one_sign h1), rfl, q⟩
      · cases e1
    · cases e1
  · exact .inr (seq e1 hy)
theorem cmp_ok (hK : X.K = g.K) (hu : X.A.units + 64 < cLine) (op : Cop) : ∃ r : R2, OpR X (compareOp op.py) r ∧ SpecC g (cmpD op) r := by
  cases op with
  | eq => exact ⟨_, op_eq.or (op_eqD hu), spec_eq hK⟩
  | ne => exact ⟨_, op_ne.or (op_neD hu), spec_ne hK⟩
  | lt => exact ⟨_, op_lt, spec_lt _⟩
  | le => exact ⟨_, op_le, spec_lt _⟩
  | gt => exact ⟨_, op_gt, spec_lt _⟩
  | ge => exact ⟨_, op_ge, spec_lt _⟩
  | isin =>
    refine ⟨_, op_inD, fun T θ H st x y b v u Q w hx hy e q => spec_in hK false T θ H st x y b v u Q w hx hy ?_ q⟩
    have e' : inD x y = some b := e
    show Option.map (fun b => if false = true then !b else b) (inD x y) = some b
    rw [e']
    rfl
  | notin => exact ⟨_, op_notinD, fun T θ H st x y b v u Q w hx hy e q => spec_in hK true T θ H st x y b v u Q w hx hy e q⟩

/-! ### truth -/
theorem tru_of (hK : X.K = g.K) {T : Tg'} {H : Hp} {d : D} {v : V} {b : Bool} (h : rPk g T H d v) (e : truthD d = some b) : TruV X.K v H b := by
  have iff : ∀ {ds : List D} {vs : List V}, RepL g.K g.fad T H ds vs → (!ds.isEmpty) = !vs.isEmpty := fun {ds vs} r => by
    have := r.length
    cases ds <;> cases vs <;> simp_all
  cases d with
  | non =>
    obtain rfl := rep_non (pk_val h ⟨fun _ z => (nomatch z), fun _ _ z => (nomatch z)⟩)
    simp only [truthD, Option.some.injEq] at e
    exact e.symm
  | bl c =>
    obtain rfl := rep_bl (pk_val h ⟨fun _ z => (nomatch z), fun _ _ z => (nomatch z)⟩)
    simp only [truthD, Option.some.injEq] at e
    exact e.symm
  | int c =>
    obtain rfl := rep_int (pk_val h ⟨fun _ z => (nomatch z), fun _ _ z => (nomatch z)⟩)
    simp only [truthD, Option.some.injEq] at e
    exact e.symm
  | str c =>
    obtain rfl := rep_str (pk_val h ⟨fun _ z => (nomatch z), fun _ _ z => (nomatch z)⟩)
    simp only [truthD] at e
    split at e <;> cases e
    rename_i hz
    refine ⟨hz, ?_⟩
    obtain ⟨⟨l⟩⟩ := c
    cases l with
    | nil => rfl
    | cons x l =>
      have : ((Str.length ⟨⟨x :: l⟩⟩ : Nat) : Int) ≠ 0 := by
        show (((⟨⟨x :: l⟩⟩ : Str).cps.size : Nat) : Int) ≠ 0
        simp
        omega
      exact (bne_iff_ne.mpr this).symm
  | tup ds =>
    obtain ⟨a, vs, rfl, h1, r⟩ := rep_tup (pk_val h ⟨fun _ z => (nomatch z), fun _ _ z => (nomatch z)⟩)
    simp only [truthD, Option.some.injEq] at e
    subst e
    exact .inr (.inl ⟨vs, by rw [hK]; exact h1.sq, iff r⟩)
  | lst ds =>
    obtain ⟨a, vs, rfl, h1, r⟩ := pk_seq hK h rfl
    simp only [truthD, Option.some.injEq] at e
    subst e
    rcases h1 with h1 | h1
    · exact .inl ⟨vs, h1, iff r⟩
    · exact .inr (.inl ⟨vs, h1, iff r⟩)
  | dct ks ds =>
    simp only [truthD, Option.some.injEq] at e
    subst e
    have fin : ∀ {a : Addr} {kvs : List (Key × V)}, H a = some (.dK kvs) → kvs.map Prod.fst = ks → TruV X.K (.ref a) H (!ks.isEmpty) := fun {a kvs} q1 q2 =>
      .inr (.inr ⟨kvs, q1, by rw [← q2]; cases kvs <;> rfl⟩)
    rcases h with h | ⟨a, i, rfl, t, r⟩
    · simp only [Rep] at h
      obtain ⟨a, kvs, rfl, _, q1, q2, _⟩ := h
      exact fin q1 q2
    · obtain ⟨kvs, q1, q2, _⟩ := r
      exact fin q1 q2
  | _ => simp [truthD] at e
end
end Z
set_option Elab.async false
set_option linter.all false
set_option maxRecDepth 100000
set_option maxHeartbeats 4000000
/-! Z7: built-in functions, subscripts, slices by data. -/
namespace Z
open PySem PySem.Spec PyProof.Rows L2

def SpecL (g : GC) (f : List D → Option D) (r : List V → Hp → VK → Prop) : Prop := ∀ (T : Tg') (θ : List Addr) (H : Hp) (st : Sto) (xs : List D) (d : D) (vs : List V) (Q : VK), WF g T θ H st → RLs rPk g T H xs vs → f xs = some d → After g T θ H st Q d → r vs H Q
section
variable {X : Cx} {g : GC} {T : Tg'} {H : Hp}
theorem rls_one {R : RelR} {x : D} {vs : List V} (h : RLs R g T H [x] vs) : ∃ v, vs = [v] ∧ R g T H x v := by
  obtain ⟨v, ws, rfl, h1, h2⟩ := h
  have e : ws = [] := h2
  subst e
  exact ⟨v, rfl, h1⟩
theorem rls_two {R : RelR} {x y : D} {vs : List V} (h : RLs R g T H [x, y] vs) : ∃ v u, vs = [v, u] ∧ R g T H x v ∧ R g T H y u := by
  obtain ⟨v, ws, rfl, h1, h2⟩ := h
  obtain ⟨u, rfl, h3⟩ := rls_one h2
  exact ⟨v, u, rfl, h1, h3⟩
theorem pkNo {d : D} {v : V} (h : rPk g T H d v) (a : ∀ ds, d ≠ .lst ds) (b : ∀ ks ds, d ≠ .dct ks ds) : Rep g.K g.fad T H d v := pk_val h ⟨a, b⟩
theorem pk_int {i : Int} {v : V} (h : rPk g T H (.int i) v) : v = .int i := rep_int (pk_val h ⟨fun _ z => (nomatch z), fun _ _ z => (nomatch z)⟩)
theorem pk_bl {i : Bool} {v : V} (h : rPk g T H (.bl i) v) : v = .bl i := rep_bl (pk_val h ⟨fun _ z => (nomatch z), fun _ _ z => (nomatch z)⟩)
theorem pk_str {i : Str} {v : V} (h : rPk g T H (.str i) v) : v = .str i := rep_str (pk_val h ⟨fun _ z => (nomatch z), fun _ _ z => (nomatch z)⟩)
theorem pk_lst {ds : List D} {v : V} (h : rPk g T H (.lst ds) v) : ∃ a vs, v = .ref a ∧ H a = some (.lst vs) ∧ RepL g.K g.fad T H ds vs := by
  rcases h with h | ⟨a, i, rfl, t, vs, q, r⟩
  · obtain ⟨a, vs, rfl, _, h1, r⟩ := rep_lst h
    exact ⟨a, vs, rfl, h1, r⟩
  · exact ⟨a, vs, rfl, q, r⟩
theorem pk_dct {ks : List Key} {ds : List D} {v : V} (h : rPk g T H (.dct ks ds) v) : ∃ a kvs, v = .ref a ∧ H a = some (.dK kvs) ∧ kvs.map Prod.fst = ks ∧ RepL g.K g.fad T H ds (kvs.map Prod.snd) := by
  rcases h with h | ⟨a, i, rfl, t, kvs, q, q2, r⟩
  · simp only [Rep] at h
    obtain ⟨a, kvs, rfl, _, h1, h2, r⟩ := h
    exact ⟨a, kvs, rfl, h1, h2, r⟩
  · exact ⟨a, kvs, rfl, q, q2, r⟩

/-! ### repr of data at any depth -/
theorem call_reprD (hg : X.A.guards = some []) (hu : X.A.units + 200 < cLine) : CallR X (.builtin "repr") (fun xs H Q => ∃ v p, xs = [v] ∧ Dp X.K H v p ∧ PyData.showable p = true ∧ p.shown.length ≤ sizeLine ∧ p.depth ≤ 64 ∧ Q (.str p.shown) H) := by
  intro pins s σ H xs us Q I r h
  obtain ⟨v, p, rfl, hd, hs, hz, hdp, q⟩ := h
  obtain ⟨u, rfl, ru⟩ := vals1 r
  have leaf : ∀ {t : Nat} {z : Str}, Q (.str z) H → EP X pins σ Q (.str z s.toks) { s with toks := t } := fun {t z} q => ⟨.str z, H, I.tok _, ⟨_, rfl⟩, q⟩
  have deep : ∀ {a : Addr}, u = .ref a → wpAny (model X.prog X.w) X.A (call (.builtin "repr") [u]) (EP X pins σ Q) X.xe s := fun {a} e => by
    subst e
    obtain ⟨as, rd⟩ := Dp.reads I p v _ hd ru
    have nd : p.hasDict = false := by
      cases hx : p.hasDict with
      | false => rfl
      | true => exact absurd hx (by rw [noD hd]; decide)
    exact repr_of_reads' rd hs (PyData.noDict_hsm nd) hg (by omega) (fun _ _ e => e) (fun h' t tk k => ⟨.str _, H, I.kept k, ⟨_, rfl⟩, q⟩) hz
  cases hd with
  | non =>
    obtain rfl : u = Value.none := ru
    simp only [PyData.shown] at q
    exact PySem.P.repr_of_none (leaf q)
  | bl b =>
    obtain rfl : u = Value.bool b := ru
    simp only [PyData.shown] at q
    exact PySem.P.repr_of_bool (leaf q)
  | int i =>
    obtain ⟨t, rfl⟩ := ru
    simp only [PyData.shown] at q
    exact PySem.P.repr_of_int (by simpa [PyData.showable] using hs) (leaf q)
  | str x =>
    obtain ⟨t, rfl⟩ := ru
    simp only [PyData.shown] at q hz
    exact PySem.P.repr_of_str (leaf q) hz
  | lst _ _ => exact deep (show u = Value.ref _ from ru)
  | tup _ _ => exact deep (show u = Value.ref _ from ru)
where
  noD {K : PySem.W.Frag} {H : Hp} : ∀ {p : PyData} {v : V}, Dp K H v p → p.hasDict = false
    | .none, _, _ => by simp only [PyData.hasDict]
    | .bool _, _, _ => by simp only [PyData.hasDict]
    | .int _, _, _ => by simp only [PyData.hasDict]
    | .str _, _, _ => by simp only [PyData.hasDict]
    | .list ds, _, h => by
      simp only [PyData.hasDict]
      cases h with
      | lst _ ha => exact noDs ha
    | .tuple ds, _, h => by
      simp only [PyData.hasDict]
      cases h with
      | tup _ ha => exact noDs ha
    | .dict _, _, h => by cases h
  noDs {K : PySem.W.Frag} {H : Hp} : ∀ {ps : List PyData} {vs : List V}, DpAll K H vs ps → PyData.hasDictAll ps = false
    | [], _, _ => by simp only [PyData.hasDictAll]
    | p :: ps, _, h => by
      cases h with
      | cons h1 h2 => simp only [PyData.hasDictAll, noD h1, noDs h2, Bool.or_self]

/-! ### the built-ins -/
def Bi.name : Bi → Str
  | .len => "len"
  | .abs => "abs"
  | .max2 => "max"
  | .min2 => "min"
  | .int1 => "int"
  | .str1 => "str"
  | .repr1 => "repr"
  | .tuple1 => "tuple"
  | .list1 => "list"
  | .sum1 => "sum"
  | .all1 => "all"
  | .any1 => "any"
def IsB (X : Cx) (x : Str) (r : List V → Hp → VK → Prop) : Prop := (∃ id, CallR X (.builtin id) r ∧ bootBuiltins x = some (.builtin id)) ∨ ∃ T, CallR X (.type T) r ∧ bootBuiltins x = some (.type T)
theorem intsD_map : ∀ {ds : List D} {ns : List Int}, intsD ds = some ns → ds = ns.map D.int
  | [], ns, e => by simp only [intsD, Option.some.injEq] at e; subst e; rfl
  | d :: ds, ns, e => by
    cases d with
    | int i =>
      simp only [intsD] at e
      split at e
      · rename_i ms q
        cases e
        rw [intsD_map q]
        rfl
      · cases e
    | _ => simp [intsD] at e
theorem blsD_map : ∀ {ds : List D} {ns : List Bool}, blsD ds = some ns → ds = ns.map D.bl
  | [], ns, e => by simp only [blsD, Option.some.injEq] at e; subst e; rfl
  | d :: ds, ns, e => by
    cases d with
    | bl i =>
      simp only [blsD] at e
      split at e
      · rename_i ms q
        cases e
        rw [blsD_map q]
        rfl
      · cases e
    | _ => simp [blsD] at e
theorem repL_ints : ∀ {ns : List Int} {vs : List V}, RepL g.K g.fad T H (ns.map D.int) vs → vs = ns.map V.int
  | [], vs, h => by simp only [List.map_nil, RepL] at h; exact h
  | n :: ns, vs, h => by
    simp only [List.map_cons, RepL] at h
    obtain ⟨v, ws, rfl, h1, h2⟩ := h
    rw [rep_int h1, repL_ints h2]
    rfl
theorem repL_bls : ∀ {ns : List Bool} {vs : List V}, RepL g.K g.fad T H (ns.map D.bl) vs → vs = ns.map V.bl
  | [], vs, h => by simp only [List.map_nil, RepL] at h; exact h
  | n :: ns, vs, h => by
    simp only [List.map_cons, RepL] at h
    obtain ⟨v, ws, rfl, h1, h2⟩ := h
    rw [rep_bl h1, repL_bls h2]
    rfl
theorem bi_ok (hK : X.K = g.K) (hc : X.calm = true) (hg : X.A.guards = some []) (hu : X.A.units + 200 < cLine) (f : Bi) : ∃ r, IsB X f.name r ∧ SpecL g (evBi f) r := by
  cases f with
  | len =>
    refine ⟨_, .inl ⟨"len", call_len.or call_lenD, by decide +kernel⟩, fun T θ H st xs d vs Q w h e a => ?_⟩
    unfold evBi at e
    split at e <;> try (rename_i q; cases q; done)
    all_goals first | (cases e; done) | skip
    · split at e <;> cases e
      rename_i hz
      obtain ⟨v, rfl, h1⟩ := rls_one h
      obtain rfl := pk_str h1
      exact .inl ⟨_, _, rfl, ⟨hz, rfl⟩, a.int w⟩
    · cases e
      obtain ⟨v, rfl, h1⟩ := rls_one h
      obtain ⟨p, us, rfl, h2, r⟩ := rep_tup (pkNo h1 (fun _ z => nomatch z) (fun _ _ z => nomatch z))
      exact .inl ⟨_, _, rfl, .inr ⟨us, by rw [hK]; exact h2.sq, rfl⟩, by rw [r.length]; exact a.int w⟩
    · cases e
      obtain ⟨v, rfl, h1⟩ := rls_one h
      obtain ⟨p, us, rfl, h2, r⟩ := pk_lst h1
      exact .inl ⟨_, _, rfl, .inl ⟨us, SqL.of h2, rfl⟩, by rw [r.length]; exact a.int w⟩
    · cases e
      obtain ⟨v, rfl, h1⟩ := rls_one h
      obtain ⟨p, kvs, rfl, h2, h3, r⟩ := pk_dct h1
      subst h3
      exact .inr ⟨_, kvs, rfl, h2, by have z := a.int w; rwa [List.length_map] at z⟩
  | abs =>
    refine ⟨_, .inl ⟨"abs", call_abs, by decide +kernel⟩, fun T θ H st xs d vs Q w h e a => ?_⟩
    unfold evBi at e
    split at e <;> try (rename_i q; cases q; done)
    all_goals first | (cases e; done) | skip
    cases e
    obtain ⟨v, rfl, h1⟩ := rls_one h
    obtain rfl := pk_int h1
    exact ⟨_, rfl, a.int w⟩
  | max2 =>
    refine ⟨_, .inl ⟨"max", call_max2 hc, by decide +kernel⟩, fun T θ H st xs d vs Q w h e a => ?_⟩
    unfold evBi at e
    split at e <;> try (rename_i q; cases q; done)
    all_goals first | (cases e; done) | skip
    cases e
    obtain ⟨v, u, rfl, h1, h2⟩ := rls_two h
    obtain rfl := pk_int h1
    obtain rfl := pk_int h2
    exact ⟨_, _, rfl, a.int w⟩
  | min2 =>
    refine ⟨_, .inl ⟨"min", call_min2 hc, by decide +kernel⟩, fun T θ H st xs d vs Q w h e a => ?_⟩
    unfold evBi at e
    split at e <;> try (rename_i q; cases q; done)
    all_goals first | (cases e; done) | skip
    cases e
    obtain ⟨v, u, rfl, h1, h2⟩ := rls_two h
    obtain rfl := pk_int h1
    obtain rfl := pk_int h2
    exact ⟨_, _, rfl, a.int w⟩
  | int1 =>
    refine ⟨_, .inr ⟨"int", call_int1.or call_int_str, by decide +kernel⟩, fun T θ H st xs d vs Q w h e a => ?_⟩
    unfold evBi at e
    split at e <;> try (rename_i q; cases q; done)
    all_goals first | (cases e; done) | skip
    · cases e
      obtain ⟨v, rfl, h1⟩ := rls_one h
      obtain rfl := pk_int h1
      exact .inl (.inl ⟨_, rfl, a.int w⟩)
    · cases e
      obtain ⟨v, rfl, h1⟩ := rls_one h
      obtain rfl := pk_bl h1
      exact .inl (.inr ⟨_, rfl, a.int w⟩)
    · split at e
      · rename_i n q
        split at e <;> cases e
        rename_i hz
        obtain ⟨v, rfl, h1⟩ := rls_one h
        obtain rfl := pk_str h1
        exact .inr ⟨_, _, rfl, q, hz, a.int w⟩
      · cases e
  | str1 =>
    refine ⟨_, .inr ⟨"str", call_str_int, by decide +kernel⟩, fun T θ H st xs d vs Q w h e a => ?_⟩
    unfold evBi at e
    split at e <;> try (rename_i q; cases q; done)
    all_goals first | (cases e; done) | skip
    split at e <;> cases e
    rename_i hz
    obtain ⟨v, rfl, h1⟩ := rls_one h
    obtain rfl := pk_int h1
    exact ⟨_, rfl, hz, a.str w⟩
  | repr1 =>
    refine ⟨_, .inl ⟨"repr", call_reprD hg hu, by decide +kernel⟩, fun T θ H st xs d vs Q w h e a => ?_⟩
    unfold evBi at e
    split at e <;> try (rename_i q; cases q; done)
    all_goals first | (cases e; done) | skip
    unfold reprD at e
    split at e
    · rename_i p hp
      split at e
      · rename_i hs
        cases e
        simp only [Bool.and_eq_true, decide_eq_true_eq] at hs
        obtain ⟨v, rfl, h1⟩ := rls_one h
        exact ⟨v, p, rfl, dp_pk hK h1 hp, hs.1.1, hs.1.2, hs.2, a.str w⟩
      · cases e
    · cases e
  | tuple1 =>
    refine ⟨_, .inr ⟨"tuple", call_tuple_of, by decide +kernel⟩, fun T θ H st xs d vs Q w h e a => ?_⟩
    unfold evBi at e
    split at e <;> try (rename_i q; cases q; done)
    all_goals first | (cases e; done) | skip
    · cases e
      obtain ⟨v, rfl, h1⟩ := rls_one h
      obtain ⟨p, us, rfl, h2, r⟩ := rep_tup (pkNo h1 (fun _ z => nomatch z) (fun _ _ z => nomatch z))
      exact ⟨p, us, rfl, .inr ⟨by rw [hK]; exact h2.sq, a.tupOld w h2 r⟩⟩
    · cases e
      obtain ⟨v, rfl, h1⟩ := rls_one h
      obtain ⟨p, us, rfl, h2, r⟩ := pk_lst h1
      exact ⟨p, us, rfl, .inl ⟨SqL.of h2, a.tupNew w r⟩⟩
  | list1 =>
    refine ⟨_, .inr ⟨"list", call_list_of, by decide +kernel⟩, fun T θ H st xs d vs Q w h e a => ?_⟩
    unfold evBi at e
    split at e <;> try (rename_i q; cases q; done)
    all_goals first | (cases e; done) | skip
    · cases e
      obtain ⟨v, rfl, h1⟩ := rls_one h
      obtain ⟨p, us, rfl, h2, r⟩ := rep_tup (pkNo h1 (fun _ z => nomatch z) (fun _ _ z => nomatch z))
      exact ⟨p, us, rfl, .inr (by rw [hK]; exact h2.sq), a.lst w r⟩
    · cases e
      obtain ⟨v, rfl, h1⟩ := rls_one h
      obtain ⟨p, us, rfl, h2, r⟩ := pk_lst h1
      exact ⟨p, us, rfl, .inl (SqL.of h2), a.lst w r⟩
  | sum1 =>
    refine ⟨_, .inl ⟨"sum", cr_sum hc, by decide +kernel⟩, fun T θ H st xs d vs Q w h e a => ?_⟩
    unfold evBi at e
    split at e <;> try (rename_i q; cases q; done)
    all_goals first | (cases e; done) | skip
    obtain ⟨ns, q, rfl⟩ := Option.map_eq_some_iff.mp e
    obtain ⟨v, rfl, h1⟩ := rls_one h
    obtain ⟨p, us, rfl, h2, r⟩ := pk_lst h1
    rw [intsD_map q] at r
    obtain rfl := repL_ints r
    exact ⟨p, ns, rfl, SqL.of h2, a.int w⟩
  | all1 =>
    refine ⟨_, .inl ⟨"all", cr_all hc, by decide +kernel⟩, fun T θ H st xs d vs Q w h e a => ?_⟩
    unfold evBi at e
    split at e <;> try (rename_i q; cases q; done)
    all_goals first | (cases e; done) | skip
    obtain ⟨ns, q, rfl⟩ := Option.map_eq_some_iff.mp e
    obtain ⟨v, rfl, h1⟩ := rls_one h
    obtain ⟨p, us, rfl, h2, r⟩ := pk_lst h1
    rw [blsD_map q] at r
    obtain rfl := repL_bls r
    exact ⟨p, ns, rfl, SqL.of h2, a.bl w⟩
  | any1 =>
    refine ⟨_, .inl ⟨"any", cr_any hc, by decide +kernel⟩, fun T θ H st xs d vs Q w h e a => ?_⟩
    unfold evBi at e
    split at e <;> try (rename_i q; cases q; done)
    all_goals first | (cases e; done) | skip
    obtain ⟨ns, q, rfl⟩ := Option.map_eq_some_iff.mp e
    obtain ⟨v, rfl, h1⟩ := rls_one h
    obtain ⟨p, us, rfl, h2, r⟩ := pk_lst h1
    rw [blsD_map q] at r
    obtain rfl := repL_bls r
    exact ⟨p, ns, rfl, SqL.of h2, a.bl w⟩
end
end Z
set_option Elab.async false
set_option linter.all false
set_option maxRecDepth 100000
set_option maxHeartbeats 4000000
/-! Z8: each form of expression by data. -/
namespace Z
open PySem PySem.Spec PyProof.Rows L2

/-- an expression that stands alone in a row -/
def aloneE : Expr → Bool
  | .Starred _ _ => false
  | _ => true
theorem star_of {e : Expr} {es : List Expr} {env : Env} (h : aloneE e = true) : starEach (e :: es) env = (false, eval e env) :: starEach es env := by
  cases e <;> first | rfl | cases h
theorem star_no {env : Env} {pos : Pos} : ∀ {es : List Expr}, (∀ e ∈ es, aloneE e = true) → (backTo pos (starEach es env)).any (·.1) = false
  | [], _ => rfl
  | e :: es, h => by
    rw [star_of (h e List.mem_cons_self)]
    show ((false : Bool) || (backTo pos (starEach es env)).any (·.1)) = false
    rw [star_no fun x hx => h x (List.mem_cons_of_mem _ hx)]
    rfl
def ixE : Expr → Bool
  | .Slice _ _ _ _ => false
  | _ => true
theorem plainIx_of {b : Expr} (h : ixE b = true) : PlainIx b := by
  intro o i
  cases b <;> first | rfl | cases h
/-- whose test is its value's truth -/
def tstE : Expr → Bool
  | .UnaryOp .Not _ _ => false
  | .BoolOp _ _ _ => false
  | .IfExp _ _ _ _ => false
  | .Compare _ _ _ _ => false
  | _ => true
theorem tst_of {e : Expr} {env : Env} (h : tstE e = true) : ∀ whole, isTrue e env whole = (do let v ← whole; standAt e.pos; holding [v] (truthy v)) := by
  intro whole
  cases e
  case UnaryOp op _ _ => cases op <;> first | rfl | cases h
  all_goals first | rfl | cases h
def foldE : Expr → Bool
  | .Set _ _ _ => false
  | _ => true
theorem fold_of {e : Expr} {env : Env} (h : foldE e = true) : ∀ x, foldedSetIterable e env x = pure x := by
  intro x
  cases e <;> first | rfl | cases h
def baseE : Expr → Bool
  | .Call _ _ _ _ => false
  | _ => true
theorem base_of {e : Expr} {a : Str} {env : Env} {w : Sem Value} (h : baseE e = true) : attributeBase e a env w = w := by
  cases e <;> first | rfl | cases h

section
variable {Γ : G} {X : Cx} {g : GC} {W : WX}
theorem mkInt {T : Tg'} {H : Hp} {i : Int} : rVal g T H (.int i) (.int i) := by
  show Rep _ _ _ _ _ _
  simp only [Rep]
theorem mkBl {T : Tg'} {H : Hp} {i : Bool} : rVal g T H (.bl i) (.bl i) := by
  show Rep _ _ _ _ _ _
  simp only [Rep]
theorem mkStr {T : Tg'} {H : Hp} {i : Str} : rVal g T H (.str i) (.str i) := by
  show Rep _ _ _ _ _ _
  simp only [Rep]
theorem mkNon {T : Tg'} {H : Hp} : rVal g T H .non .non := by
  show Rep _ _ _ _ _ _
  simp only [Rep]
/-- a reading of one value, then another look at it -/
theorem tst_pk {x : Expr} {m : Ro → M D} (hK : X.K = g.K) (h : PE X x (rdP g W m)) (ht : tstE x = true) : PT X x (rdT g W fun ρ => M.bind (m ρ) fun d => M.opt ((truthD d).map D.bl)) := by
  refine PT_imp (pt_truth h (tst_of ht)) fun σ H Q q => ?_
  obtain ⟨T, θ, ρ, st, r, p⟩ := q
  refine ⟨T, θ, ρ, st, r, p.bind.mono fun d st' T' θ' H' s w q v hv => ?_⟩
  obtain ⟨z, e, k⟩ := q.opt w
  obtain ⟨b, e1, rfl⟩ := Option.map_eq_some_iff.mp e
  obtain ⟨b', e2, qq⟩ := k T' θ' H' .refl w
  cases e2
  exact ⟨b, tru_of hK hv e1, qq⟩
theorem pe_rd {x : Expr} {m : Ro → M D} (h : PE X x (rdF g W m)) : PE X x (rd g W m) := PE_imp h fun _ _ _ => rdF_of
theorem pe_rdP {x : Expr} {m : Ro → M D} (h : PE X x (rd g W m)) : PE X x (rdP g W m) := PE_imp h fun _ _ _ => rdP_rd
/-- flat answers: rd is rdF -/
theorem pe_flat {x : Expr} {m : Ro → M D} (h : PE X x (rd g W m)) (hm : ∀ ρ s d s', m ρ s = .ok d s' → (∀ ds, d ≠ .lst ds) ∧ ∀ ks ds, d ≠ .dct ks ds) : PE X x (rdF g W m) := by
  refine PE_imp h fun σ H Q q => ?_
  obtain ⟨T, θ, ρ, st, r, p⟩ := q
  refine ⟨T, θ, ρ, st, r, ?_⟩
  cases e : m ρ st with
  | ok d s =>
    rw [e] at p
    have hd := hm ρ st d s e
    intro T' θ' H' s1 w1
    have z := p T' θ' H' s1 w1
    cases d with
    | lst ds => exact absurd rfl (hd.1 ds)
    | dct ks ds => exact absurd rfl (hd.2 ks ds)
    | _ => exact z
  | exc x s => rw [e] at p; exact p
  | stuck => rw [e] at p; exact p

/-! ### names, constants -/
theorem pe_varD {i : Nat} {x : Str} {pos : Pos} (hN : X.N[i]? = some x) (hv : Vis X.env.scope x) (hd : (x == ("__debug__" : Str)) = false) (hc : (x == ("__classdict__" : Str)) = false) :
    PE X (.Name x pos) (rd g W fun ρ s => match ρ[i]? with
      | some (.sh d) => .ok d s
      | _ => .stuck) := by
  refine PE_imp (pe_var hN hv hd hc) fun σ H Q q => ?_
  obtain ⟨T, θ, ρ, st, r, p⟩ := q
  dsimp only at p
  split at p
  · rename_i d e
    obtain ⟨v, e1, h1⟩ := r.sl i _ e
    exact ⟨v, e1, p T θ H .refl r.wf v h1⟩
  · exact p.elim
theorem pe_ownD {i : Nat} {x : Str} {pos : Pos} (hN : X.N[i]? = some x) (hv : Vis X.env.scope x) (hd : (x == ("__debug__" : Str)) = false) (hc : (x == ("__classdict__" : Str)) = false) :
    PE X (.Name x pos) (rdP g W fun ρ s => match ρ[i]? with
      | some (.ow d) => .ok d s
      | _ => .stuck) := by
  refine PE_imp (pe_var hN hv hd hc) fun σ H Q q => ?_
  obtain ⟨T, θ, ρ, st, r, p⟩ := q
  dsimp only at p
  split at p
  · rename_i d e
    obtain ⟨a, e1, t, h1⟩ := r.sl i _ e
    exact ⟨.ref a, e1, p T θ H .refl r.wf (.ref a) (.inr ⟨a, i, rfl, t, h1⟩)⟩
  · exact p.elim
/-- a value that is told: what it is at every heap -/
theorem pe_told {x : Expr} {d : D} {v : V} (h : PE X x (tC v)) (hr : ∀ T H, Rep g.K g.fad T H d v) : PE X x (rd g W fun _ s => .ok d s) := by
  refine PE_imp h fun σ H Q q => ?_
  obtain ⟨T, θ, ρ, st, r, p⟩ := q
  exact p T θ H .refl r.wf v (hr T H)

/-! ### operators -/
theorem pe_negD {a : Expr} {pos : Pos} {m : Ro → M D} (ha : PE X a (rd g W m)) :
    PE X (.UnaryOp .USub a pos) (rd g W fun ρ => M.bind (m ρ) fun x => M.opt (negD x)) := by
  refine PE_imp (pe_un un_neg ha) fun σ H Q q => ?_
  obtain ⟨T, θ, ρ, st, r, p⟩ := q
  refine ⟨T, θ, ρ, st, r, p.bind.mono fun d st' T' θ' H' s w q v hv => ?_⟩
  obtain ⟨z, e, k⟩ := q.opt w
  unfold negD at e
  split at e
  · cases e
    obtain rfl := rep_int hv
    exact ⟨_, rfl, k T' θ' H' .refl w _ mkInt⟩
  · cases e
theorem pe_cmpD {a b : Expr} {pos : Pos} {op : Cop} {ma mb : Ro → M D} (hK : X.K = g.K) (hu : X.A.units + 64 < cLine) (hb' : behindInMarks op.py b = false) (ha : PE X a (rdP g W ma)) (hb : PE X b (rdP g W mb)) :
    PE X (.Compare a [op.py] [b] pos) (rd g W fun ρ => M.bind (ma ρ) fun x => M.bind (mb ρ) fun y => M.opt ((cmpD op x y).map D.bl)) ∧
    PT X (.Compare a [op.py] [b] pos) (rdT g W fun ρ => M.bind (M.bind (ma ρ) fun x => M.bind (mb ρ) fun y => M.opt ((cmpD op x y).map D.bl)) fun x => M.opt ((truthD x).map D.bl)) := by
  obtain ⟨r2, ho, hs⟩ := cmp_ok (X := X) hK hu op
  refine ⟨PE_imp (pe_cmpR ho ha hb hb') fun σ H Q q => ?_, PT_imp (pt_cmpR ho ha hb hb') fun σ H Q q => ?_⟩
  · obtain ⟨T, θ, ρ, st, r, p⟩ := q
    refine ⟨T, θ, ρ, st, r, p.bind.mono fun x st1 T1 θ1 H1 s1 w1 q1 v hv => ?_⟩
    refine ⟨T1, θ1, ρ, st1, r.stp s1 w1, q1.bind.mono fun y st2 T2 θ2 H2 s2 w2 q2 u hu => ?_⟩
    obtain ⟨z, e, k⟩ := q2.opt w2
    obtain ⟨b, e1, rfl⟩ := Option.map_eq_some_iff.mp e
    exact hs T2 θ2 H2 st2 x y b v u Q w2 (rPk_stp w1 s2 hv) hu e1 (k T2 θ2 H2 .refl w2 _ mkBl)
  · obtain ⟨T, θ, ρ, st, r, p⟩ := q
    refine ⟨T, θ, ρ, st, r, p.bind.bind.mono fun x st1 T1 θ1 H1 s1 w1 q1 v hv => ?_⟩
    refine ⟨T1, θ1, ρ, st1, r.stp s1 w1, q1.bind.mono fun y st2 T2 θ2 H2 s2 w2 q2 u hu => ?_⟩
    obtain ⟨z, e, k⟩ := q2.opt w2
    obtain ⟨b, e1, rfl⟩ := Option.map_eq_some_iff.mp e
    have k1 := k T2 θ2 H2 .refl w2
    obtain ⟨z2, e2, k2⟩ := k1.opt w2
    simp only [truthD, Option.map_some, Option.some.injEq] at e2
    subst e2
    obtain ⟨b', e3, k3⟩ := k2 T2 θ2 H2 .refl w2
    cases e3
    exact hs T2 θ2 H2 st2 x y b v u _ w2 (rPk_stp w1 s2 hv) hu e1 ⟨b, rfl, k3⟩
end
end Z
set_option Elab.async false
set_option linter.all false
set_option maxRecDepth 100000
set_option maxHeartbeats 4000000
/-! Z9: rows of arguments, displays, calls, subscripts, slices, and, or, not by data. -/
namespace Z
open PySem PySem.Spec PyProof.Rows L2

section
variable {X : Cx} {g : GC} {W : WX}
/-- the relation that a mode asks -/
def relM : Md → RelR
  | .val => rVal
  | _ => rPk
theorem relM_stp {md : Md} {T T' : Tg'} {θ θ' : List Addr} {H H' : Hp} {st : Sto} {x : D} {v : V} (w : WF g T θ H st) (s : Stp T θ H T' θ' H') (h : relM md g T H x v) : relM md g T' H' x v := by
  cases md
  · exact rVal_stp w s h
  · exact rPk_stp w s h
  · exact rPk_stp w s h
theorem relM_pk {md : Md} {T : Tg'} {H : Hp} {x : D} {v : V} (h : relM md g T H x v) : rPk g T H x v := by
  cases md
  · exact .inl h
  · exact h
  · exact h
theorem rls_stp {md : Md} {T T' : Tg'} {θ θ' : List Addr} {H H' : Hp} {st : Sto} (w : WF g T θ H st) (s : Stp T θ H T' θ' H') : ∀ {ds : List D} {vs : List V}, RLs (relM md) g T H ds vs → RLs (relM md) g T' H' ds vs
  | [], _, h => h
  | _ :: _, _, h => by
    obtain ⟨v, ws, rfl, h1, h2⟩ := h
    exact ⟨v, ws, rfl, relM_stp w s h1, rls_stp w s h2⟩

/-! ### rows -/
theorem pa_nilD {md : Md} : PA X [] (rdA g W (relM md) fun _ s => .ok [] s) := ⟨fun pos pins s σ H Q I h => pa_nil.run pos pins s σ H Q I (by
  obtain ⟨T, θ, ρ, st, r, p⟩ := h
  exact p T θ H .refl r.wf [] rfl)⟩
theorem pa_consD {md : Md} {e : Expr} {es : List Expr} {m : Ro → M D} {ms : Ro → M (List D)} (he : PE X e (rdR g W (relM md) m)) (hes : PA X es (rdA g W (relM md) ms)) (al : aloneE e = true) :
    PA X (e :: es) (rdA g W (relM md) fun ρ => M.bind (m ρ) fun d => M.bind (ms ρ) fun ds => M.pure (d :: ds)) := by
  refine ⟨fun pos pins s σ H Q I h => (pa_cons he hes (star_of al)).run pos pins s σ H Q I ?_⟩
  obtain ⟨T, θ, ρ, st, r, p⟩ := h
  refine ⟨T, θ, ρ, st, r, p.bind.mono fun d st1 T1 θ1 H1 s1 w1 p1 v hv => ?_⟩
  refine ⟨T1, θ1, ρ, st1, r.stp s1 w1, p1.bind.mono fun ds st2 T2 θ2 H2 s2 w2 p2 vs hvs => ?_⟩
  exact p2.pure w2 (v :: vs) ⟨v, vs, rfl, relM_stp w1 s2 hv, hvs⟩

/-! ### displays -/
theorem pe_tupD {es : List Expr} {k : Nat} {pos : Pos} {ms : Ro → M (List D)} (h : PA X es (rdA g W (relM .val) ms)) :
    PE X (.Tuple es k pos) (rd g W fun ρ => M.bind (ms ρ) fun ds => M.opt (if ds.length ≤ sizeLine then some (.tup ds) else none)) := by
  refine PE_imp (pe_tup h) fun σ H Q h => ?_
  obtain ⟨T, θ, ρ, st, r, p⟩ := h
  refine ⟨T, θ, ρ, st, r, p.bind.mono fun ds st1 T1 θ1 H1 s1 w1 p1 vs hvs => ?_⟩
  obtain ⟨z, e, k⟩ := p1.opt w1
  split at e <;> cases e
  rename_i hz
  have rp := RLs.rep hvs
  refine ⟨by rw [rp.length]; exact hz, fun q hq => ?_⟩
  refine k (updT T1 q .fz) θ1 (upd H1 q (.tup vs)) (.new hq) (w1.laid hq fun _ z => nomatch z) (.ref q) ?_
  show Rep _ _ _ _ _ _
  simp only [Rep]
  exact ⟨q, vs, rfl, .inl ⟨updT_same, SqT.of upd_same⟩, rp.ke (.new w1 hq)⟩
theorem pe_lstD {es : List Expr} {pos : Pos} {ms : Ro → M (List D)} (h : PA X es (rdA g W (relM .val) ms)) :
    PE X (.List es pos) (rdF g W fun ρ => M.bind (ms ρ) fun ds => M.opt (if ds.length ≤ sizeLine then some (.lst ds) else none)) := by
  refine PE_imp (pe_lst h) fun σ H Q h => ?_
  obtain ⟨T, θ, ρ, st, r, p⟩ := h
  refine ⟨T, θ, ρ, st, r, p.bind.mono fun ds st1 T1 θ1 H1 s1 w1 p1 vs hvs => ?_⟩
  obtain ⟨z, e, k⟩ := p1.opt w1
  split at e <;> cases e
  rename_i hz
  have rp := RLs.rep hvs
  exact ⟨by rw [rp.length]; exact hz, fun q hq => k T1 θ1 H1 .refl w1 vs q hq rp⟩
theorem pe_newcD {es : List Expr} {pos : Pos} {ms : Ro → M (List D)} (h : PA X es (rdA g W (relM .val) ms)) :
    PE X (.List es pos) (rd g W fun ρ => M.bind (ms ρ) fun ds s => if ds.length ≤ sizeLine then .ok (.ref s.length) (s ++ [ds]) else .stuck) := by
  refine PE_imp (pe_lst h) fun σ H Q h => ?_
  obtain ⟨T, θ, ρ, st, r, p⟩ := h
  refine ⟨T, θ, ρ, st, r, p.bind.mono fun ds st1 T1 θ1 H1 s1 w1 p1 vs hvs => ?_⟩
  split at p1
  · rename_i hz
    have rp := RLs.rep hvs
    refine ⟨by rw [rp.length]; exact hz, fun q hq => ?_⟩
    have tn : ∀ a, H1 a ≠ none → a ≠ q := fun a z e => z (e ▸ hq)
    have s2 : Stp T1 θ1 H1 (updT T1 q (.cell st1.length)) (θ1 ++ [q]) (upd H1 q (.lst vs)) :=
      ⟨fun a z => updT_ne (tn a z), fun a z _ => upd_ne (tn a z), fun a z => by rw [upd_ne (tn a z)]; exact z, [q], rfl⟩
    refine p1 _ _ _ s2 (w1.cell hq rp) (.ref q) ?_
    show Rep _ _ _ _ _ _
    simp only [Rep]
    exact ⟨q, rfl, updT_same⟩
  · exact p1.elim

/-! ### calls -/
/-- what a context knows of a def -/
def FnAt (X : Cx) (g : GC) (f : Addr) (n : Nat) (m : List D → M D) : Prop := ∃ fd ps k, PySem.W.keepIn X.K (.ref f) = true ∧ Binds X.K fd ps [] ∧ FnG X.prog X.w X.K X.mg X.base k f fd ps (spD g n m) ∧ Room k X.A
/-- .. of a def of one error -/
def FxAt (X : Cx) (g : GC) (f : Addr) (m : XV → M D) : Prop := ∃ fd y k, PySem.W.keepIn X.K (.ref f) = true ∧ Binds X.K fd [y] [] ∧ FnX X.prog X.w X.K X.mg X.base k f fd y (spX g m) ∧ Room k X.A
theorem FnAt.go {f : Addr} {n : Nat} {m : List D → M D} (F : FnAt X g f n m) (hg : X.A.guards = some []) (tk : Takes X W) {pins : List (Addr × Obj)} {σ : L2.St} {Q : VK}
    {us : List Value} {vs : List V} {ds : List D} {st1 : Sto} {T1 : Tg'} {θ1 : List Addr} {H1 : Hp} {s1 : Shared} (I1 : Inv X pins σ H1 s1) (rv : Vals vs us) (w1 : WF g T1 θ1 H1 st1) (hvs : RLs (relM .val) g T1 H1 ds vs)
    (p1 : Po g W σ ((if ds.length = n then m ds else fun _ => .stuck) st1) T1 θ1 H1 (fun d _ T' _ H' => ∀ v, rVal g T' H' d v → Q v H')) : wpAny (model X.prog X.w) X.A (call (.ref f) us) (EP X pins σ Q) X.xe s1 := by
  obtain ⟨fd, ps, k, hk, hb, F, hr⟩ := F
  split at p1
  · rename_i hn
    exact run_fnG F hg hr hb tk I1 rv (spD_of w1 (RLs.rep hvs) hn p1)
  · exact p1.elim
theorem callD0 {f : Addr} {n : Nat} {m : List D → M D} {pos : Pos} (F : FnAt X g f n m) (hg : X.A.guards = some []) (tk : Takes X W)
    {pins : List (Addr × Obj)} {s : Shared} {σ : L2.St} {H : Hp} {Q : VK} (I : Inv X pins σ H s)
    (q : ∃ T θ st, WF g T θ H st ∧ Po g W σ (M.bind (fun s => .ok [] s) (fun ds => if ds.length = n then m ds else fun _ => .stuck) st) T θ H fun d _ T' _ H' => ∀ v, rVal g T' H' d v → Q v H') :
    wpAny (model X.prog X.w) X.A (callWith pos (.ref f) [] (backTo pos (starEach [] X.env)) []) (EP X pins σ Q) X.xe s := by
  obtain ⟨T, θ, st, w, p⟩ := q
  have hk := F
  obtain ⟨_, _, _, hk, _⟩ := hk
  exact PySem.W.callWith_K0 I.kIn hk (F.go (ds := []) hg tk I .nil w (show ([] : List V) = [] from rfl) p)
theorem callD1 {f : Addr} {n : Nat} {m : List D → M D} {pos : Pos} {e : Expr} {es : List Expr} {ms : Ro → M (List D)} (F : FnAt X g f n m) (hg : X.A.guards = some []) (tk : Takes X W) (h : PA X (e :: es) (rdA g W (relM .val) ms)) (al : ∀ x ∈ e :: es, aloneE x = true)
    {pins : List (Addr × Obj)} {s : Shared} {σ : L2.St} {H : Hp} {Q : VK} (I : Inv X pins σ H s)
    (q : ∃ T θ ρ st, SR g T θ H σ ρ st ∧ Po g W σ (M.bind (ms ρ) (fun ds => if ds.length = n then m ds else fun _ => .stuck) st) T θ H fun d _ T' _ H' => ∀ v, rVal g T' H' d v → Q v H') :
    wpAny (model X.prog X.w) X.A (callWith pos (.ref f) [] (backTo pos (starEach (e :: es) X.env)) []) (EP X pins σ Q) X.xe s := by
  obtain ⟨T, θ, ρ, st, r, p⟩ := q
  have hk := F
  obtain ⟨_, _, _, hk, _⟩ := hk
  refine PySem.W.callWith_K (h₀ := X.base) I.ok.mod.kin hk ?_ (star_of (al e List.mem_cons_self)) (star_no fun x hx => al x (List.mem_cons_of_mem _ hx))
  refine thn (h.run pos pins s σ H (fun vs H1 => ∃ T1 θ1 st1 ds, WF g T1 θ1 H1 st1 ∧ RLs (relM .val) g T1 H1 ds vs ∧ Po g W σ ((if ds.length = n then m ds else fun _ => .stuck) st1) T1 θ1 H1 (fun d _ T' _ H' => ∀ v, rVal g T' H' d v → Q v H')) I
    ⟨T, θ, ρ, st, r, p.bind.mono fun ds st1 T1 θ1 H1 s1 w1 p1 vs hvs => ⟨T1, θ1, st1, ds, w1, hvs, p1⟩⟩) fun us s1 ⟨vs, H1, I1, rv, T1, θ1, st1, ds, w1, hvs, p1⟩ => ⟨I1.kIn, ?_⟩
  exact F.go hg tk I1 rv w1 hvs p1
/-- a def's name called -/
theorem pe_callD {f : Addr} {n : Nat} {m : List D → M D} {x : Str} {p pos : Pos} {es : List Expr} {ms : Ro → M (List D)} (hx : Gl X x) (hm : X.mg x = some (.ref f)) (hd : (x == ("__debug__" : Str)) = false) (F : FnAt X g f n m) (hg : X.A.guards = some []) (tk : Takes X W)
    (h : PA X es (rdA g W (relM .val) ms)) (h0 : es = [] → ms = fun _ s => .ok [] s) (al : ∀ e ∈ es, aloneE e = true) :
    PE X (.Call (.Name x p) es [] pos) (rd g W fun ρ => M.bind (ms ρ) fun ds => if ds.length = n then m ds else fun _ => .stuck) := by
  refine ⟨fun pins s σ H Q I q => ?_⟩
  refine wpAny_Call_Name_kw (ld_glob I hx hm ?_ hd)
  cases es with
  | nil =>
    obtain ⟨T, θ, ρ, st, r, p⟩ := q
    rw [h0 rfl] at p
    exact callD0 F hg tk I ⟨T, θ, st, r.wf, p⟩
  | cons e es => exact callD1 F hg tk h al I q
def fnNo : D → Option Nat
  | .fn x => some x
  | _ => none
/-- an expression that is no name and no field, called -/
def calE : Expr → Bool
  | .Subscript _ _ _ => true
  | _ => false
theorem pe_callvD {fns : Nat → Option (Nat × (List D → M D))} {fe : Expr} {pos : Pos} {es : List Expr} {mf : Ro → M D} {ms : Ro → M (List D)} (hc : calE fe = true) (hf : PE X fe (rd g W mf)) (F : ∀ x n m f, fns x = some (n, m) → g.fad x = some f → FnAt X g f n m)
    (hg : X.A.guards = some []) (tk : Takes X W) (h : PA X es (rdA g W (relM .val) ms)) (h0 : es = [] → ms = fun _ s => .ok [] s) (al : ∀ e ∈ es, aloneE e = true) :
    PE X (.Call fe es [] pos) (rd g W fun ρ => M.bind (mf ρ) fun x => match x with
      | .fn f => match fns f with
        | some (n, m) => M.bind (ms ρ) fun ds => if ds.length = n then m ds else fun _ => .stuck
        | none => fun _ => .stuck
      | _ => fun _ => .stuck) := by
  refine ⟨fun pins s σ H Q I q => ?_⟩
  have he : eval (.Call fe es [] pos) X.env = (do callWith pos (← eval fe X.env) [] (backTo pos (starEach es X.env)) (backToKw pos (keywordEach [] X.env))) := by
    cases fe <;> first | rfl | cases hc
  obtain ⟨T, θ, ρ, st, r, p⟩ := q
  refine Call_ (thn (hf.run pins s σ H (fun v H1 => ∃ f x n m T1 θ1 st1, v = .ref f ∧ fns x = some (n, m) ∧ g.fad x = some f ∧ SR g T1 θ1 H1 σ ρ st1 ∧
    Po g W σ (M.bind (ms ρ) (fun ds => if ds.length = n then m ds else fun _ => .stuck) st1) T1 θ1 H1 fun d _ T' _ H' => ∀ v, rVal g T' H' d v → Q v H') I ⟨T, θ, ρ, st, r, p.bind.mono fun d st1 T1 θ1 H1 s1 w1 p1 v hv => ?_⟩) ?_) he
  · cases d with
    | fn x =>
      have hv' : Rep g.K g.fad T1 H1 (.fn x) v := hv
      simp only [Rep] at hv'
      obtain ⟨f, rfl, hf⟩ := hv'
      dsimp only at p1
      cases e : fns x with
      | some nm =>
        rw [e] at p1
        exact ⟨f, x, nm.1, nm.2, T1, θ1, st1, rfl, e, hf, r.stp s1 w1, p1⟩
      | none =>
        rw [e] at p1
        exact p1.elim
    | _ => exact p1.elim
  · rintro u s1 ⟨v, H1, I1, rv, f, x, n, m, T1, θ1, st1, rfl, e, hf, r1, p1⟩
    obtain rfl : u = Value.ref f := rv
    cases es with
    | nil =>
      rw [h0 rfl] at p1
      exact callD0 (F x n m f e hf) hg tk I1 ⟨T1, θ1, st1, r1.wf, p1⟩
    | cons e' es => exact callD1 (F x n m f e hf) hg tk h al I1 ⟨T1, θ1, ρ, st1, r1, p1⟩
/-- a built-in called -/
theorem pe_biD {f : Bi} {p pos : Pos} {e : Expr} {es : List Expr} {ms : Ro → M (List D)} (hK : X.K = g.K) (hc : X.calm = true) (hg : X.A.guards = some []) (hu : X.A.units + 200 < cLine) (hx : Gl X f.name) (hm : X.mg f.name = none)
    (h : PA X (e :: es) (rdA g W (relM .pk) ms)) (al : ∀ x ∈ e :: es, aloneE x = true) :
    PE X (.Call (.Name f.name p) (e :: es) [] pos) (rdF g W fun ρ => M.bind (ms ρ) fun ds => M.opt (evBi f ds)) := by
  obtain ⟨r, hr, hs⟩ := bi_ok (X := X) hK hc hg hu f
  have a1 := star_of (env := X.env) (es := es) (al e List.mem_cons_self)
  have a2 := star_no (env := X.env) (pos := pos) (es := es) fun x hx => al x (List.mem_cons_of_mem _ hx)
  have nn : f.name ≠ "__name__" := by cases f <;> decide
  have nd : (f.name == ("__debug__" : Str)) = false := by cases f <;> decide
  have go : ∀ σ H Q, rdF g W (fun ρ => M.bind (ms ρ) fun ds => M.opt (evBi f ds)) σ H Q → tCB r (rdA g W (relM .pk) ms) σ H Q := by
    intro σ H Q q
    obtain ⟨T, θ, ρ, st, r0, p⟩ := q
    refine ⟨T, θ, ρ, st, r0, p.bind.mono fun ds st1 T1 θ1 H1 s1 w1 p1 vs hvs => ?_⟩
    obtain ⟨d, e1, k⟩ := p1.opt w1
    exact hs T1 θ1 H1 st1 ds d vs Q w1 hvs e1 k
  rcases hr with ⟨id, hr, hb⟩ | ⟨T, hr, hb⟩
  · exact PE_imp (pe_callB hr hx hm hb h nn nd a1 a2) go
  · exact PE_imp (pe_callTy hr hx hm hb h nn nd a1 a2) go

/-! ### isinstance -/
def Ty.name : Ty → Str
  | .int => "int"
  | .bool => "bool"
  | .str => "str"
  | .tuple => "tuple"
  | .list => "list"
def Ty.nm : Ty → String
  | .int => "int"
  | .bool => "bool"
  | .str => "str"
  | .tuple => "tuple"
  | .list => "list"
theorem isTy_ok (hK : X.K = g.K) {T : Tg'} {H : Hp} {d : D} {v : V} {ty : Ty} {b : Bool} (h : Rep g.K g.fad T H d v) (e : isTy ty d = some b) : ∃ t, TyX X.K H v t ∧ PySem.W.kitOne X.K t (.type ty.nm) = some b := by
  have tup : ∀ {a : Addr} {vs : List V}, SqT X.K H a vs → TyX X.K H (.ref a) (.type "tuple") := fun {a vs} q => by
    rcases q with (q | ⟨o, q⟩) | ⟨o, its, n, q1, q2, _⟩
    · exact .base (.tup q)
    · exact .fTuple q
    · exact .kTuple q1 q2
  cases d with
  | non =>
    obtain rfl := rep_non h
    refine ⟨_, .base .non, ?_⟩
    cases ty <;> simp only [isTy, Option.some.injEq] at e <;> subst e <;> exact kit_ty (by decide +kernel)
  | bl x =>
    obtain rfl := rep_bl h
    refine ⟨_, .base (.bl x), ?_⟩
    cases ty <;> simp only [isTy, Option.some.injEq] at e <;> subst e <;> exact kit_ty (by decide +kernel)
  | int x =>
    obtain rfl := rep_int h
    refine ⟨_, .base (.int x), ?_⟩
    cases ty <;> simp only [isTy, Option.some.injEq] at e <;> subst e <;> exact kit_ty (by decide +kernel)
  | str x =>
    obtain rfl := rep_str h
    refine ⟨_, .base (.str x), ?_⟩
    cases ty <;> simp only [isTy, Option.some.injEq] at e <;> subst e <;> exact kit_ty (by decide +kernel)
  | tup ds =>
    obtain ⟨a, vs, rfl, h1, _⟩ := rep_tup h
    refine ⟨_, tup (by rw [hK]; exact h1.sq), ?_⟩
    cases ty <;> simp only [isTy, Option.some.injEq] at e <;> subst e <;> exact kit_ty (by decide +kernel)
  | lst ds =>
    obtain ⟨a, vs, rfl, _, h1, _⟩ := rep_lst h
    refine ⟨_, .base (.lst h1), ?_⟩
    cases ty <;> simp only [isTy, Option.some.injEq] at e <;> subst e <;> exact kit_ty (by decide +kernel)
  | _ => cases ty <;> simp [isTy] at e
theorem pe_isiD {a : Expr} {ty : Ty} {p pt pos : Pos} {m : Ro → M D} (hK : X.K = g.K) (hx : Gl X "isinstance") (hm : X.mg "isinstance" = none) (ht : Gl X ty.name) (hmt : X.mg ty.name = none) (ha : PE X a (rd g W m)) (al : aloneE a = true) :
    PE X (.Call (.Name "isinstance" p) [a, .Name ty.name pt] [] pos) (rd g W fun ρ => M.bind (m ρ) fun x => M.opt ((isTy ty x).map D.bl)) := by
  have hb : PE X (.Name ty.name pt) (tC (.ty ty.nm)) := by
    refine pe_bltn (u := .type ty.nm) ht hmt ?_ rfl ?_ ?_
    · cases ty <;> decide +kernel
    · cases ty <;> decide
    · cases ty <;> decide
  have ps := pa_cons ha (pa_cons hb pa_nil rfl) (star_of al)
  refine PE_imp (pe_callB call_isi hx hm (by decide +kernel) ps (by decide) (by decide) (star_of al) rfl) fun σ H Q q => ?_
  obtain ⟨T, θ, ρ, st, r0, p⟩ := q
  refine ⟨T, θ, ρ, st, r0, p.bind.mono fun d st1 T1 θ1 H1 s1 w1 p1 v hv => ?_⟩
  obtain ⟨z, e1, k⟩ := p1.opt w1
  obtain ⟨b, e2, rfl⟩ := Option.map_eq_some_iff.mp e1
  obtain ⟨t, h1, h2⟩ := isTy_ok hK hv e2
  exact ⟨v, .ty ty.nm, t, .type ty.nm, b, rfl, .ty _, h1, h2, k T1 θ1 H1 .refl w1 _ mkBl⟩

/-! ### subscripts, slices, index -/
theorem ixD_ok (hK : X.K = g.K) {T : Tg'} {H : Hp} {d y r : D} {v u : V} {Q : VK} (hx : rPk g T H d v) (hy : rVal g T H y u) (e : ixD d y = some r) (k : ∀ v, rVal g T H r v → Q v H) : rIx X.K v u H Q := by
  have at_ : ∀ {ds : List D} {vs : List V} {i : Int}, RepL g.K g.fad T H ds vs → atI ds i = some r → ∃ w, atI vs i = some w ∧ Rep g.K g.fad T H r w := fun {ds vs i} rp ea => by
    unfold atI at ea ⊢
    rw [rp.length]
    obtain ⟨j, ej, e2⟩ := Option.bind_eq_some_iff.mp ea
    rw [ej, Option.bind_some]
    exact rp.get e2
  unfold ixD at e
  split at e
  · obtain ⟨a, vs, rfl, h1, rp⟩ := rep_tup (pkNo hx (fun _ z => nomatch z) (fun _ _ z => nomatch z))
    obtain rfl := rep_int hy
    obtain ⟨w, e1, e2⟩ := at_ rp e
    exact .inr (.inl ⟨a, vs, _, w, rfl, rfl, by rw [hK]; exact h1.sq, e1, k w e2⟩)
  · obtain ⟨a, vs, rfl, h1, rp⟩ := pk_lst hx
    obtain rfl := rep_int hy
    obtain ⟨w, e1, e2⟩ := at_ rp e
    exact .inl ⟨a, vs, _, w, rfl, rfl, SqL.of h1, e1, k w e2⟩
  · split at e
    · rename_i hz
      obtain ⟨c, e1, rfl⟩ := Option.map_eq_some_iff.mp e
      obtain rfl := pk_str hx
      obtain rfl := rep_int hy
      exact .inr (.inr ⟨_, _, c, rfl, rfl, hz, e1, k _ mkStr⟩)
    · cases e
  · cases e
theorem pe_ixD {a b : Expr} {pos : Pos} {ma mb : Ro → M D} (hK : X.K = g.K) (hs : ixE b = true) (ha : PE X a (rdP g W ma)) (hb : PE X b (rd g W mb)) :
    PE X (.Subscript a b pos) (rd g W fun ρ => M.bind (ma ρ) fun x => M.bind (mb ρ) fun y s => M.opt (ixS s x y) s) := by
  refine PE_imp (pe_ix ix_seq ha hb (plainIx_of hs)) fun σ H Q q => ?_
  obtain ⟨T, θ, ρ, st, r0, p⟩ := q
  refine ⟨T, θ, ρ, st, r0, p.bind.mono fun d st1 T1 θ1 H1 s1 w1 p1 v hv => ?_⟩
  refine ⟨T1, θ1, ρ, st1, r0.stp s1 w1, p1.bind.mono fun y st2 T2 θ2 H2 s2 w2 p2 u hu => ?_⟩
  obtain ⟨z, e, k⟩ := Po.opt (o := ixS st2 d y) p2 w2
  have k' := k T2 θ2 H2 .refl w2
  have hv2 := rPk_stp w1 s2 hv
  cases d with
  | ref n =>
    have hv3 : Rep g.K g.fad T2 H2 (.ref n) v := pkNo hv2 (fun _ z => nomatch z) (fun _ _ z => nomatch z)
    simp only [Rep] at hv3
    obtain ⟨p, rfl, ht⟩ := hv3
    unfold ixS at e
    split at e
    · rename_i n' y' heq
      cases heq
      split at e
      · rename_i ds e3
        obtain ⟨vs, e4, rp⟩ := w2.sto _ p ds ((w2.cel p _).mp ht) e3
        unfold ixD at e
        split at e
        · cases ‹D.lst ds = D.tup _›
        · rename_i es i heq2
          cases heq2
          obtain rfl := rep_int hu
          unfold atI at e
          obtain ⟨j, ej, e5⟩ := Option.bind_eq_some_iff.mp e
          obtain ⟨w, e6, e7⟩ := rp.get e5
          exact .inl ⟨p, vs, _, w, rfl, rfl, SqL.of e4, by unfold atI; rw [rp.length, ej, Option.bind_some]; exact e6, k' w e7⟩
        · cases ‹D.lst ds = D.str _›
        · cases e
      · cases e
    · rename_i h1
      exact absurd rfl (h1 n)
  | _ => exact ixD_ok hK hv2 hu e k'
theorem po_noneD : PO X none (fun σ H Q => ∃ T θ ρ st, SR g T θ H σ ρ st ∧ Po g W σ ((fun _ s => Res.ok Option.none s : Ro → M (Option Int)) ρ st) T θ H fun o _ _ _ H' => Q o H') := ⟨fun pins s σ H Q I h => po_none.run pins s σ H Q I (by
  obtain ⟨T, θ, ρ, st, r, p⟩ := h
  exact p T θ H .refl r.wf)⟩
/-- a reading of a slice's part -/
def rdO (g : GC) (W : WX) (m : Ro → M (Option Int)) : TO := fun σ H Q => ∃ T θ ρ st, SR g T θ H σ ρ st ∧ Po g W σ (m ρ st) T θ H fun o _ _ _ H' => Q o H'
theorem po_someD {e : Expr} {m : Ro → M D} (h : PE X e (rd g W m)) : PO X (some e) (rdO g W fun ρ => M.bind (m ρ) fun d => M.opt (partD d)) := ⟨fun pins s σ H Q I q => (po_some h).run pins s σ H Q I (by
  obtain ⟨T, θ, ρ, st, r, p⟩ := q
  refine ⟨T, θ, ρ, st, r, p.bind.mono fun d st1 T1 θ1 H1 s1 w1 p1 v hv => ?_⟩
  obtain ⟨z, e1, k⟩ := p1.opt w1
  cases d <;> simp only [partD, Option.some.injEq, reduceCtorEq] at e1
  subst e1
  exact ⟨_, rep_int hv, k T1 θ1 H1 .refl w1⟩)⟩
theorem cutD_ok {T : Tg'} {H : Hp} {ds : List D} {vs : List V} {lo hi : Option Int} (r : RepL g.K g.fad T H ds vs) : RepL g.K g.fad T H (cutD ds lo hi) (cutV vs lo hi) := by
  unfold cutD cutV
  rw [r.length]
  exact (r.drop _).take _
def rSlD (K : PySem.W.Frag) : V → Option Int → Option Int → Hp → VK → Prop := fun x lo hi H Q => rSlA K x lo hi H Q ∨ (rSlL K x lo hi H Q ∨ rSlS x lo hi H Q)
theorem sl_ok (hK : X.K = g.K) {T : Tg'} {θ : List Addr} {H : Hp} {st : Sto} {d r : D} {v : V} {lo hi : Option Int} {Q : VK} (w : WF g T θ H st) (hx : rPk g T H d v) (e : slD d lo hi = some r) (k : After g T θ H st Q r) : rSlD X.K v lo hi H Q := by
  unfold slD at e
  split at e
  · cases e
    obtain ⟨a, vs, rfl, h1, rp⟩ := rep_tup (pkNo hx (fun _ z => nomatch z) (fun _ _ z => nomatch z))
    refine .inl ⟨a, vs, rfl, by rw [hK]; exact h1.sq, fun hw => ?_, fun _ => k.tupNew w (cutD_ok rp)⟩
    refine k.tupOld w h1 ?_
    have e2 := cutD_ok (lo := lo) (hi := hi) rp
    have e3 : cutV vs lo hi = vs := by
      unfold cutV
      rw [hw.1, hw.2]
      simp
    rwa [e3] at e2
  · cases e
    obtain ⟨a, vs, rfl, h1, rp⟩ := pk_lst hx
    exact .inr (.inl ⟨a, vs, rfl, SqL.of h1, k.lst w (cutD_ok rp)⟩)
  · cases e
    have hx' := pkNo hx (fun _ z => nomatch z) (fun _ _ z => nomatch z)
    simp only [Rep] at hx'
    obtain ⟨a, rfl, h1⟩ := hx'
    have h2 : SqL g.K H a _ := h1.elim (fun z => z.2) sqL_none
    exact .inr (.inl ⟨a, _, rfl, by rw [hK]; exact h2, k.lst w (cutD_ok (RepL.ints _))⟩)
  · split at e <;> cases e
    rename_i hz
    obtain rfl := pk_str hx
    exact .inr (.inr ⟨_, rfl, hz, k.str w⟩)
  · cases e
theorem pe_slD {a : Expr} {lo hi : Option Expr} {p2 pos : Pos} {m : Ro → M D} {ml mh : Ro → M (Option Int)} (hK : X.K = g.K) (ha : PE X a (rdP g W m)) (hl : PO X lo (rdO g W ml)) (hh : PO X hi (rdO g W mh)) :
    PE X (.Subscript a (.Slice lo hi none p2) pos) (rdF g W fun ρ => M.bind (m ρ) fun x => M.bind (ml ρ) fun l => M.bind (mh ρ) fun h => M.opt (slD x l h)) := by
  refine PE_imp (pe_slice (r := rSlD X.K) (sl_tupA.or (sl_list.or sl_str)) ha hl hh) fun σ H Q q => ?_
  obtain ⟨T, θ, ρ, st, r0, p⟩ := q
  refine ⟨T, θ, ρ, st, r0, p.bind.mono fun d st1 T1 θ1 H1 s1 w1 p1 v hv => ?_⟩
  refine ⟨T1, θ1, ρ, st1, r0.stp s1 w1, p1.bind.mono fun l st2 T2 θ2 H2 s2 w2 p2 => ?_⟩
  refine ⟨T2, θ2, ρ, st2, (r0.stp s1 w1).stp s2 w2, p2.bind.mono fun h st3 T3 θ3 H3 s3 w3 p3 => ?_⟩
  obtain ⟨z, e, k⟩ := p3.opt w3
  exact sl_ok hK w3 (rPk_stp w2 s3 (rPk_stp w1 s2 hv)) e k
theorem pe_sindexD {a b : Expr} {apos cpos : Pos} {ma mb : Ro → M D} (hbase : baseE a = true) (hline : (apos.endLine == cpos.line) = true) (al : aloneE b = true) (ha : PE X a (rd g W ma)) (hb : PE X b (rd g W mb)) :
    PE X (.Call (.Attribute a "index" apos) [b] [] cpos) (rd g W fun ρ => M.bind (ma ρ) fun x => strB x fun z => M.bind (mb ρ) fun y => M.opt (sidxD z y)) := by
  refine PE_imp (pe_m1 PySem.F.slot_str_index PySem.F.type_str_index mt_sindex ha hb (by rw [star_of al]; rfl) (base_of hbase) hline) fun σ H Q q => ?_
  obtain ⟨T, θ, ρ, st, r0, p⟩ := q
  refine ⟨T, θ, ρ, st, r0, p.bind.mono fun d st1 T1 θ1 H1 s1 w1 p1 v hv => ?_⟩
  cases d with
  | str z =>
    obtain rfl := rep_str hv
    refine ⟨⟨z, rfl⟩, T1, θ1, ρ, st1, r0.stp s1 w1, p1.bind.mono fun y st2 T2 θ2 H2 s2 w2 p2 u hu => ?_⟩
    obtain ⟨r, e, k⟩ := p2.opt w2
    unfold sidxD at e
    split at e
    · split at e
      · rename_i i is ho
        cases e
        obtain rfl := rep_str hu
        exact ⟨z, _, i, is, rfl, rfl, ho, k T2 θ2 H2 .refl w2 _ mkInt⟩
      · cases e
    · cases e
  | _ => exact p1.elim
end
end Z
set_option Elab.async false
set_option linter.all false
set_option maxRecDepth 100000
set_option maxHeartbeats 4000000
/-! Z10: chains, is None, and, or, not, if by data. -/
namespace Z
open PySem PySem.Spec PyProof.Rows L2

section
variable {X : Cx} {g : GC} {W : WX}
theorem pe_isND {a : Expr} {j : Nat} {pos' pos : Pos} {m : Ro → M D} (ha : PE X a (rd g W m)) :
    PE X (.Compare a [.Is] [.Constant .none j pos'] pos) (rd g W fun ρ => M.bind (m ρ) fun x => M.pure (.bl (isNonD x))) ∧
    PT X (.Compare a [.Is] [.Constant .none j pos'] pos) (rdT g W fun ρ => M.bind (M.bind (m ρ) fun x => M.pure (.bl (isNonD x))) fun x => M.opt ((truthD x).map D.bl)) := by
  have key : ∀ {T : Tg'} {H : Hp} {d : D} {v : V}, rVal g T H d v → decide (v = .non) = isNonD d := fun {T H d v} h => by
    have h : Rep g.K g.fad T H d v := h
    cases d <;> simp only [Rep] at h
    · subst h; rfl
    · subst h; rfl
    · subst h; rfl
    · subst h; rfl
    · obtain ⟨a, vs, rfl, _⟩ := h; rfl
    · obtain ⟨a, vs, rfl, _⟩ := h; rfl
    · obtain ⟨a, vs, rfl, _⟩ := h; rfl
    · obtain ⟨a, rfl, _⟩ := h; rfl
    · obtain ⟨a, rfl, _⟩ := h; rfl
    · obtain ⟨a, rfl, _⟩ := h; rfl
  refine ⟨PE_imp (pe_cmp (pc_isN ha)) fun σ H Q q => ?_, PT_imp (pt_cmp (pc_isN ha)) fun σ H Q q => ?_⟩
  · obtain ⟨T, θ, ρ, st, r, p⟩ := q
    refine ⟨T, θ, ρ, st, r, p.bind.mono fun d st1 T1 θ1 H1 s1 w1 p1 v hv => ?_⟩
    dsimp only
    rw [key hv]
    exact p1 T1 θ1 H1 .refl w1 _ mkBl
  · obtain ⟨T, θ, ρ, st, r, p⟩ := q
    refine ⟨T, θ, ρ, st, r, p.bind.bind.mono fun d st1 T1 θ1 H1 s1 w1 p1 v hv => ?_⟩
    dsimp only
    rw [key hv]
    have p2 := Po.pure p1 w1
    obtain ⟨b, e, p3⟩ := p2 T1 θ1 H1 .refl w1
    cases e
    exact ⟨_, rfl, p3⟩
theorem pe_notND {a : Expr} {j : Nat} {pos' pos : Pos} {m : Ro → M D} (ha : PE X a (rd g W m)) :
    PE X (.Compare a [.IsNot] [.Constant .none j pos'] pos) (rd g W fun ρ => M.bind (m ρ) fun x => M.pure (.bl (!isNonD x))) ∧
    PT X (.Compare a [.IsNot] [.Constant .none j pos'] pos) (rdT g W fun ρ => M.bind (M.bind (m ρ) fun x => M.pure (.bl (!isNonD x))) fun x => M.opt ((truthD x).map D.bl)) := by
  have key : ∀ {T : Tg'} {H : Hp} {d : D} {v : V}, rVal g T H d v → decide (v = .non) = isNonD d := fun {T H d v} h => by
    have h : Rep g.K g.fad T H d v := h
    cases d <;> simp only [Rep] at h
    · subst h; rfl
    · subst h; rfl
    · subst h; rfl
    · subst h; rfl
    · obtain ⟨a, vs, rfl, _⟩ := h; rfl
    · obtain ⟨a, vs, rfl, _⟩ := h; rfl
    · obtain ⟨a, vs, rfl, _⟩ := h; rfl
    · obtain ⟨a, rfl, _⟩ := h; rfl
    · obtain ⟨a, rfl, _⟩ := h; rfl
    · obtain ⟨a, rfl, _⟩ := h; rfl
  refine ⟨PE_imp (pe_cmp (pc_notN ha)) fun σ H Q q => ?_, PT_imp (pt_cmp (pc_notN ha)) fun σ H Q q => ?_⟩
  · obtain ⟨T, θ, ρ, st, r, p⟩ := q
    refine ⟨T, θ, ρ, st, r, p.bind.mono fun d st1 T1 θ1 H1 s1 w1 p1 v hv => ?_⟩
    dsimp only
    rw [key hv]
    exact p1 T1 θ1 H1 .refl w1 _ mkBl
  · obtain ⟨T, θ, ρ, st, r, p⟩ := q
    refine ⟨T, θ, ρ, st, r, p.bind.bind.mono fun d st1 T1 θ1 H1 s1 w1 p1 v hv => ?_⟩
    dsimp only
    rw [key hv]
    have p2 := Po.pure p1 w1
    obtain ⟨b, e, p3⟩ := p2 T1 θ1 H1 .refl w1
    cases e
    exact ⟨_, rfl, p3⟩
def chainM (op op' : Cop) (ma mb mc : M D) : M D := M.bind ma fun x => M.bind mb fun y => M.bind (M.opt (cmpD op x y)) fun k => match k with
  | true => M.bind mc fun z => M.opt ((cmpD op' y z).map D.bl)
  | false => M.pure (.bl false)
theorem chain_any {op op' : Cop} {r r' : R2} {ma mb mc : Ro → M D} (hs : SpecC g (cmpD op) r) (hs' : SpecC g (cmpD op') r') {σ : L2.St} {H : Hp} {Q : VK} {kk : D → Sto → Tg' → List Addr → Hp → Prop}
    (hk : ∀ b st T θ H, WF g T θ H st → kk (.bl b) st T θ H → Q (.bl b) H)
    (q : ∃ T θ ρ st, SR g T θ H σ ρ st ∧ Po g W σ (chainM op op' (ma ρ) (mb ρ) (mc ρ) st) T θ H kk) : tChain r r' (rd g W ma) (rd g W mb) (rd g W mc) σ H Q := by
  obtain ⟨T, θ, ρ, st, r0, p⟩ := q
  unfold chainM at p
  refine ⟨T, θ, ρ, st, r0, p.bind.mono fun x st1 T1 θ1 H1 s1 w1 p1 v hv => ?_⟩
  refine ⟨T1, θ1, ρ, st1, r0.stp s1 w1, p1.bind.mono fun y st2 T2 θ2 H2 s2 w2 p2 u hu => ?_⟩
  have p3 := p2.bind
  obtain ⟨b, e, k⟩ := p3.opt w2
  have k1 := k T2 θ2 H2 .refl w2
  refine hs T2 θ2 H2 st2 x y b v u _ w2 (.inl (rVal_stp w1 s2 hv)) (.inl hu) e ⟨b, rfl, ?_⟩
  cases b with
  | true =>
    refine ⟨T2, θ2, ρ, st2, (r0.stp s1 w1).stp s2 w2, (Po.bind k1).mono fun z st3 T3 θ3 H3 s3 w3 p3 t ht => ?_⟩
    obtain ⟨c, e2, k2⟩ := p3.opt w3
    obtain ⟨b', e3, rfl⟩ := Option.map_eq_some_iff.mp e2
    exact hs' T3 θ3 H3 st3 y z b' u t Q w3 (.inl (rVal_stp w2 s3 hu)) (.inl ht) e3 (hk b' _ _ _ _ w3 (k2 T3 θ3 H3 .refl w3))
  | false => exact hk false _ _ _ _ w2 (Po.pure k1 w2)
theorem pe_chainD {a b c : Expr} {op op' : Cop} {pos : Pos} {ma mb mc : Ro → M D} (hK : X.K = g.K) (hu : X.A.units + 64 < cLine) (hl : lastMarks [op.py, op'.py] [b, c] = false) (ha : PE X a (rd g W ma)) (hb : PE X b (rd g W mb)) (hc : PE X c (rd g W mc)) :
    PE X (.Compare a [op.py, op'.py] [b, c] pos) (rd g W fun ρ => chainM op op' (ma ρ) (mb ρ) (mc ρ)) ∧
    PT X (.Compare a [op.py, op'.py] [b, c] pos) (rdT g W fun ρ => M.bind (chainM op op' (ma ρ) (mb ρ) (mc ρ)) fun x => M.opt ((truthD x).map D.bl)) := by
  obtain ⟨r, ho, hs⟩ := cmp_ok (X := X) (g := g) hK hu op
  obtain ⟨r', ho', hs'⟩ := cmp_ok (X := X) (g := g) hK hu op'
  refine ⟨PE_imp (pe_chain ho ho' ha hb hc hl) fun σ H Q q => ?_, PT_imp (pt_chain ho ho' ha hb hc hl) fun σ H Q q => ?_⟩
  · exact chain_any hs hs' (fun b st T θ H w k => k _ mkBl) q
  · obtain ⟨T, θ, ρ, st, r0, p⟩ := q
    refine chain_any (Q := fun x H' => ∃ k, x = .bl k ∧ Q k H') hs hs' (fun b st T θ H w k => ?_) ⟨T, θ, ρ, st, r0, p.bind⟩
    obtain ⟨z, e2, k⟩ := Po.opt k w
    cases e2
    obtain ⟨b', e3, k2⟩ := k T θ H .refl w
    cases e3
    exact ⟨_, rfl, k2⟩

/-! ### tests -/
theorem ifB_po {α : Type} {m : M D} {t e : M α} {σ : L2.St} {T : Tg'} {θ : List Addr} {H : Hp} {st : Sto} {k : α → Sto → Tg' → List Addr → Hp → Prop} (h : Po g W σ (ifB m t e st) T θ H k) :
    Po g W σ (m st) T θ H fun d st' T' θ' H' => ∃ b, d = .bl b ∧ Po g W σ ((if b = true then t else e) st') T' θ' H' k := by
  unfold ifB at h
  refine h.bind.mono fun d st1 T1 θ1 H1 s1 w1 p1 => ?_
  cases d with
  | bl b =>
    refine ⟨b, rfl, ?_⟩
    cases b
    · exact p1
    · exact p1
  | _ => exact p1.elim
/-- a test, then what it leads to -/
theorem rdT_ifB {α : Type} {m : Ro → M D} {t e : Ro → M α} {σ : L2.St} {H : Hp} {k : α → Sto → Tg' → List Addr → Hp → Prop} {Q : Bool → Hp → Prop}
    (h : ∃ T θ ρ st, SR g T θ H σ ρ st ∧ Po g W σ (ifB (m ρ) (t ρ) (e ρ) st) T θ H k)
    (q : ∀ b T θ H' ρ st, SR g T θ H' σ ρ st → Po g W σ ((if b = true then t ρ else e ρ) st) T θ H' k → Q b H') : rdT g W m σ H Q := by
  obtain ⟨T, θ, ρ, st, r, p⟩ := h
  refine ⟨T, θ, ρ, st, r, (ifB_po p).mono fun d st1 T1 θ1 H1 s1 w1 p1 => ?_⟩
  obtain ⟨b, rfl, p2⟩ := p1
  exact ⟨b, rfl, q b T1 θ1 H1 ρ st1 (r.stp s1 w1) p2⟩
theorem pt_notD {a : Expr} {pos : Pos} {m : Ro → M D} (ha : PT X a (rdT g W m)) : PT X (.UnaryOp .Not a pos) (rdT g W fun ρ => ifB (m ρ) (M.pure (.bl false)) (M.pure (.bl true))) := by
  refine PT_imp (pt_not ha) fun σ H Q q => ?_
  refine rdT_ifB (t := fun _ => M.pure (D.bl false)) (e := fun _ => M.pure (D.bl true)) q fun b T θ H' ρ st r p => ?_
  cases b
  · obtain ⟨b, e, k⟩ := Po.pure (a := D.bl true) p r.wf
    cases e
    exact k
  · obtain ⟨b, e, k⟩ := Po.pure (a := D.bl false) p r.wf
    cases e
    exact k
theorem pe_notD {a : Expr} {pos : Pos} {m : Ro → M D} (hK : X.K = g.K) (ha : PE X a (rdP g W m)) : PE X (.UnaryOp .Not a pos) (rd g W fun ρ => M.bind (m ρ) fun x => M.opt ((truthD x).map fun b => D.bl (!b))) := by
  refine PE_imp (pe_notT ha) fun σ H Q q => ?_
  obtain ⟨T, θ, ρ, st, r, p⟩ := q
  refine ⟨T, θ, ρ, st, r, p.bind.mono fun d st1 T1 θ1 H1 s1 w1 p1 v hv => ?_⟩
  obtain ⟨z, e, k⟩ := p1.opt w1
  obtain ⟨b, e1, rfl⟩ := Option.map_eq_some_iff.mp e
  exact ⟨b, tru_of hK hv e1, k T1 θ1 H1 .refl w1 _ mkBl⟩
theorem pe_iteD {c a b : Expr} {pos : Pos} {mc ma mb : Ro → M D} (hc : PT X c (rdT g W mc)) (ha : PE X a (rdF g W ma)) (hb : PE X b (rdF g W mb)) : PE X (.IfExp c a b pos) (rdF g W fun ρ => ifB (mc ρ) (ma ρ) (mb ρ)) := by
  refine PE_imp (pe_ifExp hc ha hb) fun σ H Q q => ?_
  refine rdT_ifB (t := ma) (e := mb) q fun k T θ H' ρ st r p => ?_
  cases k
  · exact ⟨T, θ, ρ, st, r, p⟩
  · exact ⟨T, θ, ρ, st, r, p⟩
theorem pt_iteD {c a b : Expr} {pos : Pos} {mc ma mb : Ro → M D} (hc : PT X c (rdT g W mc)) (ha : PT X a (rdT g W ma)) (hb : PT X b (rdT g W mb)) : PT X (.IfExp c a b pos) (rdT g W fun ρ => ifB (mc ρ) (ma ρ) (mb ρ)) := by
  refine ⟨fun pins s σ H Q I q => ?_⟩
  refine isTrue_IfExp ?_
  have go := hc.run pins s σ H (fun k H' => ∃ T θ ρ st, SR g T θ H' σ ρ st ∧ Po g W σ ((if k = true then ma ρ else mb ρ) st) T θ H' fun d _ _ _ H'' => ∃ b, d = .bl b ∧ Q b H'') I
    (rdT_ifB (t := ma) (e := mb) q fun k T θ H' ρ st r p => ⟨T, θ, ρ, st, r, p⟩)
  refine thn go fun k s1 ⟨H1, I1, T, θ, ρ, st, r, p⟩ => ?_
  cases k
  · exact hb.run pins s1 σ H1 Q I1 ⟨T, θ, ρ, st, r, p⟩
  · exact ha.run pins s1 σ H1 Q I1 ⟨T, θ, ρ, st, r, p⟩
theorem pw_and1D {a : Expr} {pos : Pos} {m : Ro → M D} (ha : PT X a (rdT g W m)) : PW X (.BoolOp .And [a] pos) (rdT g W fun ρ => ifB (m ρ) (M.pure (.bl true)) (M.pure (.bl false))) := by
  refine ⟨fun wh pins s σ H Q I q => (pw_and1 ha).run wh pins s σ H Q I ?_⟩
  refine rdT_ifB (t := fun _ => M.pure (D.bl true)) (e := fun _ => M.pure (D.bl false)) q fun b T θ H' ρ st r p => ?_
  cases b
  · obtain ⟨b, e, k⟩ := Po.pure (a := D.bl false) p r.wf
    cases e
    exact k
  · obtain ⟨b, e, k⟩ := Po.pure (a := D.bl true) p r.wf
    cases e
    exact k
theorem pw_andD {a b : Expr} {rest : List Expr} {pos : Pos} {m ms : Ro → M D} (ha : PT X a (rdT g W m)) (hb : PW X (.BoolOp .And (b :: rest) pos) (rdT g W ms)) : PW X (.BoolOp .And (a :: b :: rest) pos) (rdT g W fun ρ => ifB (m ρ) (ms ρ) (M.pure (.bl false))) := by
  refine ⟨fun wh pins s σ H Q I q => (pw_and ha hb).run wh pins s σ H Q I ?_⟩
  refine rdT_ifB (t := ms) (e := fun _ => M.pure (D.bl false)) q fun b T θ H' ρ st r p => ?_
  cases b
  · obtain ⟨b, e, k⟩ := Po.pure (a := D.bl false) p r.wf
    cases e
    exact k
  · exact ⟨T, θ, ρ, st, r, p⟩
theorem pw_or1D {a : Expr} {pos : Pos} {m : Ro → M D} (ha : PT X a (rdT g W m)) : PW X (.BoolOp .Or [a] pos) (rdT g W fun ρ => ifB (m ρ) (M.pure (.bl true)) (M.pure (.bl false))) := by
  refine ⟨fun wh pins s σ H Q I q => (pw_or1 ha).run wh pins s σ H Q I ?_⟩
  refine rdT_ifB (t := fun _ => M.pure (D.bl true)) (e := fun _ => M.pure (D.bl false)) q fun b T θ H' ρ st r p => ?_
  cases b
  · obtain ⟨b, e, k⟩ := Po.pure (a := D.bl false) p r.wf
    cases e
    exact k
  · obtain ⟨b, e, k⟩ := Po.pure (a := D.bl true) p r.wf
    cases e
    exact k
theorem pw_orD {a b : Expr} {rest : List Expr} {pos : Pos} {m ms : Ro → M D} (ha : PT X a (rdT g W m)) (hb : PW X (.BoolOp .Or (b :: rest) pos) (rdT g W ms)) : PW X (.BoolOp .Or (a :: b :: rest) pos) (rdT g W fun ρ => ifB (m ρ) (M.pure (.bl true)) (ms ρ)) := by
  refine ⟨fun wh pins s σ H Q I q => (pw_or ha hb).run wh pins s σ H Q I ?_⟩
  refine rdT_ifB (t := fun _ => M.pure (D.bl true)) (e := ms) q fun b T θ H' ρ st r p => ?_
  cases b
  · exact ⟨T, θ, ρ, st, r, p⟩
  · obtain ⟨b, e, k⟩ := Po.pure (a := D.bl true) p r.wf
    cases e
    exact k

/-! ### and, or as values -/
theorem pe_andD {a b : Expr} {rest : List Expr} {pos : Pos} {m ms : Ro → M D} (hK : X.K = g.K) (ha : PE X a (rd g W m)) (hb : PE X (.BoolOp .And (b :: rest) pos) (rd g W ms)) :
    PE X (.BoolOp .And (a :: b :: rest) pos) (rd g W fun ρ => M.bind (m ρ) fun x => M.bind (M.opt (truthD x)) fun b => match b with
      | true => ms ρ
      | false => M.pure x) := by
  refine PE_imp (pe_andT ha hb) fun σ H Q q => ?_
  obtain ⟨T, θ, ρ, st, r, p⟩ := q
  refine ⟨T, θ, ρ, st, r, p.bind.mono fun d st1 T1 θ1 H1 s1 w1 p1 v hv => ?_⟩
  obtain ⟨b, e, k⟩ := p1.bind.opt w1
  have k1 := k T1 θ1 H1 .refl w1
  refine ⟨b, tru_of hK (.inl hv) e, ?_⟩
  cases b
  · exact Po.pure (a := d) k1 w1 v hv
  · exact ⟨T1, θ1, ρ, st1, r.stp s1 w1, k1⟩
theorem pe_orD {a b : Expr} {rest : List Expr} {pos : Pos} {m ms : Ro → M D} (hK : X.K = g.K) (ha : PE X a (rd g W m)) (hb : PE X (.BoolOp .Or (b :: rest) pos) (rd g W ms)) :
    PE X (.BoolOp .Or (a :: b :: rest) pos) (rd g W fun ρ => M.bind (m ρ) fun x => M.bind (M.opt (truthD x)) fun b => match b with
      | true => M.pure x
      | false => ms ρ) := by
  refine PE_imp (pe_orT ha hb) fun σ H Q q => ?_
  obtain ⟨T, θ, ρ, st, r, p⟩ := q
  refine ⟨T, θ, ρ, st, r, p.bind.mono fun d st1 T1 θ1 H1 s1 w1 p1 v hv => ?_⟩
  obtain ⟨b, e, k⟩ := p1.bind.opt w1
  have k1 := k T1 θ1 H1 .refl w1
  refine ⟨b, tru_of hK (.inl hv) e, ?_⟩
  cases b
  · exact ⟨T1, θ1, ρ, st1, r.stp s1 w1, k1⟩
  · exact Po.pure (a := d) k1 w1 v hv
end
end Z
set_option Elab.async false
set_option linter.all false
set_option maxRecDepth 100000
set_option maxHeartbeats 4000000
/-! Z11: what is walked: lists, tuples, texts, ranges, enumerate, zip; comprehensions by data. -/
namespace Z
open PySem PySem.Spec PyProof.Rows L2

/-- what stays while a walk goes on -/
def Cv (g : GC) (md : Md) (T0 : Tg') (θ0 : List Addr) (H0 : Hp) (T : Tg') (θ : List Addr) (H : Hp) : Prop := match md with
  | .val => Ke T0 H0 T H
  | _ => Stp T0 θ0 H0 T θ H
structure ItD (g : GC) (J : L2.It) (ds : List D) (C : Tg' → List Addr → Hp → Prop) : Prop where
  go : ∀ i T θ H, i < ds.length → C T θ H → J.go i H
  stop : ∀ T θ H, C T θ H → J.stop ds.length H
  yld : ∀ i T θ H st x H', i < ds.length → C T θ H → WF g T θ H st → J.yld i H x H' → ∃ T', Stp T θ H T' θ H' ∧ WF g T' θ H' st ∧ ∀ d, ds[i]? = some d → Rep g.K g.fad T' H' d x
section
variable {X : Cx} {g : GC} {W : WX}
theorem Cv.refl {md : Md} {T : Tg'} {θ : List Addr} {H : Hp} : Cv g md T θ H T θ H := by
  cases md
  · exact Ke.refl
  · exact Stp.refl
  · exact Stp.refl
/-- an iteration's reading -/
def PIt (X : Cx) (g : GC) (W : WX) (tg iter : Expr) (md : Md) (m : Ro → M (List D)) : Prop := ∃ wi, PI X tg iter wi ∧ ∀ σ H R, (∃ T θ ρ st, SR g T θ H σ ρ st ∧ Po g W σ (m ρ st) T θ H fun ds st' T' θ' H' => ∀ J, ItD g J ds (Cv g md T' θ' H') → R J H') → wi σ H R
/-- what a mode's look keeps -/
theorem keepL {md : Md} {T : Tg'} {θ : List Addr} {H : Hp} {st : Sto} {ds : List D} {v : V} (w : WF g T θ H st) (h : relM md g T H (.lst ds) v) :
    ∃ a vs, v = .ref a ∧ H a = some (.lst vs) ∧ ∀ T2 θ2 H2, Cv g md T θ H T2 θ2 H2 → H2 a = some (.lst vs) ∧ RepL g.K g.fad T2 H2 ds vs := by
  have fz : Rep g.K g.fad T H (.lst ds) v → ∃ a vs, v = .ref a ∧ H a = some (.lst vs) ∧ ∀ T2 (θ2 : List Addr) H2, Ke T H T2 H2 → H2 a = some (.lst vs) ∧ RepL g.K g.fad T2 H2 ds vs := fun h => by
    obtain ⟨a, vs, rfl, h1, h2, rp⟩ := rep_lst h
    exact ⟨a, vs, rfl, h2, fun T2 θ2 H2 k => ⟨((k.fz a h1).2).trans h2, rp.ke k⟩⟩
  have st : rPk g T H (.lst ds) v → ∃ a vs, v = .ref a ∧ H a = some (.lst vs) ∧ ∀ T2 θ2 H2, Stp T θ H T2 θ2 H2 → H2 a = some (.lst vs) ∧ RepL g.K g.fad T2 H2 ds vs := fun h => by
    rcases h with h | ⟨a, i, rfl, t, vs, q, rp⟩
    · obtain ⟨a, vs, rfl, h2, k⟩ := fz h
      exact ⟨a, vs, rfl, h2, fun T2 θ2 H2 s => k T2 θ2 H2 (s.ke w)⟩
    · exact ⟨a, vs, rfl, q, fun T2 θ2 H2 s => ⟨(s.hp a (w.own a i t) (fun n z => by rw [t] at z; cases z)).trans q, rp.ke (s.ke w)⟩⟩
  cases md
  · exact fz h
  · exact st h
  · exact st h
theorem keepT {md : Md} {T : Tg'} {θ : List Addr} {H : Hp} {st : Sto} {ds : List D} {v : V} (w : WF g T θ H st) (h : relM md g T H (.tup ds) v) :
    ∃ a vs, v = .ref a ∧ SqT g.K H a vs ∧ ∀ T2 θ2 H2, Cv g md T θ H T2 θ2 H2 → SqT g.K H2 a vs ∧ RepL g.K g.fad T2 H2 ds vs := by
  have h' : Rep g.K g.fad T H (.tup ds) v := pkNo (relM_pk h) (fun _ z => nomatch z) (fun _ _ z => nomatch z)
  obtain ⟨a, vs, rfl, h1, rp⟩ := rep_tup h'
  refine ⟨a, vs, rfl, h1.sq, fun T2 θ2 H2 c => ?_⟩
  have k : Ke T H T2 H2 := by
    cases md
    · exact c
    · exact Stp.ke w c
    · exact Stp.ke w c
  exact ⟨(h1.ke k).sq, rp.ke k⟩
/-- a list or a tuple or a text, walked -/
def iSeqD (K : PySem.W.Frag) (te : TE) : TI := fun σ H R => te σ H fun x H1 => (∃ a, x = .ref a ∧ (∃ xs, SqL K H1 a xs) ∧ R (Itl K a) H1) ∨ (∃ a, x = .ref a ∧ (∃ xs, SqT K H1 a xs) ∧ R (Itt K a) H1) ∨ (∃ z, x = .str z ∧ R (Its z) H1)
theorem pi_seqD {tg l : Expr} {tl : TE} (hl : PE X l tl) : PI X tg l (iSeqD X.K tl) := by
  refine ⟨fun pins s σ H R I h => ?_⟩
  refine thn (hl.run pins s σ H _ I h) fun v s1 ⟨x, H1, I1, r1, q1⟩ => ?_
  have fresh : ∀ b ∈ [s1.heap.objs.size], FpOk X pins H1 b := fun b hb => by
    have e : b = s1.heap.objs.size := by simpa using hb
    subst e
    exact I1.fpOk (Nat.le_refl _) (I1.hok.fresh (Nat.le_refl _))
  rcases q1 with ⟨a, e, ⟨xs, hq⟩, q⟩ | ⟨a, e, ⟨xs, hq⟩, q⟩ | ⟨x, e, q⟩
  · subst e
    cases r1
    obtain ⟨its, rv, p, hz⟩ := I1.list hq
    refine wpAny_pyIter_list p.isList ?_
    exact ⟨s1.heap.objs.size, [s1.heap.objs.size], _, _, H1, rfl, I1.kept (t' := s1.toks) fun b o e => Heap.get?_push_of_some _ e, turn_list a _, ⟨_, Heap.get?_push_size _ rfl, rfl, rfl⟩, fresh, q⟩
  · subst e
    cases r1
    obtain ⟨its, rv, p, hz⟩ := I1.tuple hq
    refine wpAny_pyIter_tuple (show s1.heap.IsTuple a its.toArray from p) ?_
    exact ⟨s1.heap.objs.size, [s1.heap.objs.size], _, _, H1, rfl, I1.kept (t' := s1.toks) fun b o e => Heap.get?_push_of_some _ e, turn_tuple a _, ⟨_, Heap.get?_push_size _ rfl, rfl, rfl⟩, fresh, q⟩
  · subst e
    obtain ⟨t, rfl⟩ := r1
    cases ha : x.cps.all (· < 128)
    · exact wpAny_pyIter_wide ha (pi_one (tk := s1.toks) I1 _ (turn_str _ x t "str_iterator" (.inr rfl)) ⟨_, Heap.get?_push_size _ rfl, rfl, rfl⟩ q)
    · exact wpAny_pyIter_ascii ha (pi_one (tk := s1.toks) I1 _ (turn_str _ x t "str_ascii_iterator" (.inl rfl)) ⟨_, Heap.get?_push_size _ rfl, rfl, rfl⟩ q)
theorem itd_list {a : Addr} {vs : List V} {ds : List D} {C : Tg' → List Addr → Hp → Prop} (h : ∀ T2 θ2 H2, C T2 θ2 H2 → H2 a = some (.lst vs) ∧ RepL g.K g.fad T2 H2 ds vs) (hn : vs.length = ds.length) : ItD g (Itl g.K a) ds C where
  go := fun i T θ H hi c => walk_list.goes i H (by rw [hn]; exact hi) (SqL.of (h T θ H c).1)
  stop := fun T θ H c => by
    have := walk_list.stops H (SqL.of (K := g.K) (h T θ H c).1)
    rwa [hn] at this
  yld := fun i T θ H st x H' hi c w y => by
    obtain ⟨e1, e2⟩ := walk_list.yields i H x H' (by rw [hn]; exact hi) (SqL.of (h T θ H c).1) y
    subst e1
    refine ⟨T, .refl, w, fun d hd => ?_⟩
    obtain ⟨v, e3, r⟩ := (h T θ H' c).2.get hd
    rw [e2] at e3
    cases e3
    exact r
theorem itd_tup {a : Addr} {vs : List V} {ds : List D} {C : Tg' → List Addr → Hp → Prop} (h : ∀ T2 θ2 H2, C T2 θ2 H2 → SqT g.K H2 a vs ∧ RepL g.K g.fad T2 H2 ds vs) (hn : vs.length = ds.length) : ItD g (Itt g.K a) ds C where
  go := fun i T θ H hi c => walk_tup.goes i H (by rw [hn]; exact hi) (h T θ H c).1
  stop := fun T θ H c => by
    have := walk_tup.stops H (h T θ H c).1
    rwa [hn] at this
  yld := fun i T θ H st x H' hi c w y => by
    obtain ⟨e1, e2⟩ := walk_tup.yields i H x H' (by rw [hn]; exact hi) (h T θ H c).1 y
    subst e1
    refine ⟨T, .refl, w, fun d hd => ?_⟩
    obtain ⟨v, e3, r⟩ := (h T θ H' c).2.get hd
    rw [e2] at e3
    cases e3
    exact r
theorem strDs_len {z : Str} : (strDs z).length = z.cps.size := by
  unfold strDs
  rw [List.length_map, Array.length_toList]
theorem itd_str {z : Str} {C : Tg' → List Addr → Hp → Prop} : ItD g (Its z) (strDs z) C where
  go := fun i T θ H hi c => walk_str.goes i H (by rw [← strDs_len]; exact hi) trivial
  stop := fun T θ H c => by
    have := (walk_str (z := z)).stops H trivial
    rwa [← strDs_len] at this
  yld := fun i T θ H st x H' hi c w y => by
    obtain ⟨e1, ch, e2, e3⟩ := walk_str.yields i H x H' (by rw [← strDs_len]; exact hi) trivial y
    subst e1 e3
    refine ⟨T, .refl, w, fun d hd => ?_⟩
    unfold strDs at hd
    rw [List.getElem?_map, Array.getElem?_toList, e2] at hd
    cases hd
    exact mkStr
theorem rngD_len {lo : Int} : ∀ {n : Nat}, (rngD lo n).length = n
  | 0 => rfl
  | n + 1 => by
    show (rngD (lo + 1) n).length + 1 = n + 1
    rw [rngD_len]
theorem rngD_get : ∀ {n : Nat} {lo : Int} {i : Nat} {d : D}, (rngD lo n)[i]? = some d → d = .int (lo + i)
  | 0, _, _, _, h => by cases h
  | n + 1, lo, 0, d, h => by
    cases h
    simp
  | n + 1, lo, i + 1, d, h => by
    have h' : (rngD (lo + 1) n)[i]? = some d := h
    rw [rngD_get h']
    congr 1
    omega
theorem itd_range {lo : Int} {n : Nat} {C : Tg' → List Addr → Hp → Prop} : ItD g (Itr lo n) (rngD lo n) C where
  go := fun i T θ H hi c => walk_range.goes i H (by rw [rngD_len] at hi; exact hi) trivial
  stop := fun T θ H c => by
    rw [rngD_len]
    exact walk_range.stops H trivial
  yld := fun i T θ H st x H' hi c w y => by
    obtain ⟨e1, e2⟩ := walk_range.yields i H x H' (by rw [rngD_len] at hi; exact hi) trivial y
    subst e1 e2
    refine ⟨T, .refl, w, fun d hd => ?_⟩
    rw [rngD_get hd]
    exact mkInt
/-- a new pair is laid for good -/
theorem pair_new {T : Tg'} {θ : List Addr} {H : Hp} {st : Sto} {q : Addr} {x y : V} {dx dy : D} (w : WF g T θ H st) (hq : H q = none) (hx : Rep g.K g.fad T H dx x) (hy : Rep g.K g.fad T H dy y) :
    Stp T θ H (updT T q .fz) θ (upd H q (.tup [x, y])) ∧ WF g (updT T q .fz) θ (upd H q (.tup [x, y])) st ∧ Rep g.K g.fad (updT T q .fz) (upd H q (.tup [x, y])) (.tup [dx, dy]) (.ref q) := by
  refine ⟨.new hq, w.laid hq (fun _ z => nomatch z), ?_⟩
  simp only [Rep]
  have k : Ke T H (updT T q .fz) (upd H q (.tup [x, y])) := .new w hq
  exact ⟨q, _, rfl, .inl ⟨updT_same, SqT.of upd_same⟩, .cons (hx.ke k) (.cons (hy.ke k) .nil)⟩
theorem enumD_len : ∀ {ds : List D} {k : Nat}, (enumD k ds).length = ds.length
  | [], _ => rfl
  | d :: ds, k => by
    show (enumD (k + 1) ds).length + 1 = ds.length + 1
    rw [enumD_len]
theorem enumD_get : ∀ {ds : List D} {k i : Nat} {d : D}, (enumD k ds)[i]? = some d → ∃ e, ds[i]? = some e ∧ d = .tup [.int ((k + i : Nat) : Int), e]
  | [], _, _, _, h => by cases h
  | e :: ds, k, 0, d, h => by
    cases h
    exact ⟨e, rfl, rfl⟩
  | e :: ds, k, i + 1, d, h => by
    have h' : (enumD (k + 1) ds)[i]? = some d := h
    obtain ⟨e', h1, h2⟩ := enumD_get h'
    refine ⟨e', h1, ?_⟩
    rw [h2]
    congr 4
    omega
theorem itd_enum {a : Addr} {vs : List V} {ds : List D} {C : Tg' → List Addr → Hp → Prop} (h : ∀ T2 θ2 H2, C T2 θ2 H2 → H2 a = some (.lst vs) ∧ RepL g.K g.fad T2 H2 ds vs) (hn : vs.length = ds.length) : ItD g (Ite g.K a) (enumD 0 ds) C where
  go := fun i T θ H hi c => walk_enum.goes i H (by rw [enumD_len] at hi; rw [hn]; exact hi) (SqL.of (h T θ H c).1)
  stop := fun T θ H c => by
    have := walk_enum.stops H (SqL.of (K := g.K) (h T θ H c).1)
    rw [enumD_len]
    rwa [hn] at this
  yld := fun i T θ H st x H' hi c w y => by
    rw [enumD_len] at hi
    obtain ⟨q, x1, y1, e1, e2, e3, e4, e5⟩ := walk_enum.yields i H x H' (by rw [hn]; exact hi) (SqL.of (h T θ H c).1) y
    subst e1 e3
    cases e4
    obtain ⟨d1, hd1, r1⟩ := (h T θ H c).2.getV e5
    obtain ⟨s1, w1, r2⟩ := pair_new w e2 (dx := .int (i : Nat)) (dy := d1) mkInt r1
    refine ⟨_, s1, w1, fun d hd => ?_⟩
    obtain ⟨e', h1, h2⟩ := enumD_get hd
    rw [hd1] at h1
    cases h1
    rw [h2]
    simpa using r2
theorem zipD_len : ∀ {xs ys : List D}, (zipD xs ys).length = min xs.length ys.length
  | [], ys => by simp [zipD]
  | x :: xs, [] => by simp [zipD]
  | x :: xs, y :: ys => by
    show (zipD xs ys).length + 1 = min (xs.length + 1) (ys.length + 1)
    rw [zipD_len]
    omega
theorem zipD_get : ∀ {xs ys : List D} {i : Nat} {d : D}, (zipD xs ys)[i]? = some d → ∃ x y, xs[i]? = some x ∧ ys[i]? = some y ∧ d = .tup [x, y]
  | [], _, _, _, h => by simp [zipD] at h
  | x :: xs, [], _, _, h => by simp [zipD] at h
  | x :: xs, y :: ys, 0, d, h => by
    cases h
    exact ⟨x, y, rfl, rfl, rfl⟩
  | x :: xs, y :: ys, i + 1, d, h => by
    have h' : (zipD xs ys)[i]? = some d := h
    obtain ⟨e, f, h1, h2, h3⟩ := zipD_get h'
    exact ⟨e, f, h1, h2, h3⟩
theorem itd_zip {a b : Addr} {vs us : List V} {xs ys : List D} {C : Tg' → List Addr → Hp → Prop} (h : ∀ T2 θ2 H2, C T2 θ2 H2 → H2 a = some (.lst vs) ∧ RepL g.K g.fad T2 H2 xs vs) (hn : vs.length = xs.length)
    (h' : ∀ T2 θ2 H2, C T2 θ2 H2 → H2 b = some (.lst us) ∧ RepL g.K g.fad T2 H2 ys us) (hn' : us.length = ys.length) : ItD g (Itz g.K a b) (zipD xs ys) C where
  go := fun i T θ H hi c => (walk_zip (n := min vs.length us.length) rfl).goes i H (by rw [zipD_len] at hi; rw [hn, hn']; exact hi) ⟨SqL.of (h T θ H c).1, SqL.of (h' T θ H c).1⟩
  stop := fun T θ H c => by
    have := (walk_zip (n := min vs.length us.length) rfl).stops H ⟨SqL.of (K := g.K) (h T θ H c).1, SqL.of (h' T θ H c).1⟩
    rw [zipD_len]
    rwa [hn, hn'] at this
  yld := fun i T θ H st x H' hi c w y => by
    rw [zipD_len] at hi
    obtain ⟨q, x1, y1, e1, e2, e3, e4, e5⟩ := (walk_zip (n := min vs.length us.length) rfl).yields i H x H' (by rw [hn, hn']; exact hi) ⟨SqL.of (h T θ H c).1, SqL.of (h' T θ H c).1⟩ y
    subst e1 e3
    obtain ⟨d1, hd1, r1⟩ := (h T θ H c).2.getV e4
    obtain ⟨d2, hd2, r2⟩ := (h' T θ H c).2.getV e5
    obtain ⟨s1, w1, r3⟩ := pair_new w e2 (dx := d1) (dy := d2) r1 r2
    refine ⟨_, s1, w1, fun d hd => ?_⟩
    obtain ⟨e', f', h1, h2, h3⟩ := zipD_get hd
    rw [hd1] at h1
    rw [hd2] at h2
    cases h1
    cases h2
    rw [h3]
    exact r3
theorem itd_zipT {a b : Addr} {vs us : List V} {xs ys : List D} {C : Tg' → List Addr → Hp → Prop} (h : ∀ T2 θ2 H2, C T2 θ2 H2 → SqT g.K H2 a vs ∧ RepL g.K g.fad T2 H2 xs vs) (hn : vs.length = xs.length)
    (h' : ∀ T2 θ2 H2, C T2 θ2 H2 → SqT g.K H2 b us ∧ RepL g.K g.fad T2 H2 ys us) (hn' : us.length = ys.length) : ItD g (RZ.ItzT g.K a b) (zipD xs ys) C where
  go := fun i T θ H hi c => by
    rw [zipD_len] at hi
    exact ⟨vs, us, vs[i]'(by omega), us[i]'(by omega), (h T θ H c).1, (h' T θ H c).1, by simp, by simp⟩
  stop := fun T θ H c => ⟨vs, us, (h T θ H c).1, (h' T θ H c).1, by rw [zipD_len]; omega⟩
  yld := fun i T θ H st x H' hi c w y => by
    rw [zipD_len] at hi
    obtain ⟨q, x1, y1, e1, e2, e3, e4, e5⟩ := y
    subst e1 e3
    obtain ⟨d1, hd1, r1⟩ := (h T θ H c).2.getV (e4 vs (h T θ H c).1)
    obtain ⟨d2, hd2, r2⟩ := (h' T θ H c).2.getV (e5 us (h' T θ H c).1)
    obtain ⟨s1, w1, r3⟩ := pair_new w e2 (dx := d1) (dy := d2) r1 r2
    refine ⟨_, s1, w1, fun d hd => ?_⟩
    obtain ⟨e', f', h1, h2, h3⟩ := zipD_get hd
    rw [hd1] at h1
    rw [hd2] at h2
    cases h1
    cases h2
    rw [h3]
    exact r3

/-! ### readings of what is walked -/
theorem pit_seq {tg e : Expr} {md : Md} {m : Ro → M D} (hK : X.K = g.K) (he : PE X e (rdR g W (relM md) m)) : PIt X g W tg e md fun ρ => M.bind (m ρ) fun x => M.opt (walkD x) := by
  refine ⟨_, pi_seqD he, fun σ H R q => ?_⟩
  obtain ⟨T, θ, ρ, st, r, p⟩ := q
  refine ⟨T, θ, ρ, st, r, p.bind.mono fun d st1 T1 θ1 H1 s1 w1 p1 v hv => ?_⟩
  obtain ⟨ds, e1, k⟩ := p1.opt w1
  have k1 := k T1 θ1 H1 .refl w1
  unfold walkD at e1
  split at e1 <;> cases e1
  · obtain ⟨a, vs, rfl, h1, h2⟩ := keepT w1 hv
    exact .inr (.inl ⟨a, rfl, ⟨vs, by rw [hK]; exact h1⟩, by rw [hK]; exact k1 _ (itd_tup h2 (h2 T1 θ1 H1 .refl).2.length)⟩)
  · obtain ⟨a, vs, rfl, h1, h2⟩ := keepL w1 hv
    exact .inl ⟨a, rfl, ⟨vs, SqL.of h1⟩, by rw [hK]; exact k1 _ (itd_list h2 (h2 T1 θ1 H1 .refl).2.length)⟩
  · obtain rfl := pk_str (relM_pk hv)
    exact .inr (.inr ⟨_, rfl, k1 _ itd_str⟩)
theorem pit_rng1 {tg a : Expr} {md : Md} {p pos : Pos} {m : Ro → M D} (hg : Gl X "range") (hm : X.mg "range" = none) (al : aloneE a = true) (ha : PE X a (rd g W m)) : PIt X g W tg (.Call (.Name "range" p) [a] [] pos) md fun ρ => M.bind (m ρ) fun x => M.opt (rng1D x) := by
  refine ⟨_, pi_range1 hg hm (pa_cons ha pa_nil (star_of al)) (by rw [star_of al]; rfl), fun σ H R q => ?_⟩
  obtain ⟨T, θ, ρ, st, r, p⟩ := q
  refine ⟨T, θ, ρ, st, r, p.bind.mono fun d st1 T1 θ1 H1 s1 w1 p1 v hv => ?_⟩
  obtain ⟨ds, e1, k⟩ := p1.opt w1
  have k1 := k T1 θ1 H1 .refl w1
  unfold rng1D at e1
  split at e1
  · split at e1 <;> cases e1
    rename_i hz
    obtain rfl := rep_int hv
    exact ⟨_, rfl, hz.1, hz.2, k1 _ itd_range⟩
  · cases e1
theorem pit_rng2 {tg a b : Expr} {md : Md} {p pos : Pos} {ma mb : Ro → M D} (hg : Gl X "range") (hm : X.mg "range" = none) (al : aloneE a = true) (bl : aloneE b = true) (ha : PE X a (rd g W ma)) (hb : PE X b (rd g W mb)) :
    PIt X g W tg (.Call (.Name "range" p) [a, b] [] pos) md fun ρ => M.bind (ma ρ) fun x => M.bind (mb ρ) fun y => M.opt (rng2D x y) := by
  refine ⟨_, pi_range2 hg hm (pa_cons ha (pa_cons hb pa_nil (star_of bl)) (star_of al)) (by rw [star_of al, star_of bl]; rfl) (by rw [star_of bl]; rfl), fun σ H R q => ?_⟩
  obtain ⟨T, θ, ρ, st, r, p⟩ := q
  refine ⟨T, θ, ρ, st, r, p.bind.mono fun d st1 T1 θ1 H1 s1 w1 p1 v hv => ?_⟩
  refine ⟨T1, θ1, ρ, st1, r.stp s1 w1, p1.bind.mono fun y st2 T2 θ2 H2 s2 w2 p2 u hu => ?_⟩
  obtain ⟨ds, e1, k⟩ := p2.opt w2
  have k1 := k T2 θ2 H2 .refl w2
  unfold rng2D at e1
  split at e1
  · split at e1 <;> cases e1
    rename_i hz
    obtain rfl := rep_int hv
    obtain rfl := rep_int hu
    exact ⟨_, _, rfl, hz, k1 _ itd_range⟩
  · cases e1
theorem pit_enum {e : Expr} {elts : List Expr} {kk : Nat} {md : Md} {p pos tpos : Pos} {m : Ro → M D} (hK : X.K = g.K) (hg : Gl X "enumerate") (hm : X.mg "enumerate" = none) (al : aloneE e = true) (he : PE X e (rdR g W (relM md) m)) :
    PIt X g W (.Tuple elts kk tpos) (.Call (.Name "enumerate" p) [e] [] pos) md fun ρ => M.bind (m ρ) fun x => M.opt (enumS x) := by
  refine ⟨_, pi_enum hg hm (pa_cons he pa_nil (star_of al)) (by rw [star_of al]; rfl), fun σ H R q => ?_⟩
  obtain ⟨T, θ, ρ, st, r, p⟩ := q
  refine ⟨T, θ, ρ, st, r, p.bind.mono fun d st1 T1 θ1 H1 s1 w1 p1 v hv => ?_⟩
  obtain ⟨ds, e1, k⟩ := p1.opt w1
  have k1 := k T1 θ1 H1 .refl w1
  unfold enumS at e1
  split at e1 <;> cases e1
  obtain ⟨a, vs, rfl, h1, h2⟩ := keepL w1 hv
  exact ⟨a, vs, rfl, SqL.of h1, by rw [hK]; exact k1 _ (itd_enum h2 (h2 T1 θ1 H1 .refl).2.length)⟩
theorem Cv.from {md : Md} {T T1 : Tg'} {θ θ1 : List Addr} {H H1 : Hp} {st : Sto} (w : WF g T θ H st) (s : Stp T θ H T1 θ1 H1) {T2 : Tg'} {θ2 : List Addr} {H2 : Hp} (c : Cv g md T1 θ1 H1 T2 θ2 H2) : Cv g md T θ H T2 θ2 H2 := by
  cases md
  · exact (s.ke w).trans c
  · exact s.trans c
  · exact s.trans c
theorem pit_zip {a b : Expr} {elts : List Expr} {kk : Nat} {md : Md} {p pos tpos : Pos} {ma mb : Ro → M D} (hK : X.K = g.K) (hg : Gl X "zip") (hm : X.mg "zip" = none) (al : aloneE a = true) (bl : aloneE b = true) (ha : PE X a (rdR g W (relM md) ma)) (hb : PE X b (rdR g W (relM md) mb)) :
    PIt X g W (.Tuple elts kk tpos) (.Call (.Name "zip" p) [a, b] [] pos) md fun ρ => M.bind (ma ρ) fun x => M.bind (mb ρ) fun y => M.opt (zipS x y) := by
  refine ⟨_, RZ.pi_zipA hg hm (pa_cons ha (pa_cons hb pa_nil (star_of bl)) (star_of al)) (star_of al) (by rw [star_of bl]; rfl), fun σ H R q => ?_⟩
  obtain ⟨T, θ, ρ, st, r, p⟩ := q
  refine ⟨T, θ, ρ, st, r, p.bind.mono fun d st1 T1 θ1 H1 s1 w1 p1 v hv => ?_⟩
  refine ⟨T1, θ1, ρ, st1, r.stp s1 w1, p1.bind.mono fun y st2 T2 θ2 H2 s2 w2 p2 u hu => ?_⟩
  obtain ⟨ds, e1, k⟩ := p2.opt w2
  have k1 := k T2 θ2 H2 .refl w2
  have hv2 := relM_stp w1 s2 hv
  unfold zipS at e1
  split at e1 <;> cases e1
  · obtain ⟨a, vs, rfl, h1, h2⟩ := keepL w2 hv2
    obtain ⟨b, us, rfl, h3, h4⟩ := keepL w2 hu
    exact ⟨a, b, vs, us, rfl, .inl ⟨SqL.of h1, SqL.of h3, by rw [hK]; exact k1 _ (itd_zip h2 (h2 T2 θ2 H2 .refl).2.length h4 (h4 T2 θ2 H2 .refl).2.length)⟩⟩
  · obtain ⟨a, vs, rfl, h1, h2⟩ := keepT w2 hv2
    obtain ⟨b, us, rfl, h3, h4⟩ := keepT w2 hu
    exact ⟨a, b, vs, us, rfl, .inr ⟨by rw [hK]; exact h1, by rw [hK]; exact h3, by rw [hK]; exact k1 _ (itd_zipT h2 (h2 T2 θ2 H2 .refl).2.length h4 (h4 T2 θ2 H2 .refl).2.length)⟩⟩
end
end Z
set_option Elab.async false
set_option linter.all false
set_option maxRecDepth 100000
set_option maxHeartbeats 4000000
/-! Z12: targets and comprehensions by data. -/
namespace Z
open PySem PySem.Spec PyProof.Rows L2

/-! ### slots that change -/
section
variable {g : GC} {T T' : Tg'} {θ θ' : List Addr} {H H' : Hp} {σ : L2.St} {ρ : Ro} {st : Sto}
theorem SR.set (r : SR g T θ H σ ρ st) (i : Nat) {o : Option V} {sl : Slot} (h : SlR g T H i (some o) sl) : SR g T θ H (σ.set i o) (ρ.set i sl) st := by
  refine ⟨r.wf, by rw [List.length_set, List.length_set]; exact r.len, fun j s e => ?_⟩
  by_cases hj : i = j
  · subst hj
    by_cases hl : i < ρ.length
    · rw [List.getElem?_set_self hl] at e
      cases e
      rw [List.getElem?_set_self (by rw [← r.len]; exact hl)]
      exact h
    · rw [List.getElem?_eq_none (by rw [List.length_set]; omega)] at e
      cases e
  · rw [List.getElem?_set_ne hj] at e
    rw [List.getElem?_set_ne hj]
    exact r.sl j s e
theorem SR.sh (r : SR g T θ H σ ρ st) (i : Nat) {d : D} {v : V} (h : rVal g T H d v) : SR g T θ H (σ.set i (some v)) (ρ.set i (.sh d)) st := r.set i ⟨v, rfl, h⟩
theorem SR.wipe (r : SR g T θ H σ ρ st) : ∀ vs : List Nat, SR g T θ H (L2.wipe σ vs) (wipeR ρ vs) st
  | [] => r
  | v :: vs => (SR.wipe r vs).set v (sl := .un) trivial
end
mutual
/-- the slots of a target -/
def tgN : Tg → List Nat
  | .name i => [i]
  | .tup ts => tgsN ts
def tgsN : Tgs → List Nat
  | .nil => []
  | .cons t ts => tgN t ++ tgsN ts
end
/-- but for these slots the same -/
def Off (l : List Nat) (σ σ' : L2.St) : Prop := σ'.length = σ.length ∧ ∀ i, i ∉ l → σ'[i]? = σ[i]?
theorem Off.refl {l : List Nat} {σ : L2.St} : Off l σ σ := ⟨rfl, fun _ _ => rfl⟩
theorem wipe_out {σ : L2.St} {i : Nat} : ∀ {vs : List Nat}, i ∉ vs → (L2.wipe σ vs)[i]? = σ[i]?
  | [], _ => rfl
  | v :: vs, h => by
    simp only [List.mem_cons, not_or] at h
    unfold L2.wipe
    rw [List.getElem?_set_ne (fun e => h.1 e.symm)]
    exact wipe_out h.2
theorem wipe_in {σ : L2.St} {i : Nat} : ∀ {vs : List Nat}, i ∈ vs → i < σ.length → (L2.wipe σ vs)[i]? = some none
  | v :: vs, h, hl => by
    unfold L2.wipe
    by_cases hv : v = i
    · subst hv
      rw [List.getElem?_set_self (by rw [wipe_length]; exact hl)]
    · rw [List.getElem?_set_ne hv]
      rcases List.mem_cons.mp h with e | h
      · exact absurd e.symm hv
      · exact wipe_in h hl
theorem wipe_off {σ σ' : L2.St} {vs l : List Nat} (h : Off l (L2.wipe σ vs) σ') (hs : ∀ i ∈ l, i ∈ vs) : L2.wipe σ' vs = L2.wipe σ vs := by
  refine List.ext_getElem? fun i => ?_
  have hl : σ'.length = σ.length := by rw [h.1, wipe_length]
  by_cases hi : i ∈ vs
  · by_cases hn : i < σ.length
    · rw [wipe_in hi hn, wipe_in hi (by rw [hl]; exact hn)]
    · rw [List.getElem?_eq_none (by rw [wipe_length]; omega), List.getElem?_eq_none (by rw [wipe_length]; omega)]
  · rw [wipe_out hi]
    exact h.2 i fun z => hi (hs i z)
/-- a target's reading -/
def PGD (X : Cx) (g : GC) (t : Tg) (tg : Expr) : Prop := ∃ gg, PG X tg gg ∧ ∀ (v : V) (σ : L2.St) (H : Hp) (Q : L2.St → Hp → Prop) (T : Tg') (θ : List Addr) (ρ ρ' : Ro) (st : Sto) (d : D), SR g T θ H σ ρ st → Rep g.K g.fad T H d v → bindT t d ρ = some ρ' →
  (∀ σ', SR g T θ H σ' ρ' st → Off (tgN t) σ σ' → Q σ' H) → gg v σ H Q
def PGsD (X : Cx) (g : GC) (ts : Tgs) (tgs : List Expr) : Prop := ∃ gg, PGs X tgs gg ∧ ∀ (vs : List V) (σ : L2.St) (H : Hp) (Q : L2.St → Hp → Prop) (T : Tg') (θ : List Addr) (ρ ρ' : Ro) (st : Sto) (ds : List D), SR g T θ H σ ρ st → RepL g.K g.fad T H ds vs → bindTs ts ds ρ = some ρ' →
  (∀ σ', SR g T θ H σ' ρ' st → Off (tgsN ts) σ σ' → Q σ' H) → gg vs σ H Q
section
variable {X : Cx} {g : GC} {W : WX}
theorem pgd_name {i : Nat} {x : Str} {pos : Pos} (hN : X.N.Nodup) (hi : X.N[i]? = some x) (hx : Loc X.env.scope x) (hf : X.fn x = true ∨ X.env.scope.names.lookup x = some .local) : PGD X g (.name i) (.Name x pos) := by
  refine ⟨_, pg_name hN hi hx hf, fun v σ H Q T θ ρ ρ' st d r hv e k => ?_⟩
  simp only [bindT, Option.some.injEq] at e
  subst e
  refine k _ (r.sh i hv) ⟨List.length_set .., fun j hj => ?_⟩
  simp only [tgN, List.mem_singleton] at hj
  exact List.getElem?_set_ne (fun z => hj z.symm)
theorem pgsd_nil : PGsD X g .nil [] := by
  refine ⟨_, pgs_nil, fun vs σ H Q T θ ρ ρ' st ds r hv e k => ?_⟩
  cases ds with
  | nil =>
    simp only [bindTs, Option.some.injEq] at e
    subst e
    simp only [RepL] at hv
    exact ⟨hv, k σ r .refl⟩
  | cons d ds => simp [bindTs] at e
theorem pgsd_cons {t : Tg} {ts : Tgs} {e : Expr} {es : List Expr} (h1 : PGD X g t e) (h2 : PGsD X g ts es) (hs : (assignEach (e :: es) X.env).map (·.2) = assign e X.env :: (assignEach es X.env).map (·.2)) : PGsD X g (.cons t ts) (e :: es) := by
  obtain ⟨g1, p1, k1⟩ := h1
  obtain ⟨g2, p2, k2⟩ := h2
  refine ⟨_, pgs_cons p1 p2 hs, fun vs σ H Q T θ ρ ρ' st ds r hv e k => ?_⟩
  cases ds with
  | nil => simp [bindTs] at e
  | cons d ds =>
    simp only [RepL] at hv
    obtain ⟨v, ws, rfl, hd, hds⟩ := hv
    simp only [bindTs] at e
    split at e
    · rename_i ρ1 e1
      refine ⟨v, ws, rfl, k1 v σ H _ T θ ρ ρ1 st d r hd e1 fun σ1 r1 o1 => ?_⟩
      refine k2 ws σ1 H _ T θ ρ1 ρ' st ds r1 hds e fun σ2 r2 o2 => k σ2 r2 ⟨o2.1.trans o1.1, fun i hi => ?_⟩
      simp only [tgsN, List.mem_append, not_or] at hi
      rw [o2.2 i hi.2, o1.2 i hi.1]
    · cases e
theorem pgd_tup {ts : Tgs} {es : List Expr} {k : Nat} {pos : Pos} (hc : X.calm = true) (hK : X.K = g.K) (h : PGsD X g ts es) (hl : ∀ ds ρ ρ', bindTs ts ds ρ = some ρ' → ds.length = es.length) (hn : (assignEach es X.env).length = es.length) (hst : (assignEach es X.env).findIdx? (·.1) = none) : PGD X g (.tup ts) (.Tuple es k pos) := by
  obtain ⟨g1, p1, k1⟩ := h
  refine ⟨_, pg_tup hc p1 hn hst, fun v σ H Q T θ ρ ρ' st d r hv e kk => ?_⟩
  cases d with
  | tup ds =>
    simp only [bindT] at e
    obtain ⟨a, vs, rfl, h1, rp⟩ := rep_tup hv
    exact ⟨a, vs, rfl, by rw [hK]; exact h1.sq, by rw [rp.length]; exact hl ds ρ ρ' e, k1 vs σ H Q T θ ρ ρ' st ds r rp e kk⟩
  | _ => simp [bindT] at e

/-! ### an object let go by nobody: the new list of a comprehension -/
def putH (H : Hp) (p : Addr) (o : Option HO) : Hp := fun a => if a = p then o else H a
theorem putH_same {H : Hp} {p : Addr} {o : Option HO} : putH H p o p = o := if_pos rfl
theorem putH_ne {H : Hp} {p a : Addr} {o : Option HO} (h : a ≠ p) : putH H p o a = H a := if_neg h
theorem out_put {T : Tg'} {θ : List Addr} {H : Hp} {st : Sto} {p : Addr} {o : Option HO} (w : WF g T θ H st) (h : T p = .out) : Ke T H T (putH H p o) ∧ WF g T θ (putH H p o) st := by
  have ne : ∀ {a t}, T a = t → t ≠ .out → a ≠ p := fun {a t} e n z => n (by rw [← e, z]; exact h)
  have k : Ke T H T (putH H p o) := ⟨fun a e => ⟨e, putH_ne (ne e (by decide))⟩, fun a n e => e⟩
  refine ⟨k, fun a e => ?_, fun a i e => ?_, w.cel, w.len, fun n a ds e1 e2 => ?_⟩
  · rw [putH_ne (ne e (by decide))]; exact w.trk a e
  · rw [putH_ne (ne e (fun z => nomatch z))]; exact w.own a i e
  · obtain ⟨vs, q, rp⟩ := w.sto n a ds e1 e2
    exact ⟨vs, by rw [putH_ne (ne ((w.cel a n).mpr e1) (fun z => nomatch z))]; exact q, rp.ke k⟩

/-! ### comprehensions -/
theorem compM_noexc {f : D → M (Option D)} : ∀ {ds : List D} {s : Sto} {x : XV} {s' : Sto}, compM f ds s ≠ .exc x s'
  | [], _, _, _, h => by simp [compM] at h
  | d :: ds, s, x, s', h => by
    simp only [compM] at h
    split at h
    · split at h
      · cases h
      · cases h
    · cases h
/-- a test's reading by a bool -/
def rdC (g : GC) (W : WX) (m : Ro → M Bool) : TT := fun σ H Q => ∃ T θ ρ st, SR g T θ H σ ρ st ∧ Po g W σ (m ρ st) T θ H fun b _ _ _ H' => Q b H'
abbrev W0 : WX := fun _ _ _ _ => False
def turnM (t : Tg) (mc : Ro → M Bool) (me : Ro → M D) (ρ : Ro) (d : D) : M (Option D) := match bindT t d ρ with
  | some ρ' => M.bind (mc ρ') fun k => match k with
    | true => M.bind (me ρ') fun y => M.pure (some y)
    | false => M.pure none
  | none => fun _ => .stuck
theorem turnM_ok {t : Tg} {mc : Ro → M Bool} {me : Ro → M D} {ρ : Ro} {d : D} {s s1 : Sto} {o : Option D} (h : turnM t mc me ρ d s = .ok o s1) :
    ∃ ρ' k s0, bindT t d ρ = some ρ' ∧ mc ρ' s = .ok k s0 ∧ ((k = true ∧ ∃ y, me ρ' s0 = .ok y s1 ∧ o = some y) ∨ (k = false ∧ s1 = s0 ∧ o = none)) := by
  unfold turnM at h
  cases e : bindT t d ρ with
  | some ρ' =>
    rw [e] at h
    refine ⟨ρ', ?_⟩
    cases e1 : mc ρ' s with
    | ok k s0 =>
      simp only [M.bind, e1] at h
      refine ⟨k, s0, rfl, rfl, ?_⟩
      cases k with
      | true =>
        cases e2 : me ρ' s0 with
        | ok y s2 =>
          simp only [M.bind, e2] at h
          cases h
          exact .inl ⟨rfl, y, rfl, rfl⟩
        | exc x s2 => simp only [M.bind, e2] at h; cases h
        | stuck => simp only [M.bind, e2] at h; cases h
      | false => cases h; exact .inr ⟨rfl, rfl, rfl⟩
    | exc x s2 => simp only [M.bind, e1] at h; cases h
    | stuck => simp only [M.bind, e1] at h; cases h
  | none => rw [e] at h; cases h
theorem compD_core {elt tg iter : Expr} {ifs : List Expr} {scope : Scope} {own : List (Str × Nat)} {pos : Pos} {t : Tg} {mi : Ro → M (List D)} {mc : Ro → M Bool} {me : Ro → M D} (hc : X.calm = true) (hN : X.N.Nodup)
    (hi : PIt X g W tg iter .pk mi) (ok : BlkOk X.N X.env.scope scope own) (hv : ∀ i ∈ tgN t, i ∈ own.map (·.2))
    (hg : ∀ (s : Shared) (H : Hp) (C : Addr) (cl : List (Str × Addr)) (fp : List Addr), PGD (X.blk s H scope (compEnvC scope cl C X.env) fp) g t tg)
    (ht : ∀ (s : Shared) (H : Hp) (C : Addr) (cl : List (Str × Addr)) (fp : List Addr), PTs (X.blk s H scope (compEnvC scope cl C X.env) fp) ifs (rdC g W0 mc))
    (he : ∀ (s : Shared) (H : Hp) (C : Addr) (cl : List (Str × Addr)) (fp : List Addr), PE (X.blk s H scope (compEnvC scope cl C X.env) fp) elt (rd g W0 me)) :
    ∃ (wi : TI) (gg : TG), PI X tg iter wi ∧ (∀ (s : Shared) (H : Hp) (C : Addr) (cl : List (Str × Addr)) (fp : List Addr), PG (X.blk s H scope (compEnvC scope cl C X.env) fp) tg gg) ∧
      ∀ σ H Q, (rdF g W fun ρ => M.bind (mi ρ) fun ds => if ds.length ≤ sizeLine then M.bind (compM (turnM t mc me (wipeR ρ (own.map (·.2)))) ds) fun r => M.pure (D.lst r) else fun _ => .stuck) σ H Q → tLc wi gg (rdC g W0 mc) (rd g W0 me) (own.map (·.2)) σ H Q := by
  obtain ⟨wi, pi, ki⟩ := hi
  -- one reading of the target for all blocks
  obtain ⟨gg, hgg, kg⟩ : ∃ gg : TG, (∀ (s : Shared) (H : Hp) (C : Addr) (cl : List (Str × Addr)) (fp : List Addr), PG (X.blk s H scope (compEnvC scope cl C X.env) fp) tg gg) ∧
      ∀ (v : V) (σ : L2.St) (H : Hp) (Q : L2.St → Hp → Prop) (T : Tg') (θ : List Addr) (ρ ρ' : Ro) (st : Sto) (d : D), SR g T θ H σ ρ st → Rep g.K g.fad T H d v → bindT t d ρ = some ρ' → (∀ σ', SR g T θ H σ' ρ' st → Off (tgN t) σ σ' → Q σ' H) → gg v σ H Q := by
    refine ⟨fun v σ H Q => ∃ T θ ρ ρ' st d, SR g T θ H σ ρ st ∧ Rep g.K g.fad T H d v ∧ bindT t d ρ = some ρ' ∧ (∀ σ', SR g T θ H σ' ρ' st → Off (tgN t) σ σ' → Q σ' H), fun s H C cl fp => ⟨fun pins s1 σ H1 v u Q I r ⟨T, θ, ρ, ρ', st, d, h1, h2, h3, h4⟩ => ?_⟩, fun v σ H Q T θ ρ ρ' st d h1 h2 h3 h4 => ⟨T, θ, ρ, ρ', st, d, h1, h2, h3, h4⟩⟩
    obtain ⟨g1, p1, k1⟩ := hg s H C cl fp
    exact p1.run pins s1 σ H1 v u Q I r (k1 v σ H1 Q T θ ρ ρ' st d h1 h2 h3 h4)
  refine ⟨wi, gg, pi, hgg, fun σ H Q q => ?_⟩
  obtain ⟨T, θ, ρ, st, r, p⟩ := q
  refine ki σ H _ ⟨T, θ, ρ, st, r, p.bind.mono fun ds st1 T1 θ1 H1 s1 w1 p1 J hJ => ?_⟩
  intro L hL
  -- what the comprehension comes to
  split at p1
  case isFalse => exact p1.elim
  rename_i hsz
  generalize hf : turnM t mc me (wipeR ρ (own.map (·.2))) = f at p1
  have p2 := p1.bind
  obtain ⟨rr, sf, hrun, p3⟩ : ∃ rr sf, compM f ds st1 = .ok rr sf ∧ ∀ T' θ' H', Stp T1 θ1 H1 T' θ' H' → WF g T' θ' H' sf → kF g Q (D.lst rr) sf T' θ' H' := by
    cases e : compM f ds st1 with
    | ok rr sf => rw [e] at p2; exact ⟨rr, sf, rfl, fun T' θ' H' s w => Po.pure (p2 T' θ' H' s w) w⟩
    | exc x s => exact absurd e compM_noexc
    | stuck => rw [e] at p2; exact p2.elim
  -- the turns
  let Inv' : Nat → Hp → Prop := fun i H' => ∃ T' θ' st' acc ad rest, Stp T1 θ1 H1 T' θ' H' ∧ WF g T' θ' H' st' ∧ T' L = .out ∧ H' L = some (.lst acc) ∧ RepL g.K g.fad T' H' ad acc ∧ ad.length ≤ i ∧ compM f (ds.drop i) st' = .ok rest sf ∧ ad ++ rest = rr
  refine ⟨fun i m H' => m = ds.length - i ∧ i ≤ ds.length ∧ Inv' i H', ⟨ds.length, by simp, Nat.zero_le _, ?_⟩, ?_⟩
  · exact ⟨updT T1 L .out, θ1, st1, [], [], rr, .new hL, w1.laid hL (fun _ z => nomatch z), updT_same, upd_same, .nil, Nat.le_refl _, by rw [List.drop_zero]; exact hrun, rfl⟩
  · rintro i m H' ⟨rfl, hi, T', θ', st', acc, ad, rest, s', w', tD, hL', rp, hl, hrest, hrr⟩
    by_cases hlt : i < ds.length
    · refine .inr ⟨hJ.go i T' θ' H' hlt s', Inv' (i + 1), fun H2 h2 => ⟨ds.length - (i + 1), by omega, rfl, hlt, h2⟩, fun x H2 hy => ?_⟩
      obtain ⟨T2, s2, w2, hx⟩ := hJ.yld i T' θ' H' st' x H2 hlt s' w' hy
      have hdi : ds[i]? = some ds[i] := List.getElem?_eq_getElem hlt
      have r2 : SR g T2 θ' H2 σ ρ st' := (r.stp (s1.trans (s'.trans s2))) w2
      rw [List.drop_eq_getElem_cons hlt] at hrest
      simp only [compM] at hrest
      split at hrest
      · rename_i o so e1
        split at hrest
        · rename_i r3 s3 e2
          cases hrest
          rw [← hf] at e1
          obtain ⟨ρ', kb, s0, b1, b2, b3⟩ := turnM_ok e1
          have live : H' L ≠ none := by rw [hL']; exact fun z => nomatch z
          have nc : ∀ {T'' : Tg'} , T'' L = Tag.out → ∀ n, T'' L ≠ .cell n := fun {T''} e n z => by rw [e] at z; cases z
          refine kg x _ H2 _ T2 θ' _ ρ' st' ds[i] (r2.wipe _) (hx _ hdi) b1 fun σ2 r4 off => ⟨wipe_off off hv, ?_⟩
          have t2D : T2 L = .out := (s2.tg L live).trans tD
          have h2D : H2 L = some (.lst acc) := (s2.hp L live (nc tD)).trans hL'
          refine ⟨T2, θ', ρ', st', r4, ?_⟩
          rw [b2]
          intro T3 θ3 H3 s3' w3
          have live2 : H2 L ≠ none := by rw [h2D]; exact fun z => nomatch z
          have t3D : T3 L = .out := (s3'.tg L live2).trans t2D
          have h3D : H3 L = some (.lst acc) := (s3'.hp L live2 (nc t2D)).trans h2D
          have rp3 : RepL g.K g.fad T3 H3 ad acc := (rp.ke (s2.ke w')).ke (s3'.ke w2)
          rcases b3 with ⟨rfl, y, b4, rfl⟩ | ⟨rfl, rfl, rfl⟩
          · simp only [if_true]
            refine ⟨T3, θ3, ρ', s0, r4.stp s3' w3, ?_⟩
            rw [b4]
            intro T4 θ4 H4 s4 w4 v hv'
            have live3 : H3 L ≠ none := by rw [h3D]; exact fun z => nomatch z
            have t4D : T4 L = .out := (s4.tg L live3).trans t3D
            have h4D : H4 L = some (.lst acc) := (s4.hp L live3 (nc t3D)).trans h3D
            have rp4 : RepL g.K g.fad T4 H4 ad acc := rp3.ke (s4.ke w3)
            have hal : acc.length < sizeLine := by
              rw [rp4.length]
              exact Nat.lt_of_le_of_lt hl (Nat.lt_of_lt_of_le hlt hsz)
            refine ⟨acc, h4D, hal, ?_⟩
            obtain ⟨k5, w5⟩ := out_put (o := some (.lst (acc ++ [v]))) w4 t4D
            have tot : Stp T1 θ1 H1 T4 θ4 H4 := ((s'.trans s2).trans s3').trans s4
            refine ⟨T4, θ4, so, acc ++ [v], ad ++ [y], r3, ⟨tot.tg, fun a z c => ?_, fun a z => ?_, tot.th⟩, w5, t4D, upd_same, ?_, ?_, e2, ?_⟩
            · exact (upd_ne (fun q => z (by rw [q]; exact hL))).trans (tot.hp a z c)
            · rw [show upd H4 L (.lst (acc ++ [v])) a = H4 a from upd_ne (fun q => z (by rw [q]; exact hL))]
              exact tot.live a z
            · exact (rp4.append (.cons hv' .nil)).ke k5
            · rw [List.length_append]; exact Nat.succ_le_succ hl
            · rw [List.append_assoc]; exact hrr
          · simp only [Bool.false_eq_true, if_false]
            exact ⟨T3, θ3, _, acc, ad, r3, (s'.trans s2).trans s3', w3, t3D, h3D, rp3, Nat.le_succ_of_le hl, e2, hrr⟩
        · cases hrest
      · cases hrest
    · have e : i = ds.length := by omega
      subst e
      refine .inl ⟨hJ.stop T' θ' H' s', ?_⟩
      rw [List.drop_length] at hrest
      simp only [compM] at hrest
      cases hrest
      rw [List.append_nil] at hrr
      subst hrr
      obtain ⟨k5, w5⟩ := out_put (o := none) w' tD
      have e0 : H' = upd (putH H' L none) L (.lst acc) := by
        funext a
        by_cases ha : a = L
        · subst ha; rw [upd_same]; exact hL'
        · rw [upd_ne ha, putH_ne ha]
      have s5 : Stp T1 θ1 H1 T' θ' (putH H' L none) := ⟨s'.tg, fun a z c => (putH_ne (fun q => z (by rw [q]; exact hL))).trans (s'.hp a z c), fun a z => by rw [putH_ne (fun q => z (by rw [q]; exact hL))]; exact s'.live a z, s'.th⟩
      rw [e0]
      exact p3 T' θ' _ s5 w5 acc L putH_same (rp.ke k5)
theorem pe_compD {elt tg iter : Expr} {ifs : List Expr} {scope : Scope} {own : List (Str × Nat)} {pos : Pos} {t : Tg} {mi : Ro → M (List D)} {mc : Ro → M Bool} {me : Ro → M D} (hc : X.calm = true) (hN : X.N.Nodup)
    (hi : PIt X g W tg iter .pk mi) (ok : BlkOk X.N X.env.scope scope own) (hv : ∀ i ∈ tgN t, i ∈ own.map (·.2))
    (hg : ∀ (s : Shared) (H : Hp) (C : Addr) (cl : List (Str × Addr)) (fp : List Addr), PGD (X.blk s H scope (compEnvC scope cl C X.env) fp) g t tg)
    (ht : ∀ (s : Shared) (H : Hp) (C : Addr) (cl : List (Str × Addr)) (fp : List Addr), PTs (X.blk s H scope (compEnvC scope cl C X.env) fp) ifs (rdC g W0 mc))
    (he : ∀ (s : Shared) (H : Hp) (C : Addr) (cl : List (Str × Addr)) (fp : List Addr), PE (X.blk s H scope (compEnvC scope cl C X.env) fp) elt (rd g W0 me)) (hs : ∀ x, foldedSetIterable iter X.env x = pure x) :
    PE X (.ListComp elt [⟨tg, iter, ifs, 0⟩] scope pos) (rdF g W fun ρ => M.bind (mi ρ) fun ds => if ds.length ≤ sizeLine then M.bind (compM (turnM t mc me (wipeR ρ (own.map (·.2)))) ds) fun r => M.pure (D.lst r) else fun _ => .stuck) := by
  obtain ⟨wi, gg, pi, hgg, k⟩ := compD_core (pos := pos) hc hN hi ok hv hg ht he
  exact PE_imp (pe_lc hc hN pi ok hgg ht he hs) k
end
end Z
set_option Elab.async false
set_option linter.all false
set_option maxRecDepth 100000
set_option maxHeartbeats 4000000
/-! Z13: the checker of expressions, what a context is to know. -/
namespace Z
open PySem PySem.Spec PyProof.Rows L2

/-- the names of the module: constants, functions, errors -/
structure Nm where
  cn : List Str
  fn : List Str
  xn : List Str
  /-- the errors' fields -/
  xf : List Str
/-- where an expression stands: the slots' names, the scope, the block whose own cells may be stored, calm, in a suite -/
structure Ce where
  N : List Str
  sc : Scope
  fs : Option Scope
  calm : Bool
  xs : Bool
def nameB (x : Str) : Bool := !(x == ("__debug__" : Str)) && !(x == ("__classdict__" : Str)) && !(x == ("__name__" : Str))
def visB (sc : Scope) (x : Str) : Bool := match sc.names.lookup x with
  | some .local => true
  | some .cell => true
  | some .free => true
  | _ => false
def glB (sc : Scope) (x : Str) : Bool := match sc.names.lookup x with
  | some .globalImplicit => true
  | _ => false
def fnB (c : Ce) (x : Str) : Bool := match c.fs with
  | none => true
  | some s => s.names.lookup x == some .cell
def storeB (c : Ce) (x : Str) : Bool := match c.sc.names.lookup x with
  | some .local => true
  | some .cell => fnB c x
  | _ => false
def slotB (c : Ce) (i : Nat) (x : Str) : Bool := decide (c.N[i]? = some x) && visB c.sc x && nameB x
def ownL (N : List Str) (vs : List Nat) : List (Str × Nat) := vs.filterMap fun i => match N[i]? with
  | some x => some (x, i)
  | none => none
mutual
def chkT : Tg → Ce → Expr → Bool
  | .name i, c, x => match x with
    | .Name n _ => decide (c.N[i]? = some n) && storeB c n
    | _ => false
  | .tup ts, c, x => match x with
    | .Tuple xs _ _ => c.calm && chkTs ts c xs
    | _ => false
def chkTs : Tgs → Ce → List Expr → Bool
  | .nil, _, xs => match xs with
    | [] => true
    | _ => false
  | .cons t ts, c, xs => match xs with
    | x :: xs => chkT t c x && chkTs ts c xs
    | _ => false
end
/-- the block of a comprehension -/
def Ce.blk (c : Ce) (scope : Scope) : Ce := { c with sc := relS scope c.sc, fs := some scope }
variable (z : Nm)
mutual
def chkE : E → Ce → Expr → Bool
  | .var i, c, x => match x with
    | .Name n _ => slotB c i n
    | _ => false
  | .own i, c, x => match x with
    | .Name n _ => slotB c i n
    | _ => false
  | .non, _, x => match x with
    | .Constant .none _ _ => true
    | _ => false
  | .bl b, _, x => match x with
    | .Constant (.bool b') _ _ => b == b'
    | _ => false
  | .int i, _, x => match x with
    | .Constant (.int j) _ _ => decide (i = j)
    | _ => false
  | .str s, _, x => match x with
    | .Constant (.str t) _ _ => decide (s = t)
    | _ => false
  | .glob k, c, x => match x with
    | .Name n _ => decide (z.cn[k]? = some n) && glB c.sc n && nameB n
    | _ => false
  | .fnv k, c, x => match x with
    | .Name n _ => decide (z.fn[k]? = some n) && glB c.sc n && nameB n && c.calm
    | _ => false
  | .bin op a b, c, x => match x with
    | .BinOp x o y _ => decide (o = op.py) && chkE a c x && chkE b c y
    | _ => false
  | .neg a, c, x => match x with
    | .UnaryOp .USub x _ => chkE a c x
    | _ => false
  | .cmp op a b, c, x => match x with
    | .Compare x [o] [y] _ => decide (o = op.py) && !behindInMarks op.py y && chkE a c x && chkE b c y
    | _ => false
  | .chain op op' a b d, c, x => match x with
    | .Compare x [o, o'] [y, w] _ => decide (o = op.py) && decide (o' = op'.py) && !lastMarks [op.py, op'.py] [y, w] && chkE a c x && chkE b c y && chkE d c w
    | _ => false
  | .isN a, c, x => match x with
    | .Compare x [.Is] [.Constant .none _ _] _ => chkE a c x
    | _ => false
  | .notN a, c, x => match x with
    | .Compare x [.IsNot] [.Constant .none _ _] _ => chkE a c x
    | _ => false
  | .conj es, c, x => match x with
    | .BoolOp .And (x :: xs) _ => chkEs es c (x :: xs)
    | _ => false
  | .disj es, c, x => match x with
    | .BoolOp .Or (x :: xs) _ => chkEs es c (x :: xs)
    | _ => false
  | .not a, c, x => match x with
    | .UnaryOp .Not x _ => chkE a c x
    | _ => false
  | .ite a b d, c, x => match x with
    | .IfExp x y w _ => chkE a c x && chkE b c y && chkE d c w
    | _ => false
  | .tup es, c, x => match x with
    | .Tuple xs _ _ => xs.all aloneE && chkEs es c xs
    | _ => false
  | .lst es, c, x => match x with
    | .List xs _ => xs.all aloneE && chkEs es c xs
    | _ => false
  | .newc es, c, x => match x with
    | .List xs _ => xs.all aloneE && chkEs es c xs
    | _ => false
  | .ix a b, c, x => match x with
    | .Subscript x y _ => ixE y && chkE a c x && chkE b c y
    | _ => false
  | .sl a lo hi, c, x => match x with
    | .Subscript x (.Slice l h none _) _ => chkE a c x && chkO lo c l && chkO hi c h
    | _ => false
  | .call f es, c, x => match x with
    | .Call (.Name n _) xs [] _ => decide (z.fn[f]? = some n) && glB c.sc n && nameB n && c.calm && xs.all aloneE && chkEs es c xs
    | _ => false
  | .callv f es, c, x => match x with
    | .Call y xs [] _ => calE y && c.calm && xs.all aloneE && chkE f c y && chkEs es c xs
    | _ => false
  | .bi f es, c, x => match x with
    | .Call (.Name n _) (y :: xs) [] _ => decide (n = f.name) && glB c.sc n && c.calm && (y :: xs).all aloneE && chkEs es c (y :: xs)
    | _ => false
  | .isi a ty, c, x => match x with
    | .Call (.Name n _) [y, .Name t _] [] _ => decide (n = ("isinstance" : Str)) && glB c.sc n && decide (t = ty.name) && glB c.sc t && aloneE y && chkE a c y
    | _ => false
  | .sindex a b, c, x => match x with
    | .Call (.Attribute x m apos) [y] [] cpos => decide (m = ("index" : Str)) && baseE x && (apos.endLine == cpos.line) && aloneE y && chkE a c x && chkE b c y
    | _ => false
  | .comp vs t it cd e, c, x => match x with
    | .ListComp elt [⟨tg, iter, ifs, as⟩] scope _ => decide (as = 0) && c.calm && !c.xs && blkC c.N c.sc scope (ownL c.N vs) && decide ((ownL c.N vs).map (·.2) = vs) && (tgN t).all (fun i => decide (i ∈ vs)) && foldE iter &&
        chkIt it c tg iter && chkT t (c.blk scope) tg && chkC cd (c.blk scope) ifs && chkE e (c.blk scope) elt
    | _ => false
  | .exf i f, c, x => match x with
    | .Attribute (.Name n _) m _ => c.xs && slotB c i n && decide (m = f) && decide (f ∈ z.xf)
    | _ => false
  | .exi i k, c, x => match x with
    | .Call (.Name n _) [.Name y _, .Name t _] [] _ => c.xs && decide (n = ("isinstance" : Str)) && glB c.sc n && slotB c i y && decide (z.xn[k]? = some t) && glB c.sc t && nameB t
    | _ => false
  | .exv i, c, x => match x with
    | .Call (.Name n _) [.Name y _, .Name t _] [] _ => c.xs && decide (n = ("isinstance" : Str)) && glB c.sc n && slotB c i y && decide (t = ("ValueError" : Str)) && glB c.sc t
    | _ => false
  | .callx f i, c, x => match x with
    | .Call (.Name n _) [.Name y _] [] _ => c.xs && decide (z.fn[f]? = some n) && glB c.sc n && nameB n && slotB c i y
    | _ => false
def chkEs : Es → Ce → List Expr → Bool
  | .nil, _, xs => match xs with
    | [] => true
    | _ => false
  | .cons e es, c, xs => match xs with
    | x :: xs => chkE e c x && chkEs es c xs
    | _ => false
def chkO : O → Ce → Option Expr → Bool
  | .none, _, x => match x with
    | none => true
    | _ => false
  | .some e, c, x => match x with
    | some x => chkE e c x
    | _ => false
/-- a comprehension's test -/
def chkC : O → Ce → List Expr → Bool
  | .none, _, xs => match xs with
    | [] => true
    | _ => false
  | .some e, c, xs => match xs with
    | [x] => chkE e c x
    | _ => false
def chkIt : It → Ce → Expr → Expr → Bool
  | .seq e, c, _, x => chkE e c x
  | .rng1 a, c, _, x => match x with
    | .Call (.Name n _) [y] [] _ => decide (n = ("range" : Str)) && glB c.sc n && aloneE y && chkE a c y
    | _ => false
  | .rng2 a b, c, _, x => match x with
    | .Call (.Name n _) [y, w] [] _ => decide (n = ("range" : Str)) && glB c.sc n && aloneE y && aloneE w && chkE a c y && chkE b c w
    | _ => false
  | .enum e, c, tg, x => match tg with
    | .Tuple _ _ _ => match x with
      | .Call (.Name n _) [y] [] _ => decide (n = ("enumerate" : Str)) && glB c.sc n && aloneE y && chkE e c y
      | _ => false
    | _ => false
  | .zip a b, c, tg, x => match tg with
    | .Tuple _ _ _ => match x with
      | .Call (.Name n _) [y, w] [] _ => decide (n = ("zip" : Str)) && glB c.sc n && aloneE y && aloneE w && chkE a c y && chkE b c w
      | _ => false
    | _ => false
end

/-- the built-ins that a text may name -/
def biNames : List Str := ["len", "abs", "max", "min", "int", "str", "repr", "tuple", "list", "sum", "all", "any", "bool", "isinstance", "ValueError", "range", "enumerate", "zip", "super"]
/-- what is told of a context -/
structure Cok (Γ : G) (z : Nm) (g : GC) (W : WX) (c : Ce) (X : Cx) : Prop where
  hK : X.K = g.K
  hN : X.N = c.N
  nd : c.N.Nodup
  sc : X.env.scope = c.sc
  fs : ∀ x, fnB c x = true → X.fn x = true
  calm : c.calm = true → X.calm = true
  guards : X.A.guards = some []
  units : X.A.units + 200 < cLine
  tk : Takes X W
  bi : ∀ x ∈ biNames, X.mg x = none
  cst : ∀ i x d, z.cn[i]? = some x → Γ.cst i = some d → ∃ u v, X.mg x = some u ∧ RelV v u ∧ Rep g.K g.fad (fun _ => .no) (fun _ => none) d v
  fns : c.calm = true → ∀ i x n m, z.fn[i]? = some x → Γ.fns i = some (n, m) → ∃ f, X.mg x = some (.ref f) ∧ g.fad i = some f
  fat : c.calm = true → ∀ i n m f, Γ.fns i = some (n, m) → g.fad i = some f → FnAt X g f n m
  fnx : c.calm = true → ∀ i x m, z.fn[i]? = some x → Γ.fxs i = some m → ∃ f, X.mg x = some (.ref f) ∧ g.fad i = some f
  fax : c.calm = true → ∀ i m f, Γ.fxs i = some m → g.fad i = some f → FxAt X g f m
  exf : c.xs = true → ∀ i x f p pos, slotB c i x = true → f ∈ z.xf → PE X (.Attribute (.Name x p) f pos) (rd g W fun ρ s => match ρ[i]? with
    | some (.ex v) => match v.fs.lookup f with
      | some d => .ok d s
      | none => .stuck
    | _ => .stuck)
  exi : c.xs = true → ∀ i k x t p p2 p3 pos, slotB c i x = true → z.xn[k]? = some t → glB c.sc t = true → nameB t = true → glB c.sc "isinstance" = true →
    PE X (.Call (.Name "isinstance" p) [.Name x p2, .Name t p3] [] pos) (rd g W fun ρ s => match ρ[i]? with
    | some (.ex v) => match Γ.sup v.cls k with
      | some b => .ok (.bl b) s
      | none => .stuck
    | _ => .stuck)
  exv : c.xs = true → ∀ i x p p2 p3 pos, slotB c i x = true → glB c.sc "ValueError" = true → glB c.sc "isinstance" = true →
    PE X (.Call (.Name "isinstance" p) [.Name x p2, .Name "ValueError" p3] [] pos) (rd g W fun ρ s => match ρ[i]? with
    | some (.ex _) => .ok (.bl true) s
    | _ => .stuck)
  exg : c.xs = true → ∀ i f x t p p2 pos, slotB c i x = true → z.fn[f]? = some t → glB c.sc t = true → nameB t = true →
    PE X (.Call (.Name t p) [.Name x p2] [] pos) (rd g W fun ρ s => match ρ[i]? with
    | some (.ex v) => match Γ.fxs f with
      | some m => m v s
      | none => .stuck
    | _ => .stuck)
section
variable {z : Nm} {Γ : G} {g : GC} {W : WX} {c : Ce} {X : Cx}
theorem nameB_d {x : Str} (h : nameB x = true) : (x == ("__debug__" : Str)) = false ∧ (x == ("__classdict__" : Str)) = false ∧ x ≠ "__name__" := by
  unfold nameB at h
  simp only [Bool.and_eq_true, Bool.not_eq_true'] at h
  exact ⟨h.1.1, h.1.2, fun e => by rw [e] at h; simp at h⟩
theorem Cok.vis (C : Cok Γ z g W c X) {x : Str} (h : visB c.sc x = true) : Vis X.env.scope x := by
  rw [C.sc]
  unfold visB at h
  split at h <;> first | exact .inl (by assumption) | exact .inr (.inl (by assumption)) | exact .inr (.inr (by assumption)) | cases h
theorem Cok.gl (C : Cok Γ z g W c X) {x : Str} (h : glB c.sc x = true) : Gl X x := by
  unfold glB at h
  split at h
  · show X.env.scope.names.lookup x = _
    rw [C.sc]
    assumption
  · cases h
theorem Cok.store (C : Cok Γ z g W c X) {x : Str} (h : storeB c x = true) : Loc X.env.scope x ∧ (X.fn x = true ∨ X.env.scope.names.lookup x = some .local) := by
  rw [C.sc]
  unfold storeB at h
  split at h
  · exact ⟨.inl (by assumption), .inr (by assumption)⟩
  · exact ⟨.inr (by assumption), .inl (C.fs x h)⟩
  · cases h
/-- a block's context -/
theorem Cok.blk (C : Cok Γ z g W c X) (hx : c.xs = false) (scope : Scope) (s : Shared) (H : Hp) (A : Addr) (cl : List (Str × Addr)) (fp : List Addr) : Cok Γ z g W0 (c.blk scope) (X.blk s H scope (compEnvC scope cl A X.env) fp) where
  hK := C.hK
  hN := C.hN
  nd := C.nd
  sc := by
    show relabel scope X.env = relS scope c.sc
    rw [← C.sc]
    rfl
  fs := fun x h => h
  calm := C.calm
  guards := C.guards
  units := C.units
  tk := takes0
  bi := C.bi
  cst := C.cst
  fns := C.fns
  fat := C.fat
  exf := fun h => by rw [show (c.blk scope).xs = c.xs from rfl, hx] at h; cases h
  exi := fun h => by rw [show (c.blk scope).xs = c.xs from rfl, hx] at h; cases h
  fnx := C.fnx
  fax := C.fax
  exv := fun h => by rw [show (c.blk scope).xs = c.xs from rfl, hx] at h; cases h
  exg := fun h => by rw [show (c.blk scope).xs = c.xs from rfl, hx] at h; cases h
/-- an expression that makes what it answers anew (a list) -/
def freshE : E → Bool
  | .bin _ _ _ => true
  | .lst _ => true
  | .sl _ _ _ => true
  | .bi _ _ => true
  | .comp _ _ _ _ _ => true
  | .ite _ a b => freshE a && freshE b
  | _ => false
/-- what is shown of an expression -/
structure OKE (Γ : G) (g : GC) (W : WX) (X : Cx) (e : E) (x : Expr) : Prop where
  pe : PE X x (rd g W (ev Γ e .val))
  fr : freshE e = true → PE X x (rdF g W (ev Γ e .val))
  pk : PE X x (rdP g W (ev Γ e .pk))
  pt : PT X x (rdT g W (ev Γ e .tst))
theorem OKE.rel {e : E} {x : Expr} (h : OKE Γ g W X e x) : ∀ md : Md, md ≠ .tst → PE X x (rdR g W (relM md) (ev Γ e md))
  | .val, _ => h.pe
  | .pk, _ => h.pk
  | .tst, h => absurd rfl h
/-- most forms: by its value -/
theorem okE_new {e : E} {x : Expr} {m : Ro → M D} (hK : X.K = g.K) (h : PE X x (rdF g W m)) (hv : ev Γ e .val = m) (hp : ev Γ e .pk = m) (ht : ev Γ e .tst = fun ρ => M.bind (m ρ) fun d => M.opt ((truthD d).map D.bl)) (hx : tstE x = true) : OKE Γ g W X e x :=
  ⟨by rw [hv]; exact pe_rd h, fun _ => by rw [hv]; exact h, by rw [hp]; exact pe_rdP (pe_rd h), by rw [ht]; exact tst_pk hK (pe_rdP (pe_rd h)) hx⟩
theorem okE_old {e : E} {x : Expr} {m : Ro → M D} (hK : X.K = g.K) (h : PE X x (rd g W m)) (hv : ev Γ e .val = m) (hp : ev Γ e .pk = m) (ht : ev Γ e .tst = fun ρ => M.bind (m ρ) fun d => M.opt ((truthD d).map D.bl)) (hx : tstE x = true) (nf : freshE e = false) : OKE Γ g W X e x :=
  ⟨by rw [hv]; exact h, fun z => (by rw [nf] at z; cases z), by rw [hp]; exact pe_rdP h, by rw [ht]; exact tst_pk hK (pe_rdP h) hx⟩
theorem okE_tst {e : E} {x : Expr} {m : Ro → M D} (h : PE X x (rd g W m)) (t : PT X x (rdT g W (ev Γ e .tst))) (hv : ev Γ e .val = m) (hp : ev Γ e .pk = m) (nf : freshE e = false) : OKE Γ g W X e x :=
  ⟨by rw [hv]; exact h, fun z => (by rw [nf] at z; cases z), by rw [hp]; exact pe_rdP h, t⟩
theorem pe_iteV {c a b : Expr} {pos : Pos} {mc ma mb : Ro → M D} (hc : PT X c (rdT g W mc)) (ha : PE X a (rd g W ma)) (hb : PE X b (rd g W mb)) : PE X (.IfExp c a b pos) (rd g W fun ρ => ifB (mc ρ) (ma ρ) (mb ρ)) := by
  refine PE_imp (pe_ifExp hc ha hb) fun σ H Q q => ?_
  refine rdT_ifB (t := ma) (e := mb) q fun k T θ H' ρ st r p => ?_
  cases k
  · exact ⟨T, θ, ρ, st, r, p⟩
  · exact ⟨T, θ, ρ, st, r, p⟩
/-! ### rows -/
def OKEs (Γ : G) (g : GC) (W : WX) (X : Cx) : Es → List Expr → Prop
  | .nil, xs => xs = []
  | .cons e es, xs => ∃ x ys, xs = x :: ys ∧ OKE Γ g W X e x ∧ OKEs Γ g W X es ys
theorem pa_of : ∀ {es : Es} {xs : List Expr} {md : Md}, md ≠ .tst → OKEs Γ g W X es xs → xs.all aloneE = true → PA X xs (rdA g W (relM md) (evEs Γ es md))
  | .nil, _, md, _, h, _ => by
    have e : _ = [] := h
    subst e
    exact pa_nilD
  | .cons e es, _, md, hm, h, al => by
    obtain ⟨x, ys, rfl, h1, h2⟩ := h
    simp only [List.all_cons, Bool.and_eq_true] at al
    exact pa_consD (h1.rel md hm) (pa_of hm h2 al.2) al.1
theorem nil_of {es : Es} {xs : List Expr} {md : Md} (h : OKEs Γ g W X es xs) : xs = [] → evEs Γ es md = fun _ s => .ok [] s := by
  intro e'
  cases es with
  | nil => rfl
  | cons e es =>
    obtain ⟨x, ys, e2, _⟩ := h
    rw [e'] at e2
    cases e2
theorem pw_and_of {pos : Pos} : ∀ {es : Es} {e : E} {x : Expr} {xs : List Expr}, OKE Γ g W X e x → OKEs Γ g W X es xs → PW X (.BoolOp .And (x :: xs) pos) (rdT g W (evAndT Γ (.cons e es)))
  | .nil, e, x, _, h, hs => by
    have e0 : _ = [] := hs
    subst e0
    exact pw_and1D h.pt
  | .cons e2 es, e, x, _, h, hs => by
    obtain ⟨y, ys, rfl, h1, h2⟩ := hs
    exact pw_andD h.pt (pw_and_of h1 h2)
theorem pw_or_of {pos : Pos} : ∀ {es : Es} {e : E} {x : Expr} {xs : List Expr}, OKE Γ g W X e x → OKEs Γ g W X es xs → PW X (.BoolOp .Or (x :: xs) pos) (rdT g W (evOrT Γ (.cons e es)))
  | .nil, e, x, _, h, hs => by
    have e0 : _ = [] := hs
    subst e0
    exact pw_or1D h.pt
  | .cons e2 es, e, x, _, h, hs => by
    obtain ⟨y, ys, rfl, h1, h2⟩ := hs
    exact pw_orD h.pt (pw_or_of h1 h2)
theorem pe_and_of {pos : Pos} (hK : X.K = g.K) : ∀ {es : Es} {e : E} {x : Expr} {xs : List Expr}, OKE Γ g W X e x → OKEs Γ g W X es xs → PE X (.BoolOp .And (x :: xs) pos) (rd g W (evAnd Γ (.cons e es)))
  | .nil, e, x, _, h, hs => by
    have e0 : _ = [] := hs
    subst e0
    exact pe_one h.pe
  | .cons e2 es, e, x, _, h, hs => by
    obtain ⟨y, ys, rfl, h1, h2⟩ := hs
    exact pe_andD hK h.pe (pe_and_of hK h1 h2)
theorem pe_or_of {pos : Pos} (hK : X.K = g.K) : ∀ {es : Es} {e : E} {x : Expr} {xs : List Expr}, OKE Γ g W X e x → OKEs Γ g W X es xs → PE X (.BoolOp .Or (x :: xs) pos) (rd g W (evOr Γ (.cons e es)))
  | .nil, e, x, _, h, hs => by
    have e0 : _ = [] := hs
    subst e0
    exact pe_one h.pe
  | .cons e2 es, e, x, _, h, hs => by
    obtain ⟨y, ys, rfl, h1, h2⟩ := hs
    exact pe_orD hK h.pe (pe_or_of hK h1 h2)
/-! ### targets -/
theorem assign_of {t : Tg} {c : Ce} {e : Expr} {es : List Expr} {env : Env} (h : chkT t c e = true) : assignEach (e :: es) env = (false, assign e env) :: assignEach es env := by
  cases t with
  | name i =>
    unfold chkT at h
    split at h
    · rfl
    · cases h
  | tup ts =>
    unfold chkT at h
    split at h
    · rfl
    · cases h
theorem assigns_of {env : Env} {c : Ce} : ∀ {ts : Tgs} {es : List Expr}, chkTs ts c es = true → (assignEach es env).length = es.length ∧ (assignEach es env).findIdx? (·.1) = none
  | .nil, es, h => by
    unfold chkTs at h
    split at h
    · exact ⟨rfl, rfl⟩
    · cases h
  | .cons t ts, es, h => by
    unfold chkTs at h
    split at h
    · rename_i x xs
      simp only [Bool.and_eq_true] at h
      obtain ⟨h1, h2⟩ := assigns_of (env := env) h.2
      rw [assign_of h.1]
      exact ⟨by simp [h1], by simp [List.findIdx?_cons, h2]⟩
    · cases h
theorem binds_len {c : Ce} : ∀ {ts : Tgs} {es : List Expr}, chkTs ts c es = true → ∀ ds ρ ρ', bindTs ts ds ρ = some ρ' → ds.length = es.length
  | .nil, es, h => by
    unfold chkTs at h
    split at h
    · intro ds ρ ρ' e
      cases ds with
      | nil => rfl
      | cons d ds => simp [bindTs] at e
    · cases h
  | .cons t ts, es, h => by
    unfold chkTs at h
    split at h
    · rename_i x xs
      simp only [Bool.and_eq_true] at h
      intro ds ρ ρ' e
      cases ds with
      | nil => simp [bindTs] at e
      | cons d ds =>
        simp only [bindTs] at e
        split at e
        · rename_i ρ1 e1
          have := binds_len h.2 ds ρ1 ρ' e
          simp [this]
        · cases e
    · cases h
mutual
theorem okT (C : Cok Γ z g W c X) : ∀ {t : Tg} {x : Expr}, chkT t c x = true → PGD X g t x
  | .name i, x, h => by
    unfold chkT at h
    split at h
    · simp only [Bool.and_eq_true, decide_eq_true_eq] at h
      obtain ⟨h1, h2⟩ := C.store h.2
      exact pgd_name (by rw [C.hN]; exact C.nd) (by rw [C.hN]; exact h.1) h1 h2
    · cases h
  | .tup ts, x, h => by
    unfold chkT at h
    split at h
    · simp only [Bool.and_eq_true] at h
      obtain ⟨h1, h2⟩ := assigns_of (env := X.env) h.2
      exact pgd_tup (C.calm h.1) C.hK (okTs C h.2) (binds_len h.2) h1 h2
    · cases h
theorem okTs (C : Cok Γ z g W c X) : ∀ {ts : Tgs} {xs : List Expr}, chkTs ts c xs = true → PGsD X g ts xs
  | .nil, xs, h => by
    unfold chkTs at h
    split at h
    · exact pgsd_nil
    · cases h
  | .cons t ts, xs, h => by
    unfold chkTs at h
    split at h
    · simp only [Bool.and_eq_true] at h
      refine pgsd_cons (okT C h.1) (okTs C h.2) ?_
      rw [assign_of h.1]
      rfl
    · cases h
end
end
end Z
set_option Elab.async false
set_option linter.all false
set_option maxRecDepth 100000
set_option maxHeartbeats 8000000
/-! Z14: an expression that the checker passes comes to what its compact form comes to. -/
namespace Z
open PySem PySem.Spec PyProof.Rows L2

section
variable {z : Nm} {Γ : G} {g : GC}
def OKO (Γ : G) (g : GC) (W : WX) (X : Cx) (o : O) (x : Option Expr) : Prop := PO X x (rdO g W (evO Γ o))
def OKC (Γ : G) (g : GC) (W : WX) (X : Cx) (o : O) (xs : List Expr) : Prop := PTs X xs (rdC g W (evC Γ o))
theorem okC_some {W : WX} {X : Cx} {e : E} {x : Expr} (h : OKE Γ g W X e x) : OKC Γ g W X (.some e) [x] := by
  refine ⟨fun pins s σ H Q I q => (pts_one h.pt).run pins s σ H Q I ?_⟩
  refine rdT_ifB (m := ev Γ e .tst) (t := fun _ => M.pure true) (e := fun _ => M.pure false) q fun b T θ H' ρ st r p => ?_
  cases b
  · exact Po.pure (a := false) p r.wf
  · exact Po.pure (a := true) p r.wf
theorem okC_none {W : WX} {X : Cx} : OKC Γ g W X .none [] := by
  refine ⟨fun pins s σ H Q I q => pts_nil.run pins s σ H Q I ?_⟩
  obtain ⟨T, θ, ρ, st, r, p⟩ := q
  exact p T θ H .refl r.wf
mutual
theorem okE {W : WX} {c : Ce} {X : Cx} (C : Cok Γ z g W c X) : ∀ {e : E} {x : Expr}, chkE z e c x = true → OKE Γ g W X e x
  | .var i, x, h => by
    unfold chkE at h
    split at h
    · unfold slotB at h
      simp only [Bool.and_eq_true, decide_eq_true_eq] at h
      obtain ⟨n1, n2, n3⟩ := nameB_d h.2
      exact okE_old C.hK (pe_varD (by rw [C.hN]; exact h.1.1) (C.vis h.1.2) n1 n2) rfl rfl rfl rfl rfl
    · cases h
  | .own i, x, h => by
    unfold chkE at h
    split at h
    · unfold slotB at h
      simp only [Bool.and_eq_true, decide_eq_true_eq] at h
      obtain ⟨n1, n2, n3⟩ := nameB_d h.2
      have pk := pe_ownD (g := g) (W := W) (pos := by assumption) (by rw [C.hN]; exact h.1.1) (C.vis h.1.2) n1 n2
      exact ⟨⟨fun pins s σ H Q I q => by obtain ⟨T, θ, ρ, st, r, p⟩ := q; exact p.elim⟩, fun y => (by cases y), pk, tst_pk C.hK pk rfl⟩
    · cases h
  | .non, x, h => by
    unfold chkE at h
    split at h
    · exact okE_old C.hK (pe_told pe_non fun _ _ => mkNon) rfl rfl rfl rfl rfl
    · cases h
  | .bl b, x, h => by
    unfold chkE at h
    split at h
    · obtain rfl := eq_of_beq h
      exact okE_old C.hK (pe_told pe_bl fun _ _ => mkBl) rfl rfl rfl rfl rfl
    · cases h
  | .int i, x, h => by
    unfold chkE at h
    split at h
    · obtain rfl := of_decide_eq_true h
      exact okE_old C.hK (pe_told pe_int fun _ _ => mkInt) rfl rfl rfl rfl rfl
    · cases h
  | .str i, x, h => by
    unfold chkE at h
    split at h
    · obtain rfl := of_decide_eq_true h
      exact okE_old C.hK (pe_told pe_str fun _ _ => mkStr) rfl rfl rfl rfl rfl
    · cases h
  | .glob k, x, h => by
    unfold chkE at h
    split at h
    · simp only [Bool.and_eq_true, decide_eq_true_eq] at h
      obtain ⟨n1, n2, n3⟩ := nameB_d h.2
      refine okE_old C.hK (m := fun _ => M.opt (Γ.cst k)) ⟨fun pins s σ H Q I q => ?_⟩ rfl rfl rfl rfl rfl
      obtain ⟨T, θ, ρ, st, r, p⟩ := q
      obtain ⟨d, e, kk⟩ := p.opt r.wf
      obtain ⟨u, v, m1, m2, m3⟩ := C.cst k _ d h.1.1 e
      refine (pe_glob (C.gl h.1.2) m1 m2 n1).run pins s σ H Q I (kk T θ H .refl r.wf v ?_)
      exact Rep.ke (T := fun _ => .no) (H := fun _ => none) ⟨fun a (z : Tag.no = .fz) => (nomatch z), fun a n (z : Tag.no = .cell n) => (nomatch z)⟩ m3
    · cases h
  | .fnv k, x, h => by
    unfold chkE at h
    split at h
    · simp only [Bool.and_eq_true, decide_eq_true_eq] at h
      obtain ⟨n1, n2, n3⟩ := nameB_d h.1.2
      refine okE_old C.hK (m := fun _ s => match Γ.fns k with | some _ => .ok (.fn k) s | none => .stuck) ⟨fun pins s σ H Q I q => ?_⟩ rfl rfl rfl rfl rfl
      obtain ⟨T, θ, ρ, st, r, p⟩ := q
      dsimp only at p
      cases e : Γ.fns k with
      | some nm =>
        rw [e] at p
        obtain ⟨f, m1, m2⟩ := C.fns h.2 k _ nm.1 nm.2 h.1.1.1 e
        refine (pe_glob (v := .ref f) (C.gl h.1.1.2) m1 rfl n1).run pins s σ H Q I (p T θ H .refl r.wf (.ref f) ?_)
        show Rep _ _ _ _ _ _
        simp only [Rep]
        exact ⟨f, rfl, m2⟩
      | none => rw [e] at p; exact p.elim
    · cases h
  | .bin op a b, x, h => by
    unfold chkE at h
    split at h
    · simp only [Bool.and_eq_true, decide_eq_true_eq] at h
      obtain ⟨⟨rfl, h1⟩, h2⟩ := h
      obtain ⟨r, ho, hs⟩ := bin_ok (X := X) C.hK op
      exact okE_new C.hK (pe_binD ho hs (okE C h1).pe (okE C h2).pe) rfl rfl rfl rfl
    · cases h
  | .neg a, x, h => by
    unfold chkE at h
    split at h
    · exact okE_old C.hK (pe_negD (okE C h).pe) rfl rfl rfl rfl rfl
    · cases h
  | .cmp op a b, x, h => by
    unfold chkE at h
    split at h
    · simp only [Bool.and_eq_true, decide_eq_true_eq, Bool.not_eq_true'] at h
      obtain ⟨⟨⟨rfl, h0⟩, h1⟩, h2⟩ := h
      obtain ⟨p1, p2⟩ := pe_cmpD (op := op) (pos := by assumption) C.hK (by have := C.units; omega) h0 (okE C h1).pk (okE C h2).pk
      exact okE_tst p1 p2 rfl rfl rfl
    · cases h
  | .chain op op' a b d, x, h => by
    unfold chkE at h
    split at h
    · simp only [Bool.and_eq_true, decide_eq_true_eq, Bool.not_eq_true'] at h
      obtain ⟨⟨⟨⟨⟨rfl, rfl⟩, h0⟩, h1⟩, h2⟩, h3⟩ := h
      obtain ⟨p1, p2⟩ := pe_chainD (op := op) (op' := op') (pos := by assumption) C.hK (by have := C.units; omega) h0 (okE C h1).pe (okE C h2).pe (okE C h3).pe
      exact okE_tst p1 p2 rfl rfl rfl
    · cases h
  | .isN a, x, h => by
    unfold chkE at h
    split at h
    · rename_i x j p' p
      obtain ⟨p1, p2⟩ := pe_isND (j := j) (pos' := p') (pos := p) (okE C h).pe
      exact okE_tst p1 p2 rfl rfl rfl
    · cases h
  | .notN a, x, h => by
    unfold chkE at h
    split at h
    · rename_i x j p' p
      obtain ⟨p1, p2⟩ := pe_notND (j := j) (pos' := p') (pos := p) (okE C h).pe
      exact okE_tst p1 p2 rfl rfl rfl
    · cases h
  | .conj es, x, h => by
    unfold chkE at h
    split at h
    · have k := okEs C h
      cases es with
      | nil =>
        have e0 : _ = [] := k
        cases e0
      | cons e es =>
        obtain ⟨y, ys, e0, h1, h2⟩ := k
        cases e0
        exact okE_tst (pe_and_of C.hK h1 h2) (pw_and_of h1 h2).pt rfl rfl rfl
    · cases h
  | .disj es, x, h => by
    unfold chkE at h
    split at h
    · have k := okEs C h
      cases es with
      | nil =>
        have e0 : _ = [] := k
        cases e0
      | cons e es =>
        obtain ⟨y, ys, e0, h1, h2⟩ := k
        cases e0
        exact okE_tst (pe_or_of C.hK h1 h2) (pw_or_of h1 h2).pt rfl rfl rfl
    · cases h
  | .not a, x, h => by
    unfold chkE at h
    split at h
    · exact okE_tst (pe_notD C.hK (okE C h).pk) (pt_notD (okE C h).pt) rfl rfl rfl
    · cases h
  | .ite a b d, x, h => by
    unfold chkE at h
    split at h
    · simp only [Bool.and_eq_true] at h
      have o1 := okE C h.1.1
      have o2 := okE C h.1.2
      have o3 := okE C h.2
      refine ⟨pe_iteV o1.pt o2.pe o3.pe, fun y => ?_, pe_rdP (pe_iteV o1.pt o2.pe o3.pe), pt_iteD o1.pt o2.pt o3.pt⟩
      have y' : (freshE b && freshE d) = true := y
      rw [Bool.and_eq_true] at y'
      exact pe_iteD o1.pt (o2.fr y'.1) (o3.fr y'.2)
    · cases h
  | .tup es, x, h => by
    unfold chkE at h
    split at h
    · simp only [Bool.and_eq_true] at h
      exact okE_old C.hK (pe_tupD (pa_of (fun y => nomatch y) (okEs C h.2) h.1)) rfl rfl rfl rfl rfl
    · cases h
  | .lst es, x, h => by
    unfold chkE at h
    split at h
    · simp only [Bool.and_eq_true] at h
      exact okE_new C.hK (pe_lstD (pa_of (fun y => nomatch y) (okEs C h.2) h.1)) rfl rfl rfl rfl
    · cases h
  | .newc es, x, h => by
    unfold chkE at h
    split at h
    · simp only [Bool.and_eq_true] at h
      exact okE_old C.hK (pe_newcD (pa_of (fun y => nomatch y) (okEs C h.2) h.1)) rfl rfl rfl rfl rfl
    · cases h
  | .ix a b, x, h => by
    unfold chkE at h
    split at h
    · simp only [Bool.and_eq_true] at h
      exact okE_old C.hK (pe_ixD C.hK h.1.1 (okE C h.1.2).pk (okE C h.2).pe) rfl rfl rfl rfl rfl
    · cases h
  | .sl a lo hi, x, h => by
    unfold chkE at h
    split at h
    · simp only [Bool.and_eq_true] at h
      exact okE_new C.hK (pe_slD C.hK (okE C h.1.1).pk (okO C h.1.2) (okO C h.2)) rfl rfl rfl rfl
    · cases h
  | .call f es, x, h => by
    unfold chkE at h
    split at h
    · simp only [Bool.and_eq_true, decide_eq_true_eq] at h
      obtain ⟨⟨⟨⟨⟨h1, h2⟩, h3⟩, h4⟩, h5⟩, h6⟩ := h
      obtain ⟨n1, n2, n3⟩ := nameB_d h3
      have k := okEs C h6
      have al : ∀ e ∈ _, aloneE e = true := List.all_eq_true.mp h5
      refine okE_old C.hK (m := fun ρ => match Γ.fns f with
        | some (n, m) => M.bind (evEs Γ es .val ρ) fun ds => if ds.length = n then m ds else fun _ => .stuck
        | none => fun _ => .stuck) ?_ rfl rfl rfl rfl rfl
      cases e : Γ.fns f with
      | some nm =>
        obtain ⟨fa, m1, m2⟩ := C.fns h4 f _ nm.1 nm.2 h1 e
        exact pe_callD (C.gl h2) m1 n1 (C.fat h4 f nm.1 nm.2 fa e m2) C.guards C.tk (pa_of (fun y => nomatch y) k h5) (nil_of k) al
      | none => exact ⟨fun pins s σ H Q I q => by obtain ⟨T, θ, ρ, st, r, p⟩ := q; exact p.elim⟩
    · cases h
  | .callv f es, x, h => by
    unfold chkE at h
    split at h
    · simp only [Bool.and_eq_true] at h
      obtain ⟨⟨⟨⟨h1, h2⟩, h3⟩, h4⟩, h5⟩ := h
      have k := okEs C h5
      exact okE_old C.hK (pe_callvD (fns := Γ.fns) h1 (okE C h4).pe (fun i n m fa e1 e2 => C.fat h2 i n m fa e1 e2) C.guards C.tk (pa_of (fun y => nomatch y) k h3) (nil_of k) (List.all_eq_true.mp h3)) rfl rfl rfl rfl rfl
    · cases h
  | .bi f es, x, h => by
    unfold chkE at h
    split at h
    · simp only [Bool.and_eq_true, decide_eq_true_eq] at h
      obtain ⟨⟨⟨⟨rfl, h2⟩, h3⟩, h4⟩, h5⟩ := h
      have k := okEs C h5
      have hb : f.name ∈ biNames := by cases f <;> decide
      exact okE_new C.hK (pe_biD C.hK (C.calm h3) C.guards C.units (C.gl h2) (C.bi _ hb) (pa_of (md := .pk) (fun y => nomatch y) k h4) (List.all_eq_true.mp h4)) rfl rfl rfl rfl
    · cases h
  | .isi a ty, x, h => by
    unfold chkE at h
    split at h
    · simp only [Bool.and_eq_true, decide_eq_true_eq] at h
      obtain ⟨⟨⟨⟨⟨rfl, h2⟩, rfl⟩, h4⟩, h5⟩, h6⟩ := h
      exact okE_old C.hK (pe_isiD C.hK (C.gl h2) (C.bi _ (by decide)) (C.gl h4) (C.bi _ (by cases ty <;> decide)) (okE C h6).pe h5) rfl rfl rfl rfl rfl
    · cases h
  | .sindex a b, x, h => by
    unfold chkE at h
    split at h
    · simp only [Bool.and_eq_true, decide_eq_true_eq] at h
      obtain ⟨⟨⟨⟨⟨rfl, h2⟩, h3⟩, h4⟩, h5⟩, h6⟩ := h
      exact okE_old C.hK (pe_sindexD h2 h3 h4 (okE C h5).pe (okE C h6).pe) rfl rfl rfl rfl rfl
    · cases h
  | .comp vs t it cd e, x, h => by
    unfold chkE at h
    split at h
    · rename_i elt tg iter ifs as scope pos
      simp only [Bool.and_eq_true, decide_eq_true_eq, List.all_eq_true] at h
      obtain ⟨⟨⟨⟨⟨⟨⟨⟨⟨⟨rfl, h1⟩, hx⟩, h2⟩, h3⟩, h4⟩, h5⟩, h6⟩, h7⟩, h8⟩, h9⟩ := h
      have hx : c.xs = false := by simpa using hx
      have go := pe_compD (pos := pos) (C.calm h1) (by rw [C.hN]; exact C.nd) (okIt C (md := .pk) (fun y => nomatch y) h6) (by rw [C.hN, C.sc]; exact blkOk_by h2) (by rw [h3]; exact h4) (fun s H A cl fp => okT (C.blk hx scope s H A cl fp) h7)
        (fun s H A cl fp => okC (C.blk hx scope s H A cl fp) h8) (fun s H A cl fp => (okE (C.blk hx scope s H A cl fp) h9).pe) (fold_of h5)
      rw [h3] at go
      exact okE_new C.hK go rfl rfl rfl rfl
    · cases h
  | .exf i f, x, h => by
    unfold chkE at h
    split at h
    · simp only [Bool.and_eq_true, decide_eq_true_eq] at h
      obtain ⟨⟨⟨h1, h2⟩, rfl⟩, h3⟩ := h
      exact okE_old C.hK (C.exf h1 i _ _ _ _ h2 h3) rfl rfl rfl rfl rfl
    · cases h
  | .exi i k, x, h => by
    unfold chkE at h
    split at h
    · simp only [Bool.and_eq_true, decide_eq_true_eq] at h
      obtain ⟨⟨⟨⟨⟨⟨h1, rfl⟩, h2⟩, h3⟩, h4⟩, h5⟩, h6⟩ := h
      exact okE_old C.hK (C.exi h1 i k _ _ _ _ _ _ h3 h4 h5 h6 h2) rfl rfl rfl rfl rfl
    · cases h
  | .exv i, x, h => by
    unfold chkE at h
    split at h
    · simp only [Bool.and_eq_true, decide_eq_true_eq] at h
      obtain ⟨⟨⟨⟨⟨h1, rfl⟩, h2⟩, h3⟩, rfl⟩, h4⟩ := h
      exact okE_old C.hK (C.exv h1 i _ _ _ _ _ h3 h4 h2) rfl rfl rfl rfl rfl
    · cases h
  | .callx f i, x, h => by
    unfold chkE at h
    split at h
    · simp only [Bool.and_eq_true, decide_eq_true_eq] at h
      obtain ⟨⟨⟨⟨h1, h2⟩, h3⟩, h4⟩, h5⟩ := h
      exact okE_old C.hK (C.exg h1 i f _ _ _ _ _ h5 h2 h3 h4) rfl rfl rfl rfl rfl
    · cases h
theorem okEs {W : WX} {c : Ce} {X : Cx} (C : Cok Γ z g W c X) : ∀ {es : Es} {xs : List Expr}, chkEs z es c xs = true → OKEs Γ g W X es xs
  | .nil, xs, h => by
    unfold chkEs at h
    split at h
    · rfl
    · cases h
  | .cons e es, xs, h => by
    unfold chkEs at h
    split at h
    · rw [Bool.and_eq_true] at h
      exact ⟨_, _, rfl, okE C h.1, okEs C h.2⟩
    · cases h
theorem okO {W : WX} {c : Ce} {X : Cx} (C : Cok Γ z g W c X) : ∀ {o : O} {x : Option Expr}, chkO z o c x = true → OKO Γ g W X o x
  | .none, x, h => by
    unfold chkO at h
    split at h
    · exact po_noneD
    · cases h
  | .some e, x, h => by
    unfold chkO at h
    split at h
    · exact po_someD (okE C h).pe
    · cases h
theorem okC {W : WX} {c : Ce} {X : Cx} (C : Cok Γ z g W c X) : ∀ {o : O} {xs : List Expr}, chkC z o c xs = true → OKC Γ g W X o xs
  | .none, x, h => by
    unfold chkC at h
    split at h
    · exact okC_none
    · cases h
  | .some e, x, h => by
    unfold chkC at h
    split at h
    · exact okC_some (okE C h)
    · cases h
theorem okIt {W : WX} {c : Ce} {X : Cx} (C : Cok Γ z g W c X) : ∀ {it : It} {tg x : Expr} {md : Md}, md ≠ .tst → chkIt z it c tg x = true → PIt X g W tg x md (evIt Γ it md)
  | .seq e, tg, x, md, hm, h => by
    unfold chkIt at h
    exact pit_seq C.hK ((okE C h).rel md hm)
  | .rng1 a, tg, x, md, hm, h => by
    unfold chkIt at h
    split at h
    · simp only [Bool.and_eq_true, decide_eq_true_eq] at h
      obtain ⟨⟨⟨rfl, h2⟩, h3⟩, h4⟩ := h
      exact pit_rng1 (C.gl h2) (C.bi _ (by decide)) h3 (okE C h4).pe
    · cases h
  | .rng2 a b, tg, x, md, hm, h => by
    unfold chkIt at h
    split at h
    · simp only [Bool.and_eq_true, decide_eq_true_eq] at h
      obtain ⟨⟨⟨⟨⟨rfl, h2⟩, h3⟩, h4⟩, h5⟩, h6⟩ := h
      exact pit_rng2 (C.gl h2) (C.bi _ (by decide)) h3 h4 (okE C h5).pe (okE C h6).pe
    · cases h
  | .enum e, tg, x, md, hm, h => by
    unfold chkIt at h
    split at h
    · split at h
      · simp only [Bool.and_eq_true, decide_eq_true_eq] at h
        obtain ⟨⟨⟨rfl, h2⟩, h3⟩, h4⟩ := h
        exact pit_enum C.hK (C.gl h2) (C.bi _ (by decide)) h3 ((okE C h4).rel md hm)
      · cases h
    · cases h
  | .zip a b, tg, x, md, hm, h => by
    unfold chkIt at h
    split at h
    · split at h
      · simp only [Bool.and_eq_true, decide_eq_true_eq] at h
        obtain ⟨⟨⟨⟨⟨rfl, h2⟩, h3⟩, h4⟩, h5⟩, h6⟩ := h
        exact pit_zip C.hK (C.gl h2) (C.bi _ (by decide)) h3 h4 ((okE C h5).rel md hm) ((okE C h6).rel md hm)
      · cases h
    · cases h
end
end
end Z
set_option Elab.async false
set_option linter.all false
set_option maxRecDepth 100000
set_option maxHeartbeats 4000000
/-! Z15: statements by data: what is asked, slots and own lists that change. -/
namespace Z
open PySem PySem.Spec PyProof.Rows L2

/-- a statement's step: own objects may change -/
structure StS (T : Tg') (θ : List Addr) (H : Hp) (T' : Tg') (θ' : List Addr) (H' : Hp) : Prop where
  tg : ∀ a, H a ≠ none → (∀ i, T a ≠ .own i) → T' a = T a
  hp : ∀ a, H a ≠ none → (∀ i, T a ≠ .own i) → (∀ n, T a ≠ .cell n) → H' a = H a
  live : ∀ a, H a ≠ none → H' a ≠ none
  th : ∃ more, θ' = θ ++ more
section
variable {g : GC} {T T' T2 : Tg'} {θ θ' θ2 : List Addr} {H H' H2 : Hp} {σ : L2.St} {ρ : Ro} {st st' : Sto}
theorem StS.refl : StS T θ H T θ H := ⟨fun _ _ _ => rfl, fun _ _ _ _ => rfl, fun _ h => h, [], by simp⟩
theorem StS.trans (a : StS T θ H T' θ' H') (b : StS T' θ' H' T2 θ2 H2) : StS T θ H T2 θ2 H2 where
  tg := fun x h n => by
    have e := a.tg x h n
    exact (b.tg x (a.live x h) (fun i z => n i (by rw [← e]; exact z))).trans e
  hp := fun x h n c => by
    have e := a.tg x h n
    exact (b.hp x (a.live x h) (fun i z => n i (by rw [← e]; exact z)) (fun m z => c m (by rw [← e]; exact z))).trans (a.hp x h n c)
  live := fun x h => b.live x (a.live x h)
  th := by
    obtain ⟨m, e⟩ := a.th
    obtain ⟨m', e'⟩ := b.th
    exact ⟨m ++ m', by rw [e', e, List.append_assoc]⟩
theorem Stp.sts (s : Stp T θ H T' θ' H') : StS T θ H T' θ' H' := ⟨fun a h _ => s.tg a h, fun a h _ c => s.hp a h c, s.live, s.th⟩
theorem StS.ke (w : WF g T θ H st) (s : StS T θ H T' θ' H') : Ke T H T' H' :=
  ⟨fun a h => ⟨(s.tg a (w.trk a h) (fun i e => by rw [h] at e; cases e)).trans h, s.hp a (w.trk a h) (fun i e => by rw [h] at e; cases e) (fun n e => by rw [h] at e; cases e)⟩,
    fun a n h => (s.tg a (w.cellTrk h) (fun i e => by rw [h] at e; cases e)).trans h⟩
end

/-! ### what is asked behind a statement -/
section
variable (g : GC) (W : WX)
def PoS (r : SRes) (T : Tg') (θ : List Addr) (H : Hp) (D : Ends) : Prop := match r with
  | .nx ρ st => ∀ T' θ' H' σ', StS T θ H T' θ' H' → SR g T' θ' H' σ' ρ st → D.nx σ' H'
  | .ct ρ st => ∀ T' θ' H' σ', StS T θ H T' θ' H' → SR g T' θ' H' σ' ρ st → D.ct σ' H'
  | .bk ρ st => ∀ T' θ' H' σ', StS T θ H T' θ' H' → SR g T' θ' H' σ' ρ st → D.bk σ' H'
  | .ret d st => ∀ T' θ' H' v, StS T θ H T' θ' H' → WF g T' θ' H' st → Rep g.K g.fad T' H' d v → D.rt v H'
  | .ex x ρ st => ∀ T' θ' H' σ' cls dd, StS T θ H T' θ' H' → SR g T' θ' H' σ' ρ st → ExR g T' H' x cls dd → W cls dd σ' H'
  | .stuck => False
/-- a statement's reading -/
def rdS (m : Ro → Sto → SRes) : TS := fun D σ H => ∃ T θ ρ st, SR g T θ H σ ρ st ∧ PoS g W (m ρ st) T θ H D
end
section
variable {g : GC} {W : WX} {T T' : Tg'} {θ θ' : List Addr} {H H' : Hp} {σ : L2.St} {ρ : Ro} {st : Sto}
theorem PoS.later {r : SRes} {D : Ends} (h : PoS g W r T θ H D) (s : StS T θ H T' θ' H') : PoS g W r T' θ' H' D := by
  cases r with
  | nx ρ st => exact fun T2 θ2 H2 σ2 s2 => h T2 θ2 H2 σ2 (s.trans s2)
  | ct ρ st => exact fun T2 θ2 H2 σ2 s2 => h T2 θ2 H2 σ2 (s.trans s2)
  | bk ρ st => exact fun T2 θ2 H2 σ2 s2 => h T2 θ2 H2 σ2 (s.trans s2)
  | ret d st => exact fun T2 θ2 H2 v s2 => h T2 θ2 H2 v (s.trans s2)
  | ex x ρ st => exact fun T2 θ2 H2 σ2 cls dd s2 => h T2 θ2 H2 σ2 cls dd (s.trans s2)
  | stuck => exact h
/-- an expression, then the rest of a statement -/
theorem PoS.then {α : Type} {r : Res α} {f : α → Sto → SRes} {D : Ends} (h : PoS g W (thenS r ρ f) T θ H D) (rr : SR g T θ H σ ρ st) : Po g W σ r T θ H fun a st' T' θ' H' => PoS g W (f a st') T' θ' H' D := by
  cases r with
  | ok a s => exact fun T' θ' H' s1 w1 => PoS.later h s1.sts
  | exc x s => exact fun T' θ' H' cls dd s1 w1 hx => h T' θ' H' σ cls dd s1.sts (rr.stp s1 w1) hx
  | stuck => exact h
end
section
variable {X : Cx}
theorem PS_imp {x : Stmt} {t t' : TS} (h : PS X x t) (f : ∀ D σ H, t' D σ H → t D σ H) : PS X x t' := ⟨fun pins s σ H D I q => h.run pins s σ H D I (f D σ H q)⟩
theorem PSs_imp {x : List Stmt} {t t' : TS} (h : PSs X x t) (f : ∀ D σ H, t' D σ H → t D σ H) : PSs X x t' := ⟨fun pins s σ H D I q => h.run pins s σ H D I (f D σ H q)⟩
end

/-! ### own objects -/
section
variable {g : GC} {T T' : Tg'} {θ θ' : List Addr} {H H' : Hp} {σ : L2.St} {ρ : Ro} {st : Sto}
/-- an own object is written: nothing else sees it -/
theorem own_put {p : Addr} {i : Nat} {o : HO} (w : WF g T θ H st) (h : T p = .own i) : Ke T H T (upd H p o) ∧ WF g T θ (upd H p o) st ∧ StS T θ H T θ (upd H p o) := by
  have ne : ∀ {a t}, T a = t → (∀ j, t ≠ .own j) → a ≠ p := fun {a t} e n z => n i (by rw [← e, z]; exact h)
  have k : Ke T H T (upd H p o) := ⟨fun a e => ⟨e, upd_ne (ne e (fun _ z => nomatch z))⟩, fun a n e => e⟩
  have lv : ∀ a, H a ≠ none → upd H p o a ≠ none := fun a e => by
    by_cases ha : a = p
    · rw [ha, upd_same]; exact fun z => nomatch z
    · rw [upd_ne ha]; exact e
  refine ⟨k, ⟨fun a e => lv a (w.trk a e), fun a j e => lv a (w.own a j e), w.cel, w.len, fun n a ds e1 e2 => ?_⟩, ⟨fun _ _ _ => rfl, fun a e n _ => upd_ne (fun z => n i (z ▸ h)), lv, [], by simp⟩⟩
  obtain ⟨vs, q, rp⟩ := w.sto n a ds e1 e2
  exact ⟨vs, by rw [upd_ne (ne ((w.cel a n).mpr e1) (fun _ z => nomatch z))]; exact q, rp.ke k⟩
/-- .. the slots, but its own -/
theorem SlR.own_put {p : Addr} {i j : Nat} {o : HO} (w : WF g T θ H st) (h : T p = .own i) (hj : i ≠ j) {ov : Option (Option V)} {sl : Slot} (r : SlR g T H j ov sl) : SlR g T (upd H p o) j ov sl := by
  obtain ⟨k, w', _⟩ := Z.own_put (o := o) w h
  cases sl with
  | un => trivial
  | sh d =>
    obtain ⟨v, e, r⟩ := r
    exact ⟨v, e, r.ke k⟩
  | ow d =>
    obtain ⟨a, e, t, r⟩ := r
    have ha : a ≠ p := fun z => by rw [z, h] at t; cases t; exact hj rfl
    refine ⟨a, e, t, ?_⟩
    cases d with
    | lst ds =>
      obtain ⟨vs, q, r⟩ := r
      exact ⟨vs, (upd_ne ha).trans q, r.ke k⟩
    | dct ks ds =>
      obtain ⟨kvs, q, e2, r⟩ := r
      exact ⟨kvs, (upd_ne ha).trans q, e2, r.ke k⟩
    | _ => exact r.elim
  | ex x =>
    obtain ⟨a, cls, dd, e1, e2, e3⟩ := r
    exact ⟨a, cls, dd, e1, e2, e3.ke k⟩
theorem SR.own_put {p : Addr} {i : Nat} {o : HO} {d : D} (r : SR g T θ H σ ρ st) (h : T p = .own i) (e : σ[i]? = some (some (.ref p))) (hd : OwR g T (upd H p o) p d) : SR g T θ (upd H p o) σ (ρ.set i (.ow d)) st := by
  refine ⟨(Z.own_put r.wf h).2.1, by rw [List.length_set]; exact r.len, fun j s ej => ?_⟩
  by_cases hj : i = j
  · subst hj
    by_cases hl : i < ρ.length
    · rw [List.getElem?_set_self hl] at ej
      cases ej
      exact ⟨p, e, h, hd⟩
    · rw [List.getElem?_eq_none (by rw [List.length_set]; omega)] at ej
      cases ej
  · rw [List.getElem?_set_ne hj] at ej
    exact (r.sl j s ej).own_put r.wf h hj
/-- an own object laid for good -/
theorem SR.frz {i : Nat} {d : D} (r : SR g T θ H σ ρ st) (e : ρ[i]? = some (.ow d)) : ∃ T', StS T θ H T' θ H ∧ SR g T' θ H σ (ρ.set i (.sh d)) st := by
  obtain ⟨p, e1, h, hd⟩ := r.sl i _ e
  have w := r.wf
  have ne : ∀ {a t}, T a = t → (∀ j, t ≠ .own j) → a ≠ p := fun {a t} e n z => n i (by rw [← e, z]; exact h)
  have k : Ke T H (updT T p .fz) H := ⟨fun a e => ⟨(updT_ne (ne e (fun _ z => nomatch z))).trans e, rfl⟩, fun a n e => (updT_ne (ne e (fun _ z => nomatch z))).trans e⟩
  have pl : H p ≠ none := w.own p i h
  have w' : WF g (updT T p .fz) θ H st := by
    refine ⟨fun a e => ?_, fun a j e => ?_, fun a n => ?_, w.len, fun n a ds e1 e2 => ?_⟩
    · by_cases ha : a = p
      · rw [ha]; exact pl
      · rw [updT_ne ha] at e; exact w.trk a e
    · by_cases ha : a = p
      · rw [ha]; exact pl
      · rw [updT_ne ha] at e; exact w.own a j e
    · by_cases ha : a = p
      · subst ha
        rw [updT_same]
        exact ⟨fun z => (nomatch z), fun z => by rw [(w.cel a n).mpr z] at h; cases h⟩
      · rw [updT_ne ha]; exact w.cel a n
    · obtain ⟨vs, q, rp⟩ := w.sto n a ds e1 e2
      exact ⟨vs, q, rp.ke k⟩
  refine ⟨updT T p .fz, ⟨fun a _ n => updT_ne (fun z => n i (z ▸ h)), fun _ _ _ _ => rfl, fun _ z => z, [], by simp⟩, ⟨w', by rw [List.length_set]; exact r.len, fun j s ej => ?_⟩⟩
  by_cases hj : i = j
  · subst hj
    by_cases hl : i < ρ.length
    · rw [List.getElem?_set_self hl] at ej
      cases ej
      refine ⟨.ref p, e1, ?_⟩
      cases d with
      | lst ds =>
        obtain ⟨vs, q, rp⟩ := hd
        simp only [Rep]
        exact ⟨p, vs, rfl, updT_same, q, rp.ke k⟩
      | dct ks ds =>
        obtain ⟨kvs, q, e2, rp⟩ := hd
        simp only [Rep]
        exact ⟨p, kvs, rfl, updT_same, q, e2, rp.ke k⟩
      | _ => exact hd.elim
    · rw [List.getElem?_eq_none (by rw [List.length_set]; omega)] at ej
      cases ej
  · rw [List.getElem?_set_ne hj] at ej
    have z := r.sl j s ej
    cases s with
    | un => trivial
    | sh d =>
      obtain ⟨v, e, rp⟩ := z
      exact ⟨v, e, rp.ke k⟩
    | ow d' =>
      obtain ⟨a, e, t, rp⟩ := z
      have ha : a ≠ p := fun z => by rw [z, h] at t; cases t; exact hj rfl
      refine ⟨a, e, by rw [updT_ne ha]; exact t, ?_⟩
      cases d' with
      | lst ds =>
        obtain ⟨vs, q, rp⟩ := rp
        exact ⟨vs, q, rp.ke k⟩
      | dct ks ds =>
        obtain ⟨kvs, q, e2, rp⟩ := rp
        exact ⟨kvs, q, e2, rp.ke k⟩
      | _ => exact rp.elim
    | ex x =>
      obtain ⟨a, cls, dd, e1, e2, e3⟩ := z
      exact ⟨a, cls, dd, e1, e2, e3.ke k⟩
/-- a cell is written -/
theorem cell_put {p : Addr} {n : Nat} {ds : List D} {vs : List V} (r : SR g T θ H σ ρ st) (h : T p = .cell n) (rp : RepL g.K g.fad T H ds vs) : StS T θ H T θ (upd H p (.lst vs)) ∧ SR g T θ (upd H p (.lst vs)) σ ρ (st.set n ds) := by
  have w := r.wf
  have ne : ∀ {a t}, T a = t → t ≠ .cell n → a ≠ p := fun {a t} e m z => m (by rw [← e, z]; exact h)
  have k : Ke T H T (upd H p (.lst vs)) := ⟨fun a e => ⟨e, upd_ne (ne e (fun z => nomatch z))⟩, fun a n e => e⟩
  have lv : ∀ a, H a ≠ none → upd H p (.lst vs) a ≠ none := fun a e => by
    by_cases ha : a = p
    · rw [ha, upd_same]; exact fun z => nomatch z
    · rw [upd_ne ha]; exact e
  have w' : WF g T θ (upd H p (.lst vs)) (st.set n ds) := by
    refine ⟨fun a e => lv a (w.trk a e), fun a j e => lv a (w.own a j e), w.cel, by rw [List.length_set]; exact w.len, fun m a es e1 e2 => ?_⟩
    by_cases hm : n = m
    · subst hm
      have ea : a = p := by
        have := (w.cel p n).mp h
        rw [this] at e1
        exact (Option.some.inj e1).symm
      subst ea
      have hl : n < st.length := by rw [w.len]; exact (List.getElem?_eq_some_iff.mp e1).1
      rw [List.getElem?_set_self hl] at e2
      cases e2
      exact ⟨vs, upd_same, rp.ke k⟩
    · rw [List.getElem?_set_ne hm] at e2
      obtain ⟨us, q, rq⟩ := w.sto m a es e1 e2
      have ha : a ≠ p := ne ((w.cel a m).mpr e1) (fun z => hm (by cases z; rfl))
      exact ⟨us, by rw [upd_ne ha]; exact q, rq.ke k⟩
  refine ⟨⟨fun _ _ _ => rfl, fun a _ _ c => upd_ne (fun z => c n (z ▸ h)), lv, [], by simp⟩, ⟨w', r.len, fun j s ej => ?_⟩⟩
  have z := r.sl j s ej
  cases s with
  | un => trivial
  | sh d =>
    obtain ⟨v, e, rp⟩ := z
    exact ⟨v, e, rp.ke k⟩
  | ow d' =>
    obtain ⟨a, e, t, rp⟩ := z
    have ha : a ≠ p := ne t (fun z => nomatch z)
    refine ⟨a, e, t, ?_⟩
    cases d' with
    | lst ds =>
      obtain ⟨vs, q, rp⟩ := rp
      exact ⟨vs, (upd_ne ha).trans q, rp.ke k⟩
    | dct ks ds =>
      obtain ⟨kvs, q, e2, rp⟩ := rp
      exact ⟨kvs, (upd_ne ha).trans q, e2, rp.ke k⟩
    | _ => exact rp.elim
  | ex x =>
    obtain ⟨a, cls, dd, e1, e2, e3⟩ := z
    exact ⟨a, cls, dd, e1, e2, e3.ke k⟩
end
end Z
set_option Elab.async false
set_option linter.all false
set_option maxRecDepth 100000
set_option maxHeartbeats 4000000
/-! Z16: each form of statement by data (but raise and try). -/
namespace Z
open PySem PySem.Spec PyProof.Rows L2

def noComp : Expr → Bool
  | .ListComp _ _ _ _ => false
  | .SetComp _ _ _ _ => false
  | .DictComp _ _ _ _ _ => false
  | _ => true
theorem sw_no {e : Expr} {t : Option Expr} {l : Nat} {env : Env} (h : noComp e = true) : swapsWith e t l env = pure false := by
  cases e <;> first | rfl | cases h
theorem sws_of {t e : Expr} {l : Nat} {env : Env} (h : noComp e = true) : swapsWithSole [t] e l env = pure false := by
  show swapsWith e (some t) l env = _
  exact sw_no h
theorem asg_sub {o i : Expr} {pos : Pos} {env : Env} (h : ixE i = true) (v : Value) : assign (.Subscript o i pos) env v = (do
      let ov ← holding [v] (eval o env)
      let iv ← holding [v, ov] (eval i env)
      standAt pos
      holding [v, ov, iv] (setItem ov iv v)
      release [v, ov, iv] []) := by
  cases i <;> first | rfl | cases h
def noTup : Expr → Bool
  | .Tuple _ _ _ => false
  | _ => true
theorem sws_no {tg e : Expr} {env : Env} (h : noTup e = true) : swappedStores [tg] e env = pure none := by
  cases e <;> first | (cases h; done) | (cases tg <;> rfl)
/-- a, b = x, y and a, b, c = x, y, z: which names are stored from the right -/
def swpB (sc : Scope) (ts vs : List Expr) : Option (Option (List Str)) :=
  if (!(ts.length == 2 || ts.length == 3) || vs.length != ts.length) = true then some none
  else if (vs.any fun | .Starred .. => true | _ => false) = true then some none
  else
    let line := (ts.head?.map (·.pos.line)).getD 0
    let names := ts.filterMap fun
      | .Name id pos => if sc.names.lookup id == some .local && pos.line == line then some id else none
      | _ => none
    if (names.length != ts.length || names.eraseDups.length != names.length) = true then some none
    else if vs.all (foldedForSure 8) = true then some none
    else if vs.all (constantsAlone 8) = true then none
    else some (some names)
theorem swp_ok {sc : Scope} {ts vs : List Expr} {env : Env} {k k2 : Nat} {p p2 : Pos} {r : Option (List Str)} (he : env.scope = sc) (hk : sc.kind = .function) (h : swpB sc ts vs = some r) : swappedStores [.Tuple ts k p] (.Tuple vs k2 p2) env = pure r := by
  subst he
  have hb : (env.blockKind != .function) = false := by
    unfold Env.blockKind
    rw [hk]
    rfl
  unfold swpB at h
  unfold swappedStores
  simp only [hb, Bool.or_false]
  by_cases h1 : (!(ts.length == 2 || ts.length == 3) || vs.length != ts.length) = true
  · rw [if_pos h1] at h
    cases h
    rw [if_pos h1]
  · rw [if_neg h1] at h
    rw [if_neg h1]
    generalize hn : (List.filterMap (fun x => match x with
      | Expr.Name id pos => if (env.kindOf id == some NameKind.local && pos.line == (Option.map (fun x => x.pos.line) ts.head?).getD 0) = true then some id else none
      | x => none) ts : List Str) = names at h ⊢
    have hn' : (List.filterMap (fun x => match x with
      | Expr.Name id pos => if (List.lookup id env.scope.names == some NameKind.local && pos.line == (Option.map (fun x => x.pos.line) ts.head?).getD 0) = true then some id else none
      | x => none) ts : List Str) = names := hn
    dsimp only at h
    rw [hn'] at h
    repeat' split at h
    all_goals first | (cases h; done) | skip
    all_goals cases h
    · rename_i h2
      exact if_pos h2
    · rename_i h2 h3
      exact (if_neg h2).trans (if_pos h3)
    · rename_i h2 h3 h4
      exact (if_neg h2).trans ((if_neg h3).trans (if_pos h4))
    · rename_i h2 h3 h4 h5
      exact (if_neg h2).trans ((if_neg h3).trans ((if_neg h4).trans (if_neg h5)))

section
variable {Γ : GS} {X : Cx} {g : GC} {W : WX}
abbrev OKX (Γ : GS) (g : GC) (W : WX) (X : Cx) (e : E) (x : Expr) : Prop := OKE Γ.toG g W X e x
/-! ### one name -/
theorem s_expr {e : E} {x : Expr} {pos : Pos} (h : OKX Γ g W X e x) (hn : noComp x = true) : PS X (.Expr x pos) (rdS g W (evS Γ (.expr e))) := by
  refine PS_imp (ps_expr h.pe (sw_no hn)) fun D σ H q => ?_
  obtain ⟨T, θ, ρ, st, r, p⟩ := q
  exact ⟨T, θ, ρ, st, r, (PoS.then p r).mono fun d st1 T1 θ1 H1 s1 w1 p1 v hv => p1 T1 θ1 H1 σ .refl (r.stp s1 w1)⟩
/-- name = value: what it asks of the value -/
def NmA (X : Cx) (g : GC) (W : WX) (i : Nat) (y : Str) (x : Expr) (m : Ro → M D) (new : Bool) : Prop := ∀ py spos, ∃ te, PS X (.Assign [.Name y py] x spos) (tAsg te (gName i)) ∧ (∀ σ H Q, rd g W m σ H Q → te σ H Q) ∧ (new = true → ∀ σ H Q, rdF g W m σ H Q → te σ H Q)
theorem nmA_of {i : Nat} {y : Str} {e : E} {x : Expr} (hN : X.N.Nodup) (hi : X.N[i]? = some y) (hx : Loc X.env.scope y) (hf : X.fn y = true ∨ X.env.scope.names.lookup y = some .local) (h : OKX Γ g W X e x) (hn : noComp x = true) : NmA X g W i y x (ev Γ.toG e .val) (freshE e) := by
  intro py spos
  cases hfr : freshE e with
  | true => exact ⟨_, ps_set hN hi hx (h.fr hfr) (sw_no hn) hf, fun _ _ _ => rdF_of, fun _ _ _ _ q => q⟩
  | false => exact ⟨_, ps_set hN hi hx h.pe (sw_no hn) hf, fun _ _ _ q => q, fun z => nomatch z⟩
theorem nmA_comp {i : Nat} {y : Str} (hc : X.calm = true) (hN : X.N.Nodup) (hi : X.N[i]? = some y) (hx : Loc X.env.scope y) (hf : X.fn y = true ∨ X.env.scope.names.lookup y = some .local) (hk : X.env.scope.kind = .function)
    {elt tg iter : Expr} {ifs : List Expr} {scope : Scope} {own : List (Str × Nat)} {pos : Pos} {wi : TI} {gg : TG} {tt : TT} {te : TE} {m : Ro → M D} (hi' : PI X tg iter wi) (ok : BlkOk X.N X.env.scope scope own)
    (hg : ∀ (s : Shared) (H : Hp) (C : Addr) (cl : List (Str × Addr)) (fp : List Addr), PG (X.blk s H scope (compEnvC scope cl C X.env) fp) tg gg) (ht : ∀ (s : Shared) (H : Hp) (C : Addr) (cl : List (Str × Addr)) (fp : List Addr), PTs (X.blk s H scope (compEnvC scope cl C X.env) fp) ifs tt)
    (he : ∀ (s : Shared) (H : Hp) (C : Addr) (cl : List (Str × Addr)) (fp : List Addr), PE (X.blk s H scope (compEnvC scope cl C X.env) fp) elt te) (hs : ∀ x, foldedSetIterable iter X.env x = pure x)
    (k : ∀ σ H Q, rdF g W m σ H Q → tLc wi gg tt te (own.map (·.2)) σ H Q) : NmA X g W i y (.ListComp elt [⟨tg, iter, ifs, 0⟩] scope pos) m true := by
  intro py spos
  refine ⟨_, ?_, fun σ H Q q => k σ H Q (rdF_of q), fun _ σ H Q q => k σ H Q q⟩
  have hsw : swapsWith (.ListComp elt [⟨tg, iter, ifs, 0⟩] scope pos) (some (.Name y py)) spos.line X.env = pure (X.env.blockKind == .function && X.env.kindOf y == some .local && py.line == pos.line && !(scope.names.any fun (n, k) => n == y && (k == .local || k == .cell))) := rfl
  cases hb : (X.env.blockKind == .function && X.env.kindOf y == some .local && py.line == pos.line && !(scope.names.any fun (n, k) => n == y && (k == .local || k == .cell))) with
  | true =>
    rw [hb] at hsw
    have hyl : X.env.scope.names.lookup y = some .local := by
      simp only [Bool.and_eq_true] at hb
      exact eq_of_beq hb.1.1.2
    exact ps_setLc hc hN hi hyl hsw hi' ok hg ht he hs
  | false =>
    rw [hb] at hsw
    exact ps_set hN hi hx (pe_lc hc hN hi' ok hg ht he hs) hsw hf
theorem s_set {i : Nat} {y : Str} {e : E} {x : Expr} {py spos : Pos} {new : Bool} (h : NmA X g W i y x (ev Γ.toG e .val) new) : PS X (.Assign [.Name y py] x spos) (rdS g W (evS Γ (.set (.name i) e))) := by
  obtain ⟨te, hp, k, _⟩ := h py spos
  refine PS_imp hp fun D σ H q => k σ H _ ?_
  obtain ⟨T, θ, ρ, st, r, p⟩ := q
  exact ⟨T, θ, ρ, st, r, (PoS.then p r).mono fun d st1 T1 θ1 H1 s1 w1 p1 v hv => p1 T1 θ1 H1 _ .refl ((r.stp s1 w1).sh i hv)⟩
theorem s_own {i : Nat} {y : Str} {e : E} {x : Expr} {py spos : Pos} (h : NmA X g W i y x (ev Γ.toG e .val) true) : PS X (.Assign [.Name y py] x spos) (rdS g W (evS Γ (.own i e))) := by
  obtain ⟨te, hp, _, k⟩ := h py spos
  refine PS_imp hp fun D σ H q => k rfl σ H _ ?_
  obtain ⟨T, θ, ρ, st, r, p⟩ := q
  refine ⟨T, θ, ρ, st, r, (PoS.then p r).mono fun d st1 T1 θ1 H1 s1 w1 p1 => ?_⟩
  cases d with
  | lst ds =>
    intro vs a ha rp
    have w2 := w1.laid (o := .lst vs) (t := .own i) ha (fun _ z => nomatch z)
    have s2 : Stp T1 θ1 H1 (updT T1 a (.own i)) θ1 (upd H1 a (.lst vs)) := .new ha
    exact p1 _ θ1 _ _ s2.sts ((((r.stp s1 w1).stp s2 w2)).set i ⟨a, rfl, updT_same, vs, upd_same, rp.ke (.new w1 ha)⟩)
  | dct ks ds =>
    intro kvs a ha hks rp
    have w2 := w1.laid (o := .dK kvs) (t := .own i) ha (fun _ z => nomatch z)
    have s2 : Stp T1 θ1 H1 (updT T1 a (.own i)) θ1 (upd H1 a (.dK kvs)) := .new ha
    exact p1 _ θ1 _ _ s2.sts ((((r.stp s1 w1).stp s2 w2)).set i ⟨a, rfl, updT_same, kvs, upd_same, hks, rp.ke (.new w1 ha)⟩)
  | _ => exact p1.elim
/-- a tuple of targets -/
theorem s_tup {ts : Tgs} {e : E} {x : Expr} {xs : List Expr} {k : Nat} {tp spos : Pos} (h : OKX Γ g W X e x) (ht : PGD X g (.tup ts) (.Tuple xs k tp)) (hn : noComp x = true) (hs : swappedStores [.Tuple xs k tp] x X.env = pure none) :
    PS X (.Assign [.Tuple xs k tp] x spos) (rdS g W (evS Γ (.set (.tup ts) e))) := by
  obtain ⟨gg, hg, kg⟩ := ht
  refine PS_imp (ps_asg h.pe hg (sws_of hn) hs rfl) fun D σ H q => ?_
  obtain ⟨T, θ, ρ, st, r, p⟩ := q
  refine ⟨T, θ, ρ, st, r, (PoS.then p r).mono fun d st1 T1 θ1 H1 s1 w1 p1 v hv => ?_⟩
  cases e1 : bindT (.tup ts) d ρ with
  | none => rw [e1] at p1; exact p1.elim
  | some ρ' =>
    rw [e1] at p1
    exact kg v σ H1 _ T1 θ1 ρ ρ' st1 d (r.stp s1 w1) hv e1 fun σ' r' _ => p1 T1 θ1 H1 σ' .refl r'

/-! ### several names -/
def rOw (i : Nat) : RelR := fun g T H d v => match d with
  | .lst ds => ∃ a, v = .ref a ∧ T a = .own i ∧ OwR g T H a (.lst ds)
  | .dct ks ds => ∃ a, v = .ref a ∧ T a = .own i ∧ OwR g T H a (.dct ks ds)
  | d => Rep g.K g.fad T H d v
def rPr (p : Nat × Bool) : RelR := match p.2 with
  | true => rOw p.1
  | false => rVal
theorem rOw_stp {i : Nat} {T T' : Tg'} {θ θ' : List Addr} {H H' : Hp} {st : Sto} {x : D} {v : V} (w : WF g T θ H st) (s : Stp T θ H T' θ' H') (h : rOw i g T H x v) : rOw i g T' H' x v := by
  have own : ∀ {d : D} {a : Addr}, T a = .own i → OwR g T H a d → T' a = .own i ∧ OwR g T' H' a d := fun {d a} t o => by
    have q : SlR g T H i (some (some (.ref a))) (.ow d) := ⟨a, rfl, t, o⟩
    obtain ⟨a', e', t', r'⟩ := q.stp w s
    cases e'
    exact ⟨t', r'⟩
  cases x with
  | lst ds =>
    obtain ⟨a, rfl, t, o⟩ := h
    obtain ⟨t', o'⟩ := own t o
    exact ⟨a, rfl, t', o'⟩
  | dct ks ds =>
    obtain ⟨a, rfl, t, o⟩ := h
    obtain ⟨t', o'⟩ := own t o
    exact ⟨a, rfl, t', o'⟩
  | _ => exact Rep.ke (s.ke w) h
theorem rPr_stp {p : Nat × Bool} {T T' : Tg'} {θ θ' : List Addr} {H H' : Hp} {st : Sto} {x : D} {v : V} (w : WF g T θ H st) (s : Stp T θ H T' θ' H') (h : rPr p g T H x v) : rPr p g T' H' x v := by
  obtain ⟨i, b⟩ := p
  cases b
  · exact rVal_stp w s h
  · exact rOw_stp w s h
/-- what is made anew becomes a slot's own -/
theorem pe_own {i : Nat} {x : Expr} {m : Ro → M D} (h : PE X x (rdF g W m)) : PE X x (rdR g W (rOw i) m) := by
  refine PE_imp h fun σ H Q q => ?_
  obtain ⟨T, θ, ρ, st, r, p⟩ := q
  refine ⟨T, θ, ρ, st, r, ?_⟩
  cases e : m ρ st with
  | ok d s =>
    rw [e] at p
    intro T1 θ1 H1 s1 w1
    cases d with
    | lst ds =>
      intro vs a ha rp
      exact p (updT T1 a (.own i)) θ1 (upd H1 a (.lst vs)) (s1.trans (.new ha)) (w1.laid ha (fun _ z => nomatch z)) _ ⟨a, rfl, updT_same, vs, upd_same, rp.ke (.new w1 ha)⟩
    | dct ks ds =>
      intro kvs a ha hks rp
      exact p (updT T1 a (.own i)) θ1 (upd H1 a (.dK kvs)) (s1.trans (.new ha)) (w1.laid ha (fun _ z => nomatch z)) _ ⟨a, rfl, updT_same, kvs, upd_same, hks, rp.ke (.new w1 ha)⟩
    | _ => exact fun v hv => p T1 θ1 H1 s1 w1 v hv
  | exc x s => rw [e] at p; exact p
  | stuck => rw [e] at p; exact p
/-- several values, each for its slot -/
def RPs (g : GC) (T : Tg') (H : Hp) : List (Nat × Bool) → List D → List V → Prop
  | [], ds, vs => ds = [] ∧ vs = []
  | t :: ts, ds, vs => ∃ d ds' v vs', ds = d :: ds' ∧ vs = v :: vs' ∧ rPr t g T H d v ∧ RPs g T H ts ds' vs'
def setV : List (Nat × Bool) → List V → L2.St → L2.St
  | t :: ts, v :: vs, σ => setV ts vs (σ.set t.1 (some v))
  | _, _, σ => σ
theorem setAll_ok {T : Tg'} {θ : List Addr} {H : Hp} {st : Sto} : ∀ {ts : List (Nat × Bool)} {ds : List D} {vs : List V} {ρ ρ' : Ro} {σ : L2.St}, RPs g T H ts ds vs → setAll ts ds ρ = some ρ' → SR g T θ H σ ρ st → SR g T θ H (setV ts vs σ) ρ' st
  | [], ds, vs, ρ, ρ', σ, h, e, r => by
    obtain ⟨rfl, rfl⟩ := h
    simp only [setAll, Option.some.injEq] at e
    subst e
    exact r
  | (i, b) :: ts, ds, vs, ρ, ρ', σ, h, e, r => by
    obtain ⟨d, ds', v, vs', rfl, rfl, h1, h2⟩ := h
    simp only [setAll] at e
    cases b with
    | false =>
      have k := setAll_ok (σ := σ.set i (some v)) h2 e (r.sh i h1)
      exact k
    | true =>
      dsimp only at e
      cases d with
      | lst es =>
        obtain ⟨a, rfl, t, o⟩ := h1
        have k := setAll_ok (σ := σ.set i (some (.ref a))) h2 e (r.set i (sl := .ow (.lst es)) ⟨a, rfl, t, o⟩)
        exact k
      | dct ks es =>
        obtain ⟨a, rfl, t, o⟩ := h1
        have k := setAll_ok (σ := σ.set i (some (.ref a))) h2 e (r.set i (sl := .ow (.dct ks es)) ⟨a, rfl, t, o⟩)
        exact k
      | _ => cases e
/-- those that are to be own are made anew -/
def freshEs : List (Nat × Bool) → Es → Bool
  | [], .nil => true
  | (_, b) :: ts, .cons e es => (!b || freshE e) && freshEs ts es
  | _, _ => false
def rdPs (g : GC) (W : WX) (ts : List (Nat × Bool)) (m : Ro → M (List D)) : TA := fun σ H Q => ∃ T θ ρ st, SR g T θ H σ ρ st ∧ Po g W σ (m ρ st) T θ H fun ds _ T' _ H' => ∀ vs, RPs g T' H' ts ds vs → Q vs H'
theorem pa_par : ∀ {ts : List (Nat × Bool)} {es : Es} {xs : List Expr}, OKEs Γ.toG g W X es xs → xs.all aloneE = true → freshEs ts es = true → PA X xs (rdPs g W ts (evEs Γ.toG es .val))
  | [], .nil, xs, h, al, hf => by
    have e0 : xs = [] := h
    subst e0
    refine ⟨fun pos pins s σ H Q I h => pa_nil.run pos pins s σ H Q I ?_⟩
    obtain ⟨T, θ, ρ, st, r, p⟩ := h
    exact p T θ H .refl r.wf [] ⟨rfl, rfl⟩
  | [], .cons _ _, _, _, _, hf => by simp [freshEs] at hf
  | _ :: _, .nil, _, _, _, hf => by simp [freshEs] at hf
  | (i, b) :: ts, .cons e es, _, h, al, hf => by
    obtain ⟨x, ys, rfl, h1, h2⟩ := h
    simp only [List.all_cons, Bool.and_eq_true] at al
    simp only [freshEs, Bool.and_eq_true] at hf
    have hx : PE X x (rdR g W (rPr (i, b)) (ev Γ.toG e .val)) := by
      cases b with
      | false => exact h1.pe
      | true => exact pe_own (h1.fr (by simpa using hf.1))
    refine ⟨fun pos pins s σ H Q I q => (pa_cons hx (pa_par h2 al.2 hf.2) (star_of al.1)).run pos pins s σ H Q I ?_⟩
    obtain ⟨T, θ, ρ, st, r, p⟩ := q
    have p : Po g W σ (M.bind (ev Γ.toG e .val ρ) (fun d => M.bind (evEs Γ.toG es .val ρ) fun ds => M.pure (d :: ds)) st) T θ H _ := p
    refine ⟨T, θ, ρ, st, r, p.bind.mono fun d st1 T1 θ1 H1 s1 w1 p1 v hv => ?_⟩
    refine ⟨T1, θ1, ρ, st1, r.stp s1 w1, p1.bind.mono fun ds st2 T2 θ2 H2 s2 w2 p2 vs hvs => ?_⟩
    exact Po.pure p2 w2 (v :: vs) ⟨d, ds, v, vs, rfl, rfl, rPr_stp w1 s2 hv, hvs⟩
theorem rps_len {T : Tg'} {H : Hp} : ∀ {ts : List (Nat × Bool)} {ds : List D} {vs : List V}, RPs g T H ts ds vs → vs.length = ts.length
  | [], _, _, h => by rw [h.2]; rfl
  | t :: ts, _, _, h => by
    obtain ⟨d, ds', v, vs', rfl, rfl, h1, h2⟩ := h
    simp [rps_len h2]
theorem par_read {ts : List (Nat × Bool)} {es : Es} {D : Ends} {σ : L2.St} {H : Hp} (q : rdS g W (evS Γ (.par ts es)) D σ H) : rdPs g W ts (evEs Γ.toG es .val) σ H fun vs H1 => D.nx (setV ts vs σ) H1 := by
  obtain ⟨T, θ, ρ, st, r, p⟩ := q
  refine ⟨T, θ, ρ, st, r, (PoS.then p r).mono fun ds st1 T1 θ1 H1 s1 w1 p1 vs hvs => ?_⟩
  cases e : setAll ts ds ρ with
  | none => rw [e] at p1; exact p1.elim
  | some ρ' =>
    rw [e] at p1
    exact p1 T1 θ1 H1 _ .refl (setAll_ok hvs e (r.stp s1 w1))
theorem s_par2 {i j : Nat} {b1 b2 : Bool} {es : Es} {x y : Str} {a b : Expr} {px py pt pt2 pos : Pos} {kt k2 : Nat} (hc : X.calm = true) (hN : X.N.Nodup) (hi : X.N[i]? = some x) (hj : X.N[j]? = some y) (hij : i ≠ j)
    (hx : X.env.scope.names.lookup x = some .local) (hy : X.env.scope.names.lookup y = some .local) (h : OKEs Γ.toG g W X es [a, b]) (al : [a, b].all aloneE = true) (hf : freshEs [(i, b1), (j, b2)] es = true)
    (hw : swappedStores [.Tuple [.Name x px, .Name y py] kt pt] (.Tuple [a, b] k2 pt2) X.env = pure (some [x, y])) :
    PS X (.Assign [.Tuple [.Name x px, .Name y py] kt pt] (.Tuple [a, b] k2 pt2) pos) (rdS g W (evS Γ (.par [(i, b1), (j, b2)] es))) := by
  refine PS_imp (ps_par hc hN hi hj hij hx hy (pa_par h al hf) hw) fun D σ H q => ?_
  obtain ⟨T, θ, ρ, st, r, p⟩ := par_read q
  refine ⟨T, θ, ρ, st, r, p.mono fun ds st1 T1 θ1 H1 s1 w1 p1 vs hvs => ?_⟩
  have k := p1 vs hvs
  have hl := rps_len hvs
  match vs, hl with
  | [v, w], _ => exact ⟨v, w, rfl, k⟩
theorem s_par3 {i j l : Nat} {b1 b2 b3 : Bool} {es : Es} {x y z : Str} {a b c : Expr} {px py pz pt pt2 pos : Pos} {kt k2 : Nat} (hc : X.calm = true) (hN : X.N.Nodup) (hi : X.N[i]? = some x) (hj : X.N[j]? = some y) (hl : X.N[l]? = some z) (hij : i ≠ j) (hil : i ≠ l) (hjl : j ≠ l)
    (hx : X.env.scope.names.lookup x = some .local) (hy : X.env.scope.names.lookup y = some .local) (hz : X.env.scope.names.lookup z = some .local) (h : OKEs Γ.toG g W X es [a, b, c]) (al : [a, b, c].all aloneE = true) (hf : freshEs [(i, b1), (j, b2), (l, b3)] es = true)
    (hw : swappedStores [.Tuple [.Name x px, .Name y py, .Name z pz] kt pt] (.Tuple [a, b, c] k2 pt2) X.env = pure (some [x, y, z])) :
    PS X (.Assign [.Tuple [.Name x px, .Name y py, .Name z pz] kt pt] (.Tuple [a, b, c] k2 pt2) pos) (rdS g W (evS Γ (.par [(i, b1), (j, b2), (l, b3)] es))) := by
  refine PS_imp (ps_par3 hc hN hi hj hl hij hil hjl hx hy hz (pa_par h al hf) hw) fun D σ H q => ?_
  obtain ⟨T, θ, ρ, st, r, p⟩ := par_read q
  refine ⟨T, θ, ρ, st, r, p.mono fun ds st1 T1 θ1 H1 s1 w1 p1 vs hvs => ?_⟩
  have k := p1 vs hvs
  have hl := rps_len hvs
  match vs, hl with
  | [u, v, w], _ => exact ⟨u, v, w, rfl, k⟩

/-! ### lists that change -/
theorem s_app {i : Nat} {y : Str} {e : E} {x : Expr} {py apos cpos pos : Pos} (hN : X.N[i]? = some y) (hv : Vis X.env.scope y) (hd : (y == ("__debug__" : Str)) = false) (hcd : (y == ("__classdict__" : Str)) = false) (hline : (apos.endLine == cpos.line) = true)
    (h : OKX Γ g W X e x) (al : aloneE x = true) : PS X (.Expr (.Call (.Attribute (.Name y py) "append" apos) [x] [] cpos) pos) (rdS g W (evS Γ (.app i e))) := by
  have s1 : starEach [x] X.env = [(false, eval x X.env)] := star_of al
  have few : ((backTo cpos (starEach [x] X.env)).all (fun x => !x.1) && (backToKw cpos (keywordEach [] X.env)).all (fun x => x.1.isSome)
      && decide ([x].length + ([] : List Keyword).length + (if ([] : List Keyword).isEmpty then 0 else 1) < 30)) = true := by
    rw [s1]
    rfl
  refine PS_imp (ps_expr (pe_bm PySem.F.plainAttrs_list PySem.F.slot_list_append PySem.F.type_list_append mt_append (pe_var hN hv hd hcd) (pa_cons h.pe pa_nil (star_of al)) rfl few hline (star_of al) rfl) rfl) fun D σ H q => ?_
  obtain ⟨T, θ, ρ, st, r, p⟩ := q
  simp only [evS] at p
  split at p
  · rename_i ds e1
    obtain ⟨a, e2, t, vs, e3, rp⟩ := r.sl i _ e1
    refine ⟨.ref a, e2, .inl ⟨rfl, vs, SqL.of e3⟩, T, θ, ρ, st, r, (PoS.then p r).mono fun d st1 T1 θ1 H1 s1 w1 p1 v hv => ?_⟩
    split at p1
    · rename_i hz
      have r1 := r.stp s1 w1
      obtain ⟨a', e2', t', vs', e3', rp'⟩ := r1.sl i _ e1
      rw [e2] at e2'
      cases e2'
      refine ⟨a, vs', v, rfl, rfl, e3', by rw [rp'.length]; exact hz, ?_⟩
      obtain ⟨k5, w5, s5⟩ := own_put (o := .lst (vs' ++ [v])) w1 t'
      exact p1 T1 θ1 _ σ s5 (r1.own_put t' e2 ⟨vs' ++ [v], upd_same, (rp'.append (.cons hv .nil)).ke k5⟩)
    · exact p1.elim
  · exact p.elim
theorem s_put {i : Nat} {y : Str} {k e : E} {kx x : Expr} {py tp pos : Pos} (hN : X.N[i]? = some y) (hv : Vis X.env.scope y) (hd : (y == ("__debug__" : Str)) = false) (hcd : (y == ("__classdict__" : Str)) = false) (hix : ixE kx = true) (hk : OKX Γ g W X k kx) (h : OKX Γ g W X e x) (hn : noComp x = true) :
    PS X (.Assign [.Subscript (.Name y py) kx tp] x pos) (rdS g W (evS Γ (.put i k e))) := by
  refine PS_imp (ps_asg h.pe (pg_sub (pe_var hN hv hd hcd) hk.pe set_list (asg_sub hix)) (sws_of hn) (by cases x <;> rfl) rfl) fun D σ H q => ?_
  obtain ⟨T, θ, ρ, st, r, p⟩ := q
  simp only [evS] at p
  split at p
  · rename_i ds e1
    refine ⟨T, θ, ρ, st, r, (PoS.then p r).mono fun d st1 T1 θ1 H1 s1 w1 p1 v hv => ?_⟩
    have r1 := r.stp s1 w1
    obtain ⟨a, e2, _⟩ := r1.sl i _ e1
    refine ⟨.ref a, e2, T1, θ1, ρ, st1, r1, (PoS.then p1 r1).mono fun q st2 T2 θ2 H2 s2 w2 p2 u hu => ?_⟩
    have r2 := r1.stp s2 w2
    obtain ⟨a', e2', t', vs', e3', rp'⟩ := r2.sl i _ e1
    rw [e2] at e2'
    cases e2'
    cases ep : putD ds q d with
    | none => rw [ep] at p2; exact p2.elim
    | some es =>
      rw [ep] at p2
      unfold putD at ep
      split at ep
      · rename_i n
        split at ep
        · rename_i j ej
          cases ep
          obtain rfl := rep_int hu
          have hv2 := rVal_stp w1 s2 hv
          refine ⟨a, vs', n, j, rfl, rfl, e3', by rw [rp'.length]; exact ej, ?_⟩
          obtain ⟨k5, w5, s5⟩ := own_put (o := .lst (vs'.set j v)) w2 t'
          exact p2 T2 θ2 _ σ s5 (r2.own_put t' e2 ⟨vs'.set j v, upd_same, (rp'.set j hv2).ke k5⟩)
        · cases ep
      · cases ep
  · exact p.elim
theorem s_putC {a k e : E} {ax kx x : Expr} {tp pos : Pos} (hix : ixE kx = true) (ha : OKX Γ g W X a ax) (hk : OKX Γ g W X k kx) (h : OKX Γ g W X e x) (hn : noComp x = true) : PS X (.Assign [.Subscript ax kx tp] x pos) (rdS g W (evS Γ (.putC a k e))) := by
  refine PS_imp (ps_asg h.pe (pg_sub ha.pe hk.pe set_list (asg_sub hix)) (sws_of hn) (by cases x <;> rfl) rfl) fun D σ H q => ?_
  obtain ⟨T, θ, ρ, st, r, p⟩ := q
  refine ⟨T, θ, ρ, st, r, (PoS.then p r).mono fun d st1 T1 θ1 H1 s1 w1 p1 v hv => ?_⟩
  have r1 := r.stp s1 w1
  refine ⟨T1, θ1, ρ, st1, r1, (PoS.then p1 r1).mono fun c st2 T2 θ2 H2 s2 w2 p2 o ho => ?_⟩
  have r2 := r1.stp s2 w2
  refine ⟨T2, θ2, ρ, st2, r2, (PoS.then p2 r2).mono fun q st3 T3 θ3 H3 s3 w3 p3 u hu => ?_⟩
  have r3 := r2.stp s3 w3
  have hv3 := rVal_stp w2 s3 (rVal_stp w1 s2 hv)
  have ho3 : Rep g.K g.fad T3 H3 c o := rVal_stp w2 s3 ho
  cases ep : putCD st3 c q d with
  | none => rw [ep] at p3; exact p3.elim
  | some st4 =>
    rw [ep] at p3
    unfold putCD at ep
    split at ep
    · rename_i m
      split at ep
      · rename_i ds ed
        split at ep
        · rename_i es ee
          cases ep
          simp only [Rep] at ho3
          obtain ⟨a', rfl, ht⟩ := ho3
          obtain ⟨vs, e4, rp⟩ := w3.sto m a' ds ((w3.cel a' m).mp ht) ed
          unfold putD at ee
          split at ee
          · rename_i n
            split at ee
            · rename_i j ej
              cases ee
              obtain rfl := rep_int hu
              refine ⟨a', vs, n, j, rfl, rfl, e4, by rw [rp.length]; exact ej, ?_⟩
              obtain ⟨s5, r5⟩ := cell_put (ds := ds.set j d) (vs := vs.set j v) r3 ht (rp.set j hv3)
              exact p3 T3 θ3 _ σ s5 r5
            · cases ee
          · cases ee
        · cases ep
      · cases ep
    · cases ep
theorem s_popS {i j : Nat} {y w : Str} {k : E} {kx : Expr} {py pw apos cpos pos : Pos} (hNd : X.N.Nodup) (hj : X.N[j]? = some w) (hw : Loc X.env.scope w) (hf : X.fn w = true ∨ X.env.scope.names.lookup w = some .local) (hN : X.N[i]? = some y) (hv : Vis X.env.scope y) (hd : (y == ("__debug__" : Str)) = false) (hcd : (y == ("__classdict__" : Str)) = false) (hline : (apos.endLine == cpos.line) = true)
    (h : OKX Γ g W X k kx) (al : aloneE kx = true) : PS X (.Assign [.Name w pw] (.Call (.Attribute (.Name y py) "pop" apos) [kx] [] cpos) pos) (rdS g W (evS Γ (.popS j i k))) := by
  have s1 : starEach [kx] X.env = [(false, eval kx X.env)] := star_of al
  have few : ((backTo cpos (starEach [kx] X.env)).all (fun x => !x.1) && (backToKw cpos (keywordEach [] X.env)).all (fun x => x.1.isSome)
      && decide ([kx].length + ([] : List Keyword).length + (if ([] : List Keyword).isEmpty then 0 else 1) < 30)) = true := by
    rw [s1]
    rfl
  refine PS_imp (ps_set hNd hj hw (pe_bm PySem.F.plainAttrs_list PySem.F.slot_list_pop PySem.F.type_list_pop mt_popAt (pe_var hN hv hd hcd) (pa_cons h.pe pa_nil (star_of al)) rfl few hline (star_of al) rfl) rfl hf) fun D σ H q => ?_
  obtain ⟨T, θ, ρ, st, r, p⟩ := q
  simp only [evS] at p
  split at p
  · rename_i ds e1
    obtain ⟨a, e2, t, vs, e3, rp⟩ := r.sl i _ e1
    refine ⟨.ref a, e2, .inl ⟨rfl, vs, SqL.of e3⟩, T, θ, ρ, st, r, (PoS.then p r).mono fun q st1 T1 θ1 H1 s1 w1 p1 v hv => ?_⟩
    have r1 := r.stp s1 w1
    obtain ⟨a', e2', t', vs', e3', rp'⟩ := r1.sl i _ e1
    rw [e2] at e2'
    cases e2'
    cases ep : popD ds q with
    | none => rw [ep] at p1; exact p1.elim
    | some de =>
      rw [ep] at p1
      unfold popD at ep
      split at ep
      · rename_i n
        split at ep
        · rename_i hn
          split at ep
          · rename_i m em
            split at ep
            · rename_i d ed
              cases ep
              obtain rfl := rep_int hv
              obtain ⟨u, eu, hu⟩ := rp'.get ed
              refine ⟨a, vs', n, m, u, rfl, rfl, e3', hn.1, hn.2, by rw [rp'.length]; exact em, eu, ?_⟩
              obtain ⟨k5, w5, s5⟩ := own_put (o := .lst (vs'.eraseIdx m)) w1 t'
              have r5 := r1.own_put t' e2 (d := .lst (ds.eraseIdx m)) ⟨vs'.eraseIdx m, upd_same, (rp'.eraseIdx m).ke k5⟩
              exact p1 T1 θ1 _ _ s5 (r5.sh j (hu.ke k5))
            · cases ep
          · cases ep
        · cases ep
      · cases ep
  · exact p.elim
theorem s_aug {i : Nat} {y : Str} {op : Bop} {e : E} {x : Expr} {py pos : Pos} (hNd : X.N.Nodup) (hi : X.N[i]? = some y) (hx : Loc X.env.scope y) (hf : X.fn y = true ∨ X.env.scope.names.lookup y = some .local) (hd : (y == ("__debug__" : Str)) = false) (hcd : (y == ("__classdict__" : Str)) = false) (h : OKX Γ g W X e x) (ho : op = .add ∨ op = .sub) :
    PS X (.AugAssign (.Name y py) op.py x pos) (rdS g W (evS Γ (.aug i op e))) := by
  have go : ∀ {f : Int → Int → Int}, (∀ x y z, augD op x y = some z → ∃ i j, x = .int i ∧ y = .int j ∧ z = .int (f i j)) → ∀ (D : Ends) (σ : L2.St) (H : Hp), rdS g W (evS Γ (.aug i op e)) D σ H → tAug i (rd g W (ev Γ.toG e .val)) (ipI f) D σ H := by
    intro f hf D σ H q
    obtain ⟨T, θ, ρ, st, r, p⟩ := q
    simp only [evS] at p
    split at p
    · rename_i d e1
      obtain ⟨v, e2, hv⟩ := r.sl i _ e1
      refine ⟨v, e2, T, θ, ρ, st, r, (PoS.then p r).mono fun d2 st1 T1 θ1 H1 s1 w1 p1 u hu => ?_⟩
      have r1 := r.stp s1 w1
      have hv1 := rVal_stp r.wf s1 hv
      cases ep : augD op d d2 with
      | none => rw [ep] at p1; exact p1.elim
      | some z =>
        rw [ep] at p1
        obtain ⟨a, b, rfl, rfl, rfl⟩ := hf _ _ _ ep
        obtain rfl := rep_int hv1
        obtain rfl := rep_int hu
        exact ⟨a, b, rfl, rfl, p1 T1 θ1 H1 _ .refl (r1.sh i mkInt)⟩
    · exact p.elim
  rcases ho with rfl | rfl
  · refine PS_imp (ps_aug (op := .Add) hNd hi hx h.pe ip_add hf) (go (f := fun i j => i + j) fun x y z e => ?_)
    unfold augD at e
    split at e <;> first | (cases e; exact ⟨_, _, rfl, rfl, rfl⟩) | (cases e; done) | (rename_i q; cases q)
  · refine PS_imp (ps_aug (op := .Sub) hNd hi hx h.pe ip_sub hf) (go (f := fun i j => i - j) fun x y z e => ?_)
    unfold augD at e
    split at e <;> first | (cases e; exact ⟨_, _, rfl, rfl, rfl⟩) | (cases e; done) | (rename_i q; cases q)

/-! ### flow -/
theorem s_ret {e : E} {x : Expr} {pos : Pos} (h : OKX Γ g W X e x) : PS X (.Return (some x) pos) (rdS g W (evS Γ (.ret e))) := by
  refine PS_imp (ps_ret h.pe) fun D σ H q => ?_
  obtain ⟨T, θ, ρ, st, r, p⟩ := q
  exact ⟨T, θ, ρ, st, r, (PoS.then p r).mono fun d st1 T1 θ1 H1 s1 w1 p1 v hv => p1 T1 θ1 H1 v .refl w1 hv⟩
theorem s_retN {pos : Pos} : PS X (.Return none pos) (rdS g W (evS Γ .retN)) := by
  refine PS_imp ps_retN fun D σ H q => ?_
  obtain ⟨T, θ, ρ, st, r, p⟩ := q
  exact p T θ H .non .refl r.wf mkNon
theorem s_if {c : E} {a b : Ss} {x : Expr} {as bs : List Stmt} {pos : Pos} (h : OKX Γ g W X c x) (ha : PSs X as (rdS g W (evSs Γ a))) (hb : PSs X bs (rdS g W (evSs Γ b))) : PS X (.If x as bs pos) (rdS g W (evS Γ (.ifs c a b))) := by
  refine PS_imp (ps_if h.pt ha hb) fun D σ H q => ?_
  obtain ⟨T, θ, ρ, st, r, p⟩ := q
  refine ⟨T, θ, ρ, st, r, (PoS.then p r).mono fun d st1 T1 θ1 H1 s1 w1 p1 => ?_⟩
  cases d with
  | bl k =>
    refine ⟨k, rfl, ?_⟩
    cases k
    · exact ⟨T1, θ1, ρ, st1, r.stp s1 w1, p1⟩
    · exact ⟨T1, θ1, ρ, st1, r.stp s1 w1, p1⟩
  | _ => exact p1.elim
theorem s_for {t : Tg} {it : Z.It} {b : Ss} {tg iter : Expr} {bs : List Stmt} {pos : Pos} (hp : PassesOwn (model X.prog X.w) X.A X.env X.xe) (hc : X.calm = true) (hi : PIt X g W tg iter .val (evIt Γ.toG it .val)) (ht : PGD X g t tg)
    (hb : PSs X bs (rdS g W (evSs Γ b))) (hs : ∀ x, foldedSetIterable iter X.env x = pure x) : PS X (.For tg iter bs [] pos) (rdS g W (evS Γ (.fors t it b))) := by
  obtain ⟨wi, pi, ki⟩ := hi
  obtain ⟨gg, pg, kg⟩ := ht
  refine PS_imp (ps_for hp hc pi pg hb hs) fun D σ H q => ?_
  obtain ⟨T, θ, ρ, st, r, p⟩ := q
  refine ki σ H _ ⟨T, θ, ρ, st, r, (PoS.then p r).mono fun ds st1 T1 θ1 H1 s1 w1 p1 J hJ => ?_⟩
  generalize hf : (fun (d : Z.D) (ρ : Ro) (s : Sto) => match bindT t d ρ with
    | some ρ' => evSs Γ b ρ' s
    | none => SRes.stuck) = f at p1
  let Wi : Nat → Nat → L2.St → Hp → Prop := fun i m σ' H' => m = ds.length - i ∧ i ≤ ds.length ∧ ∃ T' θ' ρ' st', SR g T' θ' H' σ' ρ' st' ∧ Ke T1 H1 T' H' ∧ PoS g W (forS f (ds.drop i) ρ' st') T' θ' H' D
  refine ⟨Wi, ⟨ds.length, by simp, Nat.zero_le _, T1, θ1, ρ, st1, r.stp s1 w1, .refl, p1⟩, ?_⟩
  rintro i m σ' H' ⟨rfl, hi, T', θ', ρ', st', r', k', p'⟩
  by_cases hlt : i < ds.length
  · refine .inr ⟨hJ.go i T' θ' H' hlt k', Wi (i + 1) (ds.length - (i + 1)), fun σ2 H2 h2 => ⟨_, by omega, h2⟩, fun x H2 hy => ?_⟩
    obtain ⟨T2, s2, w2, hx⟩ := hJ.yld i T' θ' H' st' x H2 hlt k' r'.wf hy
    have hdi : ds[i]? = some ds[i] := List.getElem?_eq_getElem hlt
    have r2 := r'.stp s2 w2
    rw [List.drop_eq_getElem_cons hlt] at p'
    have p2 := PoS.later p' s2.sts
    simp only [forS] at p2
    rw [← hf] at p2
    dsimp only at p2
    cases eb : bindT t ds[i] ρ' with
    | none => rw [eb] at p2; exact p2.elim
    | some ρ2 =>
      rw [eb] at p2
      dsimp only at p2
      refine kg x σ' H2 _ T2 θ' ρ' ρ2 st' ds[i] r2 (hx _ hdi) eb fun σ3 r3 _ => ⟨T2, θ', ρ2, st', r3, ?_⟩
      have k2 : Ke T1 H1 T2 H2 := k'.trans (s2.ke r'.wf)
      cases er : evSs Γ b ρ2 st' with
      | nx ρ4 s4 =>
        rw [er] at p2
        exact fun T4 θ4 H4 σ4 ss rr => ⟨rfl, hlt, T4, θ4, ρ4, s4, rr, k2.trans (ss.ke w2), by rw [← hf]; exact PoS.later p2 ss⟩
      | ct ρ4 s4 =>
        rw [er] at p2
        exact fun T4 θ4 H4 σ4 ss rr => ⟨rfl, hlt, T4, θ4, ρ4, s4, rr, k2.trans (ss.ke w2), by rw [← hf]; exact PoS.later p2 ss⟩
      | bk ρ4 s4 =>
        rw [er] at p2
        exact p2
      | ret d s4 =>
        rw [er] at p2
        exact p2
      | ex x ρ4 s4 =>
        rw [er] at p2
        exact p2
      | stuck => rw [er] at p2; exact p2
  · have e : i = ds.length := by omega
    subst e
    refine .inl ⟨hJ.stop T' θ' H' k', ?_⟩
    rw [List.drop_length] at p'
    exact p' T' θ' H' σ' .refl r'
theorem s_while {μ : Ro → Nat} {c : E} {b : Ss} {x : Expr} {bs : List Stmt} {pos : Pos} (hp : PassesOwn (model X.prog X.w) X.A X.env X.xe) (h : OKX Γ g W X c x) (hb : PSs X bs (rdS g W (evSs Γ b))) : PS X (.While x bs [] pos) (rdS g W (evS Γ (.whil μ c b))) := by
  refine PS_imp (ps_while hp h.pt hb) fun D σ H q => ?_
  obtain ⟨T, θ, ρ, st, r, p⟩ := q
  refine ⟨fun m σ' H' => ∃ T θ ρ st, SR g T θ H' σ' ρ st ∧ PoS g W (whileS (fun ρ => ev Γ.toG c .tst ρ) (fun ρ s => evSs Γ b ρ s) m ρ st) T θ H' D, ⟨μ ρ, T, θ, ρ, st, r, p⟩, ?_⟩
  rintro m σ1 H1 ⟨T1, θ1, ρ1, st1, r1, p1⟩
  cases m with
  | zero =>
    simp only [whileS] at p1
    refine ⟨T1, θ1, ρ1, st1, r1, (PoS.then p1 r1).mono fun d st2 T2 θ2 H2 s2 w2 p2 => ?_⟩
    cases d with
    | bl k =>
      refine ⟨k, rfl, ?_⟩
      cases k with
      | true => exact p2.elim
      | false => exact p2 T2 θ2 H2 σ1 .refl (r1.stp s2 w2)
    | _ => exact p2.elim
  | succ n =>
    simp only [whileS] at p1
    refine ⟨T1, θ1, ρ1, st1, r1, (PoS.then p1 r1).mono fun d st2 T2 θ2 H2 s2 w2 p2 => ?_⟩
    have r2 := r1.stp s2 w2
    cases d with
    | bl k =>
      refine ⟨k, rfl, ?_⟩
      cases k with
      | true =>
        simp only [if_true]
        refine ⟨fun σ' H' => ∃ T θ ρ st, SR g T θ H' σ' ρ st ∧ PoS g W (whileS (fun ρ => ev Γ.toG c .tst ρ) (fun ρ s => evSs Γ b ρ s) n ρ st) T θ H' D, fun σ' H' h' => ⟨n, Nat.lt_succ_self n, h'⟩, T2, θ2, ρ1, st2, r2, ?_⟩
        dsimp only at p2
        cases er : evSs Γ b ρ1 st2 with
        | nx ρ4 s4 =>
          rw [er] at p2
          exact fun T4 θ4 H4 σ4 ss rr => ⟨T4, θ4, ρ4, s4, rr, PoS.later p2 ss⟩
        | ct ρ4 s4 =>
          rw [er] at p2
          exact fun T4 θ4 H4 σ4 ss rr => ⟨T4, θ4, ρ4, s4, rr, PoS.later p2 ss⟩
        | bk ρ4 s4 => rw [er] at p2; exact p2
        | ret d s4 => rw [er] at p2; exact p2
        | ex x ρ4 s4 => rw [er] at p2; exact p2
        | stuck => rw [er] at p2; exact p2
      | false => exact p2 T2 θ2 H2 σ1 .refl r2
    | _ => exact p2.elim
theorem s_brk {pos : Pos} : PS X (.Break pos) (rdS g W (evS Γ .brk)) := PS_imp ps_break fun D σ H q => by
  obtain ⟨T, θ, ρ, st, r, p⟩ := q
  exact p T θ H σ .refl r
theorem s_cont {pos : Pos} : PS X (.Continue pos) (rdS g W (evS Γ .cont)) := PS_imp ps_continue fun D σ H q => by
  obtain ⟨T, θ, ρ, st, r, p⟩ := q
  exact p T θ H σ .refl r
theorem s_pass {pos : Pos} : PS X (.Pass pos) (rdS g W (evS Γ .pass)) := PS_imp ps_pass fun D σ H q => by
  obtain ⟨T, θ, ρ, st, r, p⟩ := q
  exact p T θ H σ .refl r
/-! ### rows of statements -/
theorem ss_nil : PSs X [] (rdS g W (evSs Γ .nil)) := PSs_imp pss_nil fun D σ H q => by
  obtain ⟨T, θ, ρ, st, r, p⟩ := q
  exact p T θ H σ .refl r
theorem seq_read {a : S} {b : Ss} {D : Ends} {T : Tg'} {θ : List Addr} {H : Hp} {ρ : Ro} {st : Sto} (p : PoS g W (evSs Γ (.cons a b) ρ st) T θ H D) : PoS g W (evS Γ a ρ st) T θ H { D with nx := rdS g W (evSs Γ b) D } := by
  simp only [evSs] at p
  cases e : evS Γ a ρ st with
  | nx ρ4 s4 =>
    rw [e] at p
    exact fun T4 θ4 H4 σ4 ss rr => ⟨T4, θ4, ρ4, s4, rr, PoS.later p ss⟩
  | ct ρ4 s4 => rw [e] at p; exact p
  | bk ρ4 s4 => rw [e] at p; exact p
  | ret d s4 => rw [e] at p; exact p
  | ex x ρ4 s4 => rw [e] at p; exact p
  | stuck => rw [e] at p; exact p
theorem ss_cons {a : S} {b : Ss} {x : Stmt} {xs : List Stmt} (h1 : PS X x (rdS g W (evS Γ a))) (h2 : PSs X xs (rdS g W (evSs Γ b))) : PSs X (x :: xs) (rdS g W (evSs Γ (.cons a b))) := by
  refine PSs_imp (pss_cons h1 h2) fun D σ H q => ?_
  obtain ⟨T, θ, ρ, st, r, p⟩ := q
  exact ⟨T, θ, ρ, st, r, seq_read p⟩
theorem ss_frz {i : Nat} {b : Ss} {xs : List Stmt} (h : PSs X xs (rdS g W (evSs Γ b))) : PSs X xs (rdS g W (evSs Γ (.cons (.frz i) b))) := by
  refine PSs_imp h fun D σ H q => ?_
  obtain ⟨T, θ, ρ, st, r, p⟩ := q
  simp only [evSs, evS] at p
  cases e : ρ[i]? with
  | none => rw [e] at p; exact p.elim
  | some sl =>
    rw [e] at p
    cases sl with
    | ow d =>
      obtain ⟨T', s', r'⟩ := r.frz e
      exact ⟨T', θ, _, st, r', PoS.later p s'⟩
    | _ => exact p.elim
end
end Z
set_option Elab.async false
set_option linter.all false
set_option maxRecDepth 100000
set_option maxHeartbeats 4000000
/-! Z17: try with clauses, each with a name or none; what a clause's suite may ask of the error. -/
namespace Z
open PySem PySem.Spec PyProof.Rows L2

/-- what a clause's end does to the slots -/
def endsAt (D : Ends) (i : Nat) : Ends := { nx := fun σ H => D.nx (σ.set i none) H, rt := D.rt, bk := fun σ H => D.bk (σ.set i none) H, ct := fun σ H => D.ct (σ.set i none) H }
/-- a clause: the class's value, the name's slot, the suite's reading -/
abbrev Clz := Value × Option Nat × (Addr → Value → Option Addr → TS)
def runC (ni : Option Nat) (ts : TS) (a : Addr) (D : Ends) (σ : L2.St) (H : Hp) : Prop := match ni with
  | none => ts D σ H
  | some i => ts (endsAt D i) (σ.set i (some (.ref a))) H
def wCl (K : PySem.W.Frag) (Wout : WX) (D : Ends) : List Clz → WX
  | [] => Wout
  | (c, ni, ts) :: r => fun cls d σ H => ∃ b, PySem.W.exmOne K cls c = some b ∧ (b = true → ∀ a, H a = none → runC ni (ts a cls d) a D σ H) ∧ (b = false → wCl K Wout D r cls d σ H)
def nameOk (X : Cx) : Option Str → Option Nat → Prop
  | none, none => True
  | some n, some i => X.N[i]? = some n ∧ X.env.kindOf n = some .local
  | _, _ => False
inductive ClOk (X : Cx) : List ExceptHandler → List Clz → Prop
  | nil : ClOk X [] []
  | cons {x : Str} {c : Value} {on : Option Str} {ni : Option Nat} {ts : Addr → Value → Option Addr → TS} {b : Stmt} {bs : List Stmt} {p q : Pos} {hds : List ExceptHandler} {l : List Clz} (hc : Names X x c) (hn : nameOk X on ni)
      (hsu : ∀ (a : Addr) (oe : Obj) (cls : Value) (d : Option Addr) (pn : List (Addr × Obj)), Zc cls d oe → (∃ vs, oe.data = .fields vs) → PSs (X.suite a ((a, oe) :: pn)) (b :: bs) (ts a cls d)) (r : ClOk X hds l) :
      ClOk X (.ExceptHandler (some (.Name x p)) on (b :: bs) q :: hds) ((c, ni, ts) :: l)
section
variable {X : Cx} {pins : List (Addr × Obj)}
/-- what stands while the clauses are looked at: the error at a -/
structure Hold (X : Cx) (pins : List (Addr × Obj)) (σ : L2.St) (H : Hp) (B : Heap) (sI s : Shared) (a : Addr) (cls : Value) (d : Option Addr) : Prop where
  inv : L2.Inv X pins σ H sI
  nb : ∀ b o, sI.heap.get? b = some o → b ∉ frs X.stack → B.get? b = some o
  up : sI.heap.UpToSlots s.heap
  fl : HandSPX.FlyingZ B (X.env :: X.outer) a (Zc cls d) s.heap
  na : H a = none
  os : s.os = sI.os
  ag : AllBare s.gens
theorem Hold.at {σ : L2.St} {H : Hp} {B : Heap} {sI s : Shared} {a : Addr} {cls : Value} {d : Option Addr} (h : Hold X pins σ H B sI s a cls d) : L2.Inv X pins σ H s := h.inv.landed h.nb h.fl.1 h.up h.os h.ag
theorem Hold.suite {σ : L2.St} {H : Hp} {B : Heap} {sI s : Shared} {a : Addr} {cls : Value} {d : Option Addr} (h : Hold X pins σ H B sI s a cls d) (hf : X.env.frame = some X.env.locals) : ∃ oe, Zc cls d oe ∧ (∃ vs, oe.data = .fields vs) ∧ s.heap.get? a = some oe ∧ L2.Inv (X.suite a ((a, oe) :: (X.pn ++ pins))) [] σ H s := by
  obtain ⟨oe, vs, he, hz, hd⟩ := h.fl.there
  have out : a ∉ frs (X.env :: X.outer) := fun hm => by
    obtain ⟨_, o', e', nf⟩ := h.fl.2.2.1.mem hm
    rw [he] at e'
    cases e'
    exact nf _ hd
  have out1 : a ≠ X.env.locals := fun e => out (List.mem_filterMap.mpr ⟨X.env, List.mem_cons_self, by rw [hf, e]⟩)
  have out2 : a ∉ X.fs := fun hm => by
    obtain ⟨e, m1, m2⟩ := List.mem_filterMap.mp hm
    exact out (List.mem_filterMap.mpr ⟨e, List.mem_cons_of_mem _ m1, m2⟩)
  exact ⟨oe, hz, ⟨vs, hd⟩, he, h.at.suite he hd h.na out1 out2⟩
/-- the error goes on -/
theorem Hold.out {Wout : WX} {D : Ends} {σ : L2.St} {H : Hp} {B : Heap} {sI s : Shared} {a : Addr} {cls : Value} {d : Option Addr} (h : Hold X pins σ H B sI s a cls d) (hs : X.stack = X.env :: X.outer) (hf : X.env.frame = some X.env.locals) (tk : Takes X Wout) (w : Wout cls d σ H) :
    wpAny (model X.prog X.w) X.A (handleBy (.ref a) X.env []) (SP X pins D) X.xe s := by
  refine wpAny_handleBy_nil ?_
  have go : wpAny (model X.prog X.w) X.A (setFlight (.ref a) X.env.frame) (fun _ s4 => wpAny (model X.prog X.w) X.A (throw (.ref a) : Sem Flow) (SP X pins D) X.xe s4) X.xe s := by
    rw [hf]
    refine HandSPX.setFlight_upZ h.fl fun h4 hh4 up4 => wpAny_throw (tk _ _ ?_)
    refine ⟨a, B, sI, pins, σ, H, cls, d, rfl, h.inv, h.nb, h.up.trans up4, .inr (.inr ?_), h.na, h.os, h.ag, w⟩
    rw [hs]
    exact hh4
  obtain ⟨_, _, _, oe, vs, tr, _, _, he, _, hd, h1, _⟩ := id h.fl
  unfold PySem.passOn
  refine wpAny_bind (wpAny_field he hd h1 ?_)
  have nn : ¬ ((Value.ref tr == Value.none) = true) := fun z => by simp at z
  rw [if_neg nn]
  first
    | exact wpAny_bind go
    | exact wpAny_bind (wpAny_pure (wpAny_bind go))
theorem Hold.lands {σ : L2.St} {H : Hp} {B : Heap} {sI s : Shared} {a : Addr} {cls : Value} {d : Option Addr} {Q : Unit → Shared → Prop} {E : Value → Shared → Prop} {A : Around} (h : Hold X pins σ H B sI s a cls d) (k : ∀ s', Hold X pins σ H B sI s' a cls d → Q () s') :
    wpAny (model X.prog X.w) A (setFlight (.ref a) none) Q E s :=
  HandSPX.lands_againZ h.fl fun h4 fl4 up4 => k { s with heap := h4 } ⟨h.inv, h.nb, h.up.trans up4, fl4, h.na, h.os, h.ag⟩
theorem clauses_run {Wout : WX} {D : Ends} {σ : L2.St} {H : Hp} {B : Heap} {sI : Shared} {a : Addr} {cls : Value} {d : Option Addr} (hs : X.stack = X.env :: X.outer) (hf : X.env.frame = some X.env.locals) (hN : X.N.Nodup) (tk : Takes X Wout) :
    ∀ {hds : List ExceptHandler} {l : List Clz} {s : Shared}, ClOk X hds l → Hold X pins σ H B sI s a cls d → wCl X.K Wout D l cls d σ H → wpAny (model X.prog X.w) X.A (handleBy (.ref a) X.env hds) (SP X pins D) X.xe s
  | _, _, s, .nil, h, w => h.out hs hf tk w
  | _, _, s, .cons (x := x) (c := c) (on := on) (ni := ni) (ts := ts) (p := p) (q := pq) hc hn hsu r, h, w => by
    obtain ⟨b, hb, yes, no⟩ := w
    obtain ⟨oe, hz, hv, he, I1⟩ := h.suite hf
    refine wpAny_handleBy_cons (codeAny_handlers_test ?_) (fun z => nomatch z)
    have ask : ∀ {Q : Value → Shared → Prop} {E : Value → Shared → Prop}, Q c s → wpAny (model X.prog X.w) (X.A.mark (some (.ref a))) (eval (.Name x p) X.env) Q E s := fun {Q E} z => by
      obtain ⟨g1, g2, g3 | ⟨g3, g4, g5⟩⟩ := hc
      · exact ld_glob (X := X.suite a ((a, oe) :: (X.pn ++ pins))) I1 g1 g3 z g2
      · exact ld_blt (X := X.suite a ((a, oe) :: (X.pn ++ pins))) I1 g1 g3 g4 z g5 g2
    have ty : PySem.W.Looks (model X.prog X.w) s.heap (typeOf (.ref a)) cls := fun A Q E s' k z => wpAny_typeOf_ref (k _ _ he) (by rw [hz.1]; exact z)
    refine ask ((PySem.W.exm_one h.at.kIn ty hb).here ?_)
    cases b with
    | false =>
      show wpAny _ X.A (handleBy (.ref a) X.env _) _ _ _
      exact clauses_run hs hf hN tk r h (no rfl)
    | true =>
      have y := yes rfl a h.na
      cases on with
      | none =>
        cases ni with
        | some i => exact hn.elim
        | none =>
          refine codeAny_handlers_suite (h.lands fun s4 h4 => ?_)
          obtain ⟨oe4, hz4, hv4, he4, I4⟩ := h4.suite hf
          refine wpAny_mono ((hsu a oe4 cls d (X.pn ++ pins) hz4 hv4).run [] s4 σ H D I4 y) (fun f s6 z => ?_) fun _ _ z => z.elim
          cases f with
          | next => obtain ⟨σ6, H6, J, k⟩ := z; exact ⟨σ6, H6, J.unsuite h.inv.ok, k⟩
          | brk => obtain ⟨σ6, H6, J, k⟩ := z; exact ⟨σ6, H6, J.unsuite h.inv.ok, k⟩
          | cont => obtain ⟨σ6, H6, J, k⟩ := z; exact ⟨σ6, H6, J.unsuite h.inv.ok, k⟩
          | ret u => obtain ⟨v6, σ6, H6, J, rv, k⟩ := z; exact ⟨v6, σ6, H6, J.unsuite h.inv.ok, rv, k⟩
      | some n =>
        cases ni with
        | none => exact hn.elim
        | some i =>
          obtain ⟨n1, n2⟩ := hn
          refine codeAny_handlers_suite_as (h.lands fun s4 h4 => ?_)
          obtain ⟨oe4, hz4, hv4, he4, I4⟩ := h4.suite hf
          refine store_ok (X := X.suite a ((a, oe4) :: (X.pn ++ pins))) (v := .ref a) I4 hN n1 (.inl n2) rfl (fun s5 I5 => ?_) (.inr n2)
          refine wpAny_mono ((hsu a oe4 cls d (X.pn ++ pins) hz4 hv4).run [] s5 _ H (endsAt D i) I5 y) (fun f s6 z => ?_) fun _ _ z => z.elim
          have gone : ∀ {σ6 : L2.St} {H6 : Hp} {Q : Shared → Prop}, L2.Inv (X.suite a ((a, oe4) :: (X.pn ++ pins))) [] σ6 H6 s6 → (∀ s7, L2.Inv X pins (σ6.set i none) H6 s7 → Q s7) →
              wpAny (model X.prog X.w) X.A (do bindName X.env n .none; unbindBehindTheSuite X.env n pq) (fun _ s7 => Q s7) X.xe s6 := fun J k => gone_ok (J.unsuite h.inv.ok) hN n1 n2 k
          cases f with
          | next => obtain ⟨σ6, H6, J, k⟩ := z; exact gone J fun s7 J7 => ⟨_, H6, J7, k⟩
          | brk => obtain ⟨σ6, H6, J, k⟩ := z; exact gone J fun s7 J7 => ⟨_, H6, J7, k⟩
          | cont => obtain ⟨σ6, H6, J, k⟩ := z; exact gone J fun s7 J7 => ⟨_, H6, J7, k⟩
          | ret u => obtain ⟨v6, σ6, H6, J, rv, k⟩ := z; exact gone J fun s7 J7 => ⟨v6, _, H6, J7, rv, k⟩
theorem ps_tryN {body : List Stmt} {h₀ : ExceptHandler} {hds : List ExceptHandler} {l : List Clz} {pos : Pos} {tb : WX → TS} {Wout : WX} (hs : X.stack = X.env :: X.outer) (hf : X.env.frame = some X.env.locals) (hN : X.N.Nodup) (tk : Takes X Wout)
    (hb : ∀ (W : WX) (pn : List (Addr × Obj)) (xe : Value → Shared → Prop), Takes (X.tr pn xe) W → PassesOwn (model X.prog X.w) X.A X.env xe → PSs (X.tr pn xe) body (tb W)) (hh : ClOk X (h₀ :: hds) l) :
    PS X (.Try body (h₀ :: hds) [] [] pos) (fun D σ H => tb (wCl X.K Wout D l) D σ H) := by
  refine ⟨fun pins s σ H D I h => wpAny_Try_except ?_⟩
  have ok := I.ok
  have fr : X.A.frames = some (X.env :: X.outer) := ok.frames.trans (congrArg some hs)
  have run := (hb (wCl X.K Wout D l) (X.pn ++ pins) (fun e s₁ => wpAny (model X.prog X.w) X.A (noteFrame e X.env) (fun _ s₂ => wpAny (model X.prog X.w) X.A (setFlight e none)
    (fun _ s₃ => wpAny (model X.prog X.w) X.A (handleBy e X.env (h₀ :: hds)) (SP X pins D) X.xe s₃) X.xe s₂) X.xe s₁) (fun u s' xx => ?_) PassesOwn.looking).run [] s σ H D (I.toTry _) h
  · refine wpAny_mono run (fun f s1 z => ?_) fun e s1 z => z
    cases f with
    | next => obtain ⟨σ6, H6, J, k⟩ := z; exact wpAny_execs_nil ⟨σ6, H6, J.ofTry ok, k⟩
    | brk => obtain ⟨σ6, H6, J, k⟩ := z; exact ⟨σ6, H6, J.ofTry ok, k⟩
    | cont => obtain ⟨σ6, H6, J, k⟩ := z; exact ⟨σ6, H6, J.ofTry ok, k⟩
    | ret u => obtain ⟨v6, σ6, H6, J, rv, k⟩ := z; exact ⟨v6, σ6, H6, J.ofTry ok, rv, k⟩
  · obtain ⟨a, B, sI, pins', σ', H', cls, d, rfl, J', nb, up, sky, na, os, ag, w⟩ := xx
    have sky' : Sky B (X.env :: X.outer) a (Zc cls d) X.env.locals s'.heap := by
      rw [← hs]
      exact sky
    show wpAny (model X.prog X.w) X.A (noteFrame (.ref a) X.env) _ _ _
    exact Sky.land Zc.steady fr hf sky' fun h3 fl3 up3 => clauses_run hs hf hN tk hh (s := { s' with heap := h3 }) ⟨J'.ofTry ok, nb, up.trans up3, fl3, na, os, ag⟩ w
end
end Z
set_option Elab.async false
set_option linter.all false
set_option maxRecDepth 100000
set_option maxHeartbeats 4000000
/-! Z18: errors in a suite: fields, isinstance; try by data. -/
namespace Z
open PySem PySem.Spec PyProof.Rows L2

/-- the ground while a suite holds an error -/
def GC.hold (g : GC) (a : Addr) (cls : Value) (dd : Option Addr) : GC := { g with sx := some (a, cls, dd) }
section
variable {g : GC} {T T' : Tg'} {θ θ' : List Addr} {H H' : Hp} {σ : L2.St} {ρ : Ro} {st : Sto} {a : Addr} {cls : Value} {dd : Option Addr}
theorem WF.hold (w : WF g T θ H st) : WF (g.hold a cls dd) T θ H st := ⟨w.trk, w.own, w.cel, w.len, w.sto⟩
theorem WF.free (w : WF (g.hold a cls dd) T θ H st) : WF g T θ H st := ⟨w.trk, w.own, w.cel, w.len, w.sto⟩
theorem Po.free {α : Type} {W : WX} {r : Res α} {k : α → Sto → Tg' → List Addr → Hp → Prop} (h : Po (g.hold a cls dd) W σ r T θ H k) : Po g W σ r T θ H k := by
  cases r with
  | ok x s => exact fun T' θ' H' s1 w1 => h T' θ' H' s1 w1.hold
  | exc x s => exact fun T' θ' H' c1 d1 s1 w1 e1 => h T' θ' H' c1 d1 s1 w1.hold e1
  | stuck => exact h
theorem OwR.hold {p : Addr} {d : D} (h : OwR g T H p d) : OwR (g.hold a cls dd) T H p d := by
  cases d <;> exact h
theorem OwR.free {p : Addr} {d : D} (h : OwR (g.hold a cls dd) T H p d) : OwR g T H p d := by
  cases d <;> exact h
theorem SR.hold (hg : g.sx = none) (r : SR g T θ H σ ρ st) : SR (g.hold a cls dd) T θ H σ ρ st := by
  refine ⟨r.wf.hold, r.len, fun i s e => ?_⟩
  have z := r.sl i s e
  cases s with
  | un => trivial
  | sh d => exact z
  | ow d =>
    obtain ⟨p, e1, t, o⟩ := z
    exact ⟨p, e1, t, o.hold⟩
  | ex x =>
    obtain ⟨p, c, d, e1, _⟩ := z
    rw [hg] at e1
    cases e1
theorem SR.clr (hg : g.sx = none) (r : SR (g.hold a cls dd) T θ H σ ρ st) : SR g T θ H σ (ρ.map unEx) st := by
  refine ⟨r.wf.free, by rw [List.length_map]; exact r.len, fun i s e => ?_⟩
  rw [List.getElem?_map] at e
  obtain ⟨s', e1, e2⟩ := Option.map_eq_some_iff.mp e
  have z := r.sl i s' e1
  cases s' with
  | un => subst e2; trivial
  | sh d => subst e2; exact z
  | ow d =>
    subst e2
    obtain ⟨p, e1, t, o⟩ := z
    exact ⟨p, e1, t, o.free⟩
  | ex x => subst e2; trivial
end
theorem lookup_rep {g : GC} {T : Tg'} {H : Hp} {f : Str} : ∀ {xs : List (Str × D)} {fs : List (Str × V)} {d : D}, fs.map Prod.fst = xs.map Prod.fst → RepL g.K g.fad T H (xs.map Prod.snd) (fs.map Prod.snd) → xs.lookup f = some d → ∃ v, fs.lookup f = some v ∧ Rep g.K g.fad T H d v
  | [], _, _, _, _, e => by simp at e
  | (n, d0) :: xs, [], _, e1, _, _ => by simp at e1
  | (n, d0) :: xs, (m, v0) :: fs, d, e1, r, e => by
    simp only [List.map_cons, List.cons.injEq] at e1
    obtain ⟨rfl, e1⟩ := e1
    simp only [List.map_cons, RepL, List.cons.injEq] at r
    obtain ⟨v, ws, ⟨rfl, rfl⟩, h1, h2⟩ := r
    simp only [List.lookup_cons] at e ⊢
    cases hb : f == m with
    | true =>
      rw [hb] at e
      cases e
      exact ⟨v0, rfl, h1⟩
    | false =>
      rw [hb] at e
      exact lookup_rep e1 h2 e

/-- what is told of the errors' classes -/
structure Xok (Γ : G) (z : Nm) (g : GC) (X : Cx) : Prop where
  cad : ∀ j x, z.xn[j]? = some x → ∃ C, X.mg x = some (.ref C) ∧ g.cad j = some C
  xf : ∀ j C, g.cad j = some C → XfC X.K C
  noF : ∀ j C f, g.cad j = some C → f ∈ z.xf → PySem.W.findIn X.K (.ref C) f = some none
  exm : ∀ i j b C C', Γ.sup i j = some b → g.cad i = some C → g.cad j = some C' → PySem.W.exmOne X.K (.ref C) (.ref C') = some b
  kit : ∀ i j b C C', Γ.sup i j = some b → g.cad i = some C → g.cad j = some C' → PySem.W.kitOne X.K (.ref C) (.ref C') = some b
  exc : ∀ j C, g.cad j = some C → ExcC X.K C
  kitv : ∀ j C, g.cad j = some C → PySem.W.kitOne X.K (.ref C) (.type "ValueError") = some true
section
variable {z : Nm} {Γ : G} {g : GC} {W : WX} {c : Ce} {X : Cx}
/-- a suite -/
def Ce.suite (c : Ce) : Ce := { c with calm := false, xs := true }
theorem xf_of (Z : Xok Γ z g X) (hK : X.K = g.K) {a : Addr} {oe : Obj} {cls : Value} {d : Option Addr} {pn : List (Addr × Obj)} (hz : Zc cls d oe) (hv : ∃ vs, oe.data = .fields vs) {i : Nat} {x f : Str} {p pos : Pos} (hN : X.N[i]? = some x) (hvis : Vis X.env.scope x) (h1 : (x == ("__debug__" : Str)) = false) (h2 : (x == ("__classdict__" : Str)) = false) (hf : f ∈ z.xf) :
    PE (X.suite a ((a, oe) :: pn)) (.Attribute (.Name x p) f pos) (rd (g.hold a cls d) W0 fun ρ s => match ρ[i]? with
    | some (.ex v) => match v.fs.lookup f with
      | some d => .ok d s
      | none => .stuck
    | _ => .stuck) := by
  refine ⟨fun pins s σ H Q I q => ?_⟩
  obtain ⟨T, θ, ρ, st, r, po⟩ := q
  dsimp only at po
  cases e : ρ[i]? with
  | none => rw [e] at po; exact po.elim
  | some sl =>
    rw [e] at po
    cases sl with
    | ex v =>
      obtain ⟨a', cls', dd', s1, s2, hx⟩ := r.sl i _ e
      cases s1
      obtain ⟨C, dx, fs, c1, c2, c3, c4, c5, c6, c7⟩ := hx
      subst c2
      subst c3
      cases el : v.fs.lookup f with
      | none => dsimp only at po; rw [el] at po; exact po.elim
      | some dv =>
        dsimp only at po
        rw [el] at po
        obtain ⟨u, l1, l2⟩ := lookup_rep (g := g) c6 c7 el
        have tv : tVar i σ H (fun x H1 => x = .ref a ∧ (Value.ref C) = .ref C ∧ ∃ (dd : Addr) (fs : List (Str × V)) (v : V), some dx = some dd ∧ H1 dd = some (.xd fs) ∧ fs.lookup f = some v ∧ Q v H1) :=
          ⟨.ref a, s2, rfl, rfl, dx, fs, u, rfl, c5, l1, po T θ H .refl r.wf u l2⟩
        exact (pe_xf (n := f) (Z.xf _ C c1) (Z.noF _ C f c1 hf) hz hv (pe_var (X := X.suite a ((a, oe) :: pn)) hN hvis h1 h2) rfl).run pins s σ H Q I tv
    | _ => exact po.elim
/-- isinstance(e, C), e the error that the suite holds, with its own dict -/
def rIsX (K : PySem.W.Frag) (a : Addr) (cls : Value) (d : Option Addr) : List V → Hp → VK → Prop := fun xs H Q => ∃ C C' b dd fs, xs = [.ref a, .ref C'] ∧ cls = .ref C ∧ ExcC K C ∧ PySem.W.kitOne K (.ref C) (.ref C') = some b ∧ d = some dd ∧ H dd = some (.xd fs) ∧ Q (.bl b) H
theorem call_isX {a : Addr} {oe : Obj} {cls : Value} {d : Option Addr} {pn : List (Addr × Obj)} (hz : Zc cls d oe) (hv : ∃ vs, oe.data = .fields vs) : CallR (X.suite a ((a, oe) :: pn)) (.builtin "isinstance") (rIsX X.K a cls d) := by
  intro pins s σ H xs us Q I r h
  obtain ⟨C, C', b, dd, fs, rfl, rfl, E, hk, rfl, hx, q⟩ := h
  obtain ⟨u1, u2, rfl, r1, r2⟩ := vals2 r
  obtain rfl : u1 = Value.ref a := r1
  obtain rfl : u2 = Value.ref C' := r2
  obtain ⟨at_, _⟩ := I.pin (a, oe) (List.mem_append.mpr (.inl List.mem_cons_self))
  obtain ⟨vs, hd⟩ := hv
  obtain ⟨mA, hns, _⟩ : ObjOk X.prog X.w H s.heap dd (.xd fs) := I.hok dd _ hx
  obtain ⟨od, ho, _⟩ := lookIn_ns hns
  have J : PySem.W.InstAt s.heap a oe C (some od) := ⟨at_, hz.1, by unfold PySem.W.notCls; rw [hd] <;> rfl, by rw [hz.2]; exact ho⟩
  have hcl : (PySem.W.clsIn X.K C).isSome = true := by
    obtain ⟨cd, hc, _⟩ := PySem.W.any_some E.hd
    rw [hc]
    rfl
  exact PySem.W.kia_one (PySem.W.kitx_exc hcl E.hg E.hk E.hs E.ha E.hn E.ht E.hm) I.kIn J hk (fun z => nomatch z) fun tk => ⟨.bl b, H, I.tok tk, rfl, q⟩
theorem xi_of (Z : Xok Γ z g X) (hK : X.K = g.K) {a : Addr} {oe : Obj} {cls : Value} {d : Option Addr} {pn : List (Addr × Obj)} (hz : Zc cls d oe) (hv : ∃ vs, oe.data = .fields vs) {i k : Nat} {x t : Str} {p p2 p3 pos : Pos} (hN : X.N[i]? = some x) (hvis : Vis X.env.scope x) (h1 : (x == ("__debug__" : Str)) = false) (h2 : (x == ("__classdict__" : Str)) = false)
    (hk : z.xn[k]? = some t) (gt : Gl X t) (ht : (t == ("__debug__" : Str)) = false) (gi : Gl X "isinstance") (mi : X.mg "isinstance" = none) :
    PE (X.suite a ((a, oe) :: pn)) (.Call (.Name "isinstance" p) [.Name x p2, .Name t p3] [] pos) (rd (g.hold a cls d) W0 fun ρ s => match ρ[i]? with
    | some (.ex v) => match Γ.sup v.cls k with
      | some b => .ok (.bl b) s
      | none => .stuck
    | _ => .stuck) := by
  obtain ⟨C', m1, m2⟩ := Z.cad k t hk
  have args : PA (X.suite a ((a, oe) :: pn)) [.Name x p2, .Name t p3] (tCons (tVar i) (tCons (tC (.ref C')) tNil)) := pa_cons (pe_var (X := X.suite a ((a, oe) :: pn)) hN hvis h1 h2) (pa_cons (pe_glob (X := X.suite a ((a, oe) :: pn)) gt m1 rfl ht) pa_nil rfl) rfl
  have call := pe_callB (X := X.suite a ((a, oe) :: pn)) (p := p) (pos := pos) (call_isX hz hv) gi mi (by decide +kernel) args (by decide) (by decide) rfl rfl
  refine PE_imp call fun σ H Q q => ?_
  obtain ⟨T, θ, ρ, st, r, po⟩ := q
  dsimp only at po
  cases e : ρ[i]? with
  | none => rw [e] at po; exact po.elim
  | some sl =>
    rw [e] at po
    cases sl with
    | ex v =>
      obtain ⟨a', cls', dd', s1, s2, hx⟩ := r.sl i _ e
      cases s1
      obtain ⟨C, dx, fs, c1, c2, c3, c4, c5, c6, c7⟩ := hx
      subst c2
      subst c3
      dsimp only at po
      cases eb : Γ.sup v.cls k with
      | none => rw [eb] at po; exact po.elim
      | some b =>
        rw [eb] at po
        exact ⟨.ref a, s2, C, C', b, dx, fs, rfl, rfl, Z.exc _ C c1, Z.kit _ _ b C C' eb c1 m2, rfl, c5, po T θ H .refl r.wf _ mkBl⟩
    | _ => exact po.elim
/-- isinstance(e, ValueError) -/
def rIsV (K : PySem.W.Frag) (a : Addr) (cls : Value) (d : Option Addr) : List V → Hp → VK → Prop := fun xs H Q => ∃ C b dd fs, xs = [.ref a, .ty "ValueError"] ∧ cls = .ref C ∧ ExcC K C ∧ PySem.W.kitOne K (.ref C) (.type "ValueError") = some b ∧ d = some dd ∧ H dd = some (.xd fs) ∧ Q (.bl b) H
theorem call_isV {a : Addr} {oe : Obj} {cls : Value} {d : Option Addr} {pn : List (Addr × Obj)} (hz : Zc cls d oe) (hv : ∃ vs, oe.data = .fields vs) : CallR (X.suite a ((a, oe) :: pn)) (.builtin "isinstance") (rIsV X.K a cls d) := by
  intro pins s σ H xs us Q I r h
  obtain ⟨C, b, dd, fs, rfl, rfl, E, hk, rfl, hx, q⟩ := h
  obtain ⟨u1, u2, rfl, r1, r2⟩ := vals2 r
  obtain rfl : u1 = Value.ref a := r1
  obtain rfl : u2 = Value.type "ValueError" := r2
  obtain ⟨at_, _⟩ := I.pin (a, oe) (List.mem_append.mpr (.inl List.mem_cons_self))
  obtain ⟨vs, hd⟩ := hv
  obtain ⟨mA, hns, _⟩ : ObjOk X.prog X.w H s.heap dd (.xd fs) := I.hok dd _ hx
  obtain ⟨od, ho, _⟩ := lookIn_ns hns
  have J : PySem.W.InstAt s.heap a oe C (some od) := ⟨at_, hz.1, by unfold PySem.W.notCls; rw [hd] <;> rfl, by rw [hz.2]; exact ho⟩
  have hcl : (PySem.W.clsIn X.K C).isSome = true := by
    obtain ⟨cd, hc, _⟩ := PySem.W.any_some E.hd
    rw [hc]
    rfl
  exact PySem.W.kia_one (PySem.W.kitx_exc hcl E.hg E.hk E.hs E.ha E.hn E.ht E.hm) I.kIn J hk (fun z => nomatch z) fun tk => ⟨.bl b, H, I.tok tk, rfl, q⟩
theorem xv_of (Z : Xok Γ z g X) (hK : X.K = g.K) {a : Addr} {oe : Obj} {cls : Value} {d : Option Addr} {pn : List (Addr × Obj)} (hz : Zc cls d oe) (hv : ∃ vs, oe.data = .fields vs) {i : Nat} {x : Str} {p p2 p3 pos : Pos} (hN : X.N[i]? = some x) (hvis : Vis X.env.scope x) (h1 : (x == ("__debug__" : Str)) = false) (h2 : (x == ("__classdict__" : Str)) = false)
    (gt : Gl X "ValueError") (mt : X.mg "ValueError" = none) (gi : Gl X "isinstance") (mi : X.mg "isinstance" = none) :
    PE (X.suite a ((a, oe) :: pn)) (.Call (.Name "isinstance" p) [.Name x p2, .Name "ValueError" p3] [] pos) (rd (g.hold a cls d) W0 fun ρ s => match ρ[i]? with
    | some (.ex _) => .ok (.bl true) s
    | _ => .stuck) := by
  have hb : PE (X.suite a ((a, oe) :: pn)) (.Name "ValueError" p3) (tC (.ty "ValueError")) := by
    refine pe_bltn (u := .type "ValueError") gt mt ?_ rfl ?_ ?_
    · decide +kernel
    · decide
    · decide
  have args : PA (X.suite a ((a, oe) :: pn)) [.Name x p2, .Name "ValueError" p3] (tCons (tVar i) (tCons (tC (.ty "ValueError")) tNil)) := pa_cons (pe_var (X := X.suite a ((a, oe) :: pn)) hN hvis h1 h2) (pa_cons hb pa_nil rfl) rfl
  have call := pe_callB (X := X.suite a ((a, oe) :: pn)) (p := p) (pos := pos) (call_isV hz hv) gi mi (by decide +kernel) args (by decide) (by decide) rfl rfl
  refine PE_imp call fun σ H Q q => ?_
  obtain ⟨T, θ, ρ, st, r, po⟩ := q
  dsimp only at po
  cases e : ρ[i]? with
  | none => rw [e] at po; exact po.elim
  | some sl =>
    rw [e] at po
    cases sl with
    | ex v =>
      obtain ⟨a', cls', dd', s1, s2, hx⟩ := r.sl i _ e
      cases s1
      obtain ⟨C, dx, fs, c1, c2, c3, c4, c5, c6, c7⟩ := hx
      subst c2
      subst c3
      dsimp only at po
      exact ⟨.ref a, s2, C, true, dx, fs, rfl, rfl, Z.exc _ C c1, Z.kitv _ C c1, rfl, c5, po T θ H .refl r.wf _ mkBl⟩
    | _ => exact po.elim
/-- a def of one error, called with it -/
theorem xg_of {a : Addr} {oe : Obj} {cls : Value} {d : Option Addr} {pn : List (Addr × Obj)} (hz : Zc cls d oe) (hv : ∃ vs, oe.data = .fields vs) {i k : Nat} {x t : Str} {f : Addr} {p p2 pos : Pos} (hg : X.A.guards = some []) (hN : X.N[i]? = some x) (hvis : Vis X.env.scope x) (h1 : (x == ("__debug__" : Str)) = false) (h2 : (x == ("__classdict__" : Str)) = false)
    (gt : Gl X t) (mt : X.mg t = some (.ref f)) (ht : (t == ("__debug__" : Str)) = false) (F : ∀ m, Γ.fxs k = some m → FxAt X g f m) :
    PE (X.suite a ((a, oe) :: pn)) (.Call (.Name t p) [.Name x p2] [] pos) (rd (g.hold a cls d) W0 fun ρ s => match ρ[i]? with
    | some (.ex v) => match Γ.fxs k with
      | some m => m v s
      | none => .stuck
    | _ => .stuck) := by
  refine ⟨fun pins s σ H Q I q => ?_⟩
  obtain ⟨T, θ, ρ, st, r, po⟩ := q
  dsimp only at po
  cases e : ρ[i]? with
  | none => rw [e] at po; exact po.elim
  | some sl =>
    rw [e] at po
    cases sl with
    | ex v =>
      obtain ⟨a', cls', dd', s1, s2, hx⟩ := r.sl i _ e
      cases s1
      dsimp only at po
      cases em : Γ.fxs k with
      | none => rw [em] at po; exact po.elim
      | some m =>
        rw [em] at po
        obtain ⟨fd, y, k', hk, hb, F', hr⟩ := F m em
        refine wpAny_Call_Name_kw (ld_glob I gt mt ?_ ht)
        refine PySem.W.callWith_K (h₀ := X.base) I.ok.mod.kin hk ?_ rfl rfl
        have tv : tVar i σ H (fun u H1 => u = .ref a ∧ spX g m a cls d H1 Q) := ⟨.ref a, s2, rfl, spX_of r.wf.free hx (show Po g (fun _ _ _ _ => False) σ (m v st) T θ H _ from Po.free po)⟩
        refine thn ((pa_cons (pe_var (X := X.suite a ((a, oe) :: pn)) (pos := p2) hN hvis h1 h2) pa_nil rfl).run pos pins s σ H (fun vs H1 => vs = [.ref a] ∧ spX g m a cls d H1 Q) I ?_) fun us s1 ⟨vs, H1, I1, rv, q1, q2⟩ => ⟨I1.kIn, ?_⟩
        · obtain ⟨u, hu, hu2, hu3⟩ := tv
          exact ⟨u, hu, by rw [hu2], hu3⟩
        · subst q1
          obtain ⟨u, rfl, ru⟩ : ∃ u, us = [u] ∧ RelV (.ref a) u := by
            cases rv with
            | cons r1 r2 => cases r2; exact ⟨_, rfl, r1⟩
          obtain rfl : u = Value.ref a := ru
          exact run_fnX F' hz hv hg (L2H.roomH_of hr) hb I1 q2
    | _ => exact po.elim
/-- a suite's context -/
theorem Cok.suite (C : Cok Γ z g W c X) (hc : c.calm = true) (Z : Xok Γ z g X) {a : Addr} {oe : Obj} {cls : Value} {d : Option Addr} {pn : List (Addr × Obj)} (hz : Zc cls d oe) (hv : ∃ vs, oe.data = .fields vs) : Cok Γ z (g.hold a cls d) W0 c.suite (X.suite a ((a, oe) :: pn)) where
  hK := C.hK
  hN := C.hN
  nd := C.nd
  sc := C.sc
  fs := C.fs
  calm := fun h => nomatch h
  guards := C.guards
  units := C.units
  tk := takes0
  bi := C.bi
  cst := C.cst
  fns := fun h => nomatch h
  fat := fun h => nomatch h
  exf := fun _ i x f p pos hs hf => by
    have hs' : slotB c i x = true := hs
    unfold slotB at hs'
    simp only [Bool.and_eq_true, decide_eq_true_eq] at hs'
    obtain ⟨n1, n2, _⟩ := nameB_d hs'.2
    exact xf_of Z C.hK hz hv (by rw [C.hN]; exact hs'.1.1) (C.vis hs'.1.2) n1 n2 hf
  exi := fun _ i k x t p p2 p3 pos hs hk gt nt gi => by
    have hs' : slotB c i x = true := hs
    unfold slotB at hs'
    simp only [Bool.and_eq_true, decide_eq_true_eq] at hs'
    obtain ⟨n1, n2, _⟩ := nameB_d hs'.2
    exact xi_of Z C.hK hz hv (by rw [C.hN]; exact hs'.1.1) (C.vis hs'.1.2) n1 n2 hk (C.gl gt) (nameB_d nt).1 (C.gl gi) (C.bi _ (by decide))
  fnx := fun h => nomatch h
  fax := fun h => nomatch h
  exv := fun _ i x p p2 p3 pos hs gt gi => by
    have hs' : slotB c i x = true := hs
    unfold slotB at hs'
    simp only [Bool.and_eq_true, decide_eq_true_eq] at hs'
    obtain ⟨n1, n2, _⟩ := nameB_d hs'.2
    exact xv_of Z C.hK hz hv (by rw [C.hN]; exact hs'.1.1) (C.vis hs'.1.2) n1 n2 (C.gl gt) (C.bi _ (by decide)) (C.gl gi) (C.bi _ (by decide))
  exg := fun _ i f x t p p2 pos hs hf gt nt => by
    have hs' : slotB c i x = true := hs
    unfold slotB at hs'
    simp only [Bool.and_eq_true, decide_eq_true_eq] at hs'
    obtain ⟨n1, n2, _⟩ := nameB_d hs'.2
    cases em : Γ.fxs f with
    | none =>
      refine ⟨fun pins s σ H Q I q => ?_⟩
      obtain ⟨T, θ, ρ, st, r, po⟩ := q
      dsimp only at po
      split at po
      · exact po.elim
      · exact po.elim
    | some m =>
      obtain ⟨fa, m1, m2⟩ := C.fnx hc f t m hf em
      rw [← em]
      exact xg_of hz hv C.guards (by rw [C.hN]; exact hs'.1.1) (C.vis hs'.1.2) n1 n2 (C.gl gt) m1 (nameB_d nt).1 fun m' e' => C.fax hc f m' fa e' m2
end

/-! ### try -/
section
variable {z : Nm} {Γ : GS} {g : GC} {W : WX} {c : Ce} {X : Cx}
/-- the clauses and their readings -/
inductive HsOk (z : Nm) (Γ : GS) (g : GC) (X : Cx) : Hs → List ExceptHandler → List Clz → Prop
  | nil : HsOk z Γ g X .nil [] []
  | cons {k : Nat} {n : Option Nat} {on : Option Str} {b : Ss} {hs : Hs} {x : Str} {C : Addr} {p q : Pos} {st : Stmt} {sts : List Stmt} {hds : List ExceptHandler} {l : List Clz} (hc : Names X x (.ref C)) (hk : g.cad k = some C) (hn : nameOk X on n)
      (hsu : ∀ (a : Addr) (oe : Obj) (cls : Value) (d : Option Addr) (pn : List (Addr × Obj)), Zc cls d oe → (∃ vs, oe.data = .fields vs) → PSs (X.suite a ((a, oe) :: pn)) (st :: sts) (rdS (g.hold a cls d) W0 (evSs Γ b))) (r : HsOk z Γ g X hs hds l) :
      HsOk z Γ g X (.cons k n b hs) (.ExceptHandler (some (.Name x p)) on (st :: sts) q :: hds) ((.ref C, n, fun a cls d => rdS (g.hold a cls d) W0 (evSs Γ b)) :: l)
theorem HsOk.cl {hs : Hs} {hds : List ExceptHandler} {l : List Clz} (h : HsOk z Γ g X hs hds l) : ClOk X hds l := by
  induction h with
  | nil => exact .nil
  | cons hc hk hn hsu r ih => exact .cons hc hn hsu ih
theorem endH_po (hg : g.sx = none) {n : Option Nat} {r : SRes} {T : Tg'} {θ : List Addr} {H : Hp} {D : Ends} {a : Addr} {cls : Value} {dd : Option Addr} (h : PoS g W (endH n r) T θ H D) :
    PoS (g.hold a cls dd) W0 r T θ H (match n with | none => D | some i => endsAt D i) := by
  have cl : ∀ {T' : Tg'} {θ' : List Addr} {H' : Hp} {σ' : L2.St} {ρ : Ro} {st : Sto}, SR (g.hold a cls dd) T' θ' H' σ' ρ st → SR g T' θ' H' (match n with | none => σ' | some i => σ'.set i none) (clrE n ρ) st := fun {T' θ' H' σ' ρ st} r => by
    cases n with
    | none => exact r.clr hg
    | some i => exact (r.clr hg).set i (sl := .un) trivial
  cases r with
  | nx ρ st =>
    intro T' θ' H' σ' s1 r1
    have k := h T' θ' H' _ s1 (cl r1)
    cases n <;> exact k
  | bk ρ st =>
    intro T' θ' H' σ' s1 r1
    have k := h T' θ' H' _ s1 (cl r1)
    cases n <;> exact k
  | ct ρ st =>
    intro T' θ' H' σ' s1 r1
    have k := h T' θ' H' _ s1 (cl r1)
    cases n <;> exact k
  | ret d st =>
    intro T' θ' H' v s1 w1 hv
    have k := h T' θ' H' v s1 w1.free hv
    cases n <;> exact k
  | ex x ρ st => exact h.elim
  | stuck => exact h.elim
theorem hs_read (Z : Xok Γ.toG z g X) (hg : g.sx = none) {hs : Hs} {hds : List ExceptHandler} {l : List Clz} (h : HsOk z Γ g X hs hds l) : ∀ {x : XV} {T : Tg'} {θ : List Addr} {H : Hp} {σ : L2.St} {ρ : Ro} {st : Sto} {D : Ends} {cls : Value} {dd : Option Addr},
    SR g T θ H σ ρ st → ExR g T H x cls dd → PoS g W (evHs Γ hs x ρ st) T θ H D → wCl X.K W D l cls dd σ H := by
  induction h with
  | nil =>
    intro x T θ H σ ρ st D cls dd r hx p
    exact p T θ H σ cls dd .refl r hx
  | @cons k n on b hs x C p q s sts hds l hc hk hn hsu r ih =>
    intro x T θ H σ ρ st D cls dd r hx p
    obtain ⟨C', d, fs, c1, c2, c3, c4, c5, c6, c7⟩ := id hx
    simp only [evHs] at p
    cases eb : Γ.sup x.cls k with
    | none => rw [eb] at p; exact p.elim
    | some bb =>
      rw [eb] at p
      refine ⟨bb, by rw [c2]; exact Z.exm _ _ bb C' C eb c1 hk, fun hb a ha => ?_, fun hb => ?_⟩
      · subst hb
        have p2 := endH_po (a := a) (cls := cls) (dd := dd) hg p
        cases n with
        | none => exact ⟨T, θ, ρ, st, r.hold hg, p2⟩
        | some i =>
          refine ⟨T, θ, _, st, (r.hold hg (a := a) (cls := cls) (dd := dd)).set i (sl := .ex x) ⟨a, cls, dd, rfl, rfl, hx⟩, p2⟩
      · subst hb
        exact ih r hx p
theorem s_try {b : Ss} {hs : Hs} {body : List Stmt} {h₀ : ExceptHandler} {hds : List ExceptHandler} {l : List Clz} {pos : Pos} (Z : Xok Γ.toG z g X) (hg : g.sx = none) (h1 : X.stack = X.env :: X.outer) (h2 : X.env.frame = some X.env.locals) (hN : X.N.Nodup) (tk : Takes X W)
    (hb : ∀ (W : WX) (pn : List (Addr × Obj)) (xe : Value → Shared → Prop), Takes (X.tr pn xe) W → PassesOwn (model X.prog X.w) X.A X.env xe → PSs (X.tr pn xe) body (rdS g W (evSs Γ b))) (hh : HsOk z Γ g X hs (h₀ :: hds) l) :
    PS X (.Try body (h₀ :: hds) [] [] pos) (rdS g W (evS Γ (.tryx b hs))) := by
  refine PS_imp (ps_tryN (tb := fun W => rdS g W (evSs Γ b)) h1 h2 hN tk hb hh.cl) fun D σ H q => ?_
  obtain ⟨T, θ, ρ, st, r, p⟩ := q
  refine ⟨T, θ, ρ, st, r, ?_⟩
  simp only [evS] at p
  cases e : evSs Γ b ρ st with
  | ex x ρ' s' =>
    rw [e] at p
    exact fun T' θ' H' σ' cls dd ss rr hx => hs_read Z hg hh rr hx (PoS.later p ss)
  | nx ρ' s' => rw [e] at p; exact p
  | bk ρ' s' => rw [e] at p; exact p
  | ct ρ' s' => rw [e] at p; exact p
  | ret d s' => rw [e] at p; exact p
  | stuck => rw [e] at p; exact p
end
end Z
set_option Elab.async false
set_option linter.all false
set_option maxRecDepth 100000
set_option maxHeartbeats 4000000
/-! Z19: an error of the text is made: super().__init__ over ValueError, then its fields. -/
namespace Z
open PySem PySem.Spec PySem.Calls PyProof.Rows PySem.W PySem.HandSPX

/-! ### the text of such an __init__ -/
def argsB : List Str → List Expr → Bool
  | [], [] => true
  | p :: ps, e :: es => match e with
    | .Name n _ => decide (n = p) && argsB ps es
    | _ => false
  | _, _ => false
def asgB : List Str → List Stmt → Bool
  | [], [] => true
  | p :: ps, st :: sts => match st with
    | .Assign [.Attribute (.Name s _) f _] (.Name n _) _ => decide (s = ("self" : Str)) && decide (f = p) && decide (n = p) && asgB ps sts
    | _ => false
  | _, _ => false
def bodyB (ps : List Str) : List Stmt → Bool
  | .Expr (.Call (.Attribute (.Call (.Name s _) [] [] _) m ap) as [] cp) _ :: r => decide (s = ("super" : Str)) && decide (m = ("__init__" : Str)) && !as.isEmpty && argsB ps as && asgB ps r && (ap.endLine == cp.line) && decide (as.length < 20)
  | _ => false
/-- what the fields come to -/
def putAll (m : Str → Option Value) : List Str → List Value → Str → Option Value
  | p :: ps, v :: vs => putAll (fun y => if y = p then some v else m y) ps vs
  | _, _ => m
section
variable {prog : Program} {w : World} {A : Around} {E : Value → Shared → Prop} {K : Frag}
theorem kept_in {h0 h : Heap} {x : Addr} (X : K.In h0) (hx : K.lookup x = none) (k : ∀ b o, b ≠ x → h0.get? b = some o → h.get? b = some o) : K.In h := fun a o e =>
  k a o (fun z => by rw [z, hx] at e; cases e) (X a o e)
/-- the locals of the def -/
structure Locs (env : Env) (h : Heap) (x : Addr) (ps : List Str) (vs : List Value) : Prop where
  fn : env.scope.kind = .function
  self : env.kindOf "self" = some .local
  par : ∀ p ∈ ps, env.kindOf p = some .local
  ns : ∃ m, h.Ns env.locals m ∧ m "self" = some (.ref x) ∧ ∀ (i : Nat) (p : Str) (v : Value), ps[i]? = some p → vs[i]? = some v → m p = some v
  dbg : ∀ p ∈ ps, (p == ("__debug__" : Str)) = false
theorem Locs.tail {env : Env} {h : Heap} {x : Addr} {p : Str} {ps : List Str} {v : Value} {vs : List Value} (L : Locs env h x (p :: ps) (v :: vs)) : Locs env h x ps vs := by
  obtain ⟨m, h1, h2, h3⟩ := L.ns
  exact ⟨L.fn, L.self, fun q hq => L.par q (List.mem_cons_of_mem _ hq), ⟨m, h1, h2, fun i q u e1 e2 => h3 (i + 1) q u e1 e2⟩, fun q hq => L.dbg q (List.mem_cons_of_mem _ hq)⟩
theorem Locs.keep {env : Env} {h h' : Heap} {x : Addr} {ps : List Str} {vs : List Value} (L : Locs env h x ps vs) (k : ∀ o, h.get? env.locals = some o → h'.get? env.locals = some o) : Locs env h' x ps vs := by
  obtain ⟨m, h1, h2, h3⟩ := L.ns
  exact ⟨L.fn, L.self, L.par, ⟨m, h1.at k, h2, h3⟩, L.dbg⟩
theorem Locs.head {M : Model} {env : Env} {s : Shared} {x : Addr} {p : Str} {ps : List Str} {v : Value} {vs : List Value} {pos : Pos} {Q : Value → Shared → Prop} (L : Locs env s.heap x (p :: ps) (v :: vs)) (q : Q v s) : wpAny M A (eval (.Name p pos) env) Q E s := by
  obtain ⟨m, h1, h2, h3⟩ := L.ns
  exact wpAny_Name (wpAny_loadName_local L.fn (L.par p List.mem_cons_self) h1 (h3 0 p v rfl rfl) q) (L.dbg p List.mem_cons_self)
theorem Locs.me {M : Model} {env : Env} {s : Shared} {x : Addr} {ps : List Str} {vs : List Value} {pos : Pos} {Q : Value → Shared → Prop} (L : Locs env s.heap x ps vs) (q : Q (.ref x) s) : wpAny M A (eval (.Name "self" pos) env) Q E s := by
  obtain ⟨m, h1, h2, h3⟩ := L.ns
  exact wpAny_Name (wpAny_loadName_local L.fn L.self h1 h2 q) (by decide)
theorem args_run {M : Model} {env : Env} {s : Shared} {x : Addr} {pos : Pos} {Q : List Value → Shared → Prop} : ∀ {ps : List Str} {es : List Expr} {vs : List Value}, argsB ps es = true → ps.length = vs.length → Locs env s.heap x ps vs → Q vs s → wpAny M A (spliced (backTo pos (starEach es env))) Q E s
  | [], [], vs, _, hl, L, q => by
    cases vs with
    | nil => exact Calls.spliced_nil q
    | cons v vs => cases hl
  | [], _ :: _, _, h, _, _, _ => by cases h
  | _ :: _, [], _, h, _, _, _ => by cases h
  | p :: ps, e :: es, vs, h, hl, L, q => by
    unfold argsB at h
    split at h
    · simp only [Bool.and_eq_true, decide_eq_true_eq] at h
      obtain ⟨rfl, h2⟩ := h
      cases vs with
      | nil => cases hl
      | cons v vs =>
        refine Calls.spliced_cons (L.head ?_)
        exact wpAny_mono (args_run (Q := fun us s' => us = vs ∧ s' = s) h2 (by simpa using hl) L.tail ⟨rfl, rfl⟩) (fun us s' z => by obtain ⟨rfl, rfl⟩ := z; exact q) fun _ _ z => z
    · cases h
/-- what the written part says of such a class -/
structure ECls (K : Frag) (C : Addr) (ps : List Str) : Prop where
  cls : ∃ nm q N bs bm sn sub ab col dd k0 k1 k2 k3 k5, K.lookup C = some (excClassObj nm q C N bs bm true sn sub ab col dd k0 k1 k2 k3 k5 "ValueError.__new__") ∧ refsVE bm = true
  sa : findIn K (.ref C) "__setattr__" = some (some (.builtin "object.__setattr__"))
  noN : ∀ f ∈ ps, findIn K (.ref C) f = some none
/-- further fields -/
theorem more_run {C x dx : Addr} {h0 : Heap} {env : Env} (hnx : K.lookup x = none) (X0 : K.In h0) (hd : h0.objs.size ≤ dx) (hdx : dx ≠ x) (hLx : env.locals ≠ x) (hLd : env.locals ≠ dx) {fv : Array Value} :
    ∀ {ps : List Str} {sts : List Stmt} {vs : List Value} {done : List Str} {s : Shared} {m0 : Str → Option Value} {Q : Flow → Shared → Prop}, ECls K C ps → asgB ps sts = true → ps.length = vs.length → done.length + ps.length ≤ 900 →
      (∀ b o, b ≠ x → h0.get? b = some o → s.heap.get? b = some o) → Locs env s.heap x ps vs → s.heap.get? x = some { cls := .ref C, dict := some dx, data := .fields fv } → s.heap.Ns1 dx m0 → PySem.Within m0 done →
      (∀ s', s'.gens = s.gens → s'.drawn = s.drawn → s'.os = s.os → (∀ b o, b ≠ x → h0.get? b = some o → s'.heap.get? b = some o) → s'.heap.get? x = some { cls := .ref C, dict := some dx, data := .fields fv } → s'.heap.Ns1 dx (putAll m0 ps vs) → Q .next s') →
      wpAny (model prog w) A (execs sts env) Q E s
  | [], sts, vs, done, s, m0, Q, T, hb, hl, hz, kp, L, hx, hn, hw, q => by
    cases sts with
    | nil => exact wpAny_execs_nil (q s rfl rfl rfl kp hx hn)
    | cons st sts => cases hb
  | p :: ps, sts, vs, done, s, m0, Q, T, hb, hl, hz, kp, L, hx, hn, hw, q => by
    cases vs with
    | nil => cases hl
    | cons v vs =>
      cases sts with
      | nil => cases hb
      | cons st sts =>
        unfold asgB at hb
        split at hb
        · simp only [Bool.and_eq_true, decide_eq_true_eq] at hb
          obtain ⟨⟨⟨rfl, rfl⟩, rfl⟩, hb⟩ := hb
          obtain ⟨nm, qn, N, bs, bm, sn, sub, ab, col, dd, k0, k1, k2, k3, k5, hC, hbm⟩ := T.cls
          have hcl : clsIn K C = some { name := nm, bases := bs, mro := .ref C :: bm, ns := N, qualname := qn, hasDict := true, slotNames := sn, subclasses := sub, abstract := ab, collection := col, hasDel := false } := by
            unfold clsIn
            rw [hC] <;> rfl
          have XK : K.In s.heap := kept_in X0 hnx kp
          refine wpAny_execs_cons (plainObj_wpAny_Assign_Attribute (L.head (L.me ?_)))
          obtain ⟨hp, g, d, t, os⟩ := s
          obtain ⟨oD, _, _, hoD, _, _⟩ := id hn
          refine set_plain XK (ox := { cls := .ref C, dict := some dx, data := .fields fv }) (od := some oD) ⟨hx, rfl, rfl, hoD⟩ T.sa ?_
          refine PySem.OEX.osa_old XK hx hn hw (Nat.le_trans (Nat.le_add_right _ _) (Nat.le_trans hz (by decide))) hcl (show refsVE (.ref C :: bm) = true from hbm) rfl (T.noN _ List.mem_cons_self) fun h' tk' k hn' => ?_
          show wpAny _ _ (execs sts env) _ _ _
          have hzz : done.length + (ps.length + 1) ≤ 900 := hz
          refine more_run (done := _ :: done) hnx X0 hd hdx hLx hLd ⟨T.cls, T.sa, fun f hf => T.noN f (List.mem_cons_of_mem _ hf)⟩ hb (by simpa using hl) (by simp; omega) (fun b o hb' e => ?_) (L.tail.keep fun o e => k _ o hLd e) (k x _ hdx.symm hx) hn' (PySem.Within.cons _ v hw) fun s' e1 e2 e3 kp' hx' hn2 => q s' e1 e2 e3 kp' hx' hn2
          exact k b o (fun z => by rw [z] at e; exact absurd (Heap.lt_size e) (Nat.not_lt.mpr hd)) (kp b o hb' e)
        · cases hb
end
/-! ### super().__init__(..) -/
def scopeB (ps : List Str) (sc : Scope) : Bool :=
  (match sc.kind with | .function => true | _ => false) && !sc.isCoroutine && !sc.isGenerator && decide (sc.names.lookup ("self" : Str) = some .local) && (ps.all fun p => decide (sc.names.lookup p = some .local)) &&
    decide (sc.names.lookup ("super" : Str) = some .globalImplicit) && decide (sc.names.lookup ("__class__" : Str) = some .free) && (sc.names.all fun y => !decide (y.2 = .cell)) && (ps.all fun p => !(p == ("__debug__" : Str)))
/-- an error's class at C, its (or its base's) __init__ at fI -/
structure ETxt (prog : Program) (K : Frag) (C fI : Addr) (ps : List Str) : Prop where
  cl : ECls K C ps
  kC : keepIn K (.ref C) = true
  exC : subIn K (.ref C) (.type "BaseException") = some true
  tyC : typeIn K (.ref C) = some (.type "type")
  iC : findIn K (.ref C) "__init__" = some (some (.ref fI))
  tI : typeIn K (.ref fI) = some (.type "function")
  vB : subIn K (.ref C) (.type "ValueError") = some true
  thr : nsIn K cStatics "thirdparty.any" = some none
  len : ps.length ≤ 100
  nd : (("self" : Str) :: ps).Nodup
  fn : ∃ (oc doc pm ct ccl cl : Value) (od an cdd cld : Option Addr) (osl ccs csl : Array (Option Value)) (cda cc D : Addr) (cdD : ClassData) (vs : Array Value) (file : Str) (tf : Tok) (params : Arguments) (ar : Arg) (body : List Stmt) (scope : Scope) (qual : Str),
    K.lookup fI = some ⟨oc, od, .func (ksFn "__init__" qual params body scope .none .none doc pm an (.ref cda) ct cc), osl⟩ ∧ codeIn K (.ref cda) qual = true ∧ (params.posonlyargs ++ params.args).head? = some ar ∧ ar.arg = "self" ∧ bodyB ps body = true ∧ scopeB ps scope = true ∧
    K.lookup cda = some ⟨ccl, cdd, .fields vs, ccs⟩ ∧ vs[2]? = some (.str file tf) ∧ ((prog.main.file : Str) == file) = true ∧ (prog.main.scope.names.lookup ("super" : Str)).isSome = false ∧
    K.lookup cc = some ⟨cl, cld, .cell (some (.ref D)), csl⟩ ∧ clsIn K D = some cdD ∧ mroIn K C (.ref D) = some true ∧ ks_superIn K C D "__init__" = some (some (.builtin "ValueError.__init__")) ∧
    ∀ (s : Shared) (us : List Value), us.length = ps.length + 1 → BindsTo s (ksFn "__init__" qual params body scope .none .none doc pm an (.ref cda) ct cc) ⟨us, []⟩ ((("self" : Str) :: ps).zip us)
section
variable {prog : Program} {w : World} {A : Around} {E : Value → Shared → Prop} {K : Frag} {h : Heap} {g : Array GenState} {d : Drawn} {t : Nat} {os : OsState}
/-- ValueError.__init__, bound to the error at e, called -/
theorem wrap_run {nm q : Str} {C N : Addr} {bs bm : List Value} {hdct : Bool} {sn : List Str} {sub : List Value} {ab : Bool} {col : Option Bool} {dd : Option Addr} {k0 k1 k2 k3 k5 : Option Value} {u e t0 : Addr} {us : List Value} {Q : Value → Shared → Prop}
    (hC : h.get? C = some (excClassObj nm q C N bs bm hdct sn sub ab col dd k0 k1 k2 k3 k5 "ValueError.__new__")) (he : h.get? e = some (excO C t0)) (hu : h.get? u = some (kxs_mw "ValueError.__init__" e)) (hz : us.length ≤ sizeLine)
    (hq : ∀ h' t1, (∀ b o, b ≠ e → h.get? b = some o → h'.get? b = some o) → h'.get? e = some (excO C t1) → Q .none ⟨h', g, d, t, os⟩) : wpAny (model prog w) A (call (.ref u) us) Q E ⟨h, g, d, t, os⟩ := by
  have c1 : (Value.type "method-wrapper" == Value.type "method" || Value.type "method-wrapper" == Value.type "builtin_function_or_method" || Value.type "method-wrapper" == Value.type "method-wrapper") = true := by decide
  have fb := F.excBase_ValueError
  apply wpAny_call
  apply codeAny_of_tree
  show wpAny _ A.in1 (callAny (.ref u) ⟨us, []⟩) _ _ _
  unfold callAny
  refine wpAny_bind (wpAny_load hu ?_)
  simp only [kxs_mw, c1, if_true]
  refine KFB.if_so (by decide) (wpAny_bind (check_bound_init fb.toExcCallFacts hC he rfl ?_))
  refine wpAny_bind (wpAny_pure (wpAny_pure ⟨plainId_quiet fb.init.plain _, codeAny_builtin fb.initEntry ?_⟩))
  exact exc_init_tree (t0 := t0) (cls := .ref C) (dv := none) (c2 := .none) (c3 := .none) (b4 := .bool false) he hz fun h' k e' _ => hq h' h.objs.size k e'
theorem names_alone : ∀ {ps : List Str} {es : List Expr}, argsB ps es = true → ∀ e ∈ es, aloneE e = true
  | [], [], _, _, h => nomatch h
  | [], _ :: _, h, _, _ => nomatch h
  | _ :: _, [], h, _, _ => nomatch h
  | p :: ps, e :: es, h, e', he => by
    unfold argsB at h
    split at h
    · simp only [Bool.and_eq_true] at h
      rcases List.mem_cons.mp he with rfl | he
      · rfl
      · exact names_alone h.2 e' he
    · cases h
theorem eval_meth {o : Expr} {name : Str} {apos pos : Pos} {as : List Expr} {env : Env} (al : ∀ e ∈ as, aloneE e = true) (hn : as.length < 20) (hline : (apos.endLine == pos.line) = true) :
    eval (.Call (.Attribute o name apos) as [] pos) env = (do
      let ov ← attributeBase o name env (eval o env)
      standAt apos.atName
      let (f, first) ← holding [ov] (getMethod ov name (do return (← importBound o env).getD true))
      callWith pos f first (backTo pos (starEach as env)) []) := by
  have few : methodCallForm (as.length + ([] : List Keyword).length) (backTo pos (starEach as env)) (backToKw pos (keywordEach [] env)) = true := by
    have h1 : (backTo pos (starEach as env)).all (fun x => !x.1) = true := by
      have := star_no (env := env) (pos := pos) al
      rw [List.all_eq_not_any_not]
      simpa using this
    unfold methodCallForm
    rw [h1]
    simp [backToKw, keywordEach]
    omega
  have place : methodCallPos true o env apos pos = pure pos := by
    unfold methodCallPos
    simp [hline]
  rw [arm_eval_Call]
  unfold methodCall
  simp only [few, place, pure_bind]
  rfl
theorem super_run {body : List Stmt} {qual : Str} {scope : Scope} {fI cda cc x C D t0 : Addr} {p0 p1 ap cp pos : Pos} {as : List Expr} {ps : List Str} {us : List Value} {fd : FuncData} {ar : Arg} {vs : Array Value} {file : Str} {tf : Tok} {oc ccl cl : Value} {od cdd cld : Option Addr} {osl ccs csl : Array (Option Value)} {cdD : ClassData} {mg mb : Str → Option Value} {L : Addr} {Q : Flow → Shared → Prop}
    (X : K.In h) (T : ECls K C ps) (hx : h.get? x = some (excO C t0)) (hnx : K.lookup x = none) (hf : K.lookup fI = some ⟨oc, od, .func fd, osl⟩) (hp : (fd.params.posonlyargs ++ fd.params.args).head? = some ar) (har : ar.arg = "self") (sc : scopeB ps scope = true)
    (hcode : K.lookup cda = some ⟨ccl, cdd, .fields vs, ccs⟩) (hvs : vs[2]? = some (.str file tf)) (hfile : ((prog.main.file : Str) == file) = true) (htop : (prog.main.scope.names.lookup ("super" : Str)).isSome = false)
    (hcell : K.lookup cc = some ⟨cl, cld, .cell (some (.ref D)), csl⟩) (hD : clsIn K D = some cdD) (hsub : mroIn K C (.ref D) = some true) (hsup : ks_superIn K C D "__init__" = some (some (.builtin "ValueError.__init__"))) (vB : subIn K (.ref C) (.type "ValueError") = some true) (thr : nsIn K cStatics "thirdparty.any" = some none)
    (G : h.Ns mainGlobals mg) (g0 : mg "super" = none) (Bn : h.Ns builtinsNs mb) (b0 : mb "super" = some (.type "super")) (ha : argsB ps as = true) (hne : as ≠ []) (hn20 : as.length < 20) (hline : (ap.endLine == cp.line) = true) (hl : ps.length = us.length) (hz : us.length ≤ sizeLine) (Lo : Locs (ksEnv qual scope L fI (.ref cda) cc) h x ps us)
    (hq : ∀ h' t' t1, (∀ b o, b ≠ x → h.get? b = some o → h'.get? b = some o) → h'.get? x = some (excO C t1) → Q .next ⟨h', g, d, t', os⟩) :
    _root_.PySem.wpAt (model prog w) A (.func body (ksEnv qual scope L fI (.ref cda) cc)) (exec (.Expr (.Call (.Attribute (.Call (.Name "super" p0) [] [] p1) "__init__" ap) as [] cp) pos) (ksEnv qual scope L fI (.ref cda) cc)) Q E ⟨h, g, d, t, os⟩ := by
  unfold scopeB at sc
  simp only [Bool.and_eq_true, decide_eq_true_eq, Bool.not_eq_true'] at sc
  obtain ⟨⟨⟨⟨⟨⟨⟨⟨s1, s2⟩, s3⟩, s4⟩, s5⟩, s6⟩, s7⟩, s8⟩, s9⟩ := sc
  have hk : scope.kind = .function := by
    split at s1
    · assumption
    · cases s1
  obtain ⟨oD, hD1, hD2⟩ : ∃ oD, h.get? D = some oD ∧ oD.data = .cls cdD := by
    unfold clsIn at hD
    split at hD
    · rename_i ho
      cases hD
      exact ⟨_, X _ _ ho, rfl⟩
    · cases hD
  obtain ⟨nm, qn, N, bs, bm, sn, sub, ab, col, dd, k0, k1, k2, k3, k5, hC, hbm⟩ := T.cls
  have hcl : clsIn K C = some { name := nm, bases := bs, mro := .ref C :: bm, ns := N, qualname := qn, hasDict := true, slotNames := sn, subclasses := sub, abstract := ab, collection := col, hasDel := false } := by
    unfold clsIn
    rw [hC] <;> rfl
  have I : InstAt h x (excO C t0) C none := ⟨hx, rfl, rfl, trivial⟩
  have hint : interactive (ksEnv qual scope L fI (.ref cda) cc) = false := by simp [interactive, hk]
  refine ks_wpAt_Expr_any ?_ hint rfl
  refine ks_wpAt_MethodCall ?_ (eval_meth (names_alone ha) hn20 hline)
  refine ks_wpAt_super_base (env := ksEnv qual scope L fI (.ref cda) cc) (f := fI) (cc := cda) s6 s7 rfl rfl (X _ _ hf) rfl hp rfl (X _ _ hcode) rfl hvs hfile htop ?_
  refine ks_loadName_global hk s6 (loadGlobal_builtin (env := ksEnv qual scope L fI (.ref cda) cc) G g0 Bn b0 ⟨rfl, ?_⟩)
  refine wpAny_loadName_free hk s7 rfl ⟨_, X _ _ hcell, rfl⟩ ?_
  obtain ⟨m, n1, n2, n3⟩ := Lo.ns
  rw [har]
  refine wpAny_loadName_local hk s4 n1 n2 (ks_wpAny_isType_cls hD1 hD2 ⟨rfl, ?_⟩)
  refine ks_wpAny_call_super hD1 hD2 hx rfl (fun c e => nomatch e) (looks_mroIn X hsub) fun h1 e1 kp1 => ?_
  have X1 : K.In h1 := X.keeps kp1
  have hx1 := kp1 _ _ hx
  have I1 : InstAt h1 x (excO C t0) C none := ⟨hx1, rfl, rfl, trivial⟩
  unfold ks_superIn at hsup
  rw [hcl] at hsup
  have mro : Looks (model prog w) h1 (mroOf (.ref C)) (.ref C :: bm) := fun A Q E s k q => wpAny_bind ((looks_clsIn X1 hcl) A _ E s k (wpAny_pure q))
  refine kxs_getMethod kxs_ValueError e1 (looks_opaque X1 thr) mro rfl X1 hsup (I1.type.andThen (looks_subIn X1 vB)) (ks_ne X1 I1 hcl) rfl ?_
  have kp2 : ∀ b o, h1.get? b = some o → (h1.push (kxs_mw "ValueError.__init__" x)).get? b = some o := fun b o e => Heap.get?_push_of_some _ e
  have hu : (h1.push (kxs_mw "ValueError.__init__" x)).get? h1.objs.size = some (kxs_mw "ValueError.__init__" x) := Heap.get?_push_at rfl rfl
  have al := names_alone ha
  refine kxs_callWith (i := "ValueError.__init__") (x := x) (star_no al) ?_
  obtain ⟨e0, es0, rfl⟩ : ∃ e0 es0, as = e0 :: es0 := by
    cases as with
    | nil => exact absurd rfl hne
    | cons e0 es0 => exact ⟨e0, es0, rfl⟩
  have st := star_of (env := ksEnv qual scope L fI (.ref cda) cc) (es := es0) (al e0 List.mem_cons_self)
  have Lo2 : Locs (ksEnv qual scope L fI (.ref cda) cc) (h1.push (kxs_mw "ValueError.__init__" x)) x ps us := Lo.keep fun o e => kp2 _ _ (kp1 _ _ e)
  have run := args_run (M := model prog w) (A := A) (E := E) (s := ⟨h1.push (kxs_mw "ValueError.__init__" x), g, d, t + 1, os⟩) (pos := cp) (Q := fun vs s' => KxsAt "ValueError.__init__" h1.objs.size x s'.heap ∧ wpAny (model prog w) A (call (.ref h1.objs.size) ([] ++ vs)) (fun _ => Q .next) E s') ha hl Lo2
    ⟨hu, wrap_run ((X1.keeps kp2) _ _ hC) (kp2 _ _ hx1) hu hz fun h' t1 k e => hq h' _ t1 (fun b o hb eb => k b o hb (kp2 _ _ (kp1 _ _ eb))) e⟩
  rw [st] at run ⊢
  exact Calls.evalArgs_plain run

/-! ### the def __init__ -/
theorem lookup_mem : ∀ {l : List (Str × Value)} {n : Str} {v : Value}, (l.map Prod.fst).Nodup → (n, v) ∈ l → l.lookup n = some v
  | (m, u) :: l, n, v, nd, h => by
    simp only [List.map_cons, List.nodup_cons] at nd
    rw [List.lookup_cons]
    rcases List.mem_cons.mp h with e | h
    · cases e
      simp
    · have hne : n ≠ m := fun e => nd.1 (by rw [← e]; exact List.mem_map.mpr ⟨(n, v), h, rfl⟩)
      have : (n == m) = false := by simpa using hne
      rw [this]
      exact lookup_mem nd.2 h
theorem map_zip : ∀ {ps : List Str} {us : List Value}, ps.length = us.length → (ps.zip us).map Prod.fst = ps
  | [], [], _ => rfl
  | [], _ :: _, h => nomatch h
  | _ :: _, [], h => nomatch h
  | p :: ps, u :: us, h => by
    simp only [List.zip_cons_cons, List.map_cons]
    rw [map_zip (by simpa using h)]
theorem rev_look {ps : List Str} {us : List Value} (nd : ps.Nodup) (hl : ps.length = us.length) {n : Str} {v : Value} (h : (n, v) ∈ ps.zip us) : (ps.zip us).reverse.lookup n = some v :=
  lookup_mem (by rw [List.map_reverse, map_zip hl]; exact List.pairwise_reverse.mpr (nd.imp fun h => h.symm)) (List.mem_reverse.mpr h)
theorem zip_get : ∀ {ps : List Str} {us : List Value} {i : Nat} {p : Str} {v : Value}, ps[i]? = some p → us[i]? = some v → (p, v) ∈ ps.zip us
  | [], _, i, _, _, h, _ => by simp at h
  | _ :: _, [], i, _, _, _, h => by simp at h
  | p :: ps, u :: us, 0, _, _, h1, h2 => by
    cases h1
    cases h2
    exact List.mem_cons_self
  | p :: ps, u :: us, i + 1, _, _, h1, h2 => List.mem_cons_of_mem _ (zip_get (i := i) h1 h2)
theorem init_run {C fI : Addr} {ps : List Str} (T : ETxt prog K C fI ps) {x t0 : Addr} {us : List Value} {s : Shared} {mg mb : Str → Option Value} {R : Result → Shared → Prop} (X : K.In s.heap) (hlim : s.heap.NoLimit) (hx : s.heap.get? x = some (excO C t0)) (hnx : K.lookup x = none) (hroom : A.depth < recursionLimit)
    (G : s.heap.Ns mainGlobals mg) (g0 : mg "super" = none) (Bn : s.heap.Ns builtinsNs mb) (b0 : mb "super" = some (.type "super")) (hl : ps.length = us.length)
    (hq : ∀ s' dx t1, s'.gens = s.gens → s'.drawn = s.drawn → s'.os = s.os → (∀ b o, b ≠ x → s.heap.get? b = some o → s'.heap.get? b = some o) → s'.heap.get? x = some { cls := .ref C, dict := some dx, data := .fields #[.ref t1, .none, .none, .none, .bool false, .none] } → s.heap.objs.size ≤ dx → dx ≠ x →
      s'.heap.Ns1 dx (putAll (fun _ => none) ps us) → R (.ok (.ret .none)) s') : codeAny (model prog w) A (.call (.ref fI) ⟨.ref x :: us, []⟩) R s := by
  obtain ⟨oc, doc, pm, ct, ccl, cl, od, an, cdd, cld, osl, ccs, csl, cda, cc, D, cdD, vs, file, tf, params, ar, body, scope, qual, hf, hcd, hp, har, hb, sc, hcode, hvs, hfile, htop, hcell, hD, hsub, hsup, hbind⟩ := T.fn
  have sc' := sc
  unfold scopeB at sc'
  simp only [Bool.and_eq_true, decide_eq_true_eq, Bool.not_eq_true', List.all_eq_true] at sc'
  obtain ⟨⟨⟨⟨⟨⟨⟨⟨s1, s2⟩, s3⟩, s4⟩, s5⟩, s6⟩, s7⟩, s8⟩, s9⟩ := sc'
  have hk : scope.kind = .function := by
    split at s1
    · assumption
    · cases s1
  have hl1 : (("self" : Str) :: ps).length = (Value.ref x :: us).length := by simp [hl]
  have hz : us.length ≤ sizeLine := by
    rw [← hl]
    exact Nat.le_trans T.len (by decide)
  refine ks_codeAny_call_defAt (fd := ksFn "__init__" qual params body scope .none .none doc pm an (.ref cda) ct cc) (body := body) hroom (X _ _ hf) rfl hlim (codeRec_of X hcd) rfl (hbind s _ (by simp [hl])) (fun y hy => by simpa using s8 y hy) ?_ (fun h0 hns kp => ?_) s2 s3 hk
  · rintro ⟨n, v⟩ hy
    rcases List.mem_cons.mp (List.of_mem_zip hy).1 with rfl | hm
    · exact s4
    · simpa using s5 n hm
  · show _root_.PySem.wpAt _ _ (.func body (ksEnv qual scope s.heap.objs.size fI (.ref cda) cc)) (execs body (ksEnv qual scope s.heap.objs.size fI (.ref cda) cc)) _ _ _
    have Lo : Locs (ksEnv qual scope s.heap.objs.size fI (.ref cda) cc) h0 x ps us := by
      refine ⟨hk, s4, fun p hp => s5 p hp, ⟨_, hns, rev_look T.nd hl1 List.mem_cons_self, fun i p v e1 e2 => rev_look T.nd hl1 (List.mem_cons_of_mem _ (zip_get e1 e2))⟩, fun p hp => by simpa using s9 p hp⟩
    have X1 : K.In h0 := X.keeps kp
    have hx1 := kp _ _ hx
    unfold bodyB at hb
    split at hb
    · rename_i sn p0 p1 m ap as cp pos rest
      simp only [Bool.and_eq_true, decide_eq_true_eq, Bool.not_eq_true'] at hb
      obtain ⟨⟨⟨⟨⟨⟨rfl, rfl⟩, hne⟩, ha⟩, hr⟩, hline⟩, hn20⟩ := hb
      refine ks_wpAt_execs_cons (super_run X1 T.cl hx1 hnx hf hp har sc hcode hvs hfile htop hcell hD hsub hsup T.vB T.thr (G.keeps kp) g0 (Bn.keeps kp) b0 ha (fun e => by rw [e] at hne; cases hne) hn20 hline hl hz Lo fun h1 t1' t1 k1 e1 => ?_)
      refine wpAt_of_wpAny ?_
      have ltL : s.heap.objs.size < h0.objs.size := hns.lt
      have hLx : s.heap.objs.size ≠ x := Nat.ne_of_gt (Heap.lt_size hx)
      have kp1 : ∀ b o, b ≠ x → s.heap.get? b = some o → h1.get? b = some o := fun b o hb e => k1 b o hb (kp b o e)
      have Lo1 : Locs (ksEnv qual scope s.heap.objs.size fI (.ref cda) cc) h1 x ps us := Lo.keep fun o e => k1 _ o hLx e
      -- the first field makes the dict
      cases ps with
      | nil =>
        cases as with
        | nil => cases hne
        | cons e es => cases ha
      | cons p ps =>
        cases us with
        | nil => cases hl
        | cons v us =>
          cases rest with
          | nil => cases hr
          | cons st sts =>
            unfold asgB at hr
            split at hr
            · rename_i sN _ fN _ nN _ _
              simp only [Bool.and_eq_true, decide_eq_true_eq] at hr
              obtain ⟨⟨⟨rfl, e2⟩, e3⟩, hr⟩ := hr
              subst e2
              subst e3
              obtain ⟨nm, qn, N, bs, bm, sn, sub, ab, col, dd, k0, k1', k2, k3, k5, hC, hbm⟩ := T.cl.cls
              have hcl : clsIn K C = some { name := nm, bases := bs, mro := .ref C :: bm, ns := N, qualname := qn, hasDict := true, slotNames := sn, subclasses := sub, abstract := ab, collection := col, hasDel := false } := by
                unfold clsIn
                rw [hC] <;> rfl
              have X2 : K.In h1 := kept_in X hnx kp1
              refine wpAny_execs_cons (plainObj_wpAny_Assign_Attribute (Lo1.head (Lo1.me ?_)))
              refine set_plain X2 (ox := excO C t1) (od := none) ⟨e1, rfl, rfl, trivial⟩ T.cl.sa ?_
              refine exc_osa X2 e1 hcl (show refsVE (.ref C :: bm) = true from hbm) rfl (T.cl.noN _ List.mem_cons_self) fun h3 tk3 dx k3' dn dne hx3 hn3 => ?_
              have lt1 : s.heap.objs.size < h1.objs.size := by
                obtain ⟨oL, _, _, eL, _⟩ := hns
                exact Heap.lt_size (k1 _ _ hLx eL)
              have q2 : h1.objs.size ≤ dx := dn
              have ltd : s.heap.objs.size ≤ dx := Nat.le_trans (Nat.le_of_lt lt1) q2
              have hLd : s.heap.objs.size ≠ dx := Nat.ne_of_lt (Nat.lt_of_lt_of_le lt1 q2)
              show wpAny _ _ (execs sts _) _ _ _
              have hlen : ps.length + 1 ≤ 100 := T.len
              refine more_run (h0 := s.heap) (done := [nN]) (s := ⟨h3, s.gens, s.drawn, tk3, s.os⟩) hnx X ltd dne hLx hLd ⟨T.cl.cls, T.cl.sa, fun f hf => T.cl.noN f (List.mem_cons_of_mem _ hf)⟩ hr (by simpa using hl) (by simp; omega) (fun b o hb e => k3' b o hb (kp1 b o hb e))
                (Lo1.tail.keep fun o e => k3' _ o hLx e) hx3 hn3 (fun y hy => ?_) fun s' q1 q2 q3 kp' hx' hn' => hq s' dx t1 q1 q2 q3 kp' hx' ltd dne hn'
              by_cases e : y = nN
              · rw [e]
                exact List.mem_singleton.mpr rfl
              · exact absurd (if_neg e) hy
            · cases hr
    · cases hb
end
end Z
set_option Elab.async false
set_option linter.all false
set_option maxRecDepth 100000
set_option maxHeartbeats 4000000
/-! Z20: raise by data. -/
namespace Z
open PySem PySem.Spec PyProof.Rows L2

section
theorem relO_all : ∀ {ps : List Str} {vs : List V} {us : List Value} {m : Str → Option Value} {o : Str → Option V}, ps.Nodup → Vals vs us → ps.length = vs.length → (∀ f, RelO (o f) (m f)) → ∀ f, RelO (((ps.zip vs).lookup f).or (o f)) (putAll m ps us f)
  | [], vs, us, m, o, nd, r, hl, h, f => by
    have e : putAll m [] us f = m f := by
      cases us <;> rfl
    rw [e]
    simpa using h f
  | p :: ps, [], us, m, o, nd, r, hl, h, f => by cases hl
  | p :: ps, v :: vs, us, m, o, nd, r, hl, h, f => by
    cases r with
    | @cons _ u _ us r rr =>
      rw [List.nodup_cons] at nd
      have ih := relO_all (m := fun y => if y = p then some u else m y) (o := fun y => if y = p then some v else o y) nd.2 rr (by simpa using hl) (fun y => by
        by_cases hy : y = p
        · simp only [hy, if_true]
          exact r
        · simp only [hy, if_false]
          exact h y) f
      have e : (((p :: ps).zip (v :: vs)).lookup f).or (o f) = ((ps.zip vs).lookup f).or (if f = p then some v else o f) := by
        rw [List.zip_cons_cons, List.lookup_cons]
        by_cases hf : f = p
        · subst hf
          have none' : (ps.zip vs).lookup f = none := by
            rw [List.lookup_eq_none_iff]
            rintro ⟨a, b⟩ hm
            have : a ≠ f := fun z => nd.1 (by rw [← z]; exact (List.of_mem_zip hm).1)
            simpa using fun z : f = a => this z.symm
          simp [none']
        · have : (f == p) = false := by simpa using hf
          simp [this, hf]
      rw [e]
      exact ih
end
section
variable {X : Cx} {C fI : Addr} {ps : List Str}
/-- C(e, ..) made -/
def tMkE (C : Addr) (ps : List Str) (t : TA) : L2.St → Hp → XK → Prop := fun σ H Q => t σ H fun vs H1 => vs.length = ps.length ∧ ∀ d, H1 d = none → Q (.ref C) (some d) (upd H1 d (.xd (ps.zip vs)))
theorem pmk_err {x : Str} {e : Expr} {es : List Expr} {t : TA} {p pos : Pos} {k : Nat} (T : ETxt X.prog X.K C fI ps) (hr : Room (k + 1) X.A) (hg : Gl X x) (hm : X.mg x = some (.ref C)) (hdb : (x == ("__debug__" : Str)) = false) (hs : X.mg "super" = none) (ha : PA X (e :: es) t) (al : ∀ y ∈ e :: es, aloneE y = true) :
    PMk X (.Call (.Name x p) (e :: es) [] pos) (tMkE C ps t) := by
  intro pins s σ H Q I h
  refine wpAny_Call_Name_kw (ld_glob I hg hm ?_ hdb)
  refine PySem.W.callWith_K (h₀ := X.base) I.ok.mod.kin T.kC (thn (ha.run pos pins s σ H _ I h) fun us s1 ⟨vs, H1, I1, rv, hl, q⟩ => ⟨I1.kIn, ?_⟩) (star_of (al e List.mem_cons_self)) (star_no fun y hy => al y (List.mem_cons_of_mem _ hy))
  show wpAny _ _ (call (.ref C) us) _ _ _
  obtain ⟨nm, qn, N, bs, bm, sn, sub, ab, col, dd, k0, k1, k2, k3, k5, hC, hbm⟩ := T.cl.cls
  have hul : ps.length = us.length := by rw [← hl]; exact Paired.length rv
  have hz : us.length ≤ sizeLine := by
    rw [← hul]
    exact Nat.le_trans T.len (by decide)
  have hlim := I1.nolimit
  have G := I1.mod.glob.keeps I1.bk
  obtain ⟨mb, Bn, b0⟩ := I1.mod.blt
  have Bn := Bn.keeps I1.bk
  have b0 : mb "super" = some (.type "super") := (b0 "super" (by decide)).trans (by decide +kernel)
  have XK := I1.kIn
  obtain ⟨hp, g, dr, tk, os⟩ := s1
  have kp : ∀ b o, hp.get? b = some o → ((hp.push (PySem.W.kdv_tup us)).push (PySem.HandSPX.excO C hp.objs.size)).get? b = some o := fun b o z => Heap.get?_push_of_some _ (Heap.get?_push_of_some _ z)
  have hx : ((hp.push (PySem.W.kdv_tup us)).push (PySem.HandSPX.excO C hp.objs.size)).get? (hp.objs.size + 1) = some (PySem.HandSPX.excO C hp.objs.size) := by heap_get
  have hnx : X.K.lookup (hp.objs.size + 1) = none := by
    cases z : X.K.lookup (hp.objs.size + 1) with
    | none => rfl
    | some o => exact absurd (Heap.lt_size (XK _ _ z)) (by simp)
  refine wpAny_call (PySem.HandSPX.call_own F.excBase_ValueError (fun Y => PySem.HandSPX.refsVE_contains Y bm hbm) (XK _ _ hC) (PySem.W.looks_findIn XK T.iC) (fun self => PySem.W.bind_fn XK self T.tI) hz ?_)
  refine init_run (s := ⟨(hp.push (PySem.W.kdv_tup us)).push (PySem.HandSPX.excO C hp.objs.size), g, dr, tk, os⟩) T (XK.keeps kp) (hlim.keeps kp) hx hnx ?_ (G.keeps kp) hs (Bn.keeps kp) b0 hul fun s' d t1 e1 e2 e3 k' hx' dn dne hns => ?_
  · have := (hr.make C us []).depth
    exact this
  · refine ⟨rfl, ?_⟩
    show MkP X pins σ Q (.ref (hp.objs.size + 1)) s'
    have old : ∀ b o, hp.get? b = some o → s'.heap.get? b = some o := fun b o z => k' b o (Nat.ne_of_lt (Nat.lt_succ_of_lt (Heap.lt_size z))) (kp b o z)
    have dbig : hp.objs.size ≤ d := Nat.le_trans (by rw [Heap.size_push, Heap.size_push]; omega) dn
    obtain ⟨G', g1, g2⟩ := restrict s'.heap fun b => decide (b ≠ hp.objs.size + 1)
    have gk : ∀ b, b ≠ hp.objs.size + 1 → G'.get? b = s'.heap.get? b := fun b hb => g1 b (decide_eq_true hb)
    have ge : G'.get? (hp.objs.size + 1) = none := g2 _ (by simp)
    have oldG : ∀ b o, hp.get? b = some o → G'.get? b = some o := fun b o z => (gk b (Nat.ne_of_lt (Nat.lt_succ_of_lt (Heap.lt_size z)))).trans (old b o z)
    have rel : ∀ f, RelO ((ps.zip vs).lookup f) (putAll (fun _ => none) ps us f) := fun f => by
      have z := relO_all (m := fun _ => none) (o := fun _ => none) ((List.nodup_cons.mp T.nd).2) rv (by rw [hl]) (fun _ => True.intro) f
      rwa [Option.or_none] at z
    have ob : ObjOk X.prog X.w (upd H1 d (.xd (ps.zip vs))) G' d (.xd (ps.zip vs)) := ⟨_, hns.at fun o z => (gk d dne).trans z, rel⟩
    have J : Inv X pins σ (upd H1 d (.xd (ps.zip vs))) ⟨G', g, dr, tk, os⟩ := I1.laid (t' := tk) oldG dbig ob
    have hd1 : H1 d = none := I1.hok.fresh dbig
    refine ⟨hp.objs.size + 1, _, _, ⟨G', g, dr, tk, os⟩, _, .ref C, some d, rfl, J, fun b o z => ?_, ge, hx', ⟨rfl, rfl⟩, rfl, rfl, ?_, e3, by rw [e1]; exact I1.bare, raises_own T.exC T.tyC, q d hd1⟩
    · by_cases hb : b = hp.objs.size + 1
      · have z' : G'.get? b = some o := z
        rw [hb, ge] at z'
        cases z'
      · exact (gk b hb).symm.trans z
    · rw [upd_ne (Ne.symm dne)]
      exact I1.hok.fresh (Nat.le_succ _)
end
section
variable {Γ : GS} {g : GC} {W : WX} {X : Cx} {C fI : Addr} {ps : List Str}
theorem map_fst_zip {α : Type} : ∀ {ps : List Str} {ds : List α}, ps.length = ds.length → (ps.zip ds).map Prod.fst = ps ∧ (ps.zip ds).map Prod.snd = ds
  | [], [], _ => ⟨rfl, rfl⟩
  | [], _ :: _, h => nomatch h
  | _ :: _, [], h => nomatch h
  | p :: ps, d :: ds, h => by
    obtain ⟨h1, h2⟩ := map_fst_zip (ps := ps) (ds := ds) (by simpa using h)
    simp [h1, h2]
theorem s_raise {c : Nat} {es : Es} {x : Str} {e : Expr} {xs : List Expr} {p pos pos2 : Pos} {k : Nat} (hc : X.calm = true) (tk : Takes X W) (T : ETxt X.prog X.K C fI ps) (hΓ : Γ.exc c = some ps) (hC : g.cad c = some C) (hr : Room (k + 1) X.A) (hg : Gl X x) (hm : X.mg x = some (.ref C)) (hdb : (x == ("__debug__" : Str)) = false) (hs : X.mg "super" = none)
    (h : OKEs Γ.toG g W X es (e :: xs)) (al : (e :: xs).all aloneE = true) : PS X (.Raise (some (.Call (.Name x p) (e :: xs) [] pos)) none pos2) (rdS g W (evS Γ (.raise c es))) := by
  refine PS_imp (ps_raise hc tk (pmk_err T hr hg hm hdb hs (pa_of (md := .val) (fun y => nomatch y) h al) (List.all_eq_true.mp al))) fun D σ H q => ?_
  obtain ⟨T0, θ, ρ, st, r, po⟩ := q
  simp only [evS, hΓ] at po
  refine ⟨T0, θ, ρ, st, r, (PoS.then po r).mono fun ds st1 T1 θ1 H1 s1 w1 p1 vs hvs => ?_⟩
  split at p1
  · rename_i hl
    have rp := RLs.rep hvs
    have hvl : vs.length = ps.length := rp.length.trans hl
    refine ⟨hvl, fun d hd => ?_⟩
    have s2 : Stp T1 θ1 H1 (updT T1 d .fz) θ1 (upd H1 d (.xd (ps.zip vs))) := .new hd
    have w2 := w1.laid (o := .xd (ps.zip vs)) (t := .fz) hd (fun _ z => nomatch z)
    have k1 : Ke T1 H1 (updT T1 d .fz) (upd H1 d (.xd (ps.zip vs))) := .new w1 hd
    obtain ⟨m1, m2⟩ := map_fst_zip (ps := ps) (ds := ds) hl.symm
    obtain ⟨m3, m4⟩ := map_fst_zip (ps := ps) (ds := vs) hvl.symm
    refine p1 _ θ1 _ σ (.ref C) (some d) s2.sts ((r.stp s1 w1).stp s2 w2) ⟨C, d, ps.zip vs, hC, rfl, rfl, updT_same, upd_same, ?_, ?_⟩
    · rw [m3, m1]
    · rw [m4, m2]
      exact rp.ke k1
  · exact p1.elim
end
end Z
set_option Elab.async false
set_option linter.all false
set_option maxRecDepth 100000
set_option maxHeartbeats 8000000
/-! Z21: the checker of statements; a statement that it passes comes to what its compact form comes to. -/
namespace Z
open PySem PySem.Spec PyProof.Rows L2

variable (z : Nm)
def isComp : E → Bool
  | .comp _ _ _ _ _ => true
  | _ => false
def funB (c : Ce) : Bool := match c.sc.kind with
  | .function => true
  | _ => false
def nameT (c : Ce) (i : Nat) (n : Str) : Bool := decide (c.N[i]? = some n) && storeB c n
def locB (c : Ce) (i : Nat) (n : Str) : Bool := decide (c.N[i]? = some n) && decide (c.sc.names.lookup n = some .local)
def handB (c : Ce) : Option Str → Option Nat → Bool
  | none, none => true
  | some n, some i => locB c i n
  | _, _ => false
mutual
def chkS : S → Ce → Stmt → Bool
  | .expr e, c, st => match st with
    | .Expr x _ => noComp x && chkE z e c x
    | _ => false
  | .set t e, c, st => match st with
    | .Assign [tg] x _ => match t with
      | .name i => match tg with
        | .Name n _ => nameT c i n && (noComp x || isComp e) && funB c && chkE z e c x
        | _ => false
      | .tup ts => match tg with
        | .Tuple tl _ _ => c.calm && chkTs ts c tl && noComp x && funB c && chkE z e c x && (match x with | .Tuple vs _ _ => decide (swpB c.sc tl vs = some none) | _ => true)
        | _ => false
    | _ => false
  | .own i e, c, st => match st with
    | .Assign [.Name n _] x _ => nameT c i n && (noComp x || isComp e) && funB c && freshE e && chkE z e c x
    | _ => false
  | .par ts es, c, st => match st with
    | .Assign [.Tuple [.Name n1 _, .Name n2 _] _ _] (.Tuple [x1, x2] _ _) _ => match ts with
      | [(i, b1), (j, b2)] => c.calm && funB c && locB c i n1 && locB c j n2 && decide (i ≠ j) && ([x1, x2].all aloneE) && freshEs [(i, b1), (j, b2)] es && chkEs z es c [x1, x2] &&
          (match st with | .Assign [.Tuple tl _ _] (.Tuple vs _ _) _ => decide (swpB c.sc tl vs = some (some [n1, n2])) | _ => false)
      | _ => false
    | .Assign [.Tuple [.Name n1 _, .Name n2 _, .Name n3 _] _ _] (.Tuple [x1, x2, x3] _ _) _ => match ts with
      | [(i, b1), (j, b2), (l, b3)] => c.calm && funB c && locB c i n1 && locB c j n2 && locB c l n3 && decide (i ≠ j) && decide (i ≠ l) && decide (j ≠ l) && ([x1, x2, x3].all aloneE) && freshEs [(i, b1), (j, b2), (l, b3)] es && chkEs z es c [x1, x2, x3] &&
          (match st with | .Assign [.Tuple tl _ _] (.Tuple vs _ _) _ => decide (swpB c.sc tl vs = some (some [n1, n2, n3])) | _ => false)
      | _ => false
    | _ => false
  | .app i e, c, st => match st with
    | .Expr (.Call (.Attribute (.Name n _) m apos) [x] [] cpos) _ => decide (m = ("append" : Str)) && slotB c i n && (apos.endLine == cpos.line) && aloneE x && chkE z e c x
    | _ => false
  | .put i k e, c, st => match st with
    | .Assign [.Subscript (.Name n _) kx _] x _ => slotB c i n && ixE kx && noComp x && chkE z k c kx && chkE z e c x
    | _ => false
  | .putC a k e, c, st => match st with
    | .Assign [.Subscript ax kx _] x _ => ixE kx && noComp x && chkE z a c ax && chkE z k c kx && chkE z e c x
    | _ => false
  | .popS j i k, c, st => match st with
    | .Assign [.Name w _] (.Call (.Attribute (.Name n _) m apos) [kx] [] cpos) _ => decide (m = ("pop" : Str)) && nameT c j w && slotB c i n && (apos.endLine == cpos.line) && aloneE kx && chkE z k c kx
    | _ => false
  | .aug i op e, c, st => match st with
    | .AugAssign (.Name n _) o x _ => decide (o = op.py) && (decide (op = .add) || decide (op = .sub)) && nameT c i n && nameB n && chkE z e c x
    | _ => false
  | .ret e, c, st => match st with
    | .Return (some x) _ => chkE z e c x
    | _ => false
  | .retN, _, st => match st with
    | .Return none _ => true
    | _ => false
  | .ifs e a b, c, st => match st with
    | .If x as bs _ => chkE z e c x && chkSs a c as && chkSs b c bs
    | _ => false
  | .fors t it b, c, st => match st with
    | .For tg iter bs [] _ => c.calm && foldE iter && chkIt z it c tg iter && chkT t c tg && chkSs b c bs
    | _ => false
  | .whil _ e b, c, st => match st with
    | .While x bs [] _ => c.calm && chkE z e c x && chkSs b c bs
    | _ => false
  | .brk, _, st => match st with
    | .Break _ => true
    | _ => false
  | .cont, _, st => match st with
    | .Continue _ => true
    | _ => false
  | .pass, _, st => match st with
    | .Pass _ => true
    | _ => false
  | .raise k es, c, st => match st with
    | .Raise (some (.Call (.Name n _) (x :: xs) [] _)) none _ => c.calm && decide (z.xn[k]? = some n) && glB c.sc n && nameB n && (x :: xs).all aloneE && chkEs z es c (x :: xs)
    | _ => false
  | .tryx b hs, c, st => match st with
    | .Try body (h :: hds) [] [] _ => c.calm && !c.xs && chkSs b c body && chkHs hs c (h :: hds)
    | _ => false
  | .frz _, _, _ => false
def chkSs : Ss → Ce → List Stmt → Bool
  | .nil, _, sts => match sts with
    | [] => true
    | _ => false
  | .cons s ss, c, sts => match s with
    | .frz _ => chkSs ss c sts
    | s => match sts with
      | st :: sts => chkS s c st && chkSs ss c sts
      | [] => false
def chkHs : Hs → Ce → List ExceptHandler → Bool
  | .nil, _, hds => match hds with
    | [] => true
    | _ => false
  | .cons k n b hs, c, hds => match hds with
    | .ExceptHandler (some (.Name x _)) on (s :: ss) _ :: hds => decide (z.xn[k]? = some x) && glB c.sc x && nameB x && handB c on n && chkSs b c.suite (s :: ss) && chkHs hs c hds
    | _ => false
end

/-- what is told of a context where statements run -/
structure Sok (Γ : GS) (z : Nm) (g : GC) (W : WX) (c : Ce) (X : Cx) : Prop extends Cok Γ.toG z g W c X where
  own : c.calm = true → PassesOwn (model X.prog X.w) X.A X.env X.xe
  xok : Xok Γ.toG z g X
  err : c.calm = true → ∀ j x ps, z.xn[j]? = some x → Γ.exc j = some ps → ∃ C fI k, X.mg x = some (.ref C) ∧ g.cad j = some C ∧ ETxt X.prog X.K C fI ps ∧ Room (k + 1) X.A
  sx : c.xs = false → g.sx = none
  stk : X.stack = X.env :: X.outer
  frm : X.env.frame = some X.env.locals
section
variable {z : Nm} {Γ : GS} {g : GC} {W : WX} {c : Ce} {X : Cx}
theorem Sok.tr (S : Sok Γ z g W c X) {W' : WX} {pn : List (Addr × Obj)} {xe : Value → Shared → Prop} (hx : c.xs = false) (tk : Takes (X.tr pn xe) W') (po : PassesOwn (model X.prog X.w) X.A X.env xe) : Sok Γ z g W' c (X.tr pn xe) where
  hK := S.hK
  hN := S.hN
  nd := S.nd
  sc := S.sc
  fs := S.fs
  calm := S.calm
  guards := S.guards
  units := S.units
  tk := tk
  bi := S.bi
  cst := S.cst
  fns := S.fns
  fat := S.fat
  exf := fun h => by rw [hx] at h; cases h
  exi := fun h => by rw [hx] at h; cases h
  fnx := S.fnx
  fax := S.fax
  exv := fun h => by rw [hx] at h; cases h
  exg := fun h => by rw [hx] at h; cases h
  own := fun _ => po
  xok := ⟨S.xok.cad, S.xok.xf, S.xok.noF, S.xok.exm, S.xok.kit, S.xok.exc, S.xok.kitv⟩
  err := S.err
  sx := S.sx
  stk := S.stk
  frm := S.frm
theorem Sok.suite (S : Sok Γ z g W c X) (hc : c.calm = true) {a : Addr} {oe : Obj} {cls : Value} {d : Option Addr} {pn : List (Addr × Obj)} (hz : Zc cls d oe) (hv : ∃ vs, oe.data = .fields vs) : Sok Γ z (g.hold a cls d) W0 c.suite (X.suite a ((a, oe) :: pn)) where
  toCok := S.toCok.suite hc S.xok hz hv
  own := fun h => nomatch h
  xok := ⟨S.xok.cad, S.xok.xf, S.xok.noF, S.xok.exm, S.xok.kit, S.xok.exc, S.xok.kitv⟩
  err := fun h => nomatch h
  sx := fun h => nomatch h
  stk := S.stk
  frm := S.frm
theorem tup_sw {sc : Scope} {tl : List Expr} {x : Expr} {env : Env} {k : Nat} {tp : Pos} (he : env.scope = sc) (hk : sc.kind = .function) (h : (match x with | .Tuple vs _ _ => decide (swpB sc tl vs = some none) | _ => true) = true) : swappedStores [.Tuple tl k tp] x env = pure none := by
  cases x <;> first | exact swp_ok he hk (of_decide_eq_true h) | exact sws_no rfl
theorem fun_of (h : funB c = true) : c.sc.kind = .function := by
  unfold funB at h
  split at h
  · assumption
  · cases h
theorem nmA_any (C : Cok Γ.toG z g W c X) {i : Nat} {n : Str} {e : E} {x : Expr} (hn : nameT c i n = true) (hf : funB c = true) (hc : (noComp x || isComp e) = true) (h : chkE z e c x = true) : NmA X g W i n x (ev Γ.toG e .val) (freshE e) := by
  unfold nameT at hn
  simp only [Bool.and_eq_true, decide_eq_true_eq] at hn
  obtain ⟨s1, s2⟩ := C.store hn.2
  have hN : X.N.Nodup := by rw [C.hN]; exact C.nd
  have hi : X.N[i]? = some n := by rw [C.hN]; exact hn.1
  cases hnc : noComp x with
  | true => exact nmA_of hN hi s1 s2 (okE C h) hnc
  | false =>
    rw [hnc, Bool.false_or] at hc
    cases e with
    | comp vs t it cd e =>
      unfold chkE at h
      split at h
      · rename_i elt tg iter ifs as scope pos
        simp only [Bool.and_eq_true, decide_eq_true_eq, List.all_eq_true] at h
        obtain ⟨⟨⟨⟨⟨⟨⟨⟨⟨⟨rfl, h1⟩, hx⟩, h2⟩, h3⟩, h4⟩, h5⟩, h6⟩, h7⟩, h8⟩, h9⟩ := h
        have hx : c.xs = false := by simpa using hx
        obtain ⟨wi, gg, pi, hgg, k⟩ := compD_core (elt := elt) (pos := pos) (C.calm h1) hN (okIt C (md := .pk) (fun y => nomatch y) h6) (by rw [C.hN, C.sc]; exact blkOk_by h2) (by rw [h3]; exact h4) (fun s H A cl fp => okT (C.blk hx scope s H A cl fp) h7)
          (fun s H A cl fp => okC (C.blk hx scope s H A cl fp) h8) (fun s H A cl fp => (okE (C.blk hx scope s H A cl fp) h9).pe)
        refine nmA_comp (C.calm h1) hN hi s1 s2 (by rw [C.sc]; exact fun_of hf) pi (by rw [C.hN, C.sc]; exact blkOk_by h2) hgg (fun s H A cl fp => okC (C.blk hx scope s H A cl fp) h8) (fun s H A cl fp => (okE (C.blk hx scope s H A cl fp) h9).pe) (fold_of h5) fun σ H Q q => ?_
        apply k σ H Q
        rw [h3]
        exact q
      · cases h
    | _ => cases hc
theorem slot_of (C : Cok Γ.toG z g W c X) {i : Nat} {n : Str} (h : slotB c i n = true) : X.N[i]? = some n ∧ Vis X.env.scope n ∧ (n == ("__debug__" : Str)) = false ∧ (n == ("__classdict__" : Str)) = false := by
  unfold slotB at h
  simp only [Bool.and_eq_true, decide_eq_true_eq] at h
  obtain ⟨n1, n2, _⟩ := nameB_d h.2
  exact ⟨by rw [C.hN]; exact h.1.1, C.vis h.1.2, n1, n2⟩
theorem loc_of (C : Cok Γ.toG z g W c X) {i : Nat} {n : Str} (h : locB c i n = true) : X.N[i]? = some n ∧ X.env.scope.names.lookup n = some .local := by
  unfold locB at h
  simp only [Bool.and_eq_true, decide_eq_true_eq] at h
  exact ⟨by rw [C.hN]; exact h.1, by rw [C.sc]; exact h.2⟩
mutual
theorem okS {g : GC} {W : WX} {c : Ce} {X : Cx} (S : Sok Γ z g W c X) : ∀ {s : Z.S} {st : Stmt}, chkS z s c st = true → PS X st (rdS g W (evS Γ s))
  | .expr e, st, h => by
    unfold chkS at h
    split at h
    · simp only [Bool.and_eq_true] at h
      exact s_expr (okE S.toCok h.2) h.1
    · cases h
  | .set t e, st, h => by
    unfold chkS at h
    split at h
    · split at h
      · split at h
        · simp only [Bool.and_eq_true] at h
          exact s_set (nmA_any S.toCok h.1.1.1 h.1.2 h.1.1.2 h.2)
        · cases h
      · split at h
        · rename_i tl k tp
          simp only [Bool.and_eq_true] at h
          obtain ⟨⟨⟨⟨⟨h1, h2⟩, h3⟩, h4⟩, h5⟩, h6⟩ := h
          refine s_tup (okE S.toCok h5) (okT S.toCok (t := .tup _) (x := .Tuple tl k tp) (by unfold chkT; simp [h1, h2])) h3 ?_
          exact tup_sw S.sc (fun_of h4) h6
        · cases h
    · cases h
  | .own i e, st, h => by
    unfold chkS at h
    split at h
    · simp only [Bool.and_eq_true] at h
      have k := nmA_any S.toCok h.1.1.1.1 h.1.1.2 h.1.1.1.2 h.2
      rw [h.1.2] at k
      exact s_own k
    · cases h
  | .par ts es, st, h => by
    unfold chkS at h
    split at h
    · split at h
      · simp only [Bool.and_eq_true, decide_eq_true_eq] at h
        obtain ⟨⟨⟨⟨⟨⟨⟨⟨h1, h2⟩, h3⟩, h4⟩, h5⟩, h6⟩, h7⟩, h8⟩, h9⟩ := h
        obtain ⟨a1, a2⟩ := loc_of S.toCok h3
        obtain ⟨b1, b2⟩ := loc_of S.toCok h4
        exact s_par2 (S.calm h1) (by rw [S.hN]; exact S.nd) a1 b1 h5 a2 b2 (okEs S.toCok h8) h6 h7 (swp_ok S.sc (fun_of h2) h9)
      · cases h
    · split at h
      · simp only [Bool.and_eq_true, decide_eq_true_eq] at h
        obtain ⟨⟨⟨⟨⟨⟨⟨⟨⟨⟨⟨h1, h2⟩, h3⟩, h4⟩, h4'⟩, h5⟩, h5'⟩, h5''⟩, h6⟩, h7⟩, h8⟩, h9⟩ := h
        obtain ⟨a1, a2⟩ := loc_of S.toCok h3
        obtain ⟨b1, b2⟩ := loc_of S.toCok h4
        obtain ⟨c1, c2⟩ := loc_of S.toCok h4'
        exact s_par3 (S.calm h1) (by rw [S.hN]; exact S.nd) a1 b1 c1 h5 h5' h5'' a2 b2 c2 (okEs S.toCok h8) h6 h7 (swp_ok S.sc (fun_of h2) h9)
      · cases h
    · cases h
  | .app i e, st, h => by
    unfold chkS at h
    split at h
    · simp only [Bool.and_eq_true, decide_eq_true_eq] at h
      obtain ⟨⟨⟨⟨rfl, h2⟩, h3⟩, h4⟩, h5⟩ := h
      obtain ⟨n1, n2, n3, n4⟩ := slot_of S.toCok h2
      exact s_app n1 n2 n3 n4 h3 (okE S.toCok h5) h4
    · cases h
  | .put i k e, st, h => by
    unfold chkS at h
    split at h
    · simp only [Bool.and_eq_true] at h
      obtain ⟨⟨⟨⟨h1, h2⟩, h3⟩, h4⟩, h5⟩ := h
      obtain ⟨n1, n2, n3, n4⟩ := slot_of S.toCok h1
      exact s_put n1 n2 n3 n4 h2 (okE S.toCok h4) (okE S.toCok h5) h3
    · cases h
  | .putC a k e, st, h => by
    unfold chkS at h
    split at h
    · simp only [Bool.and_eq_true] at h
      obtain ⟨⟨⟨⟨h1, h2⟩, h3⟩, h4⟩, h5⟩ := h
      exact s_putC h1 (okE S.toCok h3) (okE S.toCok h4) (okE S.toCok h5) h2
    · cases h
  | .popS j i k, st, h => by
    unfold chkS at h
    split at h
    · simp only [Bool.and_eq_true, decide_eq_true_eq] at h
      obtain ⟨⟨⟨⟨⟨rfl, h2⟩, h3⟩, h4⟩, h5⟩, h6⟩ := h
      obtain ⟨n1, n2, n3, n4⟩ := slot_of S.toCok h3
      unfold nameT at h2
      simp only [Bool.and_eq_true, decide_eq_true_eq] at h2
      obtain ⟨s1, s2⟩ := S.store h2.2
      exact s_popS (by rw [S.hN]; exact S.nd) (by rw [S.hN]; exact h2.1) s1 s2 n1 n2 n3 n4 h4 (okE S.toCok h6) h5
    · cases h
  | .aug i op e, st, h => by
    unfold chkS at h
    split at h
    · simp only [Bool.and_eq_true, decide_eq_true_eq, Bool.or_eq_true] at h
      obtain ⟨⟨⟨⟨rfl, h2⟩, h3⟩, h4⟩, h5⟩ := h
      obtain ⟨n1, n2, _⟩ := nameB_d h4
      unfold nameT at h3
      simp only [Bool.and_eq_true, decide_eq_true_eq] at h3
      obtain ⟨s1, s2⟩ := S.store h3.2
      exact s_aug (by rw [S.hN]; exact S.nd) (by rw [S.hN]; exact h3.1) s1 s2 n1 n2 (okE S.toCok h5) h2
    · cases h
  | .ret e, st, h => by
    unfold chkS at h
    split at h
    · exact s_ret (okE S.toCok h)
    · cases h
  | .retN, st, h => by
    unfold chkS at h
    split at h
    · exact s_retN
    · cases h
  | .ifs e a b, st, h => by
    unfold chkS at h
    split at h
    · simp only [Bool.and_eq_true] at h
      exact s_if (okE S.toCok h.1.1) (okSs S h.1.2) (okSs S h.2)
    · cases h
  | .fors t it b, st, h => by
    unfold chkS at h
    split at h
    · simp only [Bool.and_eq_true] at h
      obtain ⟨⟨⟨⟨h1, h2⟩, h3⟩, h4⟩, h5⟩ := h
      exact s_for (S.own h1) (S.calm h1) (okIt S.toCok (md := .val) (fun y => nomatch y) h3) (okT S.toCok h4) (okSs S h5) (fold_of h2)
    · cases h
  | .whil μ e b, st, h => by
    unfold chkS at h
    split at h
    · simp only [Bool.and_eq_true] at h
      exact s_while (S.own h.1.1) (okE S.toCok h.1.2) (okSs S h.2)
    · cases h
  | .brk, st, h => by
    unfold chkS at h
    split at h
    · exact s_brk
    · cases h
  | .cont, st, h => by
    unfold chkS at h
    split at h
    · exact s_cont
    · cases h
  | .pass, st, h => by
    unfold chkS at h
    split at h
    · exact s_pass
    · cases h
  | .raise k es, st, h => by
    unfold chkS at h
    split at h
    · simp only [Bool.and_eq_true, decide_eq_true_eq] at h
      obtain ⟨⟨⟨⟨⟨h1, h2⟩, h3⟩, h4⟩, h5⟩, h6⟩ := h
      cases e : Γ.exc k with
      | none =>
        refine ⟨fun pins s σ H D I q => ?_⟩
        obtain ⟨T, θ, ρ, st, r, p⟩ := q
        simp only [evS, e] at p
        exact p.elim
      | some ps =>
        obtain ⟨C, fI, m, m1, m2, m3, m4⟩ := S.err h1 k _ ps h2 e
        exact s_raise (S.calm h1) S.tk m3 e m2 m4 (S.gl h3) m1 (nameB_d h4).1 (S.bi _ (by decide)) (okEs S.toCok h6) h5
    · cases h
  | .tryx b hs, st, h => by
    unfold chkS at h
    split at h
    · simp only [Bool.and_eq_true, Bool.not_eq_true'] at h
      obtain ⟨⟨⟨h1, h2⟩, h3⟩, h4⟩ := h
      obtain ⟨l, hl⟩ := okHs S h1 h4
      exact s_try S.xok (S.sx h2) S.stk S.frm (by rw [S.hN]; exact S.nd) S.tk (fun W' pn xe tk po => okSs (S.tr h2 tk po) h3) hl
    · cases h
  | .frz i, st, h => by
    unfold chkS at h
    cases h
theorem okSs {g : GC} {W : WX} {c : Ce} {X : Cx} (S : Sok Γ z g W c X) : ∀ {ss : Ss} {sts : List Stmt}, chkSs z ss c sts = true → PSs X sts (rdS g W (evSs Γ ss))
  | .nil, sts, h => by
    unfold chkSs at h
    split at h
    · exact ss_nil
    · cases h
  | .cons s ss, sts, h => by
    unfold chkSs at h
    split at h
    · exact ss_frz (okSs S h)
    · split at h
      · rw [Bool.and_eq_true] at h
        exact ss_cons (okS S h.1) (okSs S h.2)
      · cases h
theorem okHs {g : GC} {W : WX} {c : Ce} {X : Cx} (S : Sok Γ z g W c X) (hc : c.calm = true) : ∀ {hs : Hs} {hds : List ExceptHandler}, chkHs z hs c hds = true → ∃ l, HsOk z Γ g X hs hds l
  | .nil, hds, h => by
    unfold chkHs at h
    split at h
    · exact ⟨_, .nil⟩
    · cases h
  | .cons k n b hs, hds, h => by
    unfold chkHs at h
    split at h
    · simp only [Bool.and_eq_true, decide_eq_true_eq] at h
      obtain ⟨⟨⟨⟨⟨h1, h2⟩, h3⟩, h4⟩, h5⟩, h6⟩ := h
      obtain ⟨l, hl⟩ := okHs S hc h6
      obtain ⟨C, m1, m2⟩ := S.xok.cad k _ h1
      obtain ⟨n1, n2, n3⟩ := nameB_d h3
      refine ⟨_, .cons ⟨S.gl h2, n1, .inl m1⟩ m2 ?_ (fun a oe cls d pn hz hv => okSs (S.suite hc hz hv) h5) hl⟩
      unfold handB at h4
      split at h4
      · trivial
      · exact loc_of S.toCok h4
      · cases h4
    · cases h
end
end
end Z
set_option Elab.async false
set_option linter.all false
set_option maxRecDepth 100000
set_option maxHeartbeats 4000000
/-! Z22: a def of the text keeps the promise of its compact form. -/
namespace Z
open PySem PySem.Spec PyProof.Rows L2

/-- the module as the defs see it -/
structure Modu (Γ : G) (z : Nm) (g : GC) (P : Program) (K : PySem.W.Frag) (mg : Str → Option Value) : Prop where
  hK : K = g.K
  sx : g.sx = none
  bi : ∀ x ∈ biNames, mg x = none
  cst : ∀ i x d, z.cn[i]? = some x → Γ.cst i = some d → ∃ u v, mg x = some u ∧ RelV v u ∧ Rep g.K g.fad (fun _ => .no) (fun _ => none) d v
  cad : ∀ j x, z.xn[j]? = some x → ∃ C, mg x = some (.ref C) ∧ g.cad j = some C
  xf : ∀ j C, g.cad j = some C → XfC K C
  noF : ∀ j C f, g.cad j = some C → f ∈ z.xf → PySem.W.findIn K (.ref C) f = some none
  exm : ∀ i j b C C', Γ.sup i j = some b → g.cad i = some C → g.cad j = some C' → PySem.W.exmOne K (.ref C) (.ref C') = some b
  kit : ∀ i j b C C', Γ.sup i j = some b → g.cad i = some C → g.cad j = some C' → PySem.W.kitOne K (.ref C) (.ref C') = some b
  exc : ∀ j C, g.cad j = some C → ExcC K C
  kitv : ∀ j C, g.cad j = some C → PySem.W.kitOne K (.ref C) (.type "ValueError") = some true
/-- the errors that are made -/
def Errs (exc : Nat → Option (List Str)) (z : Nm) (g : GC) (P : Program) (K : PySem.W.Frag) (mg : Str → Option Value) : Prop :=
  ∀ j x ps, z.xn[j]? = some x → exc j = some ps → ∃ C fI, mg x = some (.ref C) ∧ g.cad j = some C ∧ ETxt P K C fI ps
/-- a def as its callers see it -/
def FnSees (z : Nm) (g : GC) (P : Program) (w : World) (K : PySem.W.Frag) (mg : Str → Option Value) (base : Heap) (k : Nat) (i n : Nat) (m : List D → M D) : Prop :=
  ∃ x f fd ps, z.fn[i]? = some x ∧ mg x = some (.ref f) ∧ g.fad i = some f ∧ PySem.W.keepIn K (.ref f) = true ∧ Binds K fd ps [] ∧ FnG P w K mg base k f fd ps (spD g n m)
/-- .. a def of one error -/
def FxSees (z : Nm) (g : GC) (P : Program) (w : World) (K : PySem.W.Frag) (mg : Str → Option Value) (base : Heap) (k : Nat) (i : Nat) (m : XV → M D) : Prop :=
  ∃ x f fd y, z.fn[i]? = some x ∧ mg x = some (.ref f) ∧ g.fad i = some f ∧ PySem.W.keepIn K (.ref f) = true ∧ Binds K fd [y] [] ∧ FnX P w K mg base k f fd y (spX g m)
theorem start_sr {g : GC} {N : List Str} {T : Tg'} {θ : List Addr} {H : Hp} {st : Sto} {ds : List D} {vs : List V} (w : WF g T θ H st) (r : RepL g.K g.fad T H ds vs) : SR g T θ H (L2.start N vs) (ds.map Slot.sh ++ List.replicate (N.length - ds.length) .un) st := by
  have hl := r.length
  refine ⟨w, ?_, fun i s e => ?_⟩
  · unfold L2.start
    simp [hl]
  · by_cases hi : i < ds.length
    · rw [List.getElem?_append_left (by simpa using hi), List.getElem?_map] at e
      obtain ⟨d, e1, rfl⟩ := Option.map_eq_some_iff.mp e
      obtain ⟨v, e2, rv⟩ := r.get e1
      refine ⟨v, ?_, rv⟩
      unfold L2.start
      rw [List.getElem?_append_left (by simp [hl, hi]), List.getElem?_map, e2]
      rfl
    · rw [List.getElem?_append_right (by simp; omega)] at e
      have := List.mem_of_getElem? e
      rw [List.eq_of_mem_replicate this]
      trivial
section
variable {P : Program} {w : World} {K : PySem.W.Frag} {mg : Str → Option Value} {base : Heap}
theorem run_po {Γ : GS} {g : GC} {n m : Nat} {b : Ss} {ds : List D} {st : Sto} {T : Tg'} {θ : List Addr} {H : Hp} {Q : VK} {E : XK} (hn : ds.length = n) (no : NoOwn T) (p : PoC g (run Γ n b m ds st) T θ H Q E) :
    PoS g (fun cls d _ H => E cls d H) (evSs Γ b (ds.map Slot.sh ++ List.replicate (m - ds.length) .un) st) T θ H { nx := fun _ H' => Q .non H', rt := Q } := by
  have back : ∀ {T' : Tg'} {θ' : List Addr} {H' : Hp}, StS T θ H T' θ' H' → Stp T θ H (hideT T') θ' H' := fun {T' θ' H'} s => by
    refine ⟨fun a h => ?_, fun a h c => s.hp a h (no a) c, s.live, s.th⟩
    have e := s.tg a h (no a)
    rcases hideT_eq (T := T') a with ⟨i, q, _⟩ | ⟨_, q⟩
    · rw [q] at e
      exact absurd e.symm (no a i)
    · rw [q]; exact e
  unfold run at p
  rw [hn]
  cases e : evSs Γ b (ds.map Slot.sh ++ List.replicate (m - n) .un) st with
  | nx ρ s =>
    rw [e] at p
    exact fun T' θ' H' σ' ss rr => p (hideT T') θ' H' .non (back ss) rr.wf.hide hide_noOwn mkNon
  | ret d s =>
    rw [e] at p
    exact fun T' θ' H' v ss ww hv => p (hideT T') θ' H' v (back ss) ww.hide hide_noOwn (hv.ke hide_ke)
  | ex x ρ s =>
    rw [e] at p
    exact fun T' θ' H' σ' cls dd ss rr hx => p (hideT T') θ' H' cls dd (back ss) rr.wf.hide hide_noOwn (hx.ke hide_ke)
  | bk ρ s => rw [e] at p; exact p.elim
  | ct ρ s => rw [e] at p; exact p.elim
  | stuck => rw [e] at p; exact p.elim
/-- THE RULE for a def -/
theorem def_ok {Γ : GS} {z : Nm} {g : GC} {x qual : Str} {params : Arguments} {body : List Stmt} {scope : Scope} {f : Addr} {fd : FuncData} {N ps : List Str} {k : Nat} {b : Ss} (F : FunD K x qual params body scope [] [] f fd) (S : FnScope N ps scope) (M : Modu Γ.toG z g P K mg) (Er : Errs Γ.exc z g P K mg)
    (fns : ∀ i n m, Γ.fns i = some (n, m) → FnSees z g P w K mg base (k + 1) i n m) (fxs : ∀ i m, Γ.fxs i = some m → FxSees z g P w K mg base (k + 1) i m) (chk : chkSs z b ⟨N, scope, none, true, false⟩ body = true) : FnG P w K mg base (k + 2) f fd ps (spD g ps.length (run Γ ps.length b N.length)) := by
  refine fnG_of F S (fun vs H Q E h => spD_len h) fun cd A outer s H vs Q E hg hr h => ?_
  obtain ⟨T, θ, st0, ds, w0, no, rp, hn, p⟩ := h
  have C : Sok Γ z g (fun cls d _ H => E cls d H) ⟨N, scope, none, true, false⟩ (cxOf (L2.CX P w) P w K mg base N qual scope f cd A outer s H E) := {
    hK := M.hK
    hN := rfl
    nd := S.nd
    sc := rfl
    fs := fun _ _ => rfl
    calm := fun _ => rfl
    guards := hg
    units := by
      have := hr.un
      show (A.deeper (envOfC qual scope s.heap.objs.size f cd)).units + 200 < cLine
      omega
    tk := takes_of rfl rfl rfl rfl
    bi := M.bi
    cst := M.cst
    fns := fun _ i x n m e1 e2 => by
      obtain ⟨x', f', fd', ps', h1, h2, h3, _⟩ := fns i n m e2
      have e1' : z.fn[i]? = some x := e1
      rw [h1] at e1'
      cases e1'
      exact ⟨f', h2, h3⟩
    fat := fun _ i n m f' e1 e2 => by
      obtain ⟨x', f2, fd', ps', h1, h2, h3, h4, h5, h6⟩ := fns i n m e1
      rw [h3] at e2
      cases e2
      exact ⟨fd', ps', k + 1, h4, h5, h6, hr⟩
    exf := fun h => nomatch h
    exi := fun h => nomatch h
    fnx := fun _ i x m e1 e2 => by
      obtain ⟨x', f', fd', y', h1, h2, h3, _⟩ := fxs i m e2
      have e1' : z.fn[i]? = some x := e1
      rw [h1] at e1'
      cases e1'
      exact ⟨f', h2, h3⟩
    fax := fun _ i m f' e1 e2 => by
      obtain ⟨x', f2, fd', y', h1, h2, h3, h4, h5, h6⟩ := fxs i m e1
      rw [h3] at e2
      cases e2
      exact ⟨fd', y', k + 1, h4, h5, h6, hr⟩
    exv := fun h => nomatch h
    exg := fun h => nomatch h
    own := fun _ => passes_of rfl
    xok := ⟨M.cad, M.xf, M.noF, M.exm, M.kit, M.exc, M.kitv⟩
    err := fun _ j x ps' e1 e2 => by
      obtain ⟨C, fI, h1, h2, h3⟩ := Er j x ps' e1 e2
      exact ⟨C, fI, k, h1, h2, h3, hr⟩
    sx := fun _ => M.sx
    stk := rfl
    frm := rfl }
  refine ⟨_, okSs C chk, T, θ, _, st0, start_sr w0 rp, ?_⟩
  have p' := run_po (m := N.length) hn no p
  exact p'
theorem start_srX {g : GC} {N : List Str} {T : Tg'} {θ : List Addr} {H : Hp} {st : Sto} {x : XV} {a : Addr} {cls : Value} {dd : Option Addr} (w : WF g T θ H st) (hx : ExR g T H x cls dd) (hn : 0 < N.length) : SR (g.hold a cls dd) T θ H (L2.start N [.ref a]) (.ex x :: List.replicate (N.length - 1) .un) st := by
  refine ⟨w.hold, ?_, fun i s e => ?_⟩
  · unfold L2.start
    simp
  · cases i with
    | zero =>
      simp at e
      subst e
      exact ⟨a, cls, dd, rfl, rfl, hx⟩
    | succ i =>
      have e' : (List.replicate (N.length - 1) Slot.un)[i]? = some s := by simpa using e
      rw [List.eq_of_mem_replicate (List.mem_of_getElem? e')]
      trivial
theorem runX_po {Γ : GS} {g : GC} {m : Nat} {b : Ss} {x : XV} {st : Sto} {T : Tg'} {θ : List Addr} {H : Hp} {Q : VK} {a : Addr} {cls : Value} {dd : Option Addr} (no : NoOwn T) (p : PoC g (runX Γ b m x st) T θ H Q fun _ _ _ => False) :
    PoS (g.hold a cls dd) W0 (evSs Γ b (.ex x :: List.replicate (m - 1) .un) st) T θ H { nx := fun _ H' => Q .non H', rt := Q } := by
  have back : ∀ {T' : Tg'} {θ' : List Addr} {H' : Hp}, StS T θ H T' θ' H' → Stp T θ H (hideT T') θ' H' := fun {T' θ' H'} s => by
    refine ⟨fun a h => ?_, fun a h c => s.hp a h (no a) c, s.live, s.th⟩
    have e := s.tg a h (no a)
    rcases hideT_eq (T := T') a with ⟨i, q, _⟩ | ⟨_, q⟩
    · rw [q] at e
      exact absurd e.symm (no a i)
    · rw [q]; exact e
  unfold runX at p
  cases e : evSs Γ b (.ex x :: List.replicate (m - 1) .un) st with
  | nx ρ s =>
    rw [e] at p
    exact fun T' θ' H' σ' ss rr => p (hideT T') θ' H' .non (back ss) rr.wf.free.hide hide_noOwn mkNon
  | ret d s =>
    rw [e] at p
    exact fun T' θ' H' v ss ww hv => p (hideT T') θ' H' v (back ss) ww.free.hide hide_noOwn (hv.ke hide_ke)
  | ex x ρ s =>
    rw [e] at p
    exact fun T' θ' H' σ' cls dd ss rr hx => p (hideT T') θ' H' cls dd (back ss) rr.wf.free.hide hide_noOwn (hx.ke hide_ke)
  | bk ρ s => rw [e] at p; exact p.elim
  | ct ρ s => rw [e] at p; exact p.elim
  | stuck => rw [e] at p; exact p.elim
/-- THE RULE for a def of one error -/
theorem def_okX {Γ : GS} {z : Nm} {g : GC} {x qual : Str} {params : Arguments} {body : List Stmt} {scope : Scope} {f : Addr} {fd : FuncData} {N : List Str} {y : Str} {k : Nat} {b : Ss} (F : FunD K x qual params body scope [] [] f fd) (S : FnScope N [y] scope) (M : Modu Γ.toG z g P K mg)
    (nofx : ∀ i m, Γ.fxs i = some m → False) (hy : slotB ⟨N, scope, none, false, true⟩ 0 y = true) (chk : chkSs z b ⟨N, scope, none, false, true⟩ body = true) : FnX P w K mg base (k + 1) f fd y (spX g (runX Γ b N.length)) := by
  have hy' : slotB ⟨N, scope, none, false, true⟩ 0 y = true := hy
  unfold slotB at hy'
  simp only [Bool.and_eq_true, decide_eq_true_eq] at hy'
  have hN : 0 < N.length := (List.getElem?_eq_some_iff.mp hy'.1.1).1
  refine fnX_of F S fun cd A outer s H Q a oe cls dd hg hr hz hv h => ?_
  obtain ⟨T, θ, st0, v0, w0, no, hx, p⟩ := h
  have Z : Xok Γ.toG z g (L2H.cxH (L2.CX P w) P w K mg base N qual scope f cd A outer s H (fun _ _ _ => False) (a, oe)) := ⟨M.cad, M.xf, M.noF, M.exm, M.kit, M.exc, M.kitv⟩
  have vis : ∀ {t : Str}, visB scope t = true → Vis scope t := fun {t} h => by
    unfold visB at h
    split at h <;> first | exact .inl (by assumption) | exact .inr (.inl (by assumption)) | exact .inr (.inr (by assumption)) | cases h
  have gl : ∀ {t : Str}, glB scope t = true → Gl (L2H.cxH (L2.CX P w) P w K mg base N qual scope f cd A outer s H (fun _ _ _ => False) (a, oe)) t := fun {t} h => by
    unfold glB at h
    split at h
    · assumption
    · cases h
  have C : Sok Γ z (g.hold a cls dd) W0 ⟨N, scope, none, false, true⟩ (cxX P w K mg base N qual scope f cd A outer s H a oe) := {
    hK := M.hK
    hN := rfl
    nd := S.nd
    sc := rfl
    fs := fun _ _ => rfl
    calm := fun h => nomatch h
    guards := hg
    units := by
      have := hr.un
      show (A.deeper (envOfC qual scope s.heap.objs.size f cd)).units + 200 < cLine
      omega
    tk := takes0
    bi := M.bi
    cst := M.cst
    fns := fun h => nomatch h
    fat := fun h => nomatch h
    fnx := fun h => nomatch h
    fax := fun h => nomatch h
    exf := fun _ i x f p pos hs hf => by
      have hs' : slotB ⟨N, scope, none, false, true⟩ i x = true := hs
      unfold slotB at hs'
      simp only [Bool.and_eq_true, decide_eq_true_eq] at hs'
      obtain ⟨n1, n2, _⟩ := nameB_d hs'.2
      exact xf_of Z M.hK hz hv hs'.1.1 (vis hs'.1.2) n1 n2 hf
    exi := fun _ i k x t p p2 p3 pos hs hk gt nt gi => by
      have hs' : slotB ⟨N, scope, none, false, true⟩ i x = true := hs
      unfold slotB at hs'
      simp only [Bool.and_eq_true, decide_eq_true_eq] at hs'
      obtain ⟨n1, n2, _⟩ := nameB_d hs'.2
      exact xi_of Z M.hK hz hv hs'.1.1 (vis hs'.1.2) n1 n2 hk (gl gt) (nameB_d nt).1 (gl gi) (M.bi _ (by decide))
    exv := fun _ i x p p2 p3 pos hs gt gi => by
      have hs' : slotB ⟨N, scope, none, false, true⟩ i x = true := hs
      unfold slotB at hs'
      simp only [Bool.and_eq_true, decide_eq_true_eq] at hs'
      obtain ⟨n1, n2, _⟩ := nameB_d hs'.2
      exact xv_of Z M.hK hz hv hs'.1.1 (vis hs'.1.2) n1 n2 (gl gt) (M.bi _ (by decide)) (gl gi) (M.bi _ (by decide))
    exg := fun _ i f x t p p2 pos hs hf gt nt => ⟨fun pins s σ H Q I q => by
      obtain ⟨T, θ, ρ, st, r, po⟩ := q
      dsimp only at po
      split at po
      · split at po
        · rename_i e
          exact (nofx _ _ e).elim
        · exact po.elim
      · exact po.elim⟩
    own := fun h => nomatch h
    xok := ⟨M.cad, M.xf, M.noF, M.exm, M.kit, M.exc, M.kitv⟩
    err := fun h => nomatch h
    sx := fun h => nomatch h
    stk := rfl
    frm := rfl }
  exact ⟨_, okSs C chk, T, θ, _, st0, start_srX w0 hx hN, runX_po no p⟩
end
end Z
set_option Elab.async false
set_option linter.all false
set_option maxRecDepth 100000
set_option maxHeartbeats 4000000
/-! Z23: what one look at the written part tells: constants, free names, errors' classes. -/
namespace Z
open PySem PySem.Spec PyProof.Rows L2

/-! ### constants -/
mutual
def repB (K : PySem.W.Frag) : D → Value → Bool
  | .non, u => match u with
    | .none => true
    | _ => false
  | .bl b, u => match u with
    | .bool c => b == c
    | _ => false
  | .int i, u => match u with
    | .int j _ => decide (i = j)
    | _ => false
  | .str s, u => match u with
    | .str x _ => decide (s = x)
    | _ => false
  | .tup ds, u => match u with
    | .ref a => match K.lookup a with
      | some ⟨.type c, _, .seq its _, _⟩ => decide (c = "tuple") && decide (its.size ≤ sizeLine) && repBs K ds its.toList
      | _ => false
    | _ => false
  | _, _ => false
def repBs (K : PySem.W.Frag) : List D → List Value → Bool
  | [], us => match us with
    | [] => true
    | _ => false
  | d :: ds, us => match us with
    | u :: us => repB K d u && repBs K ds us
    | [] => false
end
abbrev T0 : Tg' := fun _ => .no
abbrev H0 : Hp := fun _ => none
mutual
theorem repB_ok {K : PySem.W.Frag} {fad : Nat → Option Addr} : ∀ {d : D} {u : Value}, repB K d u = true → ∃ v, RelV v u ∧ Rep K fad T0 H0 d v
  | .non, u, h => by
    unfold repB at h
    split at h
    · exact ⟨.non, rfl, by simp only [Rep]⟩
    · cases h
  | .bl b, u, h => by
    unfold repB at h
    split at h
    · obtain rfl := eq_of_beq h
      exact ⟨.bl b, rfl, by simp only [Rep]⟩
    · cases h
  | .int i, u, h => by
    unfold repB at h
    split at h
    · obtain rfl := of_decide_eq_true h
      exact ⟨.int i, ⟨_, rfl⟩, by simp only [Rep]⟩
    · cases h
  | .str s, u, h => by
    unfold repB at h
    split at h
    · obtain rfl := of_decide_eq_true h
      exact ⟨.str s, ⟨_, rfl⟩, by simp only [Rep]⟩
    · cases h
  | .tup ds, u, h => by
    unfold repB at h
    split at h
    · rename_i a
      split at h
      · rename_i c od its n sl hk
        simp only [Bool.and_eq_true, decide_eq_true_eq] at h
        obtain ⟨⟨rfl, h2⟩, h3⟩ := h
        obtain ⟨vs, r1, r2⟩ := repBs_ok (fad := fad) h3
        refine ⟨.ref a, rfl, ?_⟩
        simp only [Rep]
        exact ⟨a, vs, rfl, .inr (.inr ⟨_, its, n, hk, rfl, rfl, h2, r1⟩), r2⟩
      · cases h
    · cases h
  | .lst _, _, h => by unfold repB at h; cases h
  | .dct _ _, _, h => by unfold repB at h; cases h
  | .scr _, _, h => by unfold repB at h; cases h
  | .ref _, _, h => by unfold repB at h; cases h
  | .fn _, _, h => by unfold repB at h; cases h
theorem repBs_ok {K : PySem.W.Frag} {fad : Nat → Option Addr} : ∀ {ds : List D} {us : List Value}, repBs K ds us = true → ∃ vs, Vals vs us ∧ RepL K fad T0 H0 ds vs
  | [], us, h => by
    unfold repBs at h
    split at h
    · exact ⟨[], .nil, .nil⟩
    · cases h
  | d :: ds, us, h => by
    unfold repBs at h
    split at h
    · rw [Bool.and_eq_true] at h
      obtain ⟨v, r1, r2⟩ := repB_ok (fad := fad) h.1
      obtain ⟨vs, r3, r4⟩ := repBs_ok (fad := fad) h.2
      exact ⟨v :: vs, .cons r1 r3, .cons r2 r4⟩
    · cases h
end
/-- a constant of the module -/
def cstB (K : PySem.W.Frag) (x : Str) (d : D) : Bool := match PySem.W.nsIn K mainGlobals x with
  | some (some u) => repB K d u
  | _ => false
theorem cstB_ok {K : PySem.W.Frag} {h : Heap} {mg : Str → Option Value} {fad : Nat → Option Addr} (X : K.In h) (G : h.Ns mainGlobals mg) {x : Str} {d : D} (c : cstB K x d = true) : ∃ u v, mg x = some u ∧ RelV v u ∧ Rep K fad T0 H0 d v := by
  unfold cstB at c
  split at c
  · rename_i u e
    obtain ⟨v, r1, r2⟩ := repB_ok (fad := fad) c
    exact ⟨u, v, PySem.W.mg_of X G e, r1, r2⟩
  · cases c

/-! ### errors' classes -/
def eqV (a b : Option (Option Value)) : Bool := decide (a = b)
theorem eqV_ok {a b : Option (Option Value)} (h : eqV a b = true) : a = b := of_decide_eq_true h
def eqB (a b : Option Bool) : Bool := decide (a = b)
def excB (K : PySem.W.Frag) (C : Addr) : Bool :=
  eqV (PySem.W.findIn K (.ref C) "__getattribute__") (some (some (.builtin "BaseException.__getattribute__"))) && eqV (PySem.W.findIn K (.ref C) "__getattr__") (some none) && eqB (PySem.W.subIn K (.ref C) (.type "BaseException")) (some true) &&
    PySem.W.hasDictIn K C && eqV (PySem.W.findIn K (.ref C) "__class__") (some (some (.builtin "object.__class__"))) && eqV (PySem.W.specialIn K (.builtin "object.__class__") "__get__") (some (some (.builtin "getset_descriptor.__get__"))) &&
    eqB (PySem.W.takesIn K (.builtin "object.__class__")) (some true) && eqB (PySem.W.mroIn K C (.type "object")) (some true)
theorem excB_ok {K : PySem.W.Frag} {C : Addr} (h : excB K C = true) : ExcC K C ∧ XfC K C := by
  unfold excB at h
  simp only [Bool.and_eq_true, eqV, eqB, decide_eq_true_eq] at h
  obtain ⟨⟨⟨⟨⟨⟨⟨h1, h2⟩, h3⟩, h4⟩, h5⟩, h6⟩, h7⟩, h8⟩ := h
  exact ⟨⟨h1, h2, h3, h4, h5, h6, h7, h8⟩, ⟨h1, h2, h3, h4⟩⟩
/-- the class object itself -/
def clsB (K : PySem.W.Frag) (C : Addr) : Bool := match K.lookup C with
  | some ⟨.type t, _, .cls cd, sl⟩ => decide (t = "type") && cd.hasDict && !cd.hasDel && (match cd.mro with
    | .ref c :: bm => decide (c = C) && PySem.HandSPX.refsVE bm
    | _ => false) && (match sl.toList with
    | [_, _, _, _, some (.builtin n), _] => decide (n = "ValueError.__new__")
    | _ => false)
  | _ => false
theorem clsB_ok {K : PySem.W.Frag} {C : Addr} (h : clsB K C = true) : ∃ nm q N bs bm sn sub ab col dd k0 k1 k2 k3 k5, K.lookup C = some (excClassObj nm q C N bs bm true sn sub ab col dd k0 k1 k2 k3 k5 "ValueError.__new__") ∧ PySem.HandSPX.refsVE bm = true := by
  unfold clsB at h
  split at h
  · rename_i t dd cd sl hk
    simp only [Bool.and_eq_true, decide_eq_true_eq, Bool.not_eq_true'] at h
    obtain ⟨⟨⟨⟨rfl, h2⟩, h3⟩, h4⟩, h5⟩ := h
    obtain ⟨nm, bs, mro, ns, qn, hd, sn, sb, ab, col, del⟩ := cd
    dsimp only at h2 h3 h4
    subst h2 h3
    split at h4
    · rename_i c bm
      simp only [Bool.and_eq_true, decide_eq_true_eq] at h4
      obtain ⟨rfl, h4⟩ := h4
      split at h5
      · rename_i k0 k1 k2 k3 n k5 hs
        obtain rfl := of_decide_eq_true h5
        refine ⟨nm, qn, ns, bs, bm, sn, sb, ab, col, dd, k0, k1, k2, k3, k5, ?_, h4⟩
        rw [hk]
        have : sl = #[k0, k1, k2, k3, some (.builtin "ValueError.__new__"), k5] := by
          rw [← Array.toList_inj]
          exact hs
        rw [this]
      · cases h5
    · cases h4
  · cases h
def plainA (A : Arguments) (ps : List Str) : Bool := A.posonlyargs.isEmpty && decide (A.args.map (·.arg) = ("self" : Str) :: ps) && A.vararg.isNone && A.kwonlyargs.isEmpty && A.kw_defaults.isEmpty && A.kwarg.isNone && A.defaults.isEmpty
def initB (P : Program) (K : PySem.W.Frag) (C : Addr) (ps : List Str) (fd : FuncData) : Bool :=
  decide (fd.name = ("__init__" : Str)) && decide (fd.globals = mainGlobals) && decide (fd.builtins = builtinsNs) && decide (fd.defaults = .none) && decide (fd.kwdefaults = .none) && plainA fd.params ps && scopeB ps fd.scope && PySem.W.codeIn K fd.code fd.qualname &&
    (match fd.body with
    | .stmts b => bodyB ps b
    | _ => false) &&
    (match fd.code with
    | .ref cda => match K.lookup cda with
      | some ⟨_, _, .fields vs, _⟩ => match (vs[2]? : Option Value) with
        | some (Value.str file _) => ((P.main.file : Str) == file)
        | _ => false
      | _ => false
    | _ => false) &&
    (match fd.closure with
    | [(n, cc)] => decide (n = ("__class__" : Str)) && match K.lookup cc with
      | some ⟨_, _, .cell (some (.ref D)), _⟩ => (PySem.W.clsIn K D).isSome && eqB (PySem.W.mroIn K C (.ref D)) (some true) && eqV (PySem.W.ks_superIn K C D "__init__") (some (some (.builtin "ValueError.__init__")))
      | _ => false
    | _ => false)
def etxtB (P : Program) (K : PySem.W.Frag) (C : Addr) (ps : List Str) : Bool :=
  clsB K C && eqV (PySem.W.findIn K (.ref C) "__setattr__") (some (some (.builtin "object.__setattr__"))) && (ps.all fun f => eqV (PySem.W.findIn K (.ref C) f) (some none)) && PySem.W.keepIn K (.ref C) && eqB (PySem.W.subIn K (.ref C) (.type "BaseException")) (some true) &&
    decide (PySem.W.typeIn K (.ref C) = some (.type "type")) && eqV (PySem.W.findIn K (.ref C) "__init__") (some (some (.ref (He.ma K C "__init__")))) && decide (PySem.W.typeIn K (.ref (He.ma K C "__init__")) = some (.type "function")) &&
    eqB (PySem.W.subIn K (.ref C) (.type "ValueError")) (some true) && eqV (PySem.W.nsIn K cStatics "thirdparty.any") (some none) && decide (ps.length ≤ 100) && decide ((("self" : Str) :: ps).Nodup) && !(P.main.scope.names.lookup ("super" : Str)).isSome &&
    (match K.lookup (He.ma K C "__init__") with
    | some ⟨_, _, .func fd, _⟩ => initB P K C ps fd
    | _ => false)
/-- how such parameters bind -/
def BindP (ps : List Str) : Prop := ∀ (qual : Str) (as : List Arg) (body : List Stmt) (scope : Scope) (doc pm : Value) (an : Option Addr) (cdv ct : Value) (cc : Addr) (us : List Value), as.map (·.arg) = ("self" : Str) :: ps → us.length = ps.length + 1 →
  bindArgs (PySem.W.ksFn "__init__" qual ⟨[], as, none, [], [], none, []⟩ body scope .none .none doc pm an cdv ct cc) ⟨us, []⟩ = pure ((("self" : Str) :: ps).zip us)
theorem etxtB_ok {P : Program} {K : PySem.W.Frag} {C : Addr} {ps : List Str} (h : etxtB P K C ps = true) (hb : BindP ps) : ETxt P K C (He.ma K C "__init__") ps := by
  unfold etxtB at h
  simp only [Bool.and_eq_true, decide_eq_true_eq, eqV, eqB, List.all_eq_true, Bool.not_eq_true'] at h
  obtain ⟨⟨⟨⟨⟨⟨⟨⟨⟨⟨⟨⟨⟨h1, h2⟩, h3⟩, h4⟩, h5⟩, h6⟩, h7⟩, h8⟩, h9⟩, h10⟩, h11⟩, h12⟩, h13⟩, h14⟩ := h
  split at h14
  · rename_i oc od fd osl hf
    unfold initB at h14
    simp only [Bool.and_eq_true, decide_eq_true_eq, eqV, eqB] at h14
    obtain ⟨⟨⟨⟨⟨⟨⟨⟨⟨⟨k1, k2⟩, k3⟩, k4⟩, k5⟩, k6⟩, k7⟩, k8⟩, k9⟩, k10⟩, k11⟩ := h14
    obtain ⟨n1, n2, A, n4, n5, n6, n7, n8, n9, n10, n11, n12, n13, n14, n15⟩ := fd
    dsimp only at k1 k2 k3 k4 k5 k6 k7 k8 k9 k10 k11
    subst k1 k2 k3 k4 k5
    unfold plainA at k6
    simp only [Bool.and_eq_true, decide_eq_true_eq] at k6
    obtain ⟨⟨⟨⟨⟨⟨p1, p2⟩, p3⟩, p4⟩, p5⟩, p6⟩, p7⟩ := k6
    obtain ⟨A1, A2, A3, A4, A5, A6, A7⟩ := A
    dsimp only at p1 p2 p3 p4 p5 p6 p7
    obtain rfl := List.isEmpty_iff.mp p1
    obtain rfl := Option.isNone_iff_eq_none.mp p3
    obtain rfl := List.isEmpty_iff.mp p4
    obtain rfl := List.isEmpty_iff.mp p5
    obtain rfl := Option.isNone_iff_eq_none.mp p6
    obtain rfl := List.isEmpty_iff.mp p7
    split at k9
    · rename_i body
      split at k10
      · rename_i cda
        split at k10
        · rename_i ccl cdd vs ccs hcda
          split at k10
          · rename_i file tf hvs
            split at k11
            · rename_i n cc
              rw [Bool.and_eq_true] at k11
              obtain ⟨k11, k12⟩ := k11
              obtain rfl := of_decide_eq_true k11
              split at k12
              · rename_i cl cld D csl hcc
                simp only [Bool.and_eq_true, decide_eq_true_eq] at k12
                obtain ⟨⟨q1, q2⟩, q3⟩ := k12
                obtain ⟨cdD, q1⟩ := Option.isSome_iff_exists.mp q1
                obtain ⟨ar, hA, har⟩ : ∃ ar, A2.head? = some ar ∧ ar.arg = ("self" : Str) := by
                  cases A2 with
                  | nil => cases p2
                  | cons ar r =>
                    simp only [List.map_cons, List.cons.injEq] at p2
                    exact ⟨ar, rfl, p2.1⟩
                exact ⟨⟨clsB_ok h1, h2, h3⟩, h4, h5, h6, h7, h8, h9, h10, h11, h12, oc, n10, n11, n14, ccl, cl, od, n12, cdd, cld, osl, ccs, csl, cda, cc, D, cdD, vs, file, tf, _, ar, body, n5, n2, hf, k8, hA, har, k9, k7, hcda, hvs, k10, h13, hcc, q1, q2, q3,
                  fun s us hl => .of_eq (hb n2 A2 body n5 n10 n11 n12 (.ref cda) n14 cc us p2 hl)⟩
              · cases k12
            · cases k11
          · cases k10
        · cases k10
      · cases k10
    · cases k9
  · cases h14

/-! ### all of it -/
def GCof (K : PySem.W.Frag) (z : Nm) : GC := { K := K, fad := fun i => (z.fn[i]?).map (He.ga K), cad := fun j => (z.xn[j]?).map (He.ga K) }
def headB (P : Program) (z : Nm) (cst : Nat → Option D) (sup : Nat → Nat → Option Bool) (exc : Nat → Option (List Str)) (K : PySem.W.Frag) : Bool :=
  (biNames.all fun x => eqV (PySem.W.nsIn K mainGlobals x) (some none)) &&
  ((List.range z.cn.length).all fun i => match z.cn[i]? with
    | some x => match cst i with
      | some d => cstB K x d
      | none => true
    | none => true) &&
  (z.xn.all fun x => eqV (PySem.W.nsIn K mainGlobals x) (some (some (.ref (He.ga K x)))) && excB K (He.ga K x) && (z.xf.all fun f => eqV (PySem.W.findIn K (.ref (He.ga K x)) f) (some none)) && eqB (PySem.W.kitOne K (.ref (He.ga K x)) (.type "ValueError")) (some true)) &&
  ((List.range z.xn.length).all fun i => (List.range z.xn.length).all fun j => match sup i j with
    | some b => match z.xn[i]? with
      | some x => match z.xn[j]? with
        | some y => eqB (PySem.W.exmOne K (.ref (He.ga K x)) (.ref (He.ga K y))) (some b) && eqB (PySem.W.kitOne K (.ref (He.ga K x)) (.ref (He.ga K y))) (some b)
        | none => true
      | none => true
    | none => true) &&
  ((List.range z.xn.length).all fun j => match z.xn[j]? with
    | some x => match exc j with
      | some ps => etxtB P K (He.ga K x) ps
      | none => true
    | none => true)
section
variable {P : Program} {z : Nm} {cst : Nat → Option D} {sup : Nat → Nat → Option Bool} {exc : Nat → Option (List Str)} {K : PySem.W.Frag} {h : Heap} {mg : Str → Option Value}
theorem cad_of {j : Nat} {C : Addr} (e : (GCof K z).cad j = some C) : ∃ x, z.xn[j]? = some x ∧ C = He.ga K x := by
  have e' : (z.xn[j]?).map (He.ga K) = some C := e
  obtain ⟨x, e1, e2⟩ := Option.map_eq_some_iff.mp e'
  exact ⟨x, e1, e2.symm⟩
theorem head_ok {fns : Nat → Option (Nat × (List D → M D))} {fxs : Nat → Option (XV → M D)} (X : K.In h) (G : h.Ns mainGlobals mg) (c : headB P z cst sup exc K = true) (hb : ∀ j ps, exc j = some ps → BindP ps) :
    Modu ⟨cst, fns, sup, fxs⟩ z (GCof K z) P K mg ∧ Errs exc z (GCof K z) P K mg := by
  unfold headB at c
  simp only [Bool.and_eq_true, List.all_eq_true] at c
  obtain ⟨⟨⟨⟨c1, c2⟩, c3⟩, c4⟩, c5⟩ := c
  have lt : ∀ {j : Nat} {x : Str}, z.xn[j]? = some x → j ∈ List.range z.xn.length := fun e => List.mem_range.mpr (List.getElem?_eq_some_iff.mp e).1
  have pair : ∀ i j b C C', sup i j = some b → (GCof K z).cad i = some C → (GCof K z).cad j = some C' → PySem.W.exmOne K (.ref C) (.ref C') = some b ∧ PySem.W.kitOne K (.ref C) (.ref C') = some b := fun i j b C C' e1 e2 e3 => by
    obtain ⟨x, x1, rfl⟩ := cad_of e2
    obtain ⟨y, y1, rfl⟩ := cad_of e3
    have q := c4 i (lt x1) j (lt y1)
    rw [e1, x1, y1] at q
    dsimp only at q
    rw [Bool.and_eq_true] at q
    exact ⟨of_decide_eq_true q.1, of_decide_eq_true q.2⟩
  refine ⟨{ hK := rfl, sx := rfl, bi := fun x hx => PySem.W.mg_none_of X G (eqV_ok (c1 x hx)), cst := fun i x d e1 e2 => ?_, cad := fun j x e => ?_, xf := fun j C e => ?_, noF := fun j C f e hf => ?_, exm := fun i j b C C' e1 e2 e3 => (pair i j b C C' e1 e2 e3).1, kit := fun i j b C C' e1 e2 e3 => (pair i j b C C' e1 e2 e3).2, exc := fun j C e => ?_, kitv := fun j C e => ?_ }, fun j x ps e1 e2 => ?_⟩
  · have q := c2 i (List.mem_range.mpr (List.getElem?_eq_some_iff.mp e1).1)
    rw [e1] at q
    have e2' : cst i = some d := e2
    dsimp only at q
    rw [e2'] at q
    exact cstB_ok X G q
  · have q := c3 x (List.mem_of_getElem? e)
    exact ⟨He.ga K x, PySem.W.mg_of X G (eqV_ok q.1.1.1), by show (z.xn[j]?).map (He.ga K) = _; rw [e]; rfl⟩
  · obtain ⟨x, e1, rfl⟩ := cad_of e
    have q := c3 x (List.mem_of_getElem? e1)
    exact (excB_ok q.1.1.2).2
  · obtain ⟨x, e1, rfl⟩ := cad_of e
    have q := c3 x (List.mem_of_getElem? e1)
    exact eqV_ok (q.1.2 f hf)
  · obtain ⟨x, e1, rfl⟩ := cad_of e
    have q := c3 x (List.mem_of_getElem? e1)
    exact (excB_ok q.1.1.2).1
  · obtain ⟨x, e1, rfl⟩ := cad_of e
    have q := c3 x (List.mem_of_getElem? e1)
    exact of_decide_eq_true q.2
  · have q := c3 x (List.mem_of_getElem? e1)
    have q5 := c5 j (lt e1)
    rw [e1] at q5
    dsimp only at q5
    rw [e2] at q5
    exact ⟨He.ga K x, He.ma K (He.ga K x) "__init__", PySem.W.mg_of X G (eqV_ok q.1.1.1), by show (z.xn[j]?).map (He.ga K) = _; rw [e1]; rfl, etxtB_ok q5 (hb j ps e2)⟩
end

/-! ### the Hook -/
def obsX (B : PySem.W.Frag → Bool) (fn : List He.DefD) (K : PySem.W.Frag) : He.AlD := ((B K && fn.all fun d => d.ok K && eqV (PySem.W.nsIn K mainGlobals d.name) (some (some (.ref (He.ga K d.name))))), fn.map fun d => He.fnW K d.at_)
def SaysX (B : PySem.W.Frag → Bool) (fn : List He.DefD) (K : PySem.W.Frag) : Prop := obsX B fn K = He.valD fn
def obsXG (n : Nat) (B : PySem.W.Frag → Bool) (fn : List He.DefD) (g : Addr → Option Obj) : He.AlD := obsX B fn (He.frG g (cStatics :: He.asD g n))
def hookX (n : Nat) (B : PySem.W.Frag → Bool) (fn : List He.DefD) : PySem.W.Hook where
  α := He.AlD
  obs := fun s => obsXG n B fn s.heap.get?
  val := fun _ => He.valD fn
  says := fun _ h => ∃ K : PySem.W.Frag, K.In h ∧ SaysX B fn K
  of := fun _ _ e => ⟨_, He.frG_in, e⟩
  keeps := fun _ _ _ ⟨K, hK, c⟩ k => ⟨K, PySem.W.Frag.In.keeps hK k, c⟩
theorem obsXG_eq {n : Nat} {B : PySem.W.Frag → Bool} {fn : List He.DefD} {g : Addr → Option Obj} {s : Shared} (h : ∀ a, g a = s.heap.get? a) : obsXG n B fn g = (hookX n B fn).obs s := by
  have e : g = s.heap.get? := funext h
  rw [e]
  rfl
section
variable {B : PySem.W.Frag → Bool} {fn : List He.DefD} {K : PySem.W.Frag}
theorem SaysX.all (c : SaysX B fn K) : B K = true := (Bool.and_eq_true_iff.mp (show (B K && fn.all fun d => d.ok K && eqV (PySem.W.nsIn K mainGlobals d.name) (some (some (.ref (He.ga K d.name))))) = true from congrArg (fun z : He.AlD => z.1) c)).1
theorem SaysX.def_ (c : SaysX B fn K) (i : Nat) {d : He.DefD} (h : fn[i]? = some d) : (∃ fd, FunD K d.name d.qual d.params d.body d.scope (d.dvs K) (d.kws K) (He.fAd K d.at_) fd) ∧ PySem.W.nsIn K mainGlobals d.name = some (some (.ref (He.ga K d.name))) := by
  have c2 := (Bool.and_eq_true_iff.mp (show (B K && fn.all fun d => d.ok K && eqV (PySem.W.nsIn K mainGlobals d.name) (some (some (.ref (He.ga K d.name))))) = true from congrArg (fun z : He.AlD => z.1) c)).2
  have c3 := List.all_eq_true.mp c2 d (List.mem_of_getElem? h)
  rw [Bool.and_eq_true] at c3
  have e : fn.map (fun d => He.fnW K d.at_) = fn.map He.DefD.val := congrArg (fun z : He.AlD => z.2) c
  have e2 : (fn.map fun d => He.fnW K d.at_)[i]? = (fn.map He.DefD.val)[i]? := by rw [e]
  rw [List.getElem?_map, List.getElem?_map, h] at e2
  exact ⟨He.DefD.funD (Option.some.inj e2) c3.1, eqV_ok c3.2⟩
end
end Z
set_option Elab.async false
set_option linter.all false
set_option maxRecDepth 100000
set_option maxHeartbeats 4000000
/-! Z24: the end: a law's def, called with the script behind the top. -/
namespace Z
open PySem PySem.Spec PyProof.Rows L2

/-- nothing is told of but the script, where it is no object of the module -/
def scH (K : PySem.W.Frag) (a : Addr) (o : Obj) (xs : List V) : Hp := fun b => if b = a ∧ K.lookup a = none then some (.frz o (.lst xs)) else none
def scT (K : PySem.W.Frag) (a : Addr) : Tg' := fun b => if b = a ∧ K.lookup a = none then .fz else .no
section
variable {P : Program} {w : World} {K : PySem.W.Frag} {a b : Addr} {o : Obj} {xs : List V} {h : Heap}
theorem scH_some {u : HO} (e : scH K a o xs b = some u) : b = a ∧ K.lookup a = none ∧ u = .frz o (.lst xs) := by
  unfold scH at e
  split at e
  · rename_i c
    exact ⟨c.1, c.2, (Option.some.inj e).symm⟩
  · cases e
theorem scT_fz (e : scT K a b = .fz) : b = a ∧ K.lookup a = none := by
  unfold scT at e
  split at e
  · assumption
  · cases e
theorem scT_or : scT K a b = .fz ∨ scT K a b = .no := by
  unfold scT
  split
  · exact .inl rfl
  · exact .inr rfl
theorem scH_none (e : b = a → K.lookup a ≠ none) : scH K a o xs b = none := by
  unfold scH
  rw [if_neg]
  exact fun c => e c.1 c.2
theorem scH_at (e : K.lookup a = none) : scH K a o xs a = some (.frz o (.lst xs)) := if_pos ⟨rfl, e⟩
theorem scT_at (e : K.lookup a = none) : scT K a a = .fz := if_pos ⟨rfl, e⟩
theorem vals_of : ∀ {vs : List Value} {ns : List Int}, IntsAre vs ns → Vals (ns.map V.int) vs
  | _, _, .nil => .nil
  | _, _, .cons _ t r => .cons ⟨t, rfl⟩ (vals_of r)
/-- what the law's def must say of its script -/
theorem sp_scr {g : GC} (hK : K = g.K) {m : List D → M D} {ns : List Int} (hm : ∃ st, m [.scr ns] [] = .ok (.bl true) st)
    (hS : K.lookup a ≠ none → SqL K (fun _ => none) a (ns.map V.int)) : spD g 1 m [.ref a] (scH K a o (ns.map V.int)) (fun v _ => v = .bl true) fun _ _ _ => False := by
  obtain ⟨st, hm⟩ := hm
  refine ⟨scT K a, [], [], [.scr ns], ⟨fun b e => ?_, fun b i e => ?_, fun b n => ?_, rfl, fun n b ds e _ => by simp at e⟩, fun b i e => ?_, ⟨.ref a, [], rfl, ?_, rfl⟩, rfl, ?_⟩
  · obtain ⟨rfl, e2⟩ := scT_fz e
    rw [scH_at e2]
    exact fun z => nomatch z
  · rcases scT_or (K := K) (a := a) (b := b) with z | z
    · rw [z] at e; cases e
    · rw [z] at e; cases e
  · constructor
    · intro e
      rcases scT_or (K := K) (a := a) (b := b) with z | z
      · rw [z] at e; cases e
      · rw [z] at e; cases e
    · intro e; simp at e
  · rcases scT_or (K := K) (a := a) (b := b) with z | z
    · rw [z] at e; cases e
    · rw [z] at e; cases e
  · subst hK
    simp only [Rep]
    refine ⟨a, rfl, ?_⟩
    by_cases c : g.K.lookup a = none
    · exact .inl ⟨scT_at c, .inl (.inr ⟨o, scH_at c⟩)⟩
    · exact .inr (hS c)
  · unfold PoC
    rw [hm]
    intro T' θ' H' v _ _ _ r
    simpa only [Rep] using r
/-- an object of the heap that is not the script stands in the hidden heap too -/
theorem sc_keep {o' : Obj} (KX : K.In h) (e : h.get? b = some o') (d : b = a → K.lookup a ≠ none) : (hidT h (scH K a o xs)).get? b = some o' := hidT_get e (scH_none d)
end
/-- THE END: the law's def, called behind the top -/
theorem law_end {P : Program} {w : World} {K : PySem.W.Frag} {mg mb : Str → Option Value} {k n : Nat} {fa a : Addr} {fd : FuncData} {x : Str} {g : GC} {m : List D → M D} {sh : Shared} {vs : List Value} {ns : List Int}
    (KX : K.In sh.heap) (G : sh.heap.Ns mainGlobals mg) (B : sh.heap.Ns builtinsNs mb) (hbb : ∀ x : Str, x ≠ "__name__" → mb x = bootBuiltins x) (lim : sh.heap.NoLimit) (gn : sh.gens = #[])
    (ha : sh.heap.get? a = some { cls := .type "list", data := .seq vs.toArray }) (iv : IntsAre vs ns) (hl : ns.length ≤ sizeLine) (room : Room k callerA) (hK : K = g.K)
    (F : ∀ base : Heap, K.In base → base.Ns mainGlobals mg → FnG P w K mg base k fa fd [x] (spD g 1 m)) (bind : ∀ (s : Shared) (u : Value), BindsTo s fd ⟨[u], []⟩ [(x, u)]) (hm : ∃ st, m [.scr ns] [] = .ok (.bl true) st) :
    codeAny (model P w) callerA (.call (.ref fa) ⟨[.ref a], []⟩) (fun r s' => r = .ok (.ret (.bool true)) ∧ OldK sh.heap s'.heap ∧ s'.os = sh.os ∧ AllBare s'.gens) sh := by
  have rv := vals_of iv
  have vl := iv.length
  generalize hH : scH K a { cls := .type "list", data := .seq vs.toArray } (ns.map V.int) = H
  have dct : ∀ {b : Addr} {o' : Obj} {es : Array DictEntry} {ep : Nat}, sh.heap.get? b = some o' → o'.data = .dict es ep → b ≠ a := fun {b o' es ep} e d z => by
    subst z
    rw [ha] at e
    obtain rfl := Option.some.inj e
    cases (show Data.seq vs.toArray _ = Data.dict es ep from d)
  have nsB : ∀ {b : Addr} {f : Str → Option Value}, sh.heap.Ns b f → (hidT sh.heap H).Ns b f := fun {b f} ⟨o', es, ep, e, d, r⟩ => ⟨o', es, ep, by subst hH; exact sc_keep KX e fun z => absurd z (dct e d), d, r⟩
  have KB : K.In (hidT sh.heap H) := fun b o' e => by
    subst hH
    exact sc_keep KX (KX b o' e) fun z c => by
      subst z
      rw [c] at e
      cases e
  have ok : HOk P w H sh.heap := fun b u e => by
    subst hH
    obtain ⟨rfl, _, rfl⟩ := scH_some e
    exact ⟨ha, by rw [List.length_map]; exact hl, vs, _, rv, ha⟩
  have nil : ∀ {b : Addr}, b ∈ ([] : List Addr) → False := fun h => nomatch h
  have mo : Mod K mg (hidT sh.heap H) := ⟨KB, nsB G, ⟨mb, nsB B, hbb⟩, let ⟨mc, h1, h2⟩ := lim; ⟨mc, nsB h1, h2⟩⟩
  have en : Env0 P w K mg (hidT sh.heap H) callerA [] sh H := { frames := rfl, mod := mo, bs := fun b o' e => of_hidT e, bsz := Nat.le_of_eq (hidT_size _ _), funs := trivial, frf := fun b hb => (nil hb).elim, hok := ok, bare := .of_eq gn }
  have sp : spD g 1 m [.ref a] H (fun v _ => v = .bl true) fun _ _ _ => False := by
    subst hH
    refine sp_scr hK hm fun c => ?_
    cases hk : K.lookup a with
    | none => exact absurd hk c
    | some o' =>
      have e := KX a o' hk
      rw [ha] at e
      obtain rfl := Option.some.inj e
      exact .inr ⟨_, vs.toArray, _, hk, rfl, rfl, rfl, by rw [List.size_toArray, vl]; exact hl, by simpa using rv⟩
  refine codeAny_mono ((F _ KB (nsB G)).run callerA [] sh H ⟨[.ref a], []⟩ [.ref a] [.ref a] _ _ rfl room en (bind sh (.ref a)) (.cons rfl .nil) sp) fun r s' h => ?_
  match r, h with
  | .error e, h =>
    obtain ⟨_, _, _, _, _, _, _, _, _, _, _, _, z⟩ := h
    exact z.elim
  | .ok .next, h => exact False.elim h
  | .ok .brk, h => exact False.elim h
  | .ok .cont, h => exact False.elim h
  | .ok (.ret u), h =>
    obtain ⟨v, H', os, bare, un, ok', r', q⟩ := h
    obtain rfl : v = .bl true := q
    obtain rfl : u = Value.bool true := r'
    refine ⟨rfl, OldK.of_keep fun b o' e => ?_, os, bare⟩
    cases q : H b with
    | none => exact un.keep b o' e q nil nil
    | some hu =>
      have q' := q
      rw [← hH] at q'
      obtain ⟨rfl, _, rfl⟩ := scH_some q'
      rw [ha] at e
      obtain rfl := Option.some.inj e
      exact (ok' _ _ (un.frzs _ _ _ q)).1
/-- a law over a head whose Hook tells of the written part -/
theorem walk_end {l : PySem.W.OpenLaw} {n k : Nat} {q : Program} {loose : List Str} {XP : (Str → Option Value) → Heap → Prop} {YP : World → Heap → Prop} {d : DefRec} {x : Str} {m : List D → M D}
    (hn : l.most = some n) (hn2 : n ≤ sizeLine) (hdf : d.params.defaults = []) (room : Room k callerA) (hm : ∀ ns : List Int, ns.length ≤ n → ∃ st, m [.scr ns] [] = .ok (.bl true) st)
    (F : ∀ (w : World) (mg : Str → Option Value) (fa : Addr) (h : Heap), YP w h → h.Ns mainGlobals mg → mg d.name = some (.ref fa) →
      ∃ (K : PySem.W.Frag) (fd : FuncData) (g : GC), K = g.K ∧ K.In h ∧ (∀ (s : Shared) (u : Value), BindsTo s fd ⟨[u], []⟩ [(x, u)]) ∧ ∀ base : Heap, K.In base → base.Ns mainGlobals mg → FnG l.prog w K mg base k fa fd [x] (spD g 1 m)) :
    PySem.W.WalkO q loose XP YP l.row.toRowW d [] (fun f vs => PySem.call f vs) := by
  refine Att.attach_call hn hdf fun w s₀ sh mg mb fa o pm cd doc a vs ns G Y ho hd hcd hmg hobj hints hlen hg => ?_
  obtain ⟨K, fd, g, hK, KX, hb, hF⟩ := F w mg fa _ Y G.T.g hmg
  exact law_end (n := n) KX G.T.g G.T.b G.T.builtins G.T.nolimit hg hobj hints (Nat.le_trans hlen hn2) room hK hF hb (hm ns hlen)
end Z
set_option Elab.async false
set_option linter.all false
set_option maxRecDepth 100000
set_option maxHeartbeats 4000000
/-! Z25: the defs of a text, by their names. -/
namespace Z
open PySem PySem.Spec PyProof.Rows L2

/-- a def, as all may take it -/
def FnAll (z : Nm) (P : Program) (w : World) (K : PySem.W.Frag) (mg : Str → Option Value) (k i : Nat) (x : Str) (ps : List Str) (m : List D → M D) : Prop :=
  z.fn[i]? = some x ∧ mg x = some (.ref (He.ga K x)) ∧ PySem.W.keepIn K (.ref (He.ga K x)) = true ∧ ∃ fd, Binds K fd ps [] ∧ (∀ base : Heap, FnG P w K mg base k (He.ga K x) fd ps (spD (GCof K z) ps.length m)) ∧ ∀ (s : Shared) (us : List Value), us.length = ps.length → BindsTo s fd ⟨us, []⟩ (ps.zip us)
/-- what the head tells -/
structure Tells (z : Nm) (cst : Nat → Option D) (sup : Nat → Nat → Option Bool) (exc : Nat → Option (List Str)) (fn : List He.DefD) (P : Program) (K : PySem.W.Frag) (mg : Str → Option Value) : Prop where
  md : ∀ fns fxs, Modu ⟨cst, fns, sup, fxs⟩ z (GCof K z) P K mg
  er : Errs exc z (GCof K z) P K mg
  df : ∀ (i : Nat) (d : He.DefD), fn[i]? = some d → (∃ fd, FunD K d.name d.qual d.params d.body d.scope (d.dvs K) (d.kws K) (He.fAd K d.at_) fd) ∧ mg d.name = some (.ref (He.ga K d.name))
theorem tells {P : Program} {z : Nm} {cst : Nat → Option D} {sup : Nat → Nat → Option Bool} {exc : Nat → Option (List Str)} {fn : List He.DefD} {K : PySem.W.Frag} {h : Heap} {mg : Str → Option Value}
    (X : K.In h) (G : h.Ns mainGlobals mg) (c : SaysX (headB P z cst sup exc) fn K) (hb : ∀ j ps, exc j = some ps → BindP ps) : Tells z cst sup exc fn P K mg :=
  ⟨fun _ _ => (head_ok X G c.all hb).1, (head_ok (fns := fun _ => none) (fxs := fun _ => none) X G c.all hb).2, fun i d e => ⟨(c.def_ i e).1, PySem.W.mg_of X G (c.def_ i e).2⟩⟩
section
variable {z : Nm} {P : Program} {w : World} {K : PySem.W.Frag} {mg : Str → Option Value} {base : Heap}
theorem FnAll.sees {k k' i : Nat} {x : Str} {ps : List Str} {m : List D → M D} (F : FnAll z P w K mg k i x ps m) (h : k ≤ k') : FnSees z (GCof K z) P w K mg base k' i ps.length m := by
  obtain ⟨h1, h2, h3, fd, h4, h5, _⟩ := F
  exact ⟨x, He.ga K x, fd, ps, h1, h2, by show (z.fn[i]?).map (He.ga K) = _; rw [h1]; rfl, h3, h4, (h5 base).up h⟩
/-- how a def's parameters bind -/
def BindF (x qual : Str) (params : Arguments) (body : List Stmt) (scope : Scope) (ps : List Str) : Prop := ∀ (kV doc pm : Value) (an : Option Addr) (cdv ct : Value) (us : List Value), us.length = ps.length →
  bindArgs (PySem.W.fnOf x qual params body scope .none kV doc pm an cdv ct) ⟨us, []⟩ = pure (ps.zip us)
/-- a def of one error, as all may take it -/
def FxAll (z : Nm) (P : Program) (w : World) (K : PySem.W.Frag) (mg : Str → Option Value) (k i : Nat) (x y : Str) (m : XV → M D) : Prop :=
  z.fn[i]? = some x ∧ mg x = some (.ref (He.ga K x)) ∧ PySem.W.keepIn K (.ref (He.ga K x)) = true ∧ ∃ fd, Binds K fd [y] [] ∧ ∀ base : Heap, FnX P w K mg base k (He.ga K x) fd y (spX (GCof K z) m)
theorem FxAll.sees {k k' i : Nat} {x y : Str} {m : XV → M D} (F : FxAll z P w K mg k i x y m) (h : k ≤ k') : FxSees z (GCof K z) P w K mg base k' i m := by
  obtain ⟨h1, h2, h3, fd, h4, h5⟩ := F
  exact ⟨x, He.ga K x, fd, y, h1, h2, by show (z.fn[i]?).map (He.ga K) = _; rw [h1]; rfl, h3, h4, (h5 base).up h⟩
theorem FxAll.of {cst : Nat → Option D} {sup : Nat → Nat → Option Bool} {exc : Nat → Option (List Str)} {fn : List He.DefD} {fns : Nat → Option (Nat × (List D → M D))} (T : Tells z cst sup exc fn P K mg) {i k : Nat} {x y : Str} {params : Arguments} {body : List Stmt} {scope : Scope} {N : List Str} {b : Ss}
    (hd : fn[i]? = some ⟨(x, none), x, x, params, body, scope, [], []⟩) (hx : z.fn[i]? = some x) (S : FnScope N [y] scope) (hb : BindF x x params body scope [y])
    (hy : slotB ⟨N, scope, none, false, true⟩ 0 y = true) (chk : chkSs z b ⟨N, scope, none, false, true⟩ body = true) : FxAll z P w K mg (k + 1) i x y (runX ⟨⟨cst, fns, sup, noX⟩, exc⟩ b N.length) := by
  obtain ⟨⟨fd, F⟩, g⟩ := T.df i _ hd
  exact ⟨hx, g, F.kp, fd, FunD.bindsN F hb, fun base => def_okX F S (T.md fns noX) (fun _ _ e => nomatch e) hy chk⟩
theorem FnAll.of {cst : Nat → Option D} {sup : Nat → Nat → Option Bool} {exc : Nat → Option (List Str)} {fn : List He.DefD} {fns : Nat → Option (Nat × (List D → M D))} {fxs : Nat → Option (XV → M D)} (T : Tells z cst sup exc fn P K mg) {i k : Nat} {x : Str} {params : Arguments} {body : List Stmt} {scope : Scope} {N ps : List Str} {b : Ss}
    (hd : fn[i]? = some ⟨(x, none), x, x, params, body, scope, [], []⟩) (hx : z.fn[i]? = some x) (S : FnScope N ps scope) (hb : BindF x x params body scope ps)
    (hf : ∀ (base : Heap) j n m, fns j = some (n, m) → FnSees z (GCof K z) P w K mg base (k + 1) j n m) (chk : chkSs z b ⟨N, scope, none, true, false⟩ body = true) (hfx : ∀ (base : Heap) j m, fxs j = some m → FxSees z (GCof K z) P w K mg base (k + 1) j m) : FnAll z P w K mg (k + 2) i x ps (run ⟨⟨cst, fns, sup, fxs⟩, exc⟩ ps.length b N.length) := by
  obtain ⟨⟨fd, F⟩, g⟩ := T.df i _ hd
  exact ⟨hx, g, F.kp, fd, FunD.bindsN F hb, fun base => def_ok F S (T.md fns fxs) T.er (hf base) (hfx base) chk, FunD.bindsA F hb⟩
end
end Z
set_option Elab.async false
set_option linter.all false
set_option maxRecDepth 100000
set_option maxHeartbeats 4000000
/-! Y0: the meanings, said so that simp walks them in order. -/
namespace Z
open PySem L2
/-- a type that leans on a value in name only: simp leaves that value alone -/
@[reducible] def Kp {κ : Type} (T : Type) (_ : κ) : Type := T
section
variable {α β : Type}
/-- bind; simp looks at the first part alone -/
def Bd (r : Res α) (f : α → Sto → Res β) : Kp (Res β) f := match r with
  | .ok a s => f a s
  | .exc x s => .exc x s
  | .stuck => .stuck
theorem Bd_ext {r : Res α} {f g : α → Sto → Res β} (h : f = g) : (Bd r f : Res β) = (Bd r g : Res β) := by rw [h]
@[simp ↓] theorem Bd_ok (a : α) (s : Sto) (f : α → Sto → Res β) : Bd (.ok a s) f = f a s := rfl
@[simp ↓] theorem Bd_exc (x : XV) (s : Sto) (f : α → Sto → Res β) : Bd (.exc x s : Res α) f = .exc x s := rfl
@[simp ↓] theorem Bd_ite (p : Prop) [Decidable p] (a b : Res α) (f : α → Sto → Res β) : Bd (if p then a else b) f = if p then Bd a f else Bd b f := by split <;> rfl
theorem Bd_bd {γ : Type} (r : Res α) (f : α → Sto → Res β) (g : β → Sto → Res γ) : Bd (Bd r f) g = Bd r fun a s => Bd (f a s) g := by cases r <;> rfl
def Op (o : Option α) (s : Sto) : Res α := match o with
  | some a => .ok a s
  | none => .stuck
@[simp ↓] theorem Op_some (a : α) (s : Sto) : Op (some a) s = .ok a s := rfl
/-- a test, then one or the other -/
def Br (r : Res D) (t e : Sto → Res α) : Kp (Kp (Res α) e) t := match r with
  | .ok (.bl true) s => t s
  | .ok (.bl false) s => e s
  | .ok _ _ => .stuck
  | .exc x s => .exc x s
  | .stuck => .stuck
@[simp ↓] theorem Br_true (s : Sto) (t e : Sto → Res α) : Br (.ok (.bl true) s) t e = t s := rfl
@[simp ↓] theorem Br_false (s : Sto) (t e : Sto → Res α) : Br (.ok (.bl false) s) t e = e s := rfl
@[simp ↓] theorem Br_dec (p : Prop) [Decidable p] (s : Sto) (t e : Sto → Res α) : Br (.ok (.bl (decide p)) s) t e = if p then t s else e s := by by_cases h : p <;> simp [h, Br]
@[simp ↓] theorem Br_not (b : Bool) (s : Sto) (t e : Sto → Res α) : Br (.ok (.bl (!b)) s) t e = Br (.ok (.bl b) s) e t := by cases b <;> rfl
@[simp ↓] theorem Br_bl (b : Bool) (s : Sto) (t e : Sto → Res α) : Br (.ok (.bl b) s) t e = if b = true then t s else e s := by cases b <;> rfl
@[simp ↓] theorem Br_exc (x : XV) (s : Sto) (t e : Sto → Res α) : Br (.exc x s) t e = .exc x s := rfl
@[simp ↓] theorem Br_ite (p : Prop) [Decidable p] (a b : Res D) (t e : Sto → Res α) : Br (if p then a else b) t e = if p then Br a t e else Br b t e := by split <;> rfl
end
def truR (x : D) (s : Sto) : Res D := Op ((truthD x).map D.bl) s
def finR (md : Md) (r : Res D) : Res D := match md with
  | .tst => Bd r truR
  | _ => r
@[simp ↓] theorem finR_val (r : Res D) : finR .val r = r := rfl
@[simp ↓] theorem finR_pk (r : Res D) : finR .pk r = r := rfl
@[simp ↓] theorem finR_tst (r : Res D) : finR .tst r = Bd r truR := rfl
@[simp ↓] theorem truR_bl (b : Bool) (s : Sto) : truR (.bl b) s = .ok (.bl b) s := rfl
@[simp ↓] theorem truR_int (i : Int) (s : Sto) : truR (.int i) s = .ok (.bl (i != 0)) s := rfl
@[simp ↓] theorem truR_tup (l : List D) (s : Sto) : truR (.tup l) s = .ok (.bl (!l.isEmpty)) s := rfl
@[simp ↓] theorem truR_lst (l : List D) (s : Sto) : truR (.lst l) s = .ok (.bl (!l.isEmpty)) s := rfl
@[simp ↓] theorem truR_non (s : Sto) : truR .non s = .ok (.bl false) s := rfl
theorem fin_eq (md : Md) (m : M D) (s : Sto) : fin md m s = finR md (m s) := by cases md <;> rfl
def gv (o : Option Slot) (s : Sto) : Res D := match o with
  | some (.sh d) => .ok d s
  | _ => .stuck
@[simp ↓] theorem gv_sh (d : D) (s : Sto) : gv (some (.sh d)) s = .ok d s := rfl
def go (o : Option Slot) (s : Sto) : Res D := match o with
  | some (.ow d) => .ok d s
  | _ => .stuck
@[simp ↓] theorem go_ow (d : D) (s : Sto) : go (some (.ow d)) s = .ok d s := rfl
def gx (o : Option Slot) (f : Str) (s : Sto) : Res D := match o with
  | some (.ex x) => Op (x.fs.lookup f) s
  | _ => .stuck
@[simp ↓] theorem gx_ex (x : XV) (f : Str) (s : Sto) : gx (some (.ex x)) f s = Op (x.fs.lookup f) s := rfl
def gi (Γ : G) (o : Option Slot) (c : Nat) (s : Sto) : Res D := match o with
  | some (.ex x) => Op ((Γ.sup x.cls c).map D.bl) s
  | _ => .stuck
@[simp ↓] theorem gi_ex (Γ : G) (x : XV) (c : Nat) (s : Sto) : gi Γ (some (.ex x)) c s = Op ((Γ.sup x.cls c).map D.bl) s := rfl
def Cal (o : Option (Nat × (List D → M D))) (r : Res (List D)) : Res D := match o with
  | some (n, m) => Bd r fun ds s => if ds.length = n then m ds s else .stuck
  | none => .stuck
@[simp ↓] theorem Cal_some (n : Nat) (m : List D → M D) (r : Res (List D)) : Cal (some (n, m)) r = Bd r fun ds s => if ds.length = n then m ds s else .stuck := rfl
def calV (Γ : G) (x : D) (r : Sto → Res (List D)) (s : Sto) : Res D := match x with
  | .fn f => Cal (Γ.fns f) (r s)
  | _ => .stuck
@[simp ↓] theorem calV_fn (Γ : G) (f : Nat) (r : Sto → Res (List D)) (s : Sto) : calV Γ (.fn f) r s = Cal (Γ.fns f) (r s) := rfl
def fnR (o : Option (Nat × (List D → M D))) (x : Nat) (s : Sto) : Res D := match o with
  | some _ => .ok (.fn x) s
  | none => .stuck
@[simp ↓] theorem fnR_some (p : Nat × (List D → M D)) (x : Nat) (s : Sto) : fnR (some p) x s = .ok (.fn x) s := rfl
def siR (x : D) (r : Sto → Res D) (s : Sto) : Res D := match x with
  | .str z => Bd (r s) fun y s => Op (sidxD z y) s
  | _ => .stuck
@[simp ↓] theorem siR_str (z : Str) (r : Sto → Res D) (s : Sto) : siR (.str z) r s = Bd (r s) fun y s => Op (sidxD z y) s := rfl

section
variable (Γ : G) (md : Md) (ρ : Ro) (s : Sto)
@[simp ↓] theorem x_var (i : Nat) : ev Γ (.var i) md ρ s = finR md (gv ρ[i]? s) := by simp only [ev, fin_eq]; rfl
@[simp ↓] theorem x_ownp (i : Nat) : ev Γ (.own i) .pk ρ s = go ρ[i]? s := by simp only [ev, fin_eq]; rfl
@[simp ↓] theorem x_ownt (i : Nat) : ev Γ (.own i) .tst ρ s = Bd (go ρ[i]? s) truR := by simp only [ev, fin_eq]; rfl
@[simp ↓] theorem x_non : ev Γ .non md ρ s = finR md (.ok .non s) := by simp only [ev, fin_eq]
@[simp ↓] theorem x_bl (b : Bool) : ev Γ (.bl b) md ρ s = finR md (.ok (.bl b) s) := by simp only [ev, fin_eq]
@[simp ↓] theorem x_int (i : Int) : ev Γ (.int i) md ρ s = finR md (.ok (.int i) s) := by simp only [ev, fin_eq]
@[simp ↓] theorem x_str (z : Str) : ev Γ (.str z) md ρ s = finR md (.ok (.str z) s) := by simp only [ev, fin_eq]
@[simp ↓] theorem x_glob (x : Nat) : ev Γ (.glob x) md ρ s = finR md (Op (Γ.cst x) s) := by simp only [ev, fin_eq]; rfl
@[simp ↓] theorem x_fnv (x : Nat) : ev Γ (.fnv x) md ρ s = finR md (fnR (Γ.fns x) x s) := by simp only [ev, fin_eq]; cases Γ.fns x <;> rfl
@[simp ↓] theorem x_bin (op : Bop) (a b : E) : ev Γ (.bin op a b) md ρ s = finR md (Bd (ev Γ a .val ρ s) fun x s => Bd (ev Γ b .val ρ s) fun y s => Op (binD op x y) s) := by simp only [ev, fin_eq]; rfl
@[simp ↓] theorem x_neg (a : E) : ev Γ (.neg a) md ρ s = finR md (Bd (ev Γ a .val ρ s) fun x s => Op (negD x) s) := by simp only [ev, fin_eq]; rfl
@[simp ↓] theorem x_cmp (op : Cop) (a b : E) : ev Γ (.cmp op a b) md ρ s = finR md (Bd (ev Γ a .pk ρ s) fun x s => Bd (ev Γ b .pk ρ s) fun y s => Op ((cmpD op x y).map D.bl) s) := by simp only [ev, fin_eq]; rfl
@[simp ↓] theorem x_chain (op op' : Cop) (a b c : E) : ev Γ (.chain op op' a b c) md ρ s = finR md (Bd (ev Γ a .val ρ s) fun x s => Bd (ev Γ b .val ρ s) fun y s => Br (Op ((cmpD op x y).map D.bl) s) (fun s => Bd (ev Γ c .val ρ s) fun z s => Op ((cmpD op' y z).map D.bl) s) fun s => .ok (.bl false) s) := by
  simp only [ev, fin_eq]
  congr 1
  show @Eq (Res _) (Bd _ _) (Bd _ _)
  refine Bd_ext ?_
  funext x s
  show @Eq (Res _) (Bd _ _) (Bd _ _)
  refine Bd_ext ?_
  funext y s
  cases cmpD op x y with
  | none => rfl
  | some b => cases b <;> rfl
@[simp ↓] theorem x_isN (a : E) : ev Γ (.isN a) md ρ s = finR md (Bd (ev Γ a .val ρ s) fun x s => .ok (.bl (isNonD x)) s) := by simp only [ev, fin_eq]; rfl
@[simp ↓] theorem x_notN (a : E) : ev Γ (.notN a) md ρ s = finR md (Bd (ev Γ a .val ρ s) fun x s => .ok (.bl (!isNonD x)) s) := by simp only [ev, fin_eq]; rfl
@[simp ↓] theorem x_conjt (es : Es) : ev Γ (.conj es) .tst ρ s = evAndT Γ es ρ s := by simp only [ev]
@[simp ↓] theorem x_conjv (es : Es) : ev Γ (.conj es) .val ρ s = evAnd Γ es ρ s := by simp only [ev]
@[simp ↓] theorem x_conjp (es : Es) : ev Γ (.conj es) .pk ρ s = evAnd Γ es ρ s := by simp only [ev]
@[simp ↓] theorem x_disjt (es : Es) : ev Γ (.disj es) .tst ρ s = evOrT Γ es ρ s := by simp only [ev]
@[simp ↓] theorem x_disjv (es : Es) : ev Γ (.disj es) .val ρ s = evOr Γ es ρ s := by simp only [ev]
@[simp ↓] theorem x_disjp (es : Es) : ev Γ (.disj es) .pk ρ s = evOr Γ es ρ s := by simp only [ev]
theorem ifB_eq {α : Type} (m : M D) (t e : M α) (s : Sto) : ifB m t e s = Br (m s) t e := by
  simp only [ifB, M.bind]
  cases m s with
  | ok a s => cases a <;> try rfl
              rename_i b; cases b <;> rfl
  | exc x s => rfl
  | stuck => rfl
@[simp ↓] theorem x_nott (a : E) : ev Γ (.not a) .tst ρ s = Br (ev Γ a .tst ρ s) (fun s => .ok (.bl false) s) fun s => .ok (.bl true) s := by simp only [ev, ifB_eq]
@[simp ↓] theorem x_notv (a : E) : ev Γ (.not a) .val ρ s = Bd (ev Γ a .pk ρ s) fun x s => Bd (truR x s) fun b s => Br (.ok b s) (fun s => .ok (.bl false) s) fun s => .ok (.bl true) s := by
  simp only [ev]
  show @Eq (Res _) (Bd _ _) (Bd _ _)
  refine Bd_ext ?_
  funext x s
  show @Eq (Res _) (Op _ _) (Bd (Op _ _) _)
  cases truthD x with
  | none => rfl
  | some b => cases b <;> rfl
@[simp ↓] theorem x_itet (c a b : E) : ev Γ (.ite c a b) .tst ρ s = Br (ev Γ c .tst ρ s) (fun s => ev Γ a .tst ρ s) fun s => ev Γ b .tst ρ s := by simp only [ev, ifB_eq]
@[simp ↓] theorem x_itev (c a b : E) : ev Γ (.ite c a b) .val ρ s = Br (ev Γ c .tst ρ s) (fun s => ev Γ a .val ρ s) fun s => ev Γ b .val ρ s := by simp only [ev, ifB_eq]
@[simp ↓] theorem x_itep (c a b : E) : ev Γ (.ite c a b) .pk ρ s = Br (ev Γ c .tst ρ s) (fun s => ev Γ a .val ρ s) fun s => ev Γ b .val ρ s := by simp only [ev, ifB_eq]
def szR (ds : List D) (d : D) (s : Sto) : Res D := if ds.length ≤ sizeLine then .ok d s else .stuck
@[simp ↓] theorem x_tup (es : Es) : ev Γ (.tup es) md ρ s = finR md (Bd (evEs Γ es .val ρ s) fun ds s => szR ds (.tup ds) s) := by
  simp only [ev, fin_eq]
  congr 1
  show @Eq (Res _) (Bd _ _) (Bd _ _)
  refine Bd_ext ?_
  funext ds s
  unfold szR
  show Op _ _ = _
  split <;> rfl
@[simp ↓] theorem x_lst (es : Es) : ev Γ (.lst es) md ρ s = finR md (Bd (evEs Γ es .val ρ s) fun ds s => szR ds (.lst ds) s) := by
  simp only [ev, fin_eq]
  congr 1
  show @Eq (Res _) (Bd _ _) (Bd _ _)
  refine Bd_ext ?_
  funext ds s
  unfold szR
  show Op _ _ = _
  split <;> rfl
@[simp ↓] theorem x_newc (es : Es) : ev Γ (.newc es) md ρ s = finR md (Bd (evEs Γ es .val ρ s) fun ds s => szR ds (.ref s.length) (s ++ [ds])) := by simp only [ev, fin_eq]; rfl
@[simp ↓] theorem x_ix (a b : E) : ev Γ (.ix a b) md ρ s = finR md (Bd (ev Γ a .pk ρ s) fun x s => Bd (ev Γ b .val ρ s) fun y s => Op (ixS s x y) s) := by simp only [ev, fin_eq]; rfl
@[simp ↓] theorem x_sl (a : E) (lo hi : O) : ev Γ (.sl a lo hi) md ρ s = finR md (Bd (ev Γ a .pk ρ s) fun x s => Bd (evO Γ lo ρ s) fun l s => Bd (evO Γ hi ρ s) fun h s => Op (slD x l h) s) := by simp only [ev, fin_eq]; rfl
@[simp ↓] theorem x_call (f : Nat) (es : Es) : ev Γ (.call f es) md ρ s = finR md (Cal (Γ.fns f) (evEs Γ es .val ρ s)) := by
  simp only [ev, fin_eq]
  congr 1
  cases Γ.fns f with
  | none => rfl
  | some p =>
    obtain ⟨n, m⟩ := p
    show @Eq (Res _) (Bd _ _) (Bd _ _)
    refine Bd_ext ?_
    funext ds s
    split <;> rfl
@[simp ↓] theorem x_callv (f : E) (es : Es) : ev Γ (.callv f es) md ρ s = finR md (Bd (ev Γ f .val ρ s) fun x s => calV Γ x (fun s => evEs Γ es .val ρ s) s) := by
  simp only [ev, fin_eq]
  congr 1
  show @Eq (Res _) (Bd _ _) (Bd _ _)
  refine Bd_ext ?_
  funext x s
  cases x <;> try rfl
  rename_i f
  show _ = Cal (Γ.fns f) _
  cases h : Γ.fns f with
  | none => simp only [h]; rfl
  | some p =>
    obtain ⟨n, m⟩ := p
    simp only [h]
    show @Eq (Res _) (Bd _ _) (Bd _ _)
    refine Bd_ext ?_
    funext ds s
    split <;> rfl
@[simp ↓] theorem x_bi (f : Bi) (es : Es) : ev Γ (.bi f es) md ρ s = finR md (Bd (evEs Γ es .pk ρ s) fun ds s => Op (evBi f ds) s) := by simp only [ev, fin_eq]; rfl
@[simp ↓] theorem x_isi (a : E) (ty : Ty) : ev Γ (.isi a ty) md ρ s = finR md (Bd (ev Γ a .val ρ s) fun x s => Op ((isTy ty x).map D.bl) s) := by simp only [ev, fin_eq]; rfl
@[simp ↓] theorem x_sindex (a b : E) : ev Γ (.sindex a b) md ρ s = finR md (Bd (ev Γ a .val ρ s) fun x s => siR x (fun s => ev Γ b .val ρ s) s) := by
  simp only [ev, fin_eq]
  congr 1
  show @Eq (Res _) (Bd _ _) (Bd _ _)
  refine Bd_ext ?_
  funext x s
  cases x <;> rfl
@[simp ↓] theorem x_exf (i : Nat) (f : Str) : ev Γ (.exf i f) md ρ s = finR md (gx ρ[i]? f s) := by
  simp only [ev, fin_eq]
  congr 1
  generalize ρ[i]? = o
  cases o with
  | none => rfl
  | some sl =>
    cases sl <;> try rfl
    rename_i x
    show _ = Op _ _
    cases h : x.fs.lookup f <;> simp only [h] <;> rfl
@[simp ↓] theorem x_exi (i c : Nat) : ev Γ (.exi i c) md ρ s = finR md (gi Γ ρ[i]? c s) := by
  simp only [ev, fin_eq]
  congr 1
  generalize ρ[i]? = o
  cases o with
  | none => rfl
  | some sl =>
    cases sl <;> try rfl
    rename_i x
    show _ = Op _ _
    cases h : Γ.sup x.cls c <;> simp only [h] <;> rfl
def gvx (o : Option Slot) (s : Sto) : Res D := match o with
  | some (.ex _) => .ok (.bl true) s
  | _ => .stuck
@[simp ↓] theorem gvx_ex (x : XV) (s : Sto) : gvx (some (.ex x)) s = .ok (.bl true) s := rfl
@[simp ↓] theorem x_exv (i : Nat) : ev Γ (.exv i) md ρ s = finR md (gvx ρ[i]? s) := by
  simp only [ev, fin_eq]
  rfl
/-- a def of one error -/
def Clx (o : Option (XV → M D)) (x : XV) (s : Sto) : Res D := match o with
  | some m => m x s
  | none => .stuck
@[simp ↓] theorem Clx_some (m : XV → M D) (x : XV) (s : Sto) : Clx (some m) x s = m x s := rfl
def gcx (Γ : G) (o : Option Slot) (f : Nat) (s : Sto) : Res D := match o with
  | some (.ex x) => Clx (Γ.fxs f) x s
  | _ => .stuck
@[simp ↓] theorem gcx_ex (Γ : G) (x : XV) (f : Nat) (s : Sto) : gcx Γ (some (.ex x)) f s = Clx (Γ.fxs f) x s := rfl
@[simp ↓] theorem x_callx (f i : Nat) : ev Γ (.callx f i) md ρ s = finR md (gcx Γ ρ[i]? f s) := by
  simp only [ev, fin_eq]
  rfl
/-- one turn of a comprehension -/
def turn (t : Tg) (c : O) (e : E) (ρ : Ro) (d : D) (s : Sto) : Res (Option D) := match bindT t d ρ with
  | some ρ' => Bd (evC Γ c ρ' s) fun k s => match k with
    | true => Bd (ev Γ e .val ρ' s) fun y s => .ok (some y) s
    | false => .ok none s
  | none => .stuck
@[simp ↓] theorem x_comp (vs : List Nat) (t : Tg) (it : It) (c : O) (e : E) : ev Γ (.comp vs t it c e) md ρ s = finR md (Bd (evIt Γ it .pk ρ s) fun ds s => if ds.length ≤ sizeLine then Bd (compM (turn Γ t c e (wipeR ρ vs)) ds s) fun r s => .ok (.lst r) s else .stuck) := by
  simp only [ev, fin_eq]
  congr 1
  show @Eq (Res _) (Bd _ _) (Bd _ _)
  refine Bd_ext ?_
  funext ds s
  split
  · show @Eq (Res _) (Bd (compM _ ds s) (fun r s => .ok (D.lst r) s)) (Bd (compM _ ds s) (fun r s => .ok (D.lst r) s))
    refine congrArg (fun h => (Bd (compM h ds s) (fun r s => .ok (D.lst r) s) : Res D)) ?_
    funext d s
    unfold turn
    cases bindT t d (wipeR ρ vs) with
    | none => rfl
    | some ρ' =>
      show @Eq (Res _) (Bd _ _) (Bd _ _)
      refine Bd_ext ?_
      funext k s
      cases k <;> rfl
  · rfl
@[simp ↓] theorem x_nil : evEs Γ .nil md ρ s = .ok [] s := by simp only [evEs]
@[simp ↓] theorem x_cons (e : E) (es : Es) : evEs Γ (.cons e es) md ρ s = Bd (ev Γ e md ρ s) fun d s => Bd (evEs Γ es md ρ s) fun ds s => .ok (d :: ds) s := by simp only [evEs]; rfl
@[simp ↓] theorem x_onone : evO Γ .none ρ s = .ok Option.none s := by simp only [evO]
@[simp ↓] theorem x_osome (e : E) : evO Γ (.some e) ρ s = Bd (ev Γ e .val ρ s) fun d s => Op (partD d) s := by simp only [evO]; rfl
@[simp ↓] theorem x_cnone : evC Γ .none ρ s = .ok true s := by simp only [evC]
@[simp ↓] theorem x_csome (e : E) : evC Γ (.some e) ρ s = Br (ev Γ e .tst ρ s) (fun s => .ok true s) fun s => .ok false s := by simp only [evC, ifB_eq]
@[simp ↓] theorem x_atn : evAndT Γ .nil ρ s = .ok (.bl true) s := by simp only [evAndT]
@[simp ↓] theorem x_atc (e : E) (es : Es) : evAndT Γ (.cons e es) ρ s = Br (ev Γ e .tst ρ s) (fun s => evAndT Γ es ρ s) fun s => .ok (.bl false) s := by simp only [evAndT, ifB_eq]
@[simp ↓] theorem x_otn : evOrT Γ .nil ρ s = .ok (.bl false) s := by simp only [evOrT]
@[simp ↓] theorem x_otc (e : E) (es : Es) : evOrT Γ (.cons e es) ρ s = Br (ev Γ e .tst ρ s) (fun s => .ok (.bl true) s) fun s => evOrT Γ es ρ s := by simp only [evOrT, ifB_eq]
@[simp ↓] theorem x_a1 (e : E) : evAnd Γ (.cons e .nil) ρ s = ev Γ e .val ρ s := by simp only [evAnd]
@[simp ↓] theorem x_ac (e e2 : E) (es : Es) : evAnd Γ (.cons e (.cons e2 es)) ρ s = Bd (ev Γ e .val ρ s) fun x s => Br (truR x s) (fun s => evAnd Γ (.cons e2 es) ρ s) fun s => .ok x s := by
  rw [evAnd]
  rotate_left
  · intro h; cases h
  show @Eq (Res _) (Bd _ _) (Bd _ _)
  refine Bd_ext ?_
  funext x s
  show @Eq (Res _) (Bd (Op _ _) _) (Br (Op _ _) _ _)
  cases truthD x with
  | none => rfl
  | some b => cases b <;> rfl
@[simp ↓] theorem x_o1 (e : E) : evOr Γ (.cons e .nil) ρ s = ev Γ e .val ρ s := by simp only [evOr]
@[simp ↓] theorem x_oc (e e2 : E) (es : Es) : evOr Γ (.cons e (.cons e2 es)) ρ s = Bd (ev Γ e .val ρ s) fun x s => Br (truR x s) (fun s => .ok x s) fun s => evOr Γ (.cons e2 es) ρ s := by
  rw [evOr]
  rotate_left
  · intro h; cases h
  show @Eq (Res _) (Bd _ _) (Bd _ _)
  refine Bd_ext ?_
  funext x s
  show @Eq (Res _) (Bd (Op _ _) _) (Br (Op _ _) _ _)
  cases truthD x with
  | none => rfl
  | some b => cases b <;> rfl
@[simp ↓] theorem x_seq (e : E) : evIt Γ (.seq e) md ρ s = Bd (ev Γ e md ρ s) fun x s => Op (walkD x) s := by simp only [evIt]; rfl
@[simp ↓] theorem x_rng1 (e : E) : evIt Γ (.rng1 e) md ρ s = Bd (ev Γ e .val ρ s) fun x s => Op (rng1D x) s := by simp only [evIt]; rfl
@[simp ↓] theorem x_rng2 (a b : E) : evIt Γ (.rng2 a b) md ρ s = Bd (ev Γ a .val ρ s) fun x s => Bd (ev Γ b .val ρ s) fun y s => Op (rng2D x y) s := by simp only [evIt]; rfl
@[simp ↓] theorem x_enum (e : E) : evIt Γ (.enum e) md ρ s = Bd (ev Γ e md ρ s) fun x s => Op (enumS x) s := by simp only [evIt]; rfl
@[simp ↓] theorem x_zip (a b : E) : evIt Γ (.zip a b) md ρ s = Bd (ev Γ a md ρ s) fun x s => Bd (ev Γ b md ρ s) fun y s => Op (zipS x y) s := by simp only [evIt]; rfl
end

/-! ### statements -/
/-- an expression, then a statement's end -/
def Bs {α : Type} (r : Res α) (ρ : Ro) (f : α → Sto → SRes) : Kp SRes f := match r with
  | .ok a s => f a s
  | .exc x s => .ex x ρ s
  | .stuck => .stuck
theorem Bs_ext {α : Type} {r : Res α} {ρ : Ro} {f g : α → Sto → SRes} (h : f = g) : (Bs r ρ f : SRes) = (Bs r ρ g : SRes) := by rw [h]
@[simp ↓] theorem Bs_ok {α : Type} (a : α) (s : Sto) (ρ : Ro) (f : α → Sto → SRes) : Bs (.ok a s) ρ f = f a s := rfl
@[simp ↓] theorem Bs_exc {α : Type} (x : XV) (s : Sto) (ρ : Ro) (f : α → Sto → SRes) : Bs (.exc x s : Res α) ρ f = .ex x ρ s := rfl
@[simp ↓] theorem Bs_ite {α : Type} (p : Prop) [Decidable p] (a b : Res α) (ρ : Ro) (f : α → Sto → SRes) : Bs (if p then a else b) ρ f = if p then Bs a ρ f else Bs b ρ f := by split <;> rfl
/-- a test, then statements -/
def Bt (r : Res D) (ρ : Ro) (t e : Sto → SRes) : Kp (Kp SRes e) t := match r with
  | .ok (.bl true) s => t s
  | .ok (.bl false) s => e s
  | .ok _ _ => .stuck
  | .exc x s => .ex x ρ s
  | .stuck => .stuck
@[simp ↓] theorem Bt_true (s : Sto) (ρ : Ro) (t e : Sto → SRes) : Bt (.ok (.bl true) s) ρ t e = t s := rfl
@[simp ↓] theorem Bt_false (s : Sto) (ρ : Ro) (t e : Sto → SRes) : Bt (.ok (.bl false) s) ρ t e = e s := rfl
@[simp ↓] theorem Bt_dec (p : Prop) [Decidable p] (s : Sto) (ρ : Ro) (t e : Sto → SRes) : Bt (.ok (.bl (decide p)) s) ρ t e = if p then t s else e s := by by_cases h : p <;> simp [h, Bt]
@[simp ↓] theorem Bt_bl (b : Bool) (s : Sto) (ρ : Ro) (t e : Sto → SRes) : Bt (.ok (.bl b) s) ρ t e = if b = true then t s else e s := by cases b <;> rfl
@[simp ↓] theorem Bt_exc (x : XV) (s : Sto) (ρ : Ro) (t e : Sto → SRes) : Bt (.exc x s) ρ t e = .ex x ρ s := rfl
@[simp ↓] theorem Bt_ite (p : Prop) [Decidable p] (a b : Res D) (ρ : Ro) (t e : Sto → SRes) : Bt (if p then a else b) ρ t e = if p then Bt a ρ t e else Bt b ρ t e := by split <;> rfl
/-- one statement, then the others -/
def Sq (r : SRes) (f : Ro → Sto → SRes) : Kp SRes f := match r with
  | .nx ρ s => f ρ s
  | z => z
@[simp ↓] theorem Sq_nx (ρ : Ro) (s : Sto) (f : Ro → Sto → SRes) : Sq (.nx ρ s) f = f ρ s := rfl
@[simp ↓] theorem Sq_ret (d : D) (s : Sto) (f : Ro → Sto → SRes) : Sq (.ret d s) f = .ret d s := rfl
@[simp ↓] theorem Sq_bk (ρ : Ro) (s : Sto) (f : Ro → Sto → SRes) : Sq (.bk ρ s) f = .bk ρ s := rfl
@[simp ↓] theorem Sq_ct (ρ : Ro) (s : Sto) (f : Ro → Sto → SRes) : Sq (.ct ρ s) f = .ct ρ s := rfl
@[simp ↓] theorem Sq_ex (x : XV) (ρ : Ro) (s : Sto) (f : Ro → Sto → SRes) : Sq (.ex x ρ s) f = .ex x ρ s := rfl
@[simp ↓] theorem Sq_ite (p : Prop) [Decidable p] (a b : SRes) (f : Ro → Sto → SRes) : Sq (if p then a else b) f = if p then Sq a f else Sq b f := by split <;> rfl
/-- a def's end -/
def Rn (r : SRes) : Res D := match r with
  | .nx _ s => .ok .non s
  | .ret d s => .ok d s
  | .ex x _ s => .exc x s
  | _ => .stuck
@[simp ↓] theorem Rn_nx (ρ : Ro) (s : Sto) : Rn (.nx ρ s) = .ok .non s := rfl
@[simp ↓] theorem Rn_ret (d : D) (s : Sto) : Rn (.ret d s) = .ok d s := rfl
@[simp ↓] theorem Rn_ex (x : XV) (ρ : Ro) (s : Sto) : Rn (.ex x ρ s) = .exc x s := rfl
@[simp ↓] theorem Rn_ite (p : Prop) [Decidable p] (a b : SRes) : Rn (if p then a else b) = if p then Rn a else Rn b := by split <;> rfl
/-- a slot's list -/
def owL (o : Option Slot) (f : List D → SRes) : Kp SRes f := match o with
  | some (.ow (.lst ds)) => f ds
  | _ => .stuck
@[simp ↓] theorem owL_ow (ds : List D) (f : List D → SRes) : owL (some (.ow (.lst ds))) f = f ds := rfl
def shS (o : Option Slot) (f : D → SRes) : Kp SRes f := match o with
  | some (.sh d) => f d
  | _ => .stuck
@[simp ↓] theorem shS_sh (d : D) (f : D → SRes) : shS (some (.sh d)) f = f d := rfl
def owS (o : Option Slot) (f : D → SRes) : Kp SRes f := match o with
  | some (.ow d) => f d
  | _ => .stuck
@[simp ↓] theorem owS_ow (d : D) (f : D → SRes) : owS (some (.ow d)) f = f d := rfl
/-- what may be no answer -/
def Os {α : Type} (o : Option α) (f : α → SRes) : Kp SRes f := match o with
  | some a => f a
  | none => .stuck
@[simp ↓] theorem Os_some {α : Type} (a : α) (f : α → SRes) : Os (some a) f = f a := rfl
def ownR (d : D) (i : Nat) (ρ : Ro) (s : Sto) : SRes := match d with
  | .lst ds => .nx (ρ.set i (.ow (.lst ds))) s
  | .dct ks ds => .nx (ρ.set i (.ow (.dct ks ds))) s
  | _ => .stuck
@[simp ↓] theorem ownR_lst (ds : List D) (i : Nat) (ρ : Ro) (s : Sto) : ownR (.lst ds) i ρ s = .nx (ρ.set i (.ow (.lst ds))) s := rfl
def Tx (r : SRes) (f : XV → Ro → Sto → SRes) : Kp SRes f := match r with
  | .ex x ρ s => f x ρ s
  | r => r
@[simp ↓] theorem Tx_ex (x : XV) (ρ : Ro) (s : Sto) (f : XV → Ro → Sto → SRes) : Tx (.ex x ρ s) f = f x ρ s := rfl
@[simp ↓] theorem Tx_ret (d : D) (s : Sto) (f : XV → Ro → Sto → SRes) : Tx (.ret d s) f = .ret d s := rfl
@[simp ↓] theorem Tx_nx (ρ : Ro) (s : Sto) (f : XV → Ro → Sto → SRes) : Tx (.nx ρ s) f = .nx ρ s := rfl
@[simp ↓] theorem Tx_ite (p : Prop) [Decidable p] (a b : SRes) (f : XV → Ro → Sto → SRes) : Tx (if p then a else b) f = if p then Tx a f else Tx b f := by split <;> rfl
def Hc (o : Option Bool) (t e : SRes) : Kp (Kp SRes e) t := match o with
  | some true => t
  | some false => e
  | none => .stuck
@[simp ↓] theorem Hc_true (t e : SRes) : Hc (some true) t e = t := rfl
@[simp ↓] theorem Hc_false (t e : SRes) : Hc (some false) t e = e := rfl
section
variable (Γ : GS) (ρ : Ro) (s : Sto)
@[simp ↓] theorem run_eq (n : Nat) (b : Ss) (m : Nat) (ds : List D) : run Γ n b m ds s = Rn (evSs Γ b (ds.map Slot.sh ++ List.replicate (m - n) .un) s) := rfl
@[simp ↓] theorem runX_eq (b : Ss) (m : Nat) (x : XV) : runX Γ b m x s = Rn (evSs Γ b (.ex x :: List.replicate (m - 1) .un) s) := rfl
@[simp ↓] theorem y_nil : evSs Γ .nil ρ s = .nx ρ s := by simp only [evSs]
@[simp ↓] theorem y_cons (a : S) (r : Ss) : evSs Γ (.cons a r) ρ s = Sq (evS Γ a ρ s) fun ρ s => evSs Γ r ρ s := by simp only [evSs]; rfl
@[simp ↓] theorem y_expr (e : E) : evS Γ (.expr e) ρ s = Bs (ev Γ.toG e .val ρ s) ρ fun _ s => .nx ρ s := by simp only [evS]; rfl
@[simp ↓] theorem y_set (t : Tg) (e : E) : evS Γ (.set t e) ρ s = Bs (ev Γ.toG e .val ρ s) ρ fun d s => Os (bindT t d ρ) fun ρ' => .nx ρ' s := by 
  simp only [evS]
  show @Eq SRes (Bs _ _ _) (Bs _ _ _)
  refine Bs_ext ?_
  funext d s
  cases bindT t d ρ <;> rfl
@[simp ↓] theorem y_own (i : Nat) (e : E) : evS Γ (.own i e) ρ s = Bs (ev Γ.toG e .val ρ s) ρ fun d s => ownR d i ρ s := by simp only [evS]; rfl
@[simp ↓] theorem y_par (ts : List (Nat × Bool)) (es : Es) : evS Γ (.par ts es) ρ s = Bs (evEs Γ.toG es .val ρ s) ρ fun ds s => Os (setAll ts ds ρ) fun ρ' => .nx ρ' s := by 
  simp only [evS]
  show @Eq SRes (Bs _ _ _) (Bs _ _ _)
  refine Bs_ext ?_
  funext ds s
  cases setAll ts ds ρ <;> rfl
@[simp ↓] theorem y_app (i : Nat) (e : E) : evS Γ (.app i e) ρ s = owL ρ[i]? fun ds => Bs (ev Γ.toG e .val ρ s) ρ fun d s => if ds.length < sizeLine then .nx (ρ.set i (.ow (.lst (ds ++ [d])))) s else .stuck := by simp only [evS]; rfl
@[simp ↓] theorem y_put (i : Nat) (k e : E) : evS Γ (.put i k e) ρ s = owL ρ[i]? fun ds => Bs (ev Γ.toG e .val ρ s) ρ fun d s => Bs (ev Γ.toG k .val ρ s) ρ fun q s => Os (putD ds q d) fun es => .nx (ρ.set i (.ow (.lst es))) s := by 
  simp only [evS]
  cases ρ[i]? with
  | none => rfl
  | some sl =>
    cases sl <;> try rfl
    rename_i d
    cases d <;> try rfl
    rename_i ds
    show @Eq SRes (Bs _ _ _) (Bs _ _ _)
    refine Bs_ext ?_
    funext d s
    show @Eq SRes (Bs _ _ _) (Bs _ _ _)
    refine Bs_ext ?_
    funext q s
    cases putD ds q d <;> rfl
@[simp ↓] theorem y_putC (a k e : E) : evS Γ (.putC a k e) ρ s = Bs (ev Γ.toG e .val ρ s) ρ fun d s => Bs (ev Γ.toG a .val ρ s) ρ fun c s => Bs (ev Γ.toG k .val ρ s) ρ fun q s => Os (putCD s c q d) fun s' => .nx ρ s' := by 
  simp only [evS]
  show @Eq SRes (Bs _ _ _) (Bs _ _ _)
  refine Bs_ext ?_
  funext d s
  show @Eq SRes (Bs _ _ _) (Bs _ _ _)
  refine Bs_ext ?_
  funext c s
  show @Eq SRes (Bs _ _ _) (Bs _ _ _)
  refine Bs_ext ?_
  funext q s
  cases putCD s c q d <;> rfl
@[simp ↓] theorem y_popS (j i : Nat) (k : E) : evS Γ (.popS j i k) ρ s = owL ρ[i]? fun ds => Bs (ev Γ.toG k .val ρ s) ρ fun q s => Os (popD ds q) fun p => .nx ((ρ.set i (.ow (.lst p.2))).set j (.sh p.1)) s := by 
  simp only [evS]
  cases ρ[i]? with
  | none => rfl
  | some sl =>
    cases sl <;> try rfl
    rename_i d
    cases d <;> try rfl
    rename_i ds
    show @Eq SRes (Bs _ _ _) (Bs _ _ _)
    refine Bs_ext ?_
    funext q s
    cases popD ds q with
    | none => rfl
    | some p => obtain ⟨d, es⟩ := p; rfl
@[simp ↓] theorem y_aug (i : Nat) (op : Bop) (e : E) : evS Γ (.aug i op e) ρ s = shS ρ[i]? fun x => Bs (ev Γ.toG e .val ρ s) ρ fun y s => Os (augD op x y) fun z => .nx (ρ.set i (.sh z)) s := by 
  simp only [evS]
  cases ρ[i]? with
  | none => rfl
  | some sl =>
    cases sl <;> try rfl
    rename_i x
    show @Eq SRes (Bs _ _ _) (Bs _ _ _)
    refine Bs_ext ?_
    funext y s
    cases augD op x y <;> rfl
@[simp ↓] theorem y_ret (e : E) : evS Γ (.ret e) ρ s = Bs (ev Γ.toG e .val ρ s) ρ fun d s => .ret d s := by simp only [evS]; rfl
@[simp ↓] theorem y_retN : evS Γ .retN ρ s = .ret .non s := by simp only [evS]
@[simp ↓] theorem y_ifs (c : E) (a b : Ss) : evS Γ (.ifs c a b) ρ s = Bt (ev Γ.toG c .tst ρ s) ρ (fun s => evSs Γ a ρ s) fun s => evSs Γ b ρ s := by
  simp only [evS]
  cases ev Γ.toG c .tst ρ s with
  | ok a s => cases a <;> try rfl
              rename_i b; cases b <;> rfl
  | exc x s => rfl
  | stuck => rfl
/-- one turn of a for -/
def turnS (t : Tg) (b : Ss) (d : D) (ρ : Ro) (s : Sto) : SRes := Os (bindT t d ρ) fun ρ' => evSs Γ b ρ' s
@[simp ↓] theorem y_fors (t : Tg) (it : It) (b : Ss) : evS Γ (.fors t it b) ρ s = Bs (evIt Γ.toG it .val ρ s) ρ fun ds s => forS (turnS Γ t b) ds ρ s := by 
  simp only [evS]
  show @Eq SRes (Bs _ _ _) (Bs _ _ _)
  refine Bs_ext ?_
  funext ds s
  congr 1
  funext d ρ s
  unfold turnS
  cases bindT t d ρ <;> rfl
@[simp ↓] theorem y_whil (μ : Ro → Nat) (c : E) (b : Ss) : evS Γ (.whil μ c b) ρ s = whileS (fun ρ => ev Γ.toG c .tst ρ) (fun ρ s => evSs Γ b ρ s) (μ ρ) ρ s := by simp only [evS]
@[simp ↓] theorem y_brk : evS Γ .brk ρ s = .bk ρ s := by simp only [evS]
@[simp ↓] theorem y_cont : evS Γ .cont ρ s = .ct ρ s := by simp only [evS]
@[simp ↓] theorem y_pass : evS Γ .pass ρ s = .nx ρ s := by simp only [evS]
@[simp ↓] theorem y_raise (c : Nat) (es : Es) : evS Γ (.raise c es) ρ s = Os (Γ.exc c) fun fs => Bs (evEs Γ.toG es .val ρ s) ρ fun ds s => if ds.length = fs.length then .ex ⟨c, fs.zip ds⟩ ρ s else .stuck := by 
  simp only [evS]
  cases Γ.exc c <;> rfl
@[simp ↓] theorem y_tryx (b : Ss) (hs : Hs) : evS Γ (.tryx b hs) ρ s = Tx (evSs Γ b ρ s) fun x ρ' s' => evHs Γ hs x ρ' s' := by simp only [evS]; rfl
@[simp ↓] theorem y_frz (i : Nat) : evS Γ (.frz i) ρ s = owS ρ[i]? fun d => .nx (ρ.set i (.sh d)) s := by simp only [evS]; rfl
@[simp ↓] theorem y_hnil (x : XV) : evHs Γ .nil x ρ s = .ex x ρ s := by simp only [evHs]
@[simp ↓] theorem y_hcons (c : Nat) (n : Option Nat) (b : Ss) (hs : Hs) (x : XV) : evHs Γ (.cons c n b hs) x ρ s = Hc (Γ.sup x.cls c) (endH n (evSs Γ b (inH n x ρ) s)) (evHs Γ hs x ρ s) := by
  simp only [evHs]
  cases Γ.sup x.cls c with
  | none => rfl
  | some b => cases b <;> rfl
end

/-! ### data -/
section
@[simp] theorem d_add (i j : Int) : binD .add (.int i) (.int j) = some (.int (i + j)) := rfl
@[simp] theorem d_sub (i j : Int) : binD .sub (.int i) (.int j) = some (.int (i - j)) := rfl
@[simp] theorem d_addt (x y : List D) : binD .add (.tup x) (.tup y) = if x.length + y.length ≤ sizeLine then some (.tup (x ++ y)) else none := rfl
@[simp] theorem d_addl (x y : List D) : binD .add (.lst x) (.lst y) = if x.length + y.length ≤ sizeLine then some (.lst (x ++ y)) else none := rfl
@[simp] theorem d_adds (x y : Str) : binD .add (.str x) (.str y) = if x.length + y.length ≤ sizeLine then some (.str (x ++ y)) else none := rfl
theorem d_mul (i j : Int) (h : i.natAbs.log2 + j.natAbs.log2 < 1000000) : binD .mul (.int i) (.int j) = some (.int (i * j)) := if_pos h
theorem d_fdiv (i j : Int) (h : j ≠ 0 ∧ j.natAbs.log2 < 9000) : binD .fdiv (.int i) (.int j) = some (.int (i.fdiv j)) := if_pos h
theorem d_mod (i j : Int) (h : j ≠ 0) : binD .mod (.int i) (.int j) = some (.int (i.fmod j)) := if_pos h
@[simp] theorem d_neg (i : Int) : negD (.int i) = some (.int (-i)) := rfl
@[simp] theorem d_lt (i j : Int) : cmpD .lt (.int i) (.int j) = some (decide (i < j)) := rfl
@[simp] theorem d_le (i j : Int) : cmpD .le (.int i) (.int j) = some (decide (i ≤ j)) := rfl
@[simp] theorem d_gt (i j : Int) : cmpD .gt (.int i) (.int j) = some (decide (j < i)) := rfl
@[simp] theorem d_ge (i j : Int) : cmpD .ge (.int i) (.int j) = some (decide (j ≤ i)) := rfl
@[simp] theorem d_eqi (i j : Int) : cmpD .eq (.int i) (.int j) = some (decide (i = j)) := by
  show some (PyData.eqv (.int i) (.int j)) = _
  by_cases h : i = j <;> simp [h, PyData.eqv]
@[simp] theorem d_nei (i j : Int) : cmpD .ne (.int i) (.int j) = some (!decide (i = j)) := by
  show ((cmpD .eq (.int i) (.int j)).map not) = _
  rw [d_eqi]
  rfl
@[simp] theorem d_ixl (s : Sto) (l : List D) (i : Int) : ixS s (.lst l) (.int i) = atI l i := rfl
@[simp] theorem d_ixt (s : Sto) (l : List D) (i : Int) : ixS s (.tup l) (.int i) = atI l i := rfl
theorem d_ixr (s : Sto) (n : Nat) (l : List D) (i : Int) (h : s[n]? = some l) : ixS s (.ref n) (.int i) = atI l i := by
  show (match s[n]? with | some ds => ixD (.lst ds) (.int i) | none => none) = _
  rw [h]
  rfl
@[simp] theorem d_lent (l : List D) : evBi .len [.tup l] = some (.int l.length) := rfl
@[simp] theorem d_lenl (l : List D) : evBi .len [.lst l] = some (.int l.length) := rfl
@[simp] theorem d_abs (i : Int) : evBi .abs [.int i] = some (.int i.natAbs) := by
  show some (D.int (if i < 0 then -i else i)) = _
  congr 2
  split <;> omega
@[simp] theorem d_inti (i : Int) : evBi .int1 [.int i] = some (.int i) := rfl
@[simp] theorem d_augi (i j : Int) : augD .add (.int i) (.int j) = some (.int (i + j)) := rfl
@[simp] theorem d_bn (i : Nat) (d : D) (ρ : Ro) : bindT (.name i) d ρ = some (ρ.set i (.sh d)) := rfl
@[simp] theorem d_bt (ts : Tgs) (ds : List D) (ρ : Ro) : bindT (.tup ts) (.tup ds) ρ = bindTs ts ds ρ := rfl
@[simp] theorem d_btn (ρ : Ro) : bindTs .nil [] ρ = some ρ := rfl
@[simp] theorem d_btc (i : Nat) (ts : Tgs) (d : D) (ds : List D) (ρ : Ro) : bindTs (.cons (.name i) ts) (d :: ds) ρ = bindTs ts ds (ρ.set i (.sh d)) := rfl
theorem d_putc (s : Sto) (n : Nat) (l : List D) (i : Int) (j : Nat) (d : D) (h : s[n]? = some l) (hj : ixN l.length i = some j) : putCD s (.ref n) (.int i) d = some (s.set n (l.set j d)) := by
  show (match s[n]? with | some ds => (match putD ds (.int i) d with | some es => some (s.set n es) | none => none) | none => none) = _
  rw [h]
  show (match (match ixN l.length i with | some j => some (l.set j d) | none => none) with | some es => some (s.set n es) | none => none) = _
  rw [hj]
@[simp] theorem d_sa0 (ρ : Ro) : setAll [] [] ρ = some ρ := rfl
@[simp] theorem d_sa1 (i : Nat) (ts : List (Nat × Bool)) (d : D) (ds : List D) (ρ : Ro) : setAll ((i, false) :: ts) (d :: ds) ρ = setAll ts ds (ρ.set i (.sh d)) := rfl
@[simp] theorem d_rng (j : Int) (h : -(2 ^ 62) ≤ j ∧ j < 2 ^ 62) : rng1D (.int j) = some (rngD 0 j.toNat) := if_pos h
theorem at_nat {α : Type} (l : List α) (k : Nat) (h : k < l.length) : atI l (k : Int) = some l[k] := by
  unfold atI ixN
  rw [if_pos (by omega), if_pos (by omega)]
  simp [h]
@[simp] theorem d_at0 (d : D) (l : List D) : atI (d :: l) 0 = some d := at_nat (d :: l) 0 (by simp)
@[simp] theorem d_at1 (d e : D) (l : List D) : atI (d :: e :: l) 1 = some e := at_nat (d :: e :: l) 1 (by simp)
@[simp] theorem d_at2 (d e f : D) (l : List D) : atI (d :: e :: f :: l) 2 = some f := at_nat (d :: e :: f :: l) 2 (by simp)
end
@[simp ↓] theorem szR_ok (ds : List D) (d : D) (s : Sto) (h : ds.length ≤ 1000) : szR ds d s = .ok d s := if_pos (Nat.le_trans h (show (1000 : Nat) ≤ sizeLine by decide))
/-! ### loops -/
/-- one turn of a for, then the others -/
def Fq (r : SRes) (f : Ro → Sto → SRes) : Kp SRes f := match r with
  | .nx ρ s => f ρ s
  | .ct ρ s => f ρ s
  | .bk ρ s => .nx ρ s
  | z => z
@[simp ↓] theorem Fq_nx (ρ : Ro) (s : Sto) (f : Ro → Sto → SRes) : Fq (.nx ρ s) f = f ρ s := rfl
@[simp ↓] theorem Fq_ct (ρ : Ro) (s : Sto) (f : Ro → Sto → SRes) : Fq (.ct ρ s) f = f ρ s := rfl
@[simp ↓] theorem Fq_bk (ρ : Ro) (s : Sto) (f : Ro → Sto → SRes) : Fq (.bk ρ s) f = .nx ρ s := rfl
@[simp ↓] theorem Fq_ret (d : D) (s : Sto) (f : Ro → Sto → SRes) : Fq (.ret d s) f = .ret d s := rfl
@[simp ↓] theorem Fq_ex (x : XV) (ρ : Ro) (s : Sto) (f : Ro → Sto → SRes) : Fq (.ex x ρ s) f = .ex x ρ s := rfl
@[simp ↓] theorem Fq_ite (p : Prop) [Decidable p] (a b : SRes) (f : Ro → Sto → SRes) : Fq (if p then a else b) f = if p then Fq a f else Fq b f := by split <;> rfl
@[simp ↓] theorem forS_nil (f : D → Ro → Sto → SRes) (ρ : Ro) (s : Sto) : forS f [] ρ s = .nx ρ s := rfl
theorem forS_cons (f : D → Ro → Sto → SRes) (x : D) (xs : List D) (ρ : Ro) (s : Sto) : forS f (x :: xs) ρ s = Fq (f x ρ s) fun ρ s => forS f xs ρ s := by
  show (match f x ρ s with | .nx ρ' s' => _ | .ct ρ' s' => _ | .bk ρ' s' => _ | .ret d s' => _ | .ex x ρ' s' => _ | .stuck => _) = _
  cases f x ρ s <;> rfl
/-- a loop that goes to its end; what holds may tell how many turns are done -/
theorem forS_all {f : D → Ro → Sto → SRes} (I : Nat → Ro → Sto → Prop) (N : Nat) : ∀ (xs : List D) (n : Nat) (ρ : Ro) (s : Sto), n + xs.length ≤ N → I n ρ s →
    (∀ x ∈ xs, ∀ n ρ s, n < N → I n ρ s → ∃ ρ' s', f x ρ s = .nx ρ' s' ∧ I (n + 1) ρ' s') → ∃ ρ' s', forS f xs ρ s = .nx ρ' s' ∧ I (n + xs.length) ρ' s'
  | [], n, ρ, s, _, h, _ => ⟨ρ, s, rfl, h⟩
  | x :: xs, n, ρ, s, hN, h, step => by
    rw [List.length_cons] at hN
    obtain ⟨ρ1, s1, e1, h1⟩ := step x (List.Mem.head _) n ρ s (by omega) h
    obtain ⟨ρ2, s2, e2, h2⟩ := forS_all I N xs (n + 1) ρ1 s1 (by omega) h1 fun y hy => step y (List.Mem.tail _ hy)
    refine ⟨ρ2, s2, ?_, by simpa [Nat.add_comm, Nat.add_left_comm] using h2⟩
    rw [forS_cons, e1, Fq_nx, e2]
theorem rngD_mem {d : D} : ∀ {lo : Int} {n : Nat}, d ∈ rngD lo n → ∃ k : Int, d = .int k ∧ lo ≤ k ∧ k < lo + n
  | lo, 0, h => nomatch h
  | lo, n + 1, h => by
    rcases List.mem_cons.mp h with rfl | h
    · exact ⟨lo, rfl, by omega, by omega⟩
    · obtain ⟨k, e, h1, h2⟩ := rngD_mem h
      exact ⟨k, e, by omega, by omega⟩
theorem rngD_length : ∀ {lo : Int} {n : Nat}, (rngD lo n).length = n
  | _, 0 => rfl
  | lo, n + 1 => by
    show (rngD (lo + 1) n).length + 1 = n + 1
    rw [rngD_length]
end Z
set_option Elab.async false
set_option linter.all false
set_option maxRecDepth 100000
set_option maxHeartbeats 4000000
/-! Y1: draws: what every law takes of its script. -/
namespace Z
open PySem L2
/-- numbers are small -/
def Sm (n : Int) : Prop := n.natAbs < 2 ^ 400000
theorem log_lt {n k : Nat} (h : n < 2 ^ k) (h0 : 0 < k) : n.log2 < k := by
  by_cases z : n = 0
  · subst z; simpa using h0
  · exact (Nat.log2_lt z).mpr h
theorem d_mulS {i j : Int} (a b : Nat) (hi : i.natAbs < 2 ^ a) (hj : j.natAbs < 2 ^ b) (h : a + b < 1000000) : binD .mul (.int i) (.int j) = some (.int (i * j)) := by
  refine d_mul i j ?_
  have h1 : i.natAbs.log2 ≤ a := by
    by_cases z : i.natAbs = 0
    · rw [z]; simp -dsimp
    · exact Nat.le_of_lt ((Nat.log2_lt z).mpr hi)
  have h2 : j.natAbs.log2 ≤ b := by
    by_cases z : j.natAbs = 0
    · rw [z]; simp -dsimp
    · exact Nat.le_of_lt ((Nat.log2_lt z).mpr hj)
  omega
theorem d_fdivC (i : Int) (n : Nat) (h : n ≠ 0 ∧ n.log2 < 9000) : binD .fdiv (.int i) (.int n) = some (.int (i.fdiv n)) := d_fdiv i n ⟨by omega, by simpa using h.2⟩
/-- what is drawn -/
def Dr (L : List Int) : Prop := ∀ x ∈ L, 0 ≤ x ∧ x < 2147483648
def bDraws : Ss :=
  (.cons (.own 1 (.lst .nil))
    (.cons (.fors (.name 2) (.seq (.sl (.var 0) .none (.some (.int 63)))) (.cons (.set (.name 3) (.bi .abs (.cons (.var 2) .nil)))
    (.cons (.ifs (.cmp .ge (.var 3) (.bin .pow (.int 10) (.int 18))) (.cons (.fors (.name 4) (.rng1 (.int 60)) (.cons (.ifs (.cmp .gt (.var 3) (.int 0)) (.cons (.app 1 (.bin .mod (.bi .int1 (.cons (.var 3) .nil)) (.int 1009)))
    (.cons (.set (.name 3) (.bin .fdiv (.var 3) (.int 1009)))
    .nil)) .nil)
    .nil))
    .nil) (.cons (.set (.name 5) (.bin .mod (.bi .int1 (.cons (.bin .add (.bin .mul (.var 3) (.int 48271)) (.int 11)) .nil)) (.int 2147483647)))
    (.cons (.fors (.name 4) (.rng1 (.int 12)) (.cons (.set (.name 5) (.bin .mod (.bi .int1 (.cons (.bin .add (.bin .add (.bin .mul (.var 5) (.int 16807)) (.bin .mul (.int 69621) (.var 4))) (.int 5)) .nil)) (.int 2147483629)))
    (.cons (.app 1 (.bin .fdiv (.var 5) (.int 1009)))
    .nil)))
    .nil)))
    .nil)))
    (.cons (.frz 1)
    (.cons (.ret (.var 1))
    .nil))))
/-- the state of the draws' def -/
def DrI (S : D) (B : Nat) (ρ : Ro) : Prop := ∃ L a b c d, ρ = [.sh S, .ow (.lst (L.map D.int)), a, b, c, d] ∧ Dr L ∧ L.length ≤ B
theorem fmod_b (i : Int) (n : Nat) (h : 0 < n) : 0 ≤ i.fmod n ∧ i.fmod n < n := ⟨Int.fmod_nonneg_of_pos i (by omega), Int.fmod_lt_of_pos i (by omega)⟩
theorem d_modC (i : Int) (n : Nat) (h : n ≠ 0) : binD .mod (.int i) (.int n) = some (.int (i.fmod n)) := d_mod i n (by omega)
theorem Dr.snoc {L : List Int} {x : Int} (h : Dr L) (h0 : 0 ≤ x) (h1 : x < 2147483648) : Dr (L ++ [x]) := fun y hy => by
  rcases List.mem_append.mp hy with hy | hy
  · exact h y hy
  · rw [List.mem_singleton] at hy
    subst hy
    exact ⟨h0, h1⟩
def bBig : Ss := (.cons (.ifs (.cmp .gt (.var 3) (.int 0)) (.cons (.app 1 (.bin .mod (.bi .int1 (.cons (.var 3) .nil)) (.int 1009)))
    (.cons (.set (.name 3) (.bin .fdiv (.var 3) (.int 1009)))
    .nil)) .nil)
    .nil)
theorem draws_big (Γ : GS) (S : D) (r : Int) (B : Nat) (hB : B + 60 < sizeLine) (L : List Int) (a c d : Slot) (hL : Dr L) (hl : L.length ≤ B) (s : Sto) :
    ∃ ρ', forS (turnS Γ (.name 4) bBig) (rngD 0 60) [.sh S, .ow (.lst (L.map D.int)), a, .sh (.int r), c, d] s = .nx ρ' s ∧ DrI S (B + 60) ρ' := by
  have step : ∀ x ∈ rngD 0 60, ∀ n ρ s', n < 60 → (∃ (L : List Int) (a : Slot) (r : Int) (c d : Slot), ρ = [.sh S, .ow (.lst (L.map D.int)), a, .sh (.int r), c, d] ∧ Dr L ∧ L.length ≤ B + n ∧ s' = s) →
      ∃ ρ' s'', turnS Γ (.name 4) bBig x ρ s' = .nx ρ' s'' ∧ (∃ (L : List Int) (a : Slot) (r : Int) (c d : Slot), ρ' = [.sh S, .ow (.lst (L.map D.int)), a, .sh (.int r), c, d] ∧ Dr L ∧ L.length ≤ B + (n + 1) ∧ s'' = s) := by
    rintro x hx n ρ s' hn ⟨L, a, r, c, d, rfl, hL, hl, rfl⟩
    obtain ⟨k, rfl, _, _⟩ := rngD_mem hx
    unfold turnS bBig
    have e1 : binD .mod (.int r) (.int 1009) = some (.int (r.fmod 1009)) := d_modC r 1009 (by decide)
    have e2 : binD .fdiv (.int r) (.int 1009) = some (.int (r.fdiv 1009)) := d_fdivC r 1009 (by decide)
    have b := fmod_b r 1009 (by decide)
    by_cases h : 0 < r
    · have hs : L.length < sizeLine := by omega
      exact ⟨[.sh S, .ow (.lst ((L ++ [r.fmod 1009]).map D.int)), a, .sh (.int (r.fdiv 1009)), .sh (.int k), d], s', by simp -dsimp [h, e1, e2, hs], L ++ [r.fmod 1009], a, _, _, d, rfl, hL.snoc b.1 (Int.lt_trans b.2 (by decide)), by simp -dsimp; omega, rfl⟩
    · exact ⟨[.sh S, .ow (.lst (L.map D.int)), a, .sh (.int r), .sh (.int k), d], s', by simp -dsimp [h], L, a, _, _, d, rfl, hL, by omega, rfl⟩
  obtain ⟨ρ', s', e, L', a', r', c', d', rfl, h1, h2, rfl⟩ := forS_all _ 60 (rngD 0 60) 0 [.sh S, .ow (.lst (L.map D.int)), a, .sh (.int r), c, d] s (by rw [rngD_length]; decide) ⟨L, a, r, c, d, rfl, hL, by omega, rfl⟩ step
  exact ⟨_, e, L', a', _, c', d', rfl, h1, by rw [rngD_length] at h2; omega⟩
def bSmall : Ss := (.cons (.set (.name 5) (.bin .mod (.bi .int1 (.cons (.bin .add (.bin .add (.bin .mul (.var 5) (.int 16807)) (.bin .mul (.int 69621) (.var 4))) (.int 5)) .nil)) (.int 2147483629)))
    (.cons (.app 1 (.bin .fdiv (.var 5) (.int 1009)))
    .nil))
theorem draws_small (Γ : GS) (S : D) (B : Nat) (hB : B + 60 < sizeLine) (L : List Int) (a r c : Slot) (m : Int) (hL : Dr L) (hl : L.length ≤ B) (hm : 0 ≤ m ∧ m < 2147483648) (s : Sto) :
    ∃ ρ', forS (turnS Γ (.name 4) bSmall) (rngD 0 12) [.sh S, .ow (.lst (L.map D.int)), a, r, c, .sh (.int m)] s = .nx ρ' s ∧ DrI S (B + 60) ρ' := by
  have step : ∀ x ∈ rngD 0 12, ∀ n ρ s', n < 12 → (∃ (L : List Int) (c : Slot) (m : Int), ρ = [.sh S, .ow (.lst (L.map D.int)), a, r, c, .sh (.int m)] ∧ Dr L ∧ L.length ≤ B + n ∧ s' = s ∧ 0 ≤ m ∧ m < 2147483648) →
      ∃ ρ' s'', turnS Γ (.name 4) bSmall x ρ s' = .nx ρ' s'' ∧ (∃ (L : List Int) (c : Slot) (m : Int), ρ' = [.sh S, .ow (.lst (L.map D.int)), a, r, c, .sh (.int m)] ∧ Dr L ∧ L.length ≤ B + (n + 1) ∧ s'' = s ∧ 0 ≤ m ∧ m < 2147483648) := by
    rintro x hx n ρ s' hn ⟨L, c, m, rfl, hL, hl, rfl, m0, m1⟩
    obtain ⟨k, rfl, k0, k1⟩ := rngD_mem hx
    unfold turnS bSmall
    have e1 : binD .mul (.int m) (.int 16807) = some (.int (m * 16807)) := d_mulS 31 15 (by omega) (by decide) (by decide)
    have e2 : binD .mul (.int 69621) (.int k) = some (.int (69621 * k)) := d_mulS 17 6 (by decide) (by omega) (by decide)
    have e3 : ∀ i : Int, binD .mod (.int i) (.int 2147483629) = some (.int (i.fmod 2147483629)) := fun i => d_modC i 2147483629 (by decide)
    have e4 : ∀ i : Int, binD .fdiv (.int i) (.int 1009) = some (.int (i.fdiv 1009)) := fun i => d_fdivC i 1009 (by decide)
    have b := fmod_b (m * 16807 + 69621 * k + 5) 2147483629 (by decide)
    generalize hm' : (m * 16807 + 69621 * k + 5).fmod (2147483629 : Nat) = m' at b
    have q : 0 ≤ m'.fdiv 1009 ∧ m'.fdiv 1009 < 2147483648 := by
      rw [Int.fdiv_eq_ediv_of_nonneg _ (by decide)]
      omega
    have hs : L.length < sizeLine := by omega
    refine ⟨[.sh S, .ow (.lst ((L ++ [m'.fdiv 1009]).map D.int)), a, r, .sh (.int k), .sh (.int m')], s', ?_, L ++ [m'.fdiv 1009], _, _, rfl, hL.snoc q.1 q.2, by simp -dsimp; omega, rfl, b.1, by omega⟩
    have hm'' : (m * 16807 + 69621 * k + 5).fmod 2147483629 = m' := hm'
    simp -dsimp [e1, e2, e3, e4, hs, hm'']
  obtain ⟨ρ', s', e, L', c', m', rfl, h1, h2, rfl, _⟩ := forS_all _ 12 (rngD 0 12) 0 [.sh S, .ow (.lst (L.map D.int)), a, r, c, .sh (.int m)] s (by rw [rngD_length]; decide) ⟨L, c, m, rfl, hL, by omega, rfl, hm⟩ step
  exact ⟨_, e, L', a, r, c', _, rfl, h1, by rw [rngD_length] at h2; omega⟩
theorem draws_turn (Γ : GS) (S : D) (B : Nat) (hB : B + 60 < sizeLine) (i : Int) (ρ : Ro) (h : DrI S B ρ) (s : Sto) : ∃ ρ', turnS Γ (.name 2) (.cons (.set (.name 3) (.bi .abs (.cons (.var 2) .nil)))
    (.cons (.ifs (.cmp .ge (.var 3) (.bin .pow (.int 10) (.int 18))) (.cons (.fors (.name 4) (.rng1 (.int 60)) bBig) .nil)
    (.cons (.set (.name 5) (.bin .mod (.bi .int1 (.cons (.bin .add (.bin .mul (.var 3) (.int 48271)) (.int 11)) .nil)) (.int 2147483647)))
    (.cons (.fors (.name 4) (.rng1 (.int 12)) bSmall) .nil))) .nil)) (.int i) ρ s = .nx ρ' s ∧ DrI S (B + 60) ρ' := by
  obtain ⟨L, a, b, c, d, rfl, hL, hl⟩ := h
  have p1 : binD .pow (.int 10) (.int 18) = some (.int 1000000000000000000) := by simp -dsimp [binD, powD]
  have r1 : rng1D (.int 60) = some (rngD 0 60) := by simp -dsimp [rng1D]
  have r2 : rng1D (.int 12) = some (rngD 0 12) := by simp -dsimp [rng1D]
  unfold turnS
  by_cases g : (1000000000000000000 : Int) ≤ i.natAbs
  · obtain ⟨ρ', e, h'⟩ := draws_big Γ S i.natAbs B hB L (.sh (.int i)) c d hL hl s
    refine ⟨ρ', ?_, h'⟩
    simp -dsimp [p1, g, r1, e]
  · obtain ⟨ρ', e, h'⟩ := draws_small Γ S B hB L (.sh (.int i)) (.sh (.int i.natAbs)) c ((i.natAbs * 48271 + 11 : Int).fmod 2147483647) hL hl ⟨(fmod_b (i.natAbs * 48271 + 11) 2147483647 (by decide)).1, Int.lt_trans (fmod_b (i.natAbs * 48271 + 11) 2147483647 (by decide)).2 (by decide)⟩ s
    refine ⟨ρ', ?_, h'⟩
    have e1 : binD .mul (.int i.natAbs) (.int 48271) = some (.int (i.natAbs * 48271)) := d_mulS 60 16 (by omega) (by decide) (by decide)
    have e3 : ∀ i : Int, binD .mod (.int i) (.int 2147483647) = some (.int (i.fmod 2147483647)) := fun i => d_modC i 2147483647 (by decide)
    simp -dsimp [p1, g, r2, e1, e3, e]
theorem cutD_mem {x : D} {xs : List D} {lo hi : Option Int} (h : x ∈ cutD xs lo hi) : x ∈ xs := List.mem_of_mem_drop (List.mem_of_mem_take h)
theorem cutD_len {xs : List D} {lo hi : Option Int} : (cutD xs lo hi).length ≤ xs.length := by
  unfold cutD
  rw [List.length_take, List.length_drop]
  omega
/-- THE DRAWS -/
theorem m_draws (Γ : GS) (ns : List Int) (hn : ns.length ≤ 63) (st : Sto) : ∃ L, run Γ 1 bDraws 6 [.scr ns] st = .ok (.lst (L.map D.int)) st ∧ Dr L ∧ L.length ≤ 3780 := by
  have step : ∀ x ∈ cutD (ns.map D.int) none (some 63), ∀ n ρ s', n < 63 → (DrI (.scr ns) (60 * n) ρ ∧ s' = st) → ∃ ρ' s'', turnS Γ (.name 2) (.cons (.set (.name 3) (.bi .abs (.cons (.var 2) .nil)))
    (.cons (.ifs (.cmp .ge (.var 3) (.bin .pow (.int 10) (.int 18))) (.cons (.fors (.name 4) (.rng1 (.int 60)) bBig) .nil)
    (.cons (.set (.name 5) (.bin .mod (.bi .int1 (.cons (.bin .add (.bin .mul (.var 3) (.int 48271)) (.int 11)) .nil)) (.int 2147483647)))
    (.cons (.fors (.name 4) (.rng1 (.int 12)) bSmall) .nil))) .nil)) x ρ s' = .nx ρ' s'' ∧ (DrI (.scr ns) (60 * (n + 1)) ρ' ∧ s'' = st) := by
    rintro x hx n ρ s' hn ⟨h, rfl⟩
    obtain ⟨i, _, rfl⟩ := List.mem_map.mp (cutD_mem hx)
    have hB : 60 * n + 60 < sizeLine := Nat.lt_of_le_of_lt (by omega) (show (4000 : Nat) < sizeLine by decide)
    obtain ⟨ρ', e, h'⟩ := draws_turn Γ (.scr ns) (60 * n) hB i ρ h s'
    exact ⟨ρ', s', e, h', rfl⟩
  have hl : (cutD (ns.map D.int) none (some 63)).length ≤ 63 := Nat.le_trans cutD_len (by simpa using hn)
  obtain ⟨ρ', s', e, ⟨L, a, b, c, d, rfl, h1, h2⟩, rfl⟩ := forS_all _ 63 (cutD (ns.map D.int) none (some 63)) 0 [.sh (.scr ns), .ow (.lst []), .un, .un, .un, .un] st (by omega) ⟨⟨[], .un, .un, .un, .un, rfl, fun _ h => absurd h List.not_mem_nil, Nat.zero_le _⟩, rfl⟩ step
  refine ⟨L, ?_, h1, by omega⟩
  have sl : ∀ lo hi, slD (.scr ns) lo hi = some (.lst (cutD (ns.map D.int) lo hi)) := fun _ _ => rfl
  have pd : ∀ i, partD (.int i) = some (some i) := fun _ => rfl
  have wk : ∀ l, walkD (.lst l) = some l := fun _ => rfl
  unfold bDraws
  have e' := e
  unfold bBig bSmall at e'
  simp -dsimp [sl, pd, wk, szR, e']
theorem at_ints (L : List Int) (k : Nat) (h : k < L.length) : atI (L.map D.int) (k : Int) = some (.int L[k]) := by
  rw [at_nat _ _ (by simpa using h)]
  simp -dsimp
theorem at_intsI (L : List Int) (k : Int) (h0 : 0 ≤ k) (h : k < L.length) : ∃ x ∈ L, atI (L.map D.int) k = some (.int x) := by
  obtain ⟨n, rfl⟩ := Int.eq_ofNat_of_zero_le h0
  exact ⟨_, List.getElem_mem (by omega), at_ints L n (by omega)⟩
def bMore : Ss :=
  (.cons (.set (.name 2) (.bin .mod (.bi .int1 (.cons (.bin .add (.bin .add (.bin .mul (.var 1) (.int 48271)) (.bi .len (.cons (.var 0) .nil))) (.int 11)) .nil)) (.int 2147483629)))
    (.cons (.fors (.name 3) (.rng1 (.int 3)) (.cons (.ifs (.var 0) (.cons (.set (.name 2) (.bin .add (.var 2) (.ix (.var 0) (.bin .mod (.bi .int1 (.cons (.bin .add (.bin .mul (.var 1) (.bin .add (.var 3) (.int 5))) (.var 3)) .nil)) (.bi .len (.cons (.var 0) .nil))))))
    .nil) .nil)
    (.cons (.set (.name 2) (.bin .mod (.bi .int1 (.cons (.bin .add (.bin .add (.bin .mul (.var 2) (.int 16807)) (.bin .mul (.int 69621) (.var 3))) (.int 5)) .nil)) (.int 2147483629)))
    .nil)))
    (.cons (.ret (.bin .fdiv (.var 2) (.int 1009)))
    .nil)))
theorem m_more (Γ : GS) (L : List Int) (hL : Dr L) (p : Nat) (hp : p < 2 ^ 40) (st : Sto) : ∃ v : Int, run Γ 2 bMore 4 [.lst (L.map D.int), .int p] st = .ok (.int v) st := by
  have e3 : ∀ i : Int, binD .mod (.int i) (.int 2147483629) = some (.int (i.fmod 2147483629)) := fun i => d_modC i 2147483629 (by decide)
  have e4 : ∀ i : Int, binD .fdiv (.int i) (.int 1009) = some (.int (i.fdiv 1009)) := fun i => d_fdivC i 1009 (by decide)
  have e0 : binD .mul (.int p) (.int 48271) = some (.int (p * 48271)) := d_mulS 40 16 (by omega) (by decide) (by decide)
  have r1 : rng1D (.int 3) = some (rngD 0 3) := by simp -dsimp [rng1D]
  have step : ∀ x ∈ rngD 0 3, ∀ n ρ s', n < 3 → (∃ (m : Int) (c : Slot), ρ = [.sh (.lst (L.map D.int)), .sh (.int p), .sh (.int m), c] ∧ 0 ≤ m ∧ m < 2147483648 ∧ s' = st) →
      ∃ ρ' s'', turnS Γ (.name 3) (.cons (.ifs (.var 0) (.cons (.set (.name 2) (.bin .add (.var 2) (.ix (.var 0) (.bin .mod (.bi .int1 (.cons (.bin .add (.bin .mul (.var 1) (.bin .add (.var 3) (.int 5))) (.var 3)) .nil)) (.bi .len (.cons (.var 0) .nil))))))
    .nil) .nil)
    (.cons (.set (.name 2) (.bin .mod (.bi .int1 (.cons (.bin .add (.bin .add (.bin .mul (.var 2) (.int 16807)) (.bin .mul (.int 69621) (.var 3))) (.int 5)) .nil)) (.int 2147483629)))
    .nil)) x ρ s' = .nx ρ' s'' ∧ (∃ (m : Int) (c : Slot), ρ' = [.sh (.lst (L.map D.int)), .sh (.int p), .sh (.int m), c] ∧ 0 ≤ m ∧ m < 2147483648 ∧ s'' = st) := by
    rintro x hx n ρ s' hn ⟨m, c, rfl, m0, m1, rfl⟩
    obtain ⟨k, rfl, k0, k1⟩ := rngD_mem hx
    have e2 : binD .mul (.int 69621) (.int k) = some (.int (69621 * k)) := d_mulS 17 6 (by decide) (by omega) (by decide)
    have e5 : binD .mul (.int p) (.int (k + 5)) = some (.int (p * (k + 5))) := d_mulS 40 6 (by omega) (by omega) (by decide)
    unfold turnS
    by_cases z : L = []
    · subst z
      have e1 : binD .mul (.int m) (.int 16807) = some (.int (m * 16807)) := d_mulS 31 15 (by omega) (by decide) (by decide)
      refine ⟨[.sh (.lst (([] : List Int).map D.int)), .sh (.int p), .sh (.int ((m * 16807 + 69621 * k + 5).fmod 2147483629)), .sh (.int k)], s', by simp -dsimp [e1, e2, e3], _, _, rfl, (fmod_b _ 2147483629 (by decide)).1, Int.lt_trans (fmod_b _ 2147483629 (by decide)).2 (by decide), rfl⟩
    · have hp : 0 < L.length := List.length_pos_iff.mpr z
      have b := fmod_b (p * (k + 5) + k) L.length hp
      obtain ⟨x, hx, ex⟩ := at_intsI L _ b.1 b.2
      have e6 : binD .mod (.int (p * (k + 5) + k)) (.int L.length) = some (.int ((p * (k + 5) + k : Int).fmod L.length)) := d_modC _ _ (by omega)
      have hb := hL x hx
      have e1 : binD .mul (.int (m + x)) (.int 16807) = some (.int ((m + x) * 16807)) := d_mulS 33 15 (by omega) (by decide) (by decide)
      refine ⟨[.sh (.lst (L.map D.int)), .sh (.int p), .sh (.int (((m + x) * 16807 + 69621 * k + 5).fmod 2147483629)), .sh (.int k)], s', by simp -dsimp [e1, e2, e3, e5, e6, ex, z], _, _, rfl, (fmod_b _ 2147483629 (by decide)).1, Int.lt_trans (fmod_b _ 2147483629 (by decide)).2 (by decide), rfl⟩
  obtain ⟨ρ', s', e, m, c, rfl, h0, h1, rfl⟩ := forS_all _ 3 (rngD 0 3) 0 [.sh (.lst (L.map D.int)), .sh (.int p), .sh (.int ((p * 48271 + L.length + 11 : Int).fmod 2147483629)), .un] st (by rw [rngD_length]; decide) ⟨_, _, rfl, (fmod_b _ 2147483629 (by decide)).1, Int.lt_trans (fmod_b _ 2147483629 (by decide)).2 (by decide), rfl⟩ step
  refine ⟨m.fdiv 1009, ?_⟩
  unfold bMore
  simp -dsimp [e0, e3, e4, r1, e]
def bTake (f : Nat) : Ss :=
  (.cons (.set (.name 3) (.ix (.var 1) (.int 0)))
    (.cons (.putC (.var 1) (.int 0) (.bin .add (.var 3) (.int 1)))
    (.cons (.ret (.bin .mod (.bi .int1 (.cons (.ite (.cmp .lt (.var 3) (.bi .len (.cons (.var 0) .nil))) (.ix (.var 0) (.var 3)) (.call f (.cons (.var 0) (.cons (.var 3) .nil)))) .nil)) (.var 2)))
    .nil)))
/-- THE TAKING -/
theorem m_take (Γ : GS) (Γm : GS) (f : Nat) (hf : Γ.fns f = some (2, run Γm 2 bMore 4)) (L : List Int) (hL : Dr L) (n p many : Nat) (hp : p < 2 ^ 40) (hm : 0 < many) (st : Sto) (h : st[n]? = some [.int p]) :
    ∃ v : Nat, v < many ∧ run Γ 3 (bTake f) 4 [.lst (L.map D.int), .ref n, .int many] st = .ok (.int v) (st.set n [.int (p + 1 : Nat)]) := by
  have em : ∀ i : Int, binD .mod (.int i) (.int many) = some (.int (i.fmod many)) := fun i => d_modC i many (by omega)
  have fin : ∀ i : Int, ∃ v : Nat, v < many ∧ i.fmod many = v := fun i => by
    have b := fmod_b i many hm
    exact ⟨(i.fmod many).toNat, by omega, by omega⟩
  by_cases hl : p < L.length
  · obtain ⟨v, h1, h2⟩ := fin L[p]
    refine ⟨v, h1, ?_⟩
    unfold bTake
    simp -dsimp [d_ixr _ _ _ _ h, d_putc _ _ _ _ 0 _ h, ixN, hl, at_ints, em, h2]
  · obtain ⟨w, e⟩ := m_more Γm L hL p hp (st.set n [.int (p + 1)])
    obtain ⟨v, h1, h2⟩ := fin w
    refine ⟨v, h1, ?_⟩
    unfold bTake
    simp only [run_eq] at e
    simp -dsimp [d_ixr _ _ _ _ h, d_putc _ _ _ _ 0 _ h, ixN, hl, em, hf, h2] at e
    simp -dsimp [d_ixr _ _ _ _ h, d_putc _ _ _ _ 0 _ h, ixN, hl, hf, e, em, h2]
def bOne (f : Nat) : Ss :=
  (.cons (.ret (.ix (.var 0) (.call f (.cons (.var 1) (.cons (.var 2) (.cons (.bi .len (.cons (.var 0) .nil)) .nil))))))
    .nil)
end Z
set_option Elab.async false
set_option linter.all false
set_option maxRecDepth 100000
set_option maxHeartbeats 4000000
/-! Y2: common divisors: the program's and the laws'. -/
namespace Z
open PySem L2
theorem rem_pos (a b : Int) (h : 0 < b) : 0 ≤ a - a.fdiv b * b ∧ a - a.fdiv b * b < b := by
  have e : a - a.fdiv b * b = a.fmod b := by rw [Int.fmod_def, Int.mul_comm]
  rw [e]
  exact ⟨Int.fmod_nonneg_of_pos a h, Int.fmod_lt_of_pos a h⟩
theorem rem_neg (a b : Int) (h : b < 0) : b < a - a.fdiv b * b ∧ a - a.fdiv b * b ≤ 0 := by
  have q := rem_pos (-a) (-b) (by omega)
  rw [Int.neg_fdiv_neg, Int.mul_neg] at q
  omega
theorem rem_abs (a b : Int) (h : b ≠ 0) : (a - a.fdiv b * b).natAbs < b.natAbs := by
  rcases Int.lt_or_gt_of_ne h with h | h
  · have := rem_neg a b h
    omega
  · have := rem_pos a b h
    omega
theorem half_pos (b r : Int) (h : 0 < r) (hb : r < b) : 2 * (b - b.fdiv r * r) < b := by
  have q := rem_pos b r h
  have p : 0 < b.fdiv r * r := by omega
  have p1 : 0 < b.fdiv r := by
    refine Decidable.byContradiction fun z => ?_
    have := Int.mul_le_mul_of_nonneg_right (show b.fdiv r ≤ 0 by omega) (Int.le_of_lt h)
    omega
  have p2 := Int.mul_le_mul_of_nonneg_right (show (1 : Int) ≤ b.fdiv r by omega) (Int.le_of_lt h)
  omega
/-- two turns halve -/
theorem half_abs (a b : Int) (h : b ≠ 0) (hr : a - a.fdiv b * b ≠ 0) : 2 * (b - b.fdiv (a - a.fdiv b * b) * (a - a.fdiv b * b)).natAbs < b.natAbs := by
  rcases Int.lt_or_gt_of_ne h with h | h
  · have q := rem_neg a b h
    generalize a - a.fdiv b * b = r at q hr ⊢
    have z := half_pos (-b) (-r) (by omega) (by omega)
    rw [Int.neg_fdiv_neg, Int.mul_neg] at z
    have y := rem_neg b r (by omega)
    omega
  · have q := rem_pos a b h
    generalize a - a.fdiv b * b = r at q hr ⊢
    have z := half_pos b r (by omega) (by omega)
    have y := rem_pos b r (by omega)
    omega
theorem gcd_rem (a b : Int) : b.gcd (a - a.fdiv b * b) = a.gcd b := by rw [Int.gcd_sub_mul_right_right, Int.gcd_comm]
theorem quo_abs (a b : Int) (h : b ≠ 0) : (a.fdiv b).natAbs ≤ a.natAbs + b.natAbs := by
  have q := rem_abs a b h
  have e : (a.fdiv b * b).natAbs = (a.fdiv b).natAbs * b.natAbs := Int.natAbs_mul _ _
  have h1 : 1 ≤ b.natAbs := by omega
  have := Nat.mul_le_mul_left (a.fdiv b).natAbs h1
  omega
/-- numbers that a division may take -/
theorem div_ok (a b : Int) (h : b ≠ 0) (ha : a.natAbs < 2 ^ 8000) (hb : b.natAbs < 2 ^ 1400) : binD .fdiv (.int a) (.int b) = some (.int (a.fdiv b)) ∧ binD .mul (.int (a.fdiv b)) (.int b) = some (.int (a.fdiv b * b)) := by
  refine ⟨d_fdiv a b ⟨h, ?_⟩, d_mulS 8001 1400 ?_ hb (by decide)⟩
  · exact Nat.lt_of_lt_of_le ((Nat.log2_lt (by omega)).mpr hb) (by decide)
  · have := quo_abs a b h
    have e : (2 : Nat) ^ 1400 ≤ 2 ^ 8000 := Nat.pow_le_pow_right (by decide) (by decide)
    have e2 : (2 : Nat) ^ 8001 = 2 ^ 8000 + 2 ^ 8000 := by rw [Nat.pow_succ]; omega
    omega
theorem bits_mono {n a b : Nat} (h : n < 2 ^ a) (hab : a ≤ b) : n < 2 ^ b := Nat.lt_of_lt_of_le h (Nat.pow_le_pow_right (by decide) hab)
def bStep : S := (.par [(0, false), (1, false)] (.cons (.var 1) (.cons (.bin .sub (.var 0) (.bin .mul (.bin .fdiv (.var 0) (.var 1)) (.var 1))) .nil)))
theorem step_two (Γ : GS) (a b : Int) (h : b ≠ 0) (ha : a.natAbs < 2 ^ 8000) (hb : b.natAbs < 2 ^ 1400) (st : Sto) : evS Γ bStep [.sh (.int a), .sh (.int b)] st = .nx [.sh (.int b), .sh (.int (a - a.fdiv b * b))] st := by
  obtain ⟨e1, e2⟩ := div_ok a b h ha hb
  unfold bStep
  simp -dsimp [e1, e2]
theorem step_three (Γ : GS) (a b : Int) (x : Slot) (h : b ≠ 0) (ha : a.natAbs < 2 ^ 8000) (hb : b.natAbs < 2 ^ 1400) (st : Sto) : evS Γ bStep [.sh (.int a), .sh (.int b), x] st = .nx [.sh (.int b), .sh (.int (a - a.fdiv b * b)), x] st := by
  obtain ⟨e1, e2⟩ := div_ok a b h ha hb
  unfold bStep
  simp -dsimp [e1, e2]
/-! ### the program's -/
theorem while_true {c : Ro → Sto → Res D} {f : Ro → Sto → SRes} {n : Nat} {ρ ρ' : Ro} {s s1 s' : Sto} (h : c ρ s = .ok (.bl true) s1) (e : f ρ s1 = .nx ρ' s') : whileS c f (n + 1) ρ s = whileS c f n ρ' s' := by
  rw [whileS, h]
  show (match f ρ s1 with | .nx ρ' s' => _ | .ct ρ' s' => _ | .bk ρ' s' => _ | .ret d s' => _ | .ex x ρ' s' => _ | .stuck => _) = _
  rw [e]
theorem while_false {c : Ro → Sto → Res D} {f : Ro → Sto → SRes} {n : Nat} {ρ : Ro} {s s1 : Sto} (h : c ρ s = .ok (.bl false) s1) : whileS c f n ρ s = .nx ρ s1 := by
  cases n with
  | zero => rw [whileS, h]
  | succ n => rw [whileS, h]
theorem common_loop (Γ : GS) (st : Sto) : ∀ (n : Nat) (a b : Int), 0 ≤ a → 0 ≤ b → b.natAbs ≤ n → a.natAbs < 2 ^ 8000 → b.natAbs < 2 ^ 1400 →
    whileS (fun ρ => ev Γ.toG (.var 1) .tst ρ) (fun ρ s => Sq (evS Γ bStep ρ s) fun ρ s => .nx ρ s) n [.sh (.int a), .sh (.int b)] st = .nx [.sh (.int (a.gcd b)), .sh (.int 0)] st
  | n, a, b, h0, h1, hn, ha, hb => by
    by_cases z : b = 0
    · subst z
      rw [while_false (s1 := st) (by simp -dsimp)]
      have : (a.gcd 0 : Int) = a := by rw [Int.gcd_zero_right]; omega
      rw [this]
    · cases n with
      | zero => omega
      | succ n =>
        have r := rem_pos a b (by omega)
        rw [while_true (s1 := st) (by simp -dsimp [z]) (by rw [step_two Γ a b z ha hb st, Sq_nx]), common_loop Γ st n b (a - a.fdiv b * b) h1 r.1 (by omega) (bits_mono hb (by decide)) (by omega), gcd_rem]
def bCommon : Ss :=
  (.cons (.par [(0, false), (1, false)] (.cons (.bi .abs (.cons (.var 0) .nil)) (.cons (.bi .abs (.cons (.var 1) .nil)) .nil)))
    (.cons (.whil (muI 1) (.var 1) (.cons bStep .nil))
    (.cons (.ret (.var 0))
    .nil)))
/-- THE COMMON DIVISOR -/
theorem m_commonP (Γ : GS) (a b : Int) (ha : a.natAbs < 2 ^ 8000) (hb : b.natAbs < 2 ^ 1400) (st : Sto) : run Γ 2 bCommon 2 [.int a, .int b] st = .ok (.int (a.gcd b)) st := by
  have e := common_loop Γ st (muI 1 [.sh (.int a.natAbs), .sh (.int b.natAbs)]) a.natAbs b.natAbs (by omega) (by omega) (by show ((b.natAbs : Int)).natAbs ≤ (b.natAbs : Int).natAbs + 1; omega) (by simpa using ha) (by simpa using hb)
  have g : ((a.natAbs : Int)).gcd b.natAbs = a.gcd b := by simp -dsimp [Int.gcd]
  rw [g] at e
  have w : evS Γ (.whil (muI 1) (.var 1) (.cons bStep .nil)) [.sh (.int a.natAbs), .sh (.int b.natAbs)] st = .nx [.sh (.int (a.gcd b)), .sh (.int 0)] st := by
    rw [y_whil, ← e]
    congr 1
  unfold bCommon
  simp -dsimp [-y_whil, w]
/-! ### the laws' -/
def bTurn : Ss := (.cons (.ifs (.cmp .eq (.var 1) (.int 0)) (.cons (.ret (.bi .abs (.cons (.var 0) .nil))) .nil) .nil) (.cons bStep .nil))
theorem lturn_end (Γ : GS) (a : Int) (x : Slot) (k : Int) (st : Sto) : turnS Γ (.name 2) bTurn (.int k) [.sh (.int a), .sh (.int 0), x] st = .ret (.int a.natAbs) st := by
  unfold turnS bTurn
  simp -dsimp
theorem lturn_go (Γ : GS) (a b : Int) (x : Slot) (k : Int) (h : b ≠ 0) (ha : a.natAbs < 2 ^ 8000) (hb : b.natAbs < 2 ^ 1400) (st : Sto) : turnS Γ (.name 2) bTurn (.int k) [.sh (.int a), .sh (.int b), x] st = .nx [.sh (.int b), .sh (.int (a - a.fdiv b * b)), .sh (.int k)] st := by
  have e := step_three Γ a b (.sh (.int k)) h ha hb st
  unfold turnS bTurn
  simp -dsimp [h, e]
theorem lcommon_loop (Γ : GS) (st : Sto) : ∀ (k : Nat) (t : Int) (n : Nat) (a b : Int) (x : Slot), 2 * k + 1 ≤ n → a.natAbs < 2 ^ 8000 → b.natAbs < 2 ^ k → k ≤ 1400 →
    forS (turnS Γ (.name 2) bTurn) (rngD t n) [.sh (.int a), .sh (.int b), x] st = .ret (.int (a.gcd b)) st
  | k, t, 0, a, b, x, h, _, _, _ => by omega
  | k, t, n + 1, a, b, x, h, ha, hb, hk => by
    rw [rngD, forS_cons]
    by_cases z : b = 0
    · subst z
      rw [lturn_end, Fq_ret, Int.gcd_zero_right]
    · rw [lturn_go Γ a b x t z ha (bits_mono hb hk), Fq_nx]
      cases k with
      | zero => omega
      | succ k =>
        cases n with
        | zero => omega
        | succ n =>
          have r := rem_abs a b z
          have hb' := bits_mono hb hk
          rw [rngD, forS_cons, ← gcd_rem a b]
          by_cases y : a - a.fdiv b * b = 0
          · rw [y, lturn_end, Fq_ret, Int.gcd_zero_right]
          · have f := half_abs a b z y
            rw [lturn_go Γ b (a - a.fdiv b * b) _ _ y (bits_mono hb' (by decide)) (by omega), Fq_nx, lcommon_loop Γ st k (t + 1 + 1) n _ _ _ (by omega) (bits_mono (Nat.lt_trans r hb') (by decide)) (by rw [Nat.pow_succ] at hb; omega) (by omega), gcd_rem]
def bCommonL : Ss :=
  (.cons (.fors (.name 2) (.rng1 (.int 3000)) bTurn)
    (.cons (.ret (.int 1))
    .nil))
theorem m_commonL (Γ : GS) (a b : Int) (ha : a.natAbs < 2 ^ 8000) (hb : b.natAbs < 2 ^ 1400) (st : Sto) : run Γ 2 bCommonL 3 [.int a, .int b] st = .ok (.int (a.gcd b)) st := by
  have r1 : rng1D (.int 3000) = some (rngD 0 3000) := by simp -dsimp [rng1D]
  have e := lcommon_loop Γ st 1400 0 3000 a b .un (by decide) ha hb (by decide)
  unfold bCommonL
  simp -dsimp [r1, e]
end Z
set_option Elab.async false
set_option linter.all false
set_option maxRecDepth 100000
set_option maxHeartbeats 4000000
set_option exponentiation.threshold 9000
/-! Y3: fractions: brought to least terms. -/
namespace Z
open PySem L2
abbrev fr (t u : Int) : D := .tup [.int t, .int u]
/-- in least terms -/
def mkT (t u : Int) : Int := (if u < 0 then -t else t).fdiv (t.gcd u)
def mkU (t u : Int) : Int := (if u < 0 then -u else u).fdiv (t.gcd u)
abbrev mk (t u : Int) : D := fr (mkT t u) (mkU t u)
theorem gcd_pos' {t u : Int} (h : u ≠ 0) : 0 < t.gcd u := Nat.pos_of_ne_zero fun z => h (Int.gcd_eq_zero_iff.mp z).2
theorem gcd_le' {t u : Int} (h : u ≠ 0) : t.gcd u ≤ u.natAbs := Nat.le_of_dvd (by omega) (Int.gcd_dvd_natAbs_right t u)
theorem div_gcd {t u : Int} (x : Int) (h : u ≠ 0) (hu : u.natAbs < 2 ^ 1400) : binD .fdiv (.int x) (.int (t.gcd u)) = some (.int (x.fdiv (t.gcd u))) := by
  refine d_fdivC x _ ⟨Nat.pos_iff_ne_zero.mp (gcd_pos' h), ?_⟩
  exact Nat.lt_of_lt_of_le ((Nat.log2_lt (Nat.pos_iff_ne_zero.mp (gcd_pos' h))).mpr (Nat.lt_of_le_of_lt (gcd_le' h) hu)) (by decide)
def bMade (c : Nat) : Ss :=
  (.cons (.ifs (.cmp .lt (.var 1) (.int 0)) (.cons (.par [(0, false), (1, false)] (.cons (.bin .sub (.int 0) (.var 0)) (.cons (.bin .sub (.int 0) (.var 1)) .nil)))
    .nil) .nil)
    (.cons (.set (.name 2) (.call c (.cons (.var 0) (.cons (.var 1) .nil))))
    (.cons (.ret (.tup (.cons (.bin .fdiv (.var 0) (.var 2)) (.cons (.bin .fdiv (.var 1) (.var 2)) .nil))))
    .nil)))
theorem szR_two (a b : D) (d : D) (s : Sto) : szR [a, b] d s = .ok d s := if_pos (show (2 : Nat) ≤ sizeLine by decide)
theorem m_madeP (Γ Γc : GS) (c : Nat) (hc : Γ.fns c = some (2, run Γc 2 bCommon 2)) (t u : Int) (h : u ≠ 0) (ht : t.natAbs < 2 ^ 8000) (hu : u.natAbs < 2 ^ 1400) (st : Sto) : run Γ 2 (bMade c) 3 [.int t, .int u] st = .ok (mk t u) st := by
  unfold bMade
  by_cases n : u < 0
  · have e := m_commonP Γc (-t) (-u) (by simpa using ht) (by simpa using hu) st
    have g : (-t).gcd (-u) = t.gcd u := by rw [Int.gcd_neg, Int.neg_gcd]
    have e1 := div_gcd (t := t) (-t) h hu
    have e2 := div_gcd (t := t) (-u) h hu
    rw [g] at e
    simp only [run_eq] at e
    simp -dsimp [n, hc, szR_two, mkT, mkU, e, e1, e2] at e
    simp -dsimp [hc, szR_two, e, e1, e2, mkT, mkU, n]
  · have e := m_commonP Γc t u ht hu st
    have e1 := div_gcd (t := t) t h hu
    have e2 := div_gcd (t := t) u h hu
    simp only [run_eq] at e
    simp -dsimp [n, hc, szR_two, mkT, mkU, e1, e2] at e
    simp -dsimp [hc, szR_two, e, e1, e2, mkT, mkU, n]
def bMadeL (c : Nat) : Ss :=
  (.cons (.set (.name 2) (.bin .mul (.call c (.cons (.var 0) (.cons (.var 1) .nil))) (.ite (.cmp .gt (.var 1) (.int 0)) (.int 1) (.neg (.int 1)))))
    (.cons (.ret (.tup (.cons (.bin .fdiv (.var 0) (.var 2)) (.cons (.bin .fdiv (.var 1) (.var 2)) .nil))))
    .nil))
theorem m_madeL (Γ Γc : GS) (c : Nat) (hc : Γ.fns c = some (2, run Γc 2 bCommonL 3)) (t u : Int) (h : u ≠ 0) (ht : t.natAbs < 2 ^ 8000) (hu : u.natAbs < 2 ^ 1400) (st : Sto) : run Γ 2 (bMadeL c) 3 [.int t, .int u] st = .ok (mk t u) st := by
  have e := m_commonL Γc t u ht hu st
  have gl := gcd_le' (t := t) h
  have gp := gcd_pos' (t := t) h
  simp only [run_eq] at e
  unfold bMadeL
  by_cases n : 0 < u
  · have e0 : binD .mul (.int (t.gcd u)) (.int 1) = some (.int (t.gcd u)) := by
      rw [d_mulS 1400 1 (by simpa using Nat.lt_of_le_of_lt gl hu) (by decide) (by decide), Int.mul_one]
    have e1 := div_gcd (t := t) t h hu
    have e2 := div_gcd (t := t) u h hu
    have n' : ¬ u < 0 := by omega
    simp -dsimp [n, n', hc, szR_two, mkT, mkU] at e
    simp -dsimp [n, hc, szR_two, e, e0, e1, e2, mkT, mkU, n']
  · have e0 : binD .mul (.int (t.gcd u)) (.int (-1)) = some (.int (-(t.gcd u))) := by
      rw [d_mulS 1400 1 (by simpa using Nat.lt_of_le_of_lt gl hu) (by decide) (by decide)]
      simp -dsimp
    have q : ∀ x : Int, binD .fdiv (.int x) (.int (-(t.gcd u))) = some (.int ((-x).fdiv (t.gcd u))) := fun x => by
      have z : x.fdiv (-(t.gcd u : Int)) = (-x).fdiv (t.gcd u) := by
        have := Int.neg_fdiv_neg (-x) (t.gcd u)
        rw [Int.neg_neg] at this
        exact this
      rw [← z]
      refine d_fdiv x _ ⟨by omega, ?_⟩
      rw [Int.natAbs_neg, Int.natAbs_natCast]
      exact Nat.lt_of_lt_of_le ((Nat.log2_lt (Nat.pos_iff_ne_zero.mp gp)).mpr (Nat.lt_of_le_of_lt gl hu)) (by decide)
    have n' : u < 0 := by omega
    simp -dsimp [n, n', hc, szR_two, mkT, mkU] at e
    simp -dsimp [n, hc, szR_two, e, e0, q, mkT, mkU, n']
end Z
set_option Elab.async false
set_option linter.all false
set_option maxRecDepth 100000
set_option maxHeartbeats 4000000
set_option exponentiation.threshold 9000
/-! Y4: what is in least terms; who is a fraction. -/
namespace Z
open PySem L2
/-- in least terms -/
def Red (t u : Int) : Prop := 0 < u ∧ t.gcd u = 1
theorem mkT_eq (t u : Int) : mkT t u = (if u < 0 then -t else t) / (t.gcd u) := Int.fdiv_eq_ediv_of_nonneg _ (by omega)
theorem mkU_eq (t u : Int) : mkU t u = (if u < 0 then -u else u) / (t.gcd u) := Int.fdiv_eq_ediv_of_nonneg _ (by omega)
theorem mk_red {t u : Int} (h : u ≠ 0) : Red (mkT t u) (mkU t u) := by
  have g := gcd_pos' (t := t) h
  rw [mkT_eq, mkU_eq]
  have core : ∀ a b : Int, a.gcd b = t.gcd u → 0 < b → Red (a / (t.gcd u)) (b / (t.gcd u)) := fun a b e hb => by
    rw [← e]
    exact ⟨Int.ediv_pos_of_pos_of_dvd hb (by omega) (Int.gcd_dvd_right a b), Int.gcd_ediv_gcd_ediv_gcd (by rw [e]; exact g)⟩
  by_cases n : u < 0
  · rw [if_pos n, if_pos n]
    exact core _ _ (by rw [Int.gcd_neg, Int.neg_gcd]) (by omega)
  · rw [if_neg n, if_neg n]
    exact core _ _ rfl (by omega)
theorem mkT_le (t u : Int) : (mkT t u).natAbs ≤ t.natAbs := by
  rw [mkT_eq]
  refine Nat.le_trans (Int.natAbs_ediv_le_natAbs _ _) ?_
  split <;> omega
theorem mkU_le (t u : Int) : (mkU t u).natAbs ≤ u.natAbs := by
  rw [mkU_eq]
  refine Nat.le_trans (Int.natAbs_ediv_le_natAbs _ _) ?_
  split <;> omega
theorem mk_of_red {t u : Int} (h : Red t u) : mkT t u = t ∧ mkU t u = u := by
  obtain ⟨h1, h2⟩ := h
  rw [mkT_eq, mkU_eq, h2, if_neg (by omega), if_neg (by omega)]
  simp -dsimp
@[simp] theorem d_isii (i : Int) : isTy .int (.int i) = some true := rfl
@[simp] theorem d_isib (i : Int) : isTy .bool (.int i) = some false := rfl
@[simp] theorem d_isit (i : Int) : isTy .tuple (.int i) = some false := rfl
@[simp] theorem d_istt (l : List D) : isTy .tuple (.tup l) = some true := rfl
@[simp] theorem d_isti (l : List D) : isTy .int (.tup l) = some false := rfl
@[simp] theorem d_istb (l : List D) : isTy .bool (.tup l) = some false := rfl
@[simp] theorem d_isss (z : Str) : isTy .str (.str z) = some true := rfl
def bIsInt : Ss := (.cons (.ret (.conj (.cons (.isi (.var 0) .int) (.cons (.not (.isi (.var 0) .bool)) .nil)))) .nil)
theorem m_isInt (Γ : GS) (i : Int) (st : Sto) : run Γ 1 bIsInt 1 [.int i] st = .ok (.bl true) st := by
  unfold bIsInt
  simp -dsimp
def bIsFrac (i c : Nat) : Ss :=
  (.cons (.ifs (.disj (.cons (.not (.isi (.var 0) .tuple)) (.cons (.cmp .ne (.bi .len (.cons (.var 0) .nil)) (.int 2)) (.cons (.not (.call i (.cons (.ix (.var 0) (.int 0)) .nil))) (.cons (.not (.call i (.cons (.ix (.var 0) (.int 1)) .nil))) .nil))))) (.cons (.ret (.bl false))
    .nil) .nil)
    (.cons (.ret (.conj (.cons (.cmp .gt (.ix (.var 0) (.int 1)) (.int 0)) (.cons (.cmp .eq (.call c (.cons (.ix (.var 0) (.int 0)) (.cons (.ix (.var 0) (.int 1)) .nil))) (.int 1)) .nil))))
    .nil))
theorem m_isFrac (Γ Γi Γc : GS) (i c : Nat) (hi : Γ.fns i = some (1, run Γi 1 bIsInt 1)) (hc : Γ.fns c = some (2, run Γc 2 bCommon 2)) (t u : Int) (h : Red t u) (ht : t.natAbs < 2 ^ 8000) (hu : u.natAbs < 2 ^ 1400) (st : Sto) :
    run Γ 1 (bIsFrac i c) 1 [fr t u] st = .ok (.bl true) st := by
  have e1 := m_isInt Γi t st
  have e2 := m_isInt Γi u st
  have e3 := m_commonP Γc t u ht hu st
  simp only [run_eq] at e1 e2 e3
  unfold bIsFrac
  simp -dsimp [hi, hc] at e1 e2 e3
  simp -dsimp [hi, hc, e1, e2, e3, h.1, h.2]
end Z
set_option Elab.async false
set_option linter.all false
set_option maxRecDepth 100000
set_option maxHeartbeats 4000000
set_option exponentiation.threshold 9000
/-! Y5: what may be shown; the same is told of the same. -/
namespace Z
open PySem L2
/-- plain data of some bulk and depth -/
def Pv (n dp : Nat) (d : D) : Prop := ∃ p, toP d = some p ∧ p.canLay0 = true ∧ p.depth ≤ dp ∧ p.showable = true ∧ p.leavesShort 1402 = true ∧ p.bulk ≤ n
def PvL (n dp : Nat) (ds : List D) : Prop := ∃ ps, toPs ds = some ps ∧ PyData.canLayAll0 ps = true ∧ PyData.depthAll ps ≤ dp ∧ PyData.showableAll ps = true ∧ PyData.leavesShortAll 1402 ps = true ∧ PyData.bulkAll ps ≤ n
theorem Pv.le {n n' dp dp' : Nat} {d : D} (h : Pv n dp d) (h1 : n ≤ n') (h2 : dp ≤ dp') : Pv n' dp' d := by
  obtain ⟨p, a, b, c, e, f, g⟩ := h
  exact ⟨p, a, b, by omega, e, f, by omega⟩
theorem pv_non : Pv 0 0 .non := ⟨.none, rfl, rfl, by decide, rfl, rfl, by decide⟩
theorem pv_bl (b : Bool) : Pv 0 0 (.bl b) := ⟨.bool b, rfl, rfl, Nat.le_refl 0, rfl, rfl, Nat.le_refl 0⟩
theorem pv_int {i : Int} (h : i.natAbs < 2 ^ 1400) : Pv 0 0 (.int i) := by
  have l : i.natAbs.log2 < 1401 := by
    by_cases z : i.natAbs = 0
    · rw [z]; decide
    · exact Nat.lt_of_lt_of_le ((Nat.log2_lt z).mpr h) (by decide)
  refine ⟨.int i, rfl, rfl, Nat.le_refl 0, decide_eq_true (Nat.lt_of_lt_of_le l (by decide)), decide_eq_true ?_, Nat.le_refl 0⟩
  rw [PyData.shown_int]
  show (Str.ofString (toString i)).length ≤ 1402
  rw [ofString_length]
  exact int_text_length_le (by decide) l
theorem pv_str {z : Str} (h : ∀ c ∈ z.cps.toList, c < 0x110000) : Pv z.cps.size 0 (.str z) := by
  refine ⟨.str z, rfl, ?_, Nat.le_refl 0, rfl, ?_, Nat.le_refl _⟩
  · show PyData.strOk z = true
    unfold PyData.strOk
    rw [← Array.all_toList, List.all_eq_true]
    exact fun c hc => decide_eq_true (h c hc)
  · show (z.cps.toList.all fun c => decide (c < 16 ^ 8)) = true
    rw [List.all_eq_true]
    exact fun c hc => decide_eq_true (Nat.lt_trans (h c hc) (by decide))
theorem pvl_nil : PvL 0 0 [] := ⟨[], rfl, rfl, Nat.le_refl 0, rfl, rfl, Nat.le_refl 0⟩
theorem pvl_cons {n m dp : Nat} {d : D} {ds : List D} (h : Pv n dp d) (hs : PvL m dp ds) : PvL (n + 1 + m) dp (d :: ds) := by
  obtain ⟨p, a, b, c, e, f, g⟩ := h
  obtain ⟨ps, a', b', c', e', f', g'⟩ := hs
  refine ⟨p :: ps, ?_, ?_, ?_, ?_, ?_, ?_⟩
  · simp only [toPs, a, a']
  · simp only [PyData.canLayAll0, b, b']; rfl
  · simp only [PyData.depthAll]; omega
  · simp only [PyData.showableAll, e, e']; rfl
  · simp only [PyData.leavesShortAll, f, f']; rfl
  · simp only [PyData.bulkAll]; omega
theorem PvL.le {n n' dp dp' : Nat} {d : List D} (h : PvL n dp d) (h1 : n ≤ n') (h2 : dp ≤ dp') : PvL n' dp' d := by
  obtain ⟨p, a, b, c, e, f, g⟩ := h
  exact ⟨p, a, b, by omega, e, f, by omega⟩
theorem pv_tup {n dp : Nat} {ds : List D} (h : PvL n dp ds) : Pv n (dp + 1) (.tup ds) := by
  obtain ⟨ps, a, b, c, e, f, g⟩ := h
  exact ⟨.tuple ps, by simp only [toP, a], b, by show _ + 1 ≤ _; omega, e, f, g⟩
theorem pv_lst {n dp : Nat} {ds : List D} (h : PvL n dp ds) : Pv n (dp + 1) (.lst ds) := by
  obtain ⟨ps, a, b, c, e, f, g⟩ := h
  exact ⟨.list ps, by simp only [toP, a], b, by show _ + 1 ≤ _; omega, e, f, g⟩
mutual
theorem eqv_self : ∀ p : PyData, p.canLay0 = true → PyData.eqv p p = true
  | .none, _ => rfl
  | .bool b, _ => by simp -dsimp [PyData.eqv]
  | .int i, _ => by simp -dsimp [PyData.eqv]
  | .str s, _ => by simp -dsimp [PyData.eqv]
  | .list xs, h => by simp only [PyData.eqv]; exact eqvAll_self xs h
  | .tuple xs, h => by simp only [PyData.eqv]; exact eqvAll_self xs h
  | .dict _, h => by cases h
theorem eqvAll_self : ∀ ps : List PyData, PyData.canLayAll0 ps = true → PyData.eqvAll ps ps = true
  | [], _ => rfl
  | p :: ps, h => by
    simp only [PyData.canLayAll0, Bool.and_eq_true] at h
    simp only [PyData.eqvAll, eqv_self p h.1, eqvAll_self ps h.2]
    rfl
end
theorem Pv.eq {n dp : Nat} {d : D} (h : Pv n dp d) (h2 : dp ≤ 64) : eqD d d = some true := by
  obtain ⟨p, a, b, c, e, f, g⟩ := h
  have s : SeqAt.shaped p = true := by
    unfold SeqAt.shaped
    rw [b, decide_eq_true (show p.depth ≤ 64 by omega)]
    rfl
  have e0 : eqD0 d d = some true := by
    unfold eqD0
    simp only [a, s, eqv_self p b, Bool.and_self]
  unfold eqD
  cases d <;> simp only [strsD, e0, decide_true]
theorem Pv.rep {n dp : Nat} {d : D} (h : Pv n dp d) (h1 : n ≤ 11000) (h2 : dp ≤ 64) : ∃ z, reprD d = some (.str z) ∧ z.length ≤ sizeLine ∧ ∀ x y : Str, True := by
  obtain ⟨p, a, b, c, e, f, g⟩ := h
  have l : p.shown.length ≤ sizeLine := by
    refine Nat.le_trans (PyData.shown_le_bulk 1402 (by decide) p f) ?_
    show _ ≤ 2 ^ 24
    omega
  refine ⟨p.shown, ?_, l, fun _ _ => trivial⟩
  unfold reprD
  simp only [a, e, decide_eq_true l, decide_eq_true (show p.depth ≤ 64 by omega), Bool.and_self]
def bSame : Ss :=
  (.cons (.ret (.conj (.cons (.cmp .eq (.var 0) (.var 1)) (.cons (.cmp .eq (.bi .repr1 (.cons (.var 0) .nil)) (.bi .repr1 (.cons (.var 1) .nil))) .nil))))
    .nil)
theorem d_eqs (s t : Str) : cmpD .eq (.str s) (.str t) = some (decide (s = t)) := rfl
/-- THE SAME -/
theorem m_same (Γ : GS) {n dp : Nat} {d : D} (h : Pv n dp d) (h1 : n ≤ 11000) (h2 : dp ≤ 64) (st : Sto) : run Γ 2 bSame 2 [d, d] st = .ok (.bl true) st := by
  obtain ⟨z, r, _, _⟩ := h.rep h1 h2
  have e : cmpD .eq d d = some true := h.eq h2
  have r' : evBi .repr1 [d] = some (.str z) := r
  unfold bSame
  simp -dsimp [e, r', d_eqs]
end Z
set_option Elab.async false
set_option linter.all false
set_option maxRecDepth 100000
set_option maxHeartbeats 4000000
set_option exponentiation.threshold 9000
/-! Y6: rows of digits within texts. -/
namespace Z
open PySem L2
def isDig (c : Nat) : Bool := decide (48 ≤ c) && decide (c ≤ 57)
/-- where the row of digits that begins at a ends -/
def runE (cs : List Nat) (a : Nat) : Nat := a + ((cs.drop a).takeWhile isDig).length
theorem runE_le {cs : List Nat} {a : Nat} (h : a ≤ cs.length) : runE cs a ≤ cs.length := by
  unfold runE
  have := (List.takeWhile_sublist isDig (l := cs.drop a)).length_le
  rw [List.length_drop] at this
  omega
theorem runE_step {cs : List Nat} {a : Nat} (h : a < cs.length) (d : isDig cs[a] = true) : runE cs a = runE cs (a + 1) := by
  unfold runE
  rw [List.drop_eq_getElem_cons h, List.takeWhile_cons, d]
  simp -dsimp
  omega
theorem runE_stop {cs : List Nat} {a : Nat} (h : a < cs.length) (d : isDig cs[a] = false) : runE cs a = a := by
  unfold runE
  rw [List.drop_eq_getElem_cons h, List.takeWhile_cons, d]
  simp -dsimp
theorem runE_end {cs : List Nat} {a : Nat} (h : cs.length ≤ a) : runE cs a = a := by
  unfold runE
  rw [List.drop_eq_nil_of_le h]
  simp -dsimp
theorem d_ixs (s : Sto) (z : Str) (k : Nat) (h : k < z.cps.toList.length) (hz : z.length ≤ sizeLine) : ixS s (.str z) (.int k) = some (.str ⟨#[z.cps.toList[k]]⟩) := by
  show (if z.length ≤ sizeLine then (atI z.cps.toList k).map fun c => D.str ⟨#[c]⟩ else none) = _
  rw [if_pos hz, at_nat _ _ h]
  rfl
theorem d_inDig (c : Nat) : cmpD .isin (.str ⟨#[c]⟩) (.str "0123456789") = some (isDig c) := by
  show some (decide (c ∈ ("0123456789" : Str).cps.toList)) = _
  congr 1
  have e : ("0123456789" : Str).cps.toList = [48, 49, 50, 51, 52, 53, 54, 55, 56, 57] := by decide +kernel
  rw [e, Bool.eq_iff_iff]
  unfold isDig
  simp -dsimp
  omega
theorem d_lens (z : Str) (hz : z.length ≤ sizeLine) : evBi .len [.str z] = some (.int z.length) := if_pos hz
def cDig : E := (.conj (.cons (.cmp .lt (.var 2) (.bi .len (.cons (.var 0) .nil))) (.cons (.cmp .isin (.ix (.var 0) (.var 2)) (.str "0123456789")) .nil)))
def bDig : Ss := (.cons (.aug 2 .add (.int 1)) .nil)
theorem dig_while (Γ : GS) (z : Str) (hz : z.length ≤ sizeLine) (x : Slot) (st : Sto) : ∀ (n e : Nat), z.cps.toList.length ≤ e + n →
    whileS (fun ρ => ev Γ.toG cDig .tst ρ) (fun ρ s => evSs Γ bDig ρ s) n [.sh (.str z), x, .sh (.int e)] st = .nx [.sh (.str z), x, .sh (.int (runE z.cps.toList e))] st := by
  have zl : z.length = z.cps.toList.length := by simp -dsimp [Str.length]
  have stop : ∀ (n e : Nat), (∀ h : e < z.cps.toList.length, isDig z.cps.toList[e] = false) → whileS (fun ρ => ev Γ.toG cDig .tst ρ) (fun ρ s => evSs Γ bDig ρ s) n [.sh (.str z), x, .sh (.int e)] st = .nx [.sh (.str z), x, .sh (.int (runE z.cps.toList e))] st := fun n e h => by
    by_cases l : e < z.cps.toList.length
    · have hd := h l
      have i := d_ixs st z e l hz
      rw [while_false (s1 := st) (by unfold cDig; rw [← zl] at l; simp -dsimp [d_lens z hz, l, i, d_inDig]; simpa using hd), runE_stop l hd]
    · rw [while_false (s1 := st) (by unfold cDig; rw [← zl] at l; simp -dsimp [d_lens z hz, l]), runE_end (by omega)]
  intro n
  induction n with
  | zero => exact fun e h => stop 0 e fun l => by omega
  | succ n ih =>
    intro e h
    by_cases l : e < z.cps.toList.length
    · cases hd : isDig z.cps.toList[e] with
      | false => exact stop _ e fun _ => hd
      | true =>
        have i := d_ixs st z e l hz
        have c1 : ((e : Int) + 1) = ((e + 1 : Nat) : Int) := by omega
        rw [while_true (ρ' := [.sh (.str z), x, .sh (.int (e + 1 : Nat))]) (s' := st) (s1 := st) (by unfold cDig; rw [← zl] at l; simp -dsimp [d_lens z hz, l, i, d_inDig]; simpa using hd) (by unfold bDig; simp -dsimp), ih (e + 1) (by omega), ← runE_step l hd]
    · exact stop _ e fun l' => absurd l' l
def bDigL : Ss := (.cons (.ifs cDig (.cons (.set (.name 2) (.bin .add (.var 2) (.int 1))) .nil) .nil) .nil)
theorem dig_for (Γ : GS) (z : Str) (hz : z.length ≤ sizeLine) (b : Slot) (r : List Slot) (st : Sto) : ∀ (n : Nat) (lo : Int) (e : Nat) (k : Slot), z.cps.toList.length ≤ e + n →
    ∃ k', forS (turnS Γ (.name 3) bDigL) (rngD lo n) (.sh (.str z) :: b :: .sh (.int e) :: k :: r) st = .nx (.sh (.str z) :: b :: .sh (.int (runE z.cps.toList e)) :: k' :: r) st := by
  have zl : z.length = z.cps.toList.length := by simp -dsimp [Str.length]
  have stop : ∀ (n : Nat) (lo : Int) (e : Nat) (k : Slot), (∀ h : e < z.cps.toList.length, isDig z.cps.toList[e] = false) → ∃ k', forS (turnS Γ (.name 3) bDigL) (rngD lo n) (.sh (.str z) :: b :: .sh (.int e) :: k :: r) st = .nx (.sh (.str z) :: b :: .sh (.int (runE z.cps.toList e)) :: k' :: r) st := by
    intro n
    induction n with
    | zero =>
      intro lo e k h
      refine ⟨k, ?_⟩
      have q : runE z.cps.toList e = e := by
        by_cases l : e < z.cps.toList.length
        · exact runE_stop l (h l)
        · exact runE_end (by omega)
      rw [q]
      rfl
    | succ n ih =>
      intro lo e k h
      obtain ⟨k', e'⟩ := ih (lo + 1) e (.sh (.int lo)) h
      refine ⟨k', ?_⟩
      rw [rngD, forS_cons, show turnS Γ (.name 3) bDigL (.int lo) (.sh (.str z) :: b :: .sh (.int e) :: k :: r) st = .nx (.sh (.str z) :: b :: .sh (.int e) :: .sh (.int lo) :: r) st from ?_, Fq_nx, e']
      unfold turnS bDigL cDig
      by_cases l : e < z.cps.toList.length
      · have hd := h l
        have i := d_ixs st z e l hz
        have hd' : isDig z.cps[e] = false := by simpa using hd
        rw [← zl] at l
        simp -dsimp [d_lens z hz, l, i, d_inDig, hd']
      · rw [← zl] at l
        simp -dsimp [d_lens z hz, l]
  intro n
  induction n with
  | zero => exact fun lo e k h => stop 0 lo e k fun l => by omega
  | succ n ih =>
    intro lo e k h
    by_cases l : e < z.cps.toList.length
    · cases hd : isDig z.cps.toList[e] with
      | false => exact stop _ lo e k fun _ => hd
      | true =>
        have i := d_ixs st z e l hz
        obtain ⟨k', e'⟩ := ih (lo + 1) (e + 1) (.sh (.int lo)) (by omega)
        refine ⟨k', ?_⟩
        have hd' : isDig z.cps[e] = true := by simpa using hd
        rw [rngD, forS_cons, show turnS Γ (.name 3) bDigL (.int lo) (.sh (.str z) :: b :: .sh (.int e) :: k :: r) st = .nx (.sh (.str z) :: b :: .sh (.int (e + 1 : Nat)) :: .sh (.int lo) :: r) st from ?_, Fq_nx, e', ← runE_step l hd]
        unfold turnS bDigL cDig
        rw [← zl] at l
        simp -dsimp [d_lens z hz, l, i, d_inDig, hd']
    · exact stop _ lo e k fun l' => absurd l' l
end Z
set_option Elab.async false
set_option linter.all false
set_option maxRecDepth 100000
set_option maxHeartbeats 4000000
set_option exponentiation.threshold 9000
/-! Y7: numbers within texts. -/
namespace Z
open PySem L2
/-- the row of digits that begins at a -/
def dg (z : Str) (a : Nat) : List Nat := (z.cps.toList.drop a).takeWhile isDig
theorem runE_dg (z : Str) (a : Nat) : runE z.cps.toList a = a + (dg z a).length := rfl
theorem dg_digits (z : Str) (a : Nat) : NumText.AllDigits (dg z a) := fun c hc => by
  have q := List.all_takeWhile (l := z.cps.toList.drop a) (p := isDig)
  rw [List.all_eq_true] at q
  have := q c hc
  unfold isDig at this
  simp -dsimp at this
  omega
theorem cutS_dg (z : Str) (a : Nat) (h : a ≤ z.cps.toList.length) : cutS z (some (a : Int)) (some ((a + (dg z a).length : Nat) : Int)) = ⟨(dg z a).toArray⟩ := by
  have zl : z.length = z.cps.toList.length := by simp -dsimp [Str.length]
  have le := runE_le h
  rw [runE_dg] at le
  unfold cutS
  rw [HT.sIx_nat, HT.sIx_nat, zl, Nat.min_eq_left h, Nat.min_eq_left le, Nat.add_sub_cancel_left]
  congr 2
  unfold dg
  exact (List.prefix_iff_eq_take.mp (List.takeWhile_prefix isDig)).symm
end Z
set_option Elab.async false
set_option linter.all false
set_option maxRecDepth 100000
set_option maxHeartbeats 4000000
set_option exponentiation.threshold 9000
/-! Y8: texts of some length. -/
namespace Z
open PySem L2
@[simp] theorem d_part (i : Int) : partD (.int i) = some (some i) := rfl
theorem d_slN (z : Str) (hz : z.length ≤ sizeLine) (lo hi : Option Int) : slD (.str z) lo hi = some (.str (cutS z lo hi)) := if_pos hz
theorem d_nes (s t : Str) : cmpD .ne (.str s) (.str t) = some (!decide (s = t)) := rfl
/-- a text of some length at the most, of right signs -/
structure Txt (n : Nat) (z : Str) : Prop where
  len : z.length ≤ n
  ok : ∀ c ∈ z.cps.toList, c < 0x110000
theorem Txt.le {n m : Nat} {z : Str} (h : Txt n z) (l : n ≤ m) : Txt m z := ⟨Nat.le_trans h.len l, h.ok⟩
def txtOk (z : Str) : Bool := z.cps.toList.all fun c => decide (c < 0x110000)
theorem Txt.lit {z : Str} (n : Nat) (h : (txtOk z && decide (z.length ≤ n)) = true) : Txt n z := by
  simp only [Bool.and_eq_true, decide_eq_true_eq] at h
  exact ⟨h.2, fun c hc => of_decide_eq_true (List.all_eq_true.mp h.1 c hc)⟩
theorem Txt.app {n m : Nat} {x y : Str} (h : Txt n x) (g : Txt m y) : Txt (n + m) (x ++ y) := by
  refine ⟨?_, fun c hc => ?_⟩
  · show (x.cps ++ y.cps).size ≤ _
    rw [Array.size_append]
    exact Nat.add_le_add h.len g.len
  · have hc : c ∈ (x.cps ++ y.cps).toList := hc
    rw [Array.toList_append, List.mem_append] at hc
    exact hc.elim (h.ok c) (g.ok c)
theorem Txt.cut {n : Nat} {z : Str} (h : Txt n z) (lo hi : Option Int) : Txt n (cutS z lo hi) :=
  ⟨Nat.le_trans (cutS_length z lo hi) h.len, fun c hc => h.ok c (List.mem_of_mem_drop (List.mem_of_mem_take hc))⟩
theorem Txt.int {i : Int} (k : Nat) (h : i.natAbs < 2 ^ (k + 1)) : Txt (k + 2) (Str.ofString (toString i)) := by
  have l : i.natAbs.log2 < k + 1 := by
    by_cases z : i.natAbs = 0
    · rw [z]; exact Nat.lt_of_le_of_lt (show Nat.log2 0 ≤ 0 by decide) (Nat.succ_pos k)
    · exact (Nat.log2_lt z).mpr h
  refine ⟨by rw [ofString_length]; exact int_text_length_le (Nat.succ_pos k) l, fun c hc => ?_⟩
  rw [Str.ofString_eq_toList] at hc
  simp only [List.mem_map] at hc
  obtain ⟨d, _, rfl⟩ := hc
  have v := d.valid
  simp only [UInt32.isValidChar, Nat.isValidChar] at v
  show d.val.toNat < _
  omega
theorem d_str1 {i : Int} (k : Nat) (h : i.natAbs < 2 ^ (k + 1)) (hk : k < 1900) : evBi .str1 [.int i] = some (.str (Str.ofString (toString i))) := by
  have l : i.natAbs.log2 < k + 1 := by
    by_cases z : i.natAbs = 0
    · rw [z]; exact Nat.lt_of_le_of_lt (show Nat.log2 0 ≤ 0 by decide) (Nat.succ_pos k)
    · exact (Nat.log2_lt z).mpr h
  exact if_pos (by omega)
theorem Txt.add {n m : Nat} {x y : Str} (h : Txt n x) (g : Txt m y) (l : n + m ≤ 1000000) : binD .add (.str x) (.str y) = some (.str (x ++ y)) := by
  have a := h.len
  have b := g.len
  have c : (1000000 : Nat) ≤ sizeLine := by decide
  exact if_pos (by omega)
theorem Txt.pv {n : Nat} {z : Str} (h : Txt n z) : Pv n 0 (.str z) := (pv_str h.ok).le h.len (Nat.le_refl 0)
theorem Txt.len' {n : Nat} {z : Str} (h : Txt n z) (l : n ≤ 1000000) : evBi .len [.str z] = some (.int z.length) := d_lens z (Nat.le_trans h.len (Nat.le_trans l (show (1000000 : Nat) ≤ sizeLine by decide)))
theorem Txt.sl {n : Nat} {z : Str} (h : Txt n z) (l : n ≤ 1000000) (lo hi : Option Int) : slD (.str z) lo hi = some (.str (cutS z lo hi)) := d_slN z (Nat.le_trans h.len (Nat.le_trans l (show (1000000 : Nat) ≤ sizeLine by decide))) lo hi
theorem app_nil (x : Str) : x ++ ("" : Str) = x := by
  have e : ("" : Str) = ⟨#[]⟩ := by decide +kernel
  rw [e]
  show (⟨x.cps ++ #[]⟩ : Str) = x
  rw [Array.append_empty]
theorem app_assoc (x y z : Str) : x ++ y ++ z = x ++ (y ++ z) := by
  show (⟨x.cps ++ y.cps ++ z.cps⟩ : Str) = ⟨x.cps ++ (y.cps ++ z.cps)⟩
  rw [Array.append_assoc]
theorem pv_at {n : Int} (h : n.natAbs < 2 ^ 1400) : Pv 10 1 (.tup [.str "at", .int n]) := (pv_tup (pvl_cons (Txt.lit (z := "at") 2 (by decide)).pv (pvl_cons (pv_int h) pvl_nil))).le (by decide) (by decide)
theorem pv_fr {a b : Int} (ha : a.natAbs < 2 ^ 1400) (hb : b.natAbs < 2 ^ 1400) : Pv 10 1 (fr a b) := (pv_tup (pvl_cons (pv_int ha) (pvl_cons (pv_int hb) pvl_nil))).le (by decide) (by decide)
/-! one turn of a comprehension after the other -/
def Cq (r : Res (Option D)) (f : Sto → Res (List D)) : Kp (Res (List D)) f := match r with
  | .ok o s => match f s with
    | .ok l s => .ok (match o with | some d => d :: l | none => l) s
    | _ => .stuck
  | _ => .stuck
def Cc (d : D) (r : Res (List D)) : Res (List D) := match r with
  | .ok l s => .ok (d :: l) s
  | _ => .stuck
@[simp ↓] theorem Cc_ok (d : D) (l : List D) (s : Sto) : Cc d (.ok l s) = .ok (d :: l) s := rfl
def Cn (r : Res (List D)) : Res (List D) := match r with
  | .ok l s => .ok l s
  | _ => .stuck
@[simp ↓] theorem Cn_ok (l : List D) (s : Sto) : Cn (.ok l s) = .ok l s := rfl
@[simp ↓] theorem Cq_some (d : D) (s : Sto) (f : Sto → Res (List D)) : Cq (.ok (some d) s) f = Cc d (f s) := by
  show (match f s with | .ok l s => _ | _ => _) = _
  cases f s <;> rfl
@[simp ↓] theorem Cq_none (s : Sto) (f : Sto → Res (List D)) : Cq (.ok none s) f = Cn (f s) := by
  show (match f s with | .ok l s => _ | _ => _) = _
  cases f s <;> rfl
@[simp ↓] theorem compM_nil (f : D → M (Option D)) (s : Sto) : compM f [] s = .ok [] s := rfl
@[simp ↓] theorem compM_cons (f : D → M (Option D)) (x : D) (xs : List D) (s : Sto) : compM f (x :: xs) s = Cq (f x s) fun s => compM f xs s := by
  show (match f x s with | .ok o s1 => _ | _ => _) = _
  cases f x s <;> rfl
@[simp ↓] theorem turn_eq (Γ : G) (t : Tg) (c : O) (e : E) (ρ : Ro) (d : D) (s : Sto) : turn Γ t c e ρ d s = match bindT t d ρ with
  | some ρ' => Bd (evC Γ c ρ' s) fun k s => match k with
    | true => Bd (ev Γ e .val ρ' s) fun y s => .ok (some y) s
    | false => .ok none s
  | none => .stuck := rfl
theorem pvl_nil0 (dp : Nat) : PvL 0 dp [] := pvl_nil.le (Nat.le_refl 0) (Nat.zero_le _)
@[simp] theorem le_sizeLine (n : Nat) (h : n ≤ 1000000) : (n ≤ sizeLine) = True := eq_true (Nat.le_trans h (show (1000000 : Nat) ≤ sizeLine by decide))
@[simp] theorem d_rng2 (i j : Int) (h : -(2 ^ 62) ≤ i ∧ i < 2 ^ 62 ∧ -(2 ^ 62) ≤ j ∧ j < 2 ^ 62) : rng2D (.int i) (.int j) = some (rngD i (j - i).toNat) := if_pos h
@[simp] theorem d_walkt (l : List D) : walkD (.tup l) = some l := rfl
@[simp] theorem d_walkl (l : List D) : walkD (.lst l) = some l := rfl
end Z
set_option Elab.async false
set_option linter.all false
set_option maxRecDepth 100000
namespace Z.K00
open PySem L2
/-- MAX_PART -/
def c_MAX_PART : D := (.int (1000000))
/-- MAX_NAME -/
def c_MAX_NAME : D := (.int (24))
/-- MAX_PORTS -/
def c_MAX_PORTS : D := (.int (6))
/-- MAX_NODES -/
def c_MAX_NODES : D := (.int (24))
/-- MAX_ELEMENTS -/
def c_MAX_ELEMENTS : D := (.int (40))
/-- MAX_LAWS -/
def c_MAX_LAWS : D := (.int (120))
/-- MAX_BLOCKS -/
def c_MAX_BLOCKS : D := (.int (12))
/-- MAX_TEXT -/
def c_MAX_TEXT : D := (.int (8000))
/-- MAX_TRIED -/
def c_MAX_TRIED : D := (.int (4000))
/-- MAX_STEPS -/
def c_MAX_STEPS : D := (.int (60))
/-- MAX_DEGREE -/
def c_MAX_DEGREE : D := (.int (10))
/-- MAX_DIODES -/
def c_MAX_DIODES : D := (.int (8))
/-- MAX_LINES -/
def c_MAX_LINES : D := (.int (200))
def cst : Nat → Option D
  | 0 => some c_MAX_PART
  | 1 => some c_MAX_NAME
  | 2 => some c_MAX_PORTS
  | 3 => some c_MAX_NODES
  | 4 => some c_MAX_ELEMENTS
  | 5 => some c_MAX_LAWS
  | 6 => some c_MAX_BLOCKS
  | 7 => some c_MAX_TEXT
  | 8 => some c_MAX_TRIED
  | 9 => some c_MAX_STEPS
  | 10 => some c_MAX_DEGREE
  | 11 => some c_MAX_DIODES
  | 12 => some c_MAX_LINES
  | _ => none
/-- the errors, their fields: WireError, ReasonError, ArgumentError, CheckError, PaperError, TooMany, TextError, LogError, CommandError -/
def exc : Nat → Option (List Str)
  | 1 => some ["reason"]
  | 2 => some ["reason"]
  | 3 => some ["reason"]
  | 4 => some ["reason"]
  | 5 => some ["reason"]
  | 6 => some ["at"]
  | 7 => some ["number", "reason"]
  | 8 => some ["line"]
  | _ => none
def sup : Nat → Nat → Option Bool
  | 0, 0 => some true
  | 0, 1 => some false
  | 0, 2 => some false
  | 0, 3 => some false
  | 0, 4 => some false
  | 0, 5 => some false
  | 0, 6 => some false
  | 0, 7 => some false
  | 0, 8 => some false
  | 1, 0 => some true
  | 1, 1 => some true
  | 1, 2 => some false
  | 1, 3 => some false
  | 1, 4 => some false
  | 1, 5 => some false
  | 1, 6 => some false
  | 1, 7 => some false
  | 1, 8 => some false
  | 2, 0 => some true
  | 2, 1 => some true
  | 2, 2 => some true
  | 2, 3 => some false
  | 2, 4 => some false
  | 2, 5 => some false
  | 2, 6 => some false
  | 2, 7 => some false
  | 2, 8 => some false
  | 3, 0 => some true
  | 3, 1 => some true
  | 3, 2 => some false
  | 3, 3 => some true
  | 3, 4 => some false
  | 3, 5 => some false
  | 3, 6 => some false
  | 3, 7 => some false
  | 3, 8 => some false
  | 4, 0 => some true
  | 4, 1 => some true
  | 4, 2 => some false
  | 4, 3 => some false
  | 4, 4 => some true
  | 4, 5 => some false
  | 4, 6 => some false
  | 4, 7 => some false
  | 4, 8 => some false
  | 5, 0 => some true
  | 5, 1 => some true
  | 5, 2 => some false
  | 5, 3 => some false
  | 5, 4 => some false
  | 5, 5 => some true
  | 5, 6 => some false
  | 5, 7 => some false
  | 5, 8 => some false
  | 6, 0 => some true
  | 6, 1 => some false
  | 6, 2 => some false
  | 6, 3 => some false
  | 6, 4 => some false
  | 6, 5 => some false
  | 6, 6 => some true
  | 6, 7 => some false
  | 6, 8 => some false
  | 7, 0 => some true
  | 7, 1 => some false
  | 7, 2 => some false
  | 7, 3 => some false
  | 7, 4 => some false
  | 7, 5 => some false
  | 7, 6 => some false
  | 7, 7 => some true
  | 7, 8 => some false
  | 8, 0 => some true
  | 8, 1 => some false
  | 8, 2 => some false
  | 8, 3 => some false
  | 8, 4 => some false
  | 8, 5 => some false
  | 8, 6 => some false
  | 8, 7 => some false
  | 8, 8 => some true
  | _, _ => none
/-- _law_draws -/
def N__law_draws : List Str := ["script", "draws", "cell", "rest", "k", "mixed"]
def b__law_draws : Ss :=
  (.cons (.own 1 (.lst .nil))
    (.cons (.fors (.name 2) (.seq (.sl (.var 0) .none (.some (.int 63)))) (.cons (.set (.name 3) (.bi .abs (.cons (.var 2) .nil)))
    (.cons (.ifs (.cmp .ge (.var 3) (.bin .pow (.int 10) (.int 18))) (.cons (.fors (.name 4) (.rng1 (.int 60)) (.cons (.ifs (.cmp .gt (.var 3) (.int 0)) (.cons (.app 1 (.bin .mod (.bi .int1 (.cons (.var 3) .nil)) (.int 1009)))
    (.cons (.set (.name 3) (.bin .fdiv (.var 3) (.int 1009)))
    .nil)) .nil)
    .nil))
    .nil) (.cons (.set (.name 5) (.bin .mod (.bi .int1 (.cons (.bin .add (.bin .mul (.var 3) (.int 48271)) (.int 11)) .nil)) (.int 2147483647)))
    (.cons (.fors (.name 4) (.rng1 (.int 12)) (.cons (.set (.name 5) (.bin .mod (.bi .int1 (.cons (.bin .add (.bin .add (.bin .mul (.var 5) (.int 16807)) (.bin .mul (.int 69621) (.var 4))) (.int 5)) .nil)) (.int 2147483629)))
    (.cons (.app 1 (.bin .fdiv (.var 5) (.int 1009)))
    .nil)))
    .nil)))
    .nil)))
    (.cons (.frz 1)
    (.cons (.ret (.var 1))
    .nil))))
def g__law_draws : Nat → Option (Nat × (List D → M D))
  | _ => none
def Γ__law_draws : GS := ⟨⟨cst, g__law_draws, sup, noX⟩, exc⟩
def m__law_draws : List D → M D := run Γ__law_draws 1 b__law_draws 6
/-- _law_more -/
def N__law_more : List Str := ["draws", "place", "mixed", "k"]
def b__law_more : Ss :=
  (.cons (.set (.name 2) (.bin .mod (.bi .int1 (.cons (.bin .add (.bin .add (.bin .mul (.var 1) (.int 48271)) (.bi .len (.cons (.var 0) .nil))) (.int 11)) .nil)) (.int 2147483629)))
    (.cons (.fors (.name 3) (.rng1 (.int 3)) (.cons (.ifs (.var 0) (.cons (.set (.name 2) (.bin .add (.var 2) (.ix (.var 0) (.bin .mod (.bi .int1 (.cons (.bin .add (.bin .mul (.var 1) (.bin .add (.var 3) (.int 5))) (.var 3)) .nil)) (.bi .len (.cons (.var 0) .nil))))))
    .nil) .nil)
    (.cons (.set (.name 2) (.bin .mod (.bi .int1 (.cons (.bin .add (.bin .add (.bin .mul (.var 2) (.int 16807)) (.bin .mul (.int 69621) (.var 3))) (.int 5)) .nil)) (.int 2147483629)))
    .nil)))
    (.cons (.ret (.bin .fdiv (.var 2) (.int 1009)))
    .nil)))
def g__law_more : Nat → Option (Nat × (List D → M D))
  | _ => none
def Γ__law_more : GS := ⟨⟨cst, g__law_more, sup, noX⟩, exc⟩
def m__law_more : List D → M D := run Γ__law_more 2 b__law_more 4
/-- _law_take -/
def N__law_take : List Str := ["draws", "at", "many", "place"]
def b__law_take : Ss :=
  (.cons (.set (.name 3) (.ix (.var 1) (.int 0)))
    (.cons (.putC (.var 1) (.int 0) (.bin .add (.var 3) (.int 1)))
    (.cons (.ret (.bin .mod (.bi .int1 (.cons (.ite (.cmp .lt (.var 3) (.bi .len (.cons (.var 0) .nil))) (.ix (.var 0) (.var 3)) (.call 1 (.cons (.var 0) (.cons (.var 3) .nil)))) .nil)) (.var 2)))
    .nil)))
def g__law_take : Nat → Option (Nat × (List D → M D))
  | 1 => some (2, m__law_more)
  | _ => none
def Γ__law_take : GS := ⟨⟨cst, g__law_take, sup, noX⟩, exc⟩
def m__law_take : List D → M D := run Γ__law_take 3 b__law_take 4
/-- _law_one -/
def N__law_one : List Str := ["rows", "draws", "at"]
def b__law_one : Ss :=
  (.cons (.ret (.ix (.var 0) (.call 2 (.cons (.var 1) (.cons (.var 2) (.cons (.bi .len (.cons (.var 0) .nil)) .nil))))))
    .nil)
def g__law_one : Nat → Option (Nat × (List D → M D))
  | 2 => some (3, m__law_take)
  | _ => none
def Γ__law_one : GS := ⟨⟨cst, g__law_one, sup, noX⟩, exc⟩
def m__law_one : List D → M D := run Γ__law_one 3 b__law_one 3
/-- _law_limits_right -/
def N__law_limits_right : List Str := ["told", "due"]
def b__law_limits_right : Ss :=
  (.cons (.set (.name 0) (.lst (.cons (.glob 0) (.cons (.glob 1) (.cons (.glob 2) (.cons (.glob 3) (.cons (.glob 4) (.cons (.glob 5) (.cons (.glob 6) .nil)))))))))
    (.cons (.set (.name 0) (.bin .add (.var 0) (.lst (.cons (.glob 7) (.cons (.glob 8) (.cons (.glob 9) (.cons (.glob 10) (.cons (.glob 11) (.cons (.glob 12) .nil)))))))))
    (.cons (.set (.name 1) (.lst (.cons (.int 1000000) (.cons (.int 24) (.cons (.int 6) (.cons (.int 24) (.cons (.int 40) (.cons (.int 120) (.cons (.int 12) (.cons (.int 8000) (.cons (.int 4000) (.cons (.int 60) (.cons (.int 10) (.cons (.int 8) (.cons (.int 200) .nil)))))))))))))))
    (.cons (.ret (.cmp .eq (.bi .repr1 (.cons (.var 0) .nil)) (.bi .repr1 (.cons (.var 1) .nil))))
    .nil))))
def g__law_limits_right : Nat → Option (Nat × (List D → M D))
  | _ => none
def Γ__law_limits_right : GS := ⟨⟨cst, g__law_limits_right, sup, noX⟩, exc⟩
def m__law_limits_right : List D → M D := run Γ__law_limits_right 0 b__law_limits_right 2
/-- _law_raise -/
def N__law_raise : List Str := ["k", "one", "other"]
def b__law_raise : Ss :=
  (.cons (.ifs (.cmp .eq (.var 0) (.int 0)) (.cons (.raise 2 (.cons (.var 1) .nil))
    .nil) .nil)
    (.cons (.ifs (.cmp .eq (.var 0) (.int 1)) (.cons (.raise 4 (.cons (.var 1) .nil))
    .nil) .nil)
    (.cons (.ifs (.cmp .eq (.var 0) (.int 2)) (.cons (.raise 5 (.cons (.var 1) .nil))
    .nil) .nil)
    (.cons (.ifs (.cmp .eq (.var 0) (.int 3)) (.cons (.raise 3 (.cons (.var 1) .nil))
    .nil) .nil)
    (.cons (.ifs (.cmp .eq (.var 0) (.int 4)) (.cons (.raise 6 (.cons (.var 1) .nil))
    .nil) .nil)
    (.cons (.ifs (.cmp .eq (.var 0) (.int 5)) (.cons (.raise 7 (.cons (.var 1) (.cons (.var 2) .nil)))
    .nil) .nil)
    (.cons (.raise 8 (.cons (.var 1) .nil))
    .nil)))))))
def g__law_raise : Nat → Option (Nat × (List D → M D))
  | _ => none
def Γ__law_raise : GS := ⟨⟨cst, g__law_raise, sup, noX⟩, exc⟩
def m__law_raise : List D → M D := run Γ__law_raise 3 b__law_raise 3
/-- _law_kinds -/
def N__law_kinds : List Str := ["e", "plain"]
def b__law_kinds : Ss :=
  (.cons (.set (.name 1) (.lst (.cons (.exi 0 2) (.cons (.exi 0 4) (.cons (.exi 0 5) (.cons (.exi 0 3) .nil))))))
    (.cons (.ret (.bin .add (.var 1) (.lst (.cons (.exi 0 6) (.cons (.exi 0 7) (.cons (.exi 0 8) .nil))))))
    .nil))
def g__law_kinds : Nat → Option (Nat × (List D → M D))
  | _ => none
def Γ__law_kinds : GS := ⟨⟨cst, g__law_kinds, sup, noX⟩, exc⟩
def m__law_kinds : XV → M D := runX Γ__law_kinds b__law_kinds 2
/-- _law_caught -/
def N__law_caught : List Str := ["k", "one", "other", "e"]
def b__law_caught : Ss :=
  (.cons (.tryx (.cons (.expr (.call 5 (.cons (.var 0) (.cons (.var 1) (.cons (.var 2) .nil)))))
    .nil) (.cons 0 (some 3) (.cons (.ret (.ite (.exv 3) (.callx 6 3) (.lst .nil)))
    .nil) .nil))
    (.cons (.ret (.lst .nil))
    .nil))
def g__law_caught : Nat → Option (Nat × (List D → M D))
  | 5 => some (3, m__law_raise)
  | _ => none
def h__law_caught : Nat → Option (XV → M D)
  | 6 => some m__law_kinds
  | _ => none
def Γ__law_caught : GS := ⟨⟨cst, g__law_caught, sup, h__law_caught⟩, exc⟩
def m__law_caught : List D → M D := run Γ__law_caught 3 b__law_caught 4
/-- _law_fields -/
def N__law_fields : List Str := ["k", "one", "other", "e"]
def b__law_fields : Ss :=
  (.cons (.tryx (.cons (.expr (.call 5 (.cons (.var 0) (.cons (.var 1) (.cons (.var 2) .nil)))))
    .nil) (.cons 2 (some 3) (.cons (.ret (.tup (.cons (.exf 3 "reason") .nil)))
    .nil) (.cons 4 (some 3) (.cons (.ret (.tup (.cons (.exf 3 "reason") .nil)))
    .nil) (.cons 5 (some 3) (.cons (.ret (.tup (.cons (.exf 3 "reason") .nil)))
    .nil) (.cons 3 (some 3) (.cons (.ret (.tup (.cons (.exf 3 "reason") .nil)))
    .nil) (.cons 6 (some 3) (.cons (.ret (.tup (.cons (.exf 3 "at") .nil)))
    .nil) (.cons 7 (some 3) (.cons (.ret (.tup (.cons (.exf 3 "number") (.cons (.exf 3 "reason") .nil))))
    .nil) (.cons 8 (some 3) (.cons (.ret (.tup (.cons (.exf 3 "line") .nil)))
    .nil) .nil))))))))
    (.cons (.ret .non)
    .nil))
def g__law_fields : Nat → Option (Nat × (List D → M D))
  | 5 => some (3, m__law_raise)
  | _ => none
def Γ__law_fields : GS := ⟨⟨cst, g__law_fields, sup, noX⟩, exc⟩
def m__law_fields : List D → M D := run Γ__law_fields 3 b__law_fields 4
/-- law -/
def N_law : List Str := ["script", "draws", "at", "values", "k", "one", "other", "j"]
def b_law : Ss :=
  (.cons (.set (.name 1) (.call 0 (.cons (.var 0) .nil)))
    (.cons (.set (.name 2) (.newc (.cons (.int 0) .nil)))
    (.cons (.ifs (.not (.call 4 .nil)) (.cons (.ret (.bl false))
    .nil) .nil)
    (.cons (.set (.name 3) (.lst (.cons (.str "word") (.cons (.str "") (.cons (.str "form") (.cons (.int 0) (.cons (.int 17) (.cons (.neg (.int 3)) (.cons .non (.cons (.tup (.cons (.str "a") (.cons (.int 5) .nil))) (.cons (.str "a line") (.cons (.bl true) .nil))))))))))))
    (.cons (.fors (.name 4) (.rng1 (.int 7)) (.cons (.par [(5, false), (6, false)] (.cons (.call 3 (.cons (.var 3) (.cons (.var 1) (.cons (.var 2) .nil)))) (.cons (.call 3 (.cons (.var 3) (.cons (.var 1) (.cons (.var 2) .nil)))) .nil)))
    (.cons (.ifs (.cmp .ne (.call 7 (.cons (.var 4) (.cons (.var 5) (.cons (.var 6) .nil)))) (.comp [7] (.name 7) (.rng1 (.int 7)) .none (.cmp .eq (.var 7) (.var 4)))) (.cons (.ret (.bl false))
    .nil) .nil)
    (.cons (.ifs (.cmp .ne (.bi .repr1 (.cons (.call 8 (.cons (.var 4) (.cons (.var 5) (.cons (.var 6) .nil)))) .nil)) (.bi .repr1 (.cons (.ite (.cmp .eq (.var 4) (.int 5)) (.tup (.cons (.var 5) (.cons (.var 6) .nil))) (.tup (.cons (.var 5) .nil))) .nil))) (.cons (.ret (.bl false))
    .nil) .nil)
    .nil))))
    (.cons (.ret (.bl true))
    .nil))))))
def g_law : Nat → Option (Nat × (List D → M D))
  | 0 => some (1, m__law_draws)
  | 3 => some (3, m__law_one)
  | 4 => some (0, m__law_limits_right)
  | 7 => some (3, m__law_caught)
  | 8 => some (3, m__law_fields)
  | _ => none
def Γ_law : GS := ⟨⟨cst, g_law, sup, noX⟩, exc⟩
def m_law : List D → M D := run Γ_law 1 b_law 8
end Z.K00
set_option Elab.async false
set_option linter.all false
set_option maxRecDepth 100000
set_option maxHeartbeats 4000000
set_option exponentiation.threshold 9000
namespace Z.K00
open PySem L2
theorem e_draws (ns : List Int) (hn : ns.length ≤ 63) (st : Sto) : ∃ L, m__law_draws [.scr ns] st = .ok (.lst (L.map D.int)) st ∧ Dr L ∧ L.length ≤ 3780 := m_draws Γ__law_draws ns hn st
theorem e_take {L : List Int} (hL : Dr L) (p many : Nat) (hp : p < 2 ^ 40) (hm : 0 < many) : ∃ v : Nat, v < many ∧ m__law_take [.lst (L.map D.int), .ref 0, .int many] [[.int p]] = .ok (.int v) [[.int (p + 1 : Nat)]] :=
  m_take Γ__law_take Γ__law_more 1 rfl L hL 0 p many hp hm [[.int p]] rfl
theorem e_one {L : List Int} (hL : Dr L) (p : Nat) (hp : p < 2 ^ 40) (ds : List D) (hd : 0 < ds.length) : ∃ d ∈ ds, m__law_one [.lst ds, .lst (L.map D.int), .ref 0] [[.int p]] = .ok d [[.int (p + 1 : Nat)]] := by
  obtain ⟨v, hv, e⟩ := e_take hL p ds.length hp hd
  refine ⟨ds[v], List.getElem_mem hv, ?_⟩
  unfold m__law_one b__law_one
  simp -dsimp [Γ__law_one, g__law_one] at e
  simp -dsimp [Γ__law_one, g__law_one, e, at_nat ds v hv]
theorem limits (st : Sto) : m__law_limits_right [] st = .ok (.bl true) st := by
  have c : ∀ i, cst i = cst i := fun _ => rfl
  have r : evBi .repr1 [.lst [.int 1000000, .int 24, .int 6, .int 24, .int 40, .int 120, .int 12, .int 8000, .int 4000, .int 60, .int 10, .int 8, .int 200]] = reprD (.lst [.int 1000000, .int 24, .int 6, .int 24, .int 40, .int 120, .int 12, .int 8000, .int 4000, .int 60, .int 10, .int 8, .int 200]) := rfl
  obtain ⟨z, hz⟩ : ∃ z, reprD (.lst [.int 1000000, .int 24, .int 6, .int 24, .int 40, .int 120, .int 12, .int 8000, .int 4000, .int 60, .int 10, .int 8, .int 200]) = some (.str z) := by
    have P : ∀ i : Int, i.natAbs < 2 ^ 1400 → Pv 0 0 (.int i) := fun i h => pv_int h
    have q : ∀ i : Int, i.natAbs < 2 ^ 30 → Pv 0 0 (.int i) := fun i h => P i (bits_mono h (by decide))
    obtain ⟨z, h, _⟩ := (pv_lst (pvl_cons (q 1000000 (by decide)) (pvl_cons (q 24 (by decide)) (pvl_cons (q 6 (by decide)) (pvl_cons (q 24 (by decide)) (pvl_cons (q 40 (by decide)) (pvl_cons (q 120 (by decide)) (pvl_cons (q 12 (by decide)) (pvl_cons (q 8000 (by decide)) (pvl_cons (q 4000 (by decide)) (pvl_cons (q 60 (by decide)) (pvl_cons (q 10 (by decide)) (pvl_cons (q 8 (by decide)) (pvl_cons (q 200 (by decide)) (pvl_nil0 0))))))))))))))).rep (by decide) (by decide)
    exact ⟨z, h⟩
  rw [hz] at r
  unfold m__law_limits_right b__law_limits_right
  simp -dsimp [Γ__law_limits_right, cst, c_MAX_PART, c_MAX_NAME, c_MAX_PORTS, c_MAX_NODES, c_MAX_ELEMENTS, c_MAX_LAWS, c_MAX_BLOCKS, c_MAX_TEXT, c_MAX_TRIED, c_MAX_STEPS, c_MAX_DEGREE, c_MAX_DIODES, c_MAX_LINES, r, d_eqs]
theorem r_0 (one other : D) (st : Sto) : m__law_raise [.int 0, one, other] st = .exc ⟨2, [("reason", one)]⟩ st := by
  unfold m__law_raise b__law_raise
  simp -dsimp [Γ__law_raise, exc]
theorem c_0 (one other : D) (st : Sto) : m__law_caught [.int 0, one, other] st = .ok (.lst [.bl true, .bl false, .bl false, .bl false, .bl false, .bl false, .bl false]) st := by
  unfold m__law_caught b__law_caught
  simp -dsimp [Γ__law_caught, g__law_caught, h__law_caught, r_0, sup, inH, endH, m__law_kinds, b__law_kinds, Γ__law_kinds]
theorem f_0 (one other : D) (st : Sto) : m__law_fields [.int 0, one, other] st = .ok (.tup [one]) st := by
  unfold m__law_fields b__law_fields
  simp -dsimp [Γ__law_fields, g__law_fields, r_0, sup, inH, endH]
theorem r_1 (one other : D) (st : Sto) : m__law_raise [.int 1, one, other] st = .exc ⟨4, [("reason", one)]⟩ st := by
  unfold m__law_raise b__law_raise
  simp -dsimp [Γ__law_raise, exc]
theorem c_1 (one other : D) (st : Sto) : m__law_caught [.int 1, one, other] st = .ok (.lst [.bl false, .bl true, .bl false, .bl false, .bl false, .bl false, .bl false]) st := by
  unfold m__law_caught b__law_caught
  simp -dsimp [Γ__law_caught, g__law_caught, h__law_caught, r_1, sup, inH, endH, m__law_kinds, b__law_kinds, Γ__law_kinds]
theorem f_1 (one other : D) (st : Sto) : m__law_fields [.int 1, one, other] st = .ok (.tup [one]) st := by
  unfold m__law_fields b__law_fields
  simp -dsimp [Γ__law_fields, g__law_fields, r_1, sup, inH, endH]
theorem r_2 (one other : D) (st : Sto) : m__law_raise [.int 2, one, other] st = .exc ⟨5, [("reason", one)]⟩ st := by
  unfold m__law_raise b__law_raise
  simp -dsimp [Γ__law_raise, exc]
theorem c_2 (one other : D) (st : Sto) : m__law_caught [.int 2, one, other] st = .ok (.lst [.bl false, .bl false, .bl true, .bl false, .bl false, .bl false, .bl false]) st := by
  unfold m__law_caught b__law_caught
  simp -dsimp [Γ__law_caught, g__law_caught, h__law_caught, r_2, sup, inH, endH, m__law_kinds, b__law_kinds, Γ__law_kinds]
theorem f_2 (one other : D) (st : Sto) : m__law_fields [.int 2, one, other] st = .ok (.tup [one]) st := by
  unfold m__law_fields b__law_fields
  simp -dsimp [Γ__law_fields, g__law_fields, r_2, sup, inH, endH]
theorem r_3 (one other : D) (st : Sto) : m__law_raise [.int 3, one, other] st = .exc ⟨3, [("reason", one)]⟩ st := by
  unfold m__law_raise b__law_raise
  simp -dsimp [Γ__law_raise, exc]
theorem c_3 (one other : D) (st : Sto) : m__law_caught [.int 3, one, other] st = .ok (.lst [.bl false, .bl false, .bl false, .bl true, .bl false, .bl false, .bl false]) st := by
  unfold m__law_caught b__law_caught
  simp -dsimp [Γ__law_caught, g__law_caught, h__law_caught, r_3, sup, inH, endH, m__law_kinds, b__law_kinds, Γ__law_kinds]
theorem f_3 (one other : D) (st : Sto) : m__law_fields [.int 3, one, other] st = .ok (.tup [one]) st := by
  unfold m__law_fields b__law_fields
  simp -dsimp [Γ__law_fields, g__law_fields, r_3, sup, inH, endH]
theorem r_4 (one other : D) (st : Sto) : m__law_raise [.int 4, one, other] st = .exc ⟨6, [("at", one)]⟩ st := by
  unfold m__law_raise b__law_raise
  simp -dsimp [Γ__law_raise, exc]
theorem c_4 (one other : D) (st : Sto) : m__law_caught [.int 4, one, other] st = .ok (.lst [.bl false, .bl false, .bl false, .bl false, .bl true, .bl false, .bl false]) st := by
  unfold m__law_caught b__law_caught
  simp -dsimp [Γ__law_caught, g__law_caught, h__law_caught, r_4, sup, inH, endH, m__law_kinds, b__law_kinds, Γ__law_kinds]
theorem f_4 (one other : D) (st : Sto) : m__law_fields [.int 4, one, other] st = .ok (.tup [one]) st := by
  unfold m__law_fields b__law_fields
  simp -dsimp [Γ__law_fields, g__law_fields, r_4, sup, inH, endH]
theorem r_5 (one other : D) (st : Sto) : m__law_raise [.int 5, one, other] st = .exc ⟨7, [("number", one), ("reason", other)]⟩ st := by
  unfold m__law_raise b__law_raise
  simp -dsimp [Γ__law_raise, exc]
theorem c_5 (one other : D) (st : Sto) : m__law_caught [.int 5, one, other] st = .ok (.lst [.bl false, .bl false, .bl false, .bl false, .bl false, .bl true, .bl false]) st := by
  unfold m__law_caught b__law_caught
  simp -dsimp [Γ__law_caught, g__law_caught, h__law_caught, r_5, sup, inH, endH, m__law_kinds, b__law_kinds, Γ__law_kinds]
theorem f_5 (one other : D) (st : Sto) : m__law_fields [.int 5, one, other] st = .ok (.tup [one, other]) st := by
  unfold m__law_fields b__law_fields
  have h : ((Str.ofString "reason") == (Str.ofString "number")) = false := by decide +kernel
  have lk : List.lookup (Str.ofString "reason") [(Str.ofString "number", one), (Str.ofString "reason", other)] = some other := by
    rw [List.lookup_cons, h]
    simp
  simp -dsimp [lk, Γ__law_fields, g__law_fields, r_5, sup, inH, endH]
theorem r_6 (one other : D) (st : Sto) : m__law_raise [.int 6, one, other] st = .exc ⟨8, [("line", one)]⟩ st := by
  unfold m__law_raise b__law_raise
  simp -dsimp [Γ__law_raise, exc]
theorem c_6 (one other : D) (st : Sto) : m__law_caught [.int 6, one, other] st = .ok (.lst [.bl false, .bl false, .bl false, .bl false, .bl false, .bl false, .bl true]) st := by
  unfold m__law_caught b__law_caught
  simp -dsimp [Γ__law_caught, g__law_caught, h__law_caught, r_6, sup, inH, endH, m__law_kinds, b__law_kinds, Γ__law_kinds]
theorem f_6 (one other : D) (st : Sto) : m__law_fields [.int 6, one, other] st = .ok (.tup [one]) st := by
  unfold m__law_fields b__law_fields
  simp -dsimp [Γ__law_fields, g__law_fields, r_6, sup, inH, endH]
def lw_1 : S := (.set (.name 1) (.call 0 (.cons (.var 0) .nil)))
def lw_2 : S := (.set (.name 2) (.newc (.cons (.int 0) .nil)))
def lw_3 : S := (.ifs (.not (.call 4 .nil)) (.cons (.ret (.bl false)) .nil) .nil)
def lw_4 : S := (.set (.name 3) (.lst (.cons (.str "word") (.cons (.str "") (.cons (.str "form") (.cons (.int 0) (.cons (.int 17) (.cons (.neg (.int 3)) (.cons .non (.cons (.tup (.cons (.str "a") (.cons (.int 5) .nil))) (.cons (.str "a line") (.cons (.bl true) .nil))))))))))))
def lw_5_1 : S := (.par [(5, false), (6, false)] (.cons (.call 3 (.cons (.var 3) (.cons (.var 1) (.cons (.var 2) .nil)))) (.cons (.call 3 (.cons (.var 3) (.cons (.var 1) (.cons (.var 2) .nil)))) .nil)))
def lw_5_2 : S := (.ifs (.cmp .ne (.call 7 (.cons (.var 4) (.cons (.var 5) (.cons (.var 6) .nil)))) (.comp [7] (.name 7) (.rng1 (.int 7)) .none (.cmp .eq (.var 7) (.var 4)))) (.cons (.ret (.bl false)) .nil) .nil)
def lw_5_3 : S := (.ifs (.cmp .ne (.bi .repr1 (.cons (.call 8 (.cons (.var 4) (.cons (.var 5) (.cons (.var 6) .nil)))) .nil)) (.bi .repr1 (.cons (.ite (.cmp .eq (.var 4) (.int 5)) (.tup (.cons (.var 5) (.cons (.var 6) .nil))) (.tup (.cons (.var 5) .nil))) .nil))) (.cons (.ret (.bl false)) .nil) .nil)
def lw_5_b : Ss := (.cons lw_5_1 (.cons lw_5_2 (.cons lw_5_3 .nil)))
def lw_5 : S := (.fors (.name 4) (.rng1 (.int 7)) lw_5_b)
def lw_6 : S := (.ret (.bl true))
def lw : Ss := (.cons lw_1 (.cons lw_2 (.cons lw_3 (.cons lw_4 (.cons lw_5 (.cons lw_6 .nil))))))

theorem rng7 : rngD 0 7 = [.int 0, .int 1, .int 2, .int 3, .int 4, .int 5, .int 6] := rfl
/-- what may be given -/
def vals : List D := [.str "word", .str "", .str "form", .int 0, .int 17, .int (-3), .non, .tup [.str "a", .int 5], .str "a line", .bl true]
theorem vals_pv {d : D} (h : d ∈ vals) : Pv 20 1 d := by
  unfold vals at h
  simp at h
  rcases h with rfl | rfl | rfl | rfl | rfl | rfl | rfl | rfl | rfl | rfl
  · exact (Txt.lit (z := "word") 4 (by decide)).pv.le (by decide) (by decide)
  · exact (Txt.lit (z := "") 0 (by decide)).pv.le (by decide) (by decide)
  · exact (Txt.lit (z := "form") 4 (by decide)).pv.le (by decide) (by decide)
  · exact (pv_int (bits_mono (a := 5) (by decide) (by decide))).le (by decide) (by decide)
  · exact (pv_int (bits_mono (a := 5) (by decide) (by decide))).le (by decide) (by decide)
  · exact (pv_int (bits_mono (a := 5) (by decide) (by decide))).le (by decide) (by decide)
  · exact pv_non.le (by decide) (by decide)
  · exact (pv_tup (pvl_cons (Txt.lit (z := "a") 1 (by decide)).pv (pvl_cons (pv_int (bits_mono (a := 5) (by decide) (by decide))) (pvl_nil0 0)))).le (by decide) (by decide)
  · exact (Txt.lit (z := "a line") 6 (by decide)).pv.le (by decide) (by decide)
  · exact (pv_bl true).le (by decide) (by decide)
def Inv (S : D) (L : List Int) (n : Nat) (ρ : Ro) (s : Sto) : Prop := ∃ x4 x5 x6 x7, ρ = [.sh S, .sh (.lst (L.map D.int)), .sh (.ref 0), .sh (.lst vals), x4, x5, x6, x7] ∧ s = [[.int (2 * n : Nat)]]
theorem turn_k {S : D} {L : List Int} (hL : Dr L) (k : Int) (hk : k = 0 ∨ k = 1 ∨ k = 2 ∨ k = 3 ∨ k = 4 ∨ k = 5 ∨ k = 6) (p : Nat) (hp : p < 2 ^ 38) (x4 x5 x6 x7 : Slot) :
    ∃ y5 y6, evSs Γ_law lw_5_b [.sh S, .sh (.lst (L.map D.int)), .sh (.ref 0), .sh (.lst vals), .sh (.int k), x5, x6, x7] [[.int p]] = .nx [.sh S, .sh (.lst (L.map D.int)), .sh (.ref 0), .sh (.lst vals), .sh (.int k), y5, y6, x7] [[.int (p + 2 : Nat)]] := by
  obtain ⟨a, ha, e1⟩ := e_one hL p (by omega) vals (by decide)
  obtain ⟨b, hb, e2⟩ := e_one hL (p + 1) (by omega) vals (by decide)
  have pa := vals_pv ha
  have pb := vals_pv hb
  obtain ⟨z1, h1, _⟩ := (pv_tup (pvl_cons pa (pvl_nil0 1))).rep (by decide) (by decide)
  obtain ⟨z2, h2, _⟩ := (pv_tup (pvl_cons pa (pvl_cons pb (pvl_nil0 1)))).rep (by decide) (by decide)
  have q1 : evBi .repr1 [.tup [a]] = some (.str z1) := h1
  have q2 : evBi .repr1 [.tup [a, b]] = some (.str z2) := h2
  have c1 : (p : Int) + 1 + 1 = p + 2 := by omega
  refine ⟨.sh a, .sh b, ?_⟩
  generalize vals = V at *
  unfold lw_5_b lw_5_1 lw_5_2 lw_5_3
  rcases hk with rfl | rfl | rfl | rfl | rfl | rfl | rfl
  · have ne : cmpD .ne (.lst [.bl true, .bl false, .bl false, .bl false, .bl false, .bl false, .bl false]) (.lst [.bl true, .bl false, .bl false, .bl false, .bl false, .bl false, .bl false]) = some false := by decide +kernel
    simp -dsimp [Γ_law, g_law, c1] at e1 e2
    simp -dsimp [Γ_law, g_law, c1, e1, e2, c_0, f_0, rng7, wipeR, ne, q1, q2, d_nes]
  · have ne : cmpD .ne (.lst [.bl false, .bl true, .bl false, .bl false, .bl false, .bl false, .bl false]) (.lst [.bl false, .bl true, .bl false, .bl false, .bl false, .bl false, .bl false]) = some false := by decide +kernel
    simp -dsimp [Γ_law, g_law, c1] at e1 e2
    simp -dsimp [Γ_law, g_law, c1, e1, e2, c_1, f_1, rng7, wipeR, ne, q1, q2, d_nes]
  · have ne : cmpD .ne (.lst [.bl false, .bl false, .bl true, .bl false, .bl false, .bl false, .bl false]) (.lst [.bl false, .bl false, .bl true, .bl false, .bl false, .bl false, .bl false]) = some false := by decide +kernel
    simp -dsimp [Γ_law, g_law, c1] at e1 e2
    simp -dsimp [Γ_law, g_law, c1, e1, e2, c_2, f_2, rng7, wipeR, ne, q1, q2, d_nes]
  · have ne : cmpD .ne (.lst [.bl false, .bl false, .bl false, .bl true, .bl false, .bl false, .bl false]) (.lst [.bl false, .bl false, .bl false, .bl true, .bl false, .bl false, .bl false]) = some false := by decide +kernel
    simp -dsimp [Γ_law, g_law, c1] at e1 e2
    simp -dsimp [Γ_law, g_law, c1, e1, e2, c_3, f_3, rng7, wipeR, ne, q1, q2, d_nes]
  · have ne : cmpD .ne (.lst [.bl false, .bl false, .bl false, .bl false, .bl true, .bl false, .bl false]) (.lst [.bl false, .bl false, .bl false, .bl false, .bl true, .bl false, .bl false]) = some false := by decide +kernel
    simp -dsimp [Γ_law, g_law, c1] at e1 e2
    simp -dsimp [Γ_law, g_law, c1, e1, e2, c_4, f_4, rng7, wipeR, ne, q1, q2, d_nes]
  · have ne : cmpD .ne (.lst [.bl false, .bl false, .bl false, .bl false, .bl false, .bl true, .bl false]) (.lst [.bl false, .bl false, .bl false, .bl false, .bl false, .bl true, .bl false]) = some false := by decide +kernel
    simp -dsimp [Γ_law, g_law, c1] at e1 e2
    simp -dsimp [Γ_law, g_law, c1, e1, e2, c_5, f_5, rng7, wipeR, ne, q1, q2, d_nes]
  · have ne : cmpD .ne (.lst [.bl false, .bl false, .bl false, .bl false, .bl false, .bl false, .bl true]) (.lst [.bl false, .bl false, .bl false, .bl false, .bl false, .bl false, .bl true]) = some false := by decide +kernel
    simp -dsimp [Γ_law, g_law, c1] at e1 e2
    simp -dsimp [Γ_law, g_law, c1, e1, e2, c_6, f_6, rng7, wipeR, ne, q1, q2, d_nes]
theorem law_true (ns : List Int) (hn : ns.length ≤ 63) : ∃ st, m_law [.scr ns] [] = .ok (.bl true) st := by
  obtain ⟨L, e0, hL, hl⟩ := e_draws ns hn []
  have step : ∀ x ∈ rngD 0 7, ∀ n ρ s, n < 7 → Inv (.scr ns) L n ρ s → ∃ ρ' s', turnS Γ_law (.name 4) lw_5_b x ρ s = .nx ρ' s' ∧ Inv (.scr ns) L (n + 1) ρ' s' := by
    rintro x hx n ρ s hn ⟨x4, x5, x6, x7, rfl, rfl⟩
    obtain ⟨k, rfl, k0, k1⟩ := rngD_mem hx
    obtain ⟨y5, y6, e⟩ := turn_k (S := .scr ns) hL k (by omega) (2 * n) (by omega) x4 x5 x6 x7
    exact ⟨_, _, e, .sh (.int k), y5, y6, x7, rfl, by rw [Nat.mul_succ]⟩
  obtain ⟨ρ, s, ef, x4, x5, x6, x7, rfl, rfl⟩ := forS_all (Inv (.scr ns) L) 7 (rngD 0 7) 0 [.sh (.scr ns), .sh (.lst (L.map D.int)), .sh (.ref 0), .sh (.lst vals), .un, .un, .un, .un] [[.int 0]] (by rw [rngD_length]; decide) ⟨.un, .un, .un, .un, rfl, rfl⟩ step
  refine ⟨[[.int 14]], ?_⟩
  show run Γ_law 1 lw 8 [.scr ns] [] = _
  have k1 : evS Γ_law lw_1 ([.sh (.scr ns)] ++ List.replicate 7 .un) [] = .nx ([.sh (.scr ns), .sh (.lst (L.map D.int))] ++ List.replicate 6 .un) [] := by
    unfold lw_1
    simp -dsimp [Γ_law, g_law, e0]
  have k2 : evS Γ_law lw_2 ([.sh (.scr ns), .sh (.lst (L.map D.int))] ++ List.replicate 6 .un) [] = .nx ([.sh (.scr ns), .sh (.lst (L.map D.int)), .sh (.ref 0)] ++ List.replicate 5 .un) [[.int 0]] := by
    unfold lw_2
    simp -dsimp
  have k3 : evS Γ_law lw_3 ([.sh (.scr ns), .sh (.lst (L.map D.int)), .sh (.ref 0)] ++ List.replicate 5 .un) [[.int 0]] = .nx ([.sh (.scr ns), .sh (.lst (L.map D.int)), .sh (.ref 0)] ++ List.replicate 5 .un) [[.int 0]] := by
    unfold lw_3
    simp -dsimp [Γ_law, g_law, limits]
  have k4 : evS Γ_law lw_4 ([.sh (.scr ns), .sh (.lst (L.map D.int)), .sh (.ref 0)] ++ List.replicate 5 .un) [[.int 0]] = .nx [.sh (.scr ns), .sh (.lst (L.map D.int)), .sh (.ref 0), .sh (.lst vals), .un, .un, .un, .un] [[.int 0]] := by
    unfold lw_4 vals
    simp -dsimp
  have k5 : evS Γ_law lw_5 [.sh (.scr ns), .sh (.lst (L.map D.int)), .sh (.ref 0), .sh (.lst vals), .un, .un, .un, .un] [[.int 0]] = .nx [.sh (.scr ns), .sh (.lst (L.map D.int)), .sh (.ref 0), .sh (.lst vals), x4, x5, x6, x7] [[.int 14]] := by
    have r : rng1D (.int 7) = some (rngD 0 7) := rfl
    unfold lw_5
    rw [y_fors, x_rng1, x_int, finR_val, Bd_ok, r, Op_some, Bs_ok, ef]
    rfl
  have k6 : evS Γ_law lw_6 [.sh (.scr ns), .sh (.lst (L.map D.int)), .sh (.ref 0), .sh (.lst vals), x4, x5, x6, x7] [[.int 14]] = .ret (.bl true) [[.int 14]] := by
    unfold lw_6
    simp -dsimp
  unfold lw
  show Rn (evSs Γ_law _ ([.sh (.scr ns)] ++ List.replicate 7 .un) []) = _
  rw [y_cons, k1, Sq_nx, y_cons, k2, Sq_nx, y_cons, k3, Sq_nx, y_cons, k4, Sq_nx, y_cons, k5, Sq_nx, y_cons, k6, Sq_ret, Rn_ret]
end Z.K00
set_option Elab.async false
set_option linter.all false
set_option maxRecDepth 100000
set_option maxHeartbeats 0
namespace Z.K00
open PySem PySem.Spec PyProof.Rows L2
abbrev prog : Program := PySem.Challenge.pw_portsalike_k00_errors_and_limits
def top (i : Nat) : Stmt := PySem.Challenge.pw_portsalike_k00_errors_and_limits.main.body.getD i (.Pass ⟨0, 0, 0, 0⟩)
def zcn0 : List PySem.Str := ["MAX_PART", "MAX_NAME", "MAX_PORTS", "MAX_NODES", "MAX_ELEMENTS", "MAX_LAWS", "MAX_BLOCKS", "MAX_TEXT", "MAX_TRIED", "MAX_STEPS", "MAX_DEGREE", "MAX_DIODES", "MAX_LINES"]
def zcn : List PySem.Str := zcn0
def zfn0 : List PySem.Str := ["_law_draws", "_law_more", "_law_take", "_law_one", "_law_limits_right", "_law_raise", "_law_kinds", "_law_caught", "_law_fields", "law"]
def zfn : List PySem.Str := zfn0
def zxn0 : List PySem.Str := ["WireError", "ReasonError", "ArgumentError", "CheckError", "PaperError", "TooMany", "TextError", "LogError", "CommandError"]
def zxn : List PySem.Str := zxn0
def zxf0 : List PySem.Str := ["reason", "at", "number", "line"]
def zxf : List PySem.Str := zxf0
def z : Nm := ⟨zcn, zfn, zxn, zxf⟩
abbrev s__law_draws : Stmt := top 24
abbrev s__law_more : Stmt := top 25
abbrev s__law_take : Stmt := top 26
abbrev s__law_one : Stmt := top 27
abbrev s__law_limits_right : Stmt := top 28
abbrev s__law_raise : Stmt := top 29
abbrev s__law_kinds : Stmt := top 30
abbrev s__law_caught : Stmt := top 31
abbrev s__law_fields : Stmt := top 32
abbrev s_law : Stmt := top 33
def d__law_draws : He.DefD := ⟨("_law_draws", none), "_law_draws", "_law_draws", defArgs s__law_draws, defBody s__law_draws, defScope s__law_draws, [], []⟩
def d__law_more : He.DefD := ⟨("_law_more", none), "_law_more", "_law_more", defArgs s__law_more, defBody s__law_more, defScope s__law_more, [], []⟩
def d__law_take : He.DefD := ⟨("_law_take", none), "_law_take", "_law_take", defArgs s__law_take, defBody s__law_take, defScope s__law_take, [], []⟩
def d__law_one : He.DefD := ⟨("_law_one", none), "_law_one", "_law_one", defArgs s__law_one, defBody s__law_one, defScope s__law_one, [], []⟩
def d__law_limits_right : He.DefD := ⟨("_law_limits_right", none), "_law_limits_right", "_law_limits_right", defArgs s__law_limits_right, defBody s__law_limits_right, defScope s__law_limits_right, [], []⟩
def d__law_raise : He.DefD := ⟨("_law_raise", none), "_law_raise", "_law_raise", defArgs s__law_raise, defBody s__law_raise, defScope s__law_raise, [], []⟩
def d__law_kinds : He.DefD := ⟨("_law_kinds", none), "_law_kinds", "_law_kinds", defArgs s__law_kinds, defBody s__law_kinds, defScope s__law_kinds, [], []⟩
def d__law_caught : He.DefD := ⟨("_law_caught", none), "_law_caught", "_law_caught", defArgs s__law_caught, defBody s__law_caught, defScope s__law_caught, [], []⟩
def d__law_fields : He.DefD := ⟨("_law_fields", none), "_law_fields", "_law_fields", defArgs s__law_fields, defBody s__law_fields, defScope s__law_fields, [], []⟩
def d_law : He.DefD := ⟨("law", none), "law", "law", defArgs s_law, defBody s_law, defScope s_law, [], []⟩
def fn : List He.DefD := [d__law_draws, d__law_more, d__law_take, d__law_one, d__law_limits_right, d__law_raise, d__law_kinds, d__law_caught, d__law_fields, d_law]
section
variable {w : World} {K : PySem.W.Frag} {mg : Str → Option Value}
abbrev All (w : World) (K : PySem.W.Frag) (mg : Str → Option Value) := FnAll z prog w K mg
theorem chk__law_draws : chkSs z b__law_draws ⟨N__law_draws, defScope s__law_draws, none, true, false⟩ (defBody s__law_draws) = true := by decide +kernel
theorem ok__law_draws (T : Tells z cst sup exc fn prog K mg)  : All w K mg 2 0 "_law_draws" ["script"] m__law_draws := by
  refine FnAll.of (fns := g__law_draws) (fxs := noX) (k := 0) (N := N__law_draws) (ps := ["script"]) (b := b__law_draws) T rfl rfl ⟨rfl, rfl, rfl, by decide +kernel, rfl, by decide +kernel, by decide +kernel⟩ (fun _ _ _ _ _ _ us hl => match us, hl with | [_], _ => rfl) ?_ chk__law_draws (fun _ _ _ e => nomatch e)
  · intro base j n m e
    unfold g__law_draws at e
    cases e
theorem chk__law_more : chkSs z b__law_more ⟨N__law_more, defScope s__law_more, none, true, false⟩ (defBody s__law_more) = true := by decide +kernel
theorem ok__law_more (T : Tells z cst sup exc fn prog K mg)  : All w K mg 2 1 "_law_more" ["draws", "place"] m__law_more := by
  refine FnAll.of (fns := g__law_more) (fxs := noX) (k := 0) (N := N__law_more) (ps := ["draws", "place"]) (b := b__law_more) T rfl rfl ⟨rfl, rfl, rfl, by decide +kernel, rfl, by decide +kernel, by decide +kernel⟩ (fun _ _ _ _ _ _ us hl => match us, hl with | [_, _], _ => rfl) ?_ chk__law_more (fun _ _ _ e => nomatch e)
  · intro base j n m e
    unfold g__law_more at e
    cases e
theorem chk__law_take : chkSs z b__law_take ⟨N__law_take, defScope s__law_take, none, true, false⟩ (defBody s__law_take) = true := by decide +kernel
theorem ok__law_take (T : Tells z cst sup exc fn prog K mg) (a__law_more : All w K mg 2 1 "_law_more" ["draws", "place"] m__law_more) : All w K mg 3 2 "_law_take" ["draws", "at", "many"] m__law_take := by
  refine FnAll.of (fns := g__law_take) (fxs := noX) (k := 1) (N := N__law_take) (ps := ["draws", "at", "many"]) (b := b__law_take) T rfl rfl ⟨rfl, rfl, rfl, by decide +kernel, rfl, by decide +kernel, by decide +kernel⟩ (fun _ _ _ _ _ _ us hl => match us, hl with | [_, _, _], _ => rfl) ?_ chk__law_take (fun _ _ _ e => nomatch e)
  · intro base j n m e
    unfold g__law_take at e
    split at e
    · cases e; exact a__law_more.sees (by decide)
    · cases e
theorem chk__law_one : chkSs z b__law_one ⟨N__law_one, defScope s__law_one, none, true, false⟩ (defBody s__law_one) = true := by decide +kernel
theorem ok__law_one (T : Tells z cst sup exc fn prog K mg) (a__law_take : All w K mg 3 2 "_law_take" ["draws", "at", "many"] m__law_take) : All w K mg 4 3 "_law_one" ["rows", "draws", "at"] m__law_one := by
  refine FnAll.of (fns := g__law_one) (fxs := noX) (k := 2) (N := N__law_one) (ps := ["rows", "draws", "at"]) (b := b__law_one) T rfl rfl ⟨rfl, rfl, rfl, by decide +kernel, rfl, by decide +kernel, by decide +kernel⟩ (fun _ _ _ _ _ _ us hl => match us, hl with | [_, _, _], _ => rfl) ?_ chk__law_one (fun _ _ _ e => nomatch e)
  · intro base j n m e
    unfold g__law_one at e
    split at e
    · cases e; exact a__law_take.sees (by decide)
    · cases e
theorem chk__law_limits_right : chkSs z b__law_limits_right ⟨N__law_limits_right, defScope s__law_limits_right, none, true, false⟩ (defBody s__law_limits_right) = true := by decide +kernel
theorem ok__law_limits_right (T : Tells z cst sup exc fn prog K mg)  : All w K mg 2 4 "_law_limits_right" [] m__law_limits_right := by
  refine FnAll.of (fns := g__law_limits_right) (fxs := noX) (k := 0) (N := N__law_limits_right) (ps := []) (b := b__law_limits_right) T rfl rfl ⟨rfl, rfl, rfl, by decide +kernel, rfl, by decide +kernel, by decide +kernel⟩ (fun _ _ _ _ _ _ us hl => match us, hl with | [], _ => rfl) ?_ chk__law_limits_right (fun _ _ _ e => nomatch e)
  · intro base j n m e
    unfold g__law_limits_right at e
    cases e
theorem chk__law_raise : chkSs z b__law_raise ⟨N__law_raise, defScope s__law_raise, none, true, false⟩ (defBody s__law_raise) = true := by decide +kernel
theorem ok__law_raise (T : Tells z cst sup exc fn prog K mg)  : All w K mg 2 5 "_law_raise" ["k", "one", "other"] m__law_raise := by
  refine FnAll.of (fns := g__law_raise) (fxs := noX) (k := 0) (N := N__law_raise) (ps := ["k", "one", "other"]) (b := b__law_raise) T rfl rfl ⟨rfl, rfl, rfl, by decide +kernel, rfl, by decide +kernel, by decide +kernel⟩ (fun _ _ _ _ _ _ us hl => match us, hl with | [_, _, _], _ => rfl) ?_ chk__law_raise (fun _ _ _ e => nomatch e)
  · intro base j n m e
    unfold g__law_raise at e
    cases e
theorem chk__law_kinds : chkSs z b__law_kinds ⟨N__law_kinds, defScope s__law_kinds, none, false, true⟩ (defBody s__law_kinds) = true := by decide +kernel
theorem ok__law_kinds (T : Tells z cst sup exc fn prog K mg)  : FxAll z prog w K mg 2 6 "_law_kinds" "e" m__law_kinds := by
  exact FxAll.of (fns := g__law_kinds) (k := 1) (N := N__law_kinds) (b := b__law_kinds) T rfl rfl ⟨rfl, rfl, rfl, by decide +kernel, rfl, by decide +kernel, by decide +kernel⟩ (fun _ _ _ _ _ _ us hl => match us, hl with | [_], _ => rfl) (by decide +kernel) chk__law_kinds
theorem chk__law_caught : chkSs z b__law_caught ⟨N__law_caught, defScope s__law_caught, none, true, false⟩ (defBody s__law_caught) = true := by decide +kernel
theorem ok__law_caught (T : Tells z cst sup exc fn prog K mg) (a__law_raise : All w K mg 2 5 "_law_raise" ["k", "one", "other"] m__law_raise) (a__law_kinds : FxAll z prog w K mg 2 6 "_law_kinds" "e" m__law_kinds) : All w K mg 3 7 "_law_caught" ["k", "one", "other"] m__law_caught := by
  refine FnAll.of (fns := g__law_caught) (fxs := h__law_caught) (k := 1) (N := N__law_caught) (ps := ["k", "one", "other"]) (b := b__law_caught) T rfl rfl ⟨rfl, rfl, rfl, by decide +kernel, rfl, by decide +kernel, by decide +kernel⟩ (fun _ _ _ _ _ _ us hl => match us, hl with | [_, _, _], _ => rfl) ?_ chk__law_caught ?_
  · intro base j n m e
    unfold g__law_caught at e
    split at e
    · cases e; exact a__law_raise.sees (by decide)
    · cases e
  · intro base j m e
    unfold h__law_caught at e
    split at e
    · cases e; exact a__law_kinds.sees (by decide)
    · cases e
theorem chk__law_fields : chkSs z b__law_fields ⟨N__law_fields, defScope s__law_fields, none, true, false⟩ (defBody s__law_fields) = true := by decide +kernel
theorem ok__law_fields (T : Tells z cst sup exc fn prog K mg) (a__law_raise : All w K mg 2 5 "_law_raise" ["k", "one", "other"] m__law_raise) : All w K mg 3 8 "_law_fields" ["k", "one", "other"] m__law_fields := by
  refine FnAll.of (fns := g__law_fields) (fxs := noX) (k := 1) (N := N__law_fields) (ps := ["k", "one", "other"]) (b := b__law_fields) T rfl rfl ⟨rfl, rfl, rfl, by decide +kernel, rfl, by decide +kernel, by decide +kernel⟩ (fun _ _ _ _ _ _ us hl => match us, hl with | [_, _, _], _ => rfl) ?_ chk__law_fields (fun _ _ _ e => nomatch e)
  · intro base j n m e
    unfold g__law_fields at e
    split at e
    · cases e; exact a__law_raise.sees (by decide)
    · cases e
theorem chk_law : chkSs z b_law ⟨N_law, defScope s_law, none, true, false⟩ (defBody s_law) = true := by decide +kernel
theorem ok_law (T : Tells z cst sup exc fn prog K mg) (a__law_draws : All w K mg 2 0 "_law_draws" ["script"] m__law_draws) (a__law_one : All w K mg 4 3 "_law_one" ["rows", "draws", "at"] m__law_one) (a__law_limits_right : All w K mg 2 4 "_law_limits_right" [] m__law_limits_right) (a__law_caught : All w K mg 3 7 "_law_caught" ["k", "one", "other"] m__law_caught) (a__law_fields : All w K mg 3 8 "_law_fields" ["k", "one", "other"] m__law_fields) : All w K mg 5 9 "law" ["script"] m_law := by
  refine FnAll.of (fns := g_law) (fxs := noX) (k := 3) (N := N_law) (ps := ["script"]) (b := b_law) T rfl rfl ⟨rfl, rfl, rfl, by decide +kernel, rfl, by decide +kernel, by decide +kernel⟩ (fun _ _ _ _ _ _ us hl => match us, hl with | [_], _ => rfl) ?_ chk_law (fun _ _ _ e => nomatch e)
  · intro base j n m e
    unfold g_law at e
    split at e
    · cases e; exact a__law_draws.sees (by decide)
    · cases e; exact a__law_one.sees (by decide)
    · cases e; exact a__law_limits_right.sees (by decide)
    · cases e; exact a__law_caught.sees (by decide)
    · cases e; exact a__law_fields.sees (by decide)
    · cases e
theorem ok_all (T : Tells z cst sup exc fn prog K mg) : All w K mg 5 9 "law" ["script"] m_law := by
  have a__law_draws := ok__law_draws (w := w) T 
  have a__law_more := ok__law_more (w := w) T 
  have a__law_take := ok__law_take (w := w) T a__law_more
  have a__law_one := ok__law_one (w := w) T a__law_take
  have a__law_limits_right := ok__law_limits_right (w := w) T 
  have a__law_raise := ok__law_raise (w := w) T 
  have a__law_kinds := ok__law_kinds (w := w) T 
  have a__law_caught := ok__law_caught (w := w) T a__law_raise a__law_kinds
  have a__law_fields := ok__law_fields (w := w) T a__law_raise
  have a_law := ok_law (w := w) T a__law_draws a__law_one a__law_limits_right a__law_caught a__law_fields
  exact a_law
end
theorem bindP : ∀ j ps, exc j = some ps → BindP ps := by
  intro j ps e
  unfold exc at e
  split at e
  · cases e
    intro qual as body scope doc pm an cdv ct cc us h hl
    match as, us, h, hl with
    | [⟨x0, _, _⟩, ⟨x1, _, _⟩], [_, _], h, _ =>
      simp only [List.map_cons, List.map_nil, List.cons.injEq, and_true] at h
      obtain ⟨rfl, rfl⟩ := h
      rfl
  · cases e
    intro qual as body scope doc pm an cdv ct cc us h hl
    match as, us, h, hl with
    | [⟨x0, _, _⟩, ⟨x1, _, _⟩], [_, _], h, _ =>
      simp only [List.map_cons, List.map_nil, List.cons.injEq, and_true] at h
      obtain ⟨rfl, rfl⟩ := h
      rfl
  · cases e
    intro qual as body scope doc pm an cdv ct cc us h hl
    match as, us, h, hl with
    | [⟨x0, _, _⟩, ⟨x1, _, _⟩], [_, _], h, _ =>
      simp only [List.map_cons, List.map_nil, List.cons.injEq, and_true] at h
      obtain ⟨rfl, rfl⟩ := h
      rfl
  · cases e
    intro qual as body scope doc pm an cdv ct cc us h hl
    match as, us, h, hl with
    | [⟨x0, _, _⟩, ⟨x1, _, _⟩], [_, _], h, _ =>
      simp only [List.map_cons, List.map_nil, List.cons.injEq, and_true] at h
      obtain ⟨rfl, rfl⟩ := h
      rfl
  · cases e
    intro qual as body scope doc pm an cdv ct cc us h hl
    match as, us, h, hl with
    | [⟨x0, _, _⟩, ⟨x1, _, _⟩], [_, _], h, _ =>
      simp only [List.map_cons, List.map_nil, List.cons.injEq, and_true] at h
      obtain ⟨rfl, rfl⟩ := h
      rfl
  · cases e
    intro qual as body scope doc pm an cdv ct cc us h hl
    match as, us, h, hl with
    | [⟨x0, _, _⟩, ⟨x1, _, _⟩], [_, _], h, _ =>
      simp only [List.map_cons, List.map_nil, List.cons.injEq, and_true] at h
      obtain ⟨rfl, rfl⟩ := h
      rfl
  · cases e
    intro qual as body scope doc pm an cdv ct cc us h hl
    match as, us, h, hl with
    | [⟨x0, _, _⟩, ⟨x1, _, _⟩, ⟨x2, _, _⟩], [_, _, _], h, _ =>
      simp only [List.map_cons, List.map_nil, List.cons.injEq, and_true] at h
      obtain ⟨rfl, rfl, rfl⟩ := h
      rfl
  · cases e
    intro qual as body scope doc pm an cdv ct cc us h hl
    match as, us, h, hl with
    | [⟨x0, _, _⟩, ⟨x1, _, _⟩], [_, _], h, _ =>
      simp only [List.map_cons, List.map_nil, List.cons.injEq, and_true] at h
      obtain ⟨rfl, rfl⟩ := h
      rfl
  · cases e
def loose0 : List PySem.Str := ["ArgumentError", "CheckError", "CommandError", "LogError", "MAX_BLOCKS", "MAX_DEGREE", "MAX_DIODES", "MAX_ELEMENTS", "MAX_LAWS", "MAX_LINES", "MAX_NAME", "MAX_NODES", "MAX_PART", "MAX_PORTS", "MAX_STEPS", "MAX_TEXT", "MAX_TRIED", "PaperError", "ReasonError", "TextError", "TooMany", "WireError", "_law_caught", "_law_draws", "_law_fields", "_law_kinds", "_law_limits_right", "_law_more", "_law_one", "_law_raise"]
def loose1 : List PySem.Str := ["_law_take"]
def loose : List PySem.Str := loose0 ++ loose1
abbrev R : PySem.W.OpenRow := PySem.W.OpenLaw.row PySem.Challenge.rw_portsalike_k00_errors_and_limits
abbrev B : PySem.W.Frag → Bool := headB prog z cst sup exc
abbrev hk : PySem.W.Hook := hookX 6 B fn
def ob (s : PySem.W.SharedT) : He.AlD := obsXG 6 B fn (HandSHeadRun.getT s)
theorem ob_eq (s : PySem.W.SharedT) : ob s = hk.obs s.abs := obsXG_eq (HandSHeadRun.getT_eq s)
theorem run_eq (w : World) : HandSHeadRun.RunEq R (PySem.W.view R.prog [33]) hk ob 6000 loose w := by
  intro os
  kernel_rfl
theorem most : (PySem.Challenge.rw_portsalike_k00_errors_and_limits).most = some 63 := rfl
theorem holds_of (hm : ∀ ns : List Int, ns.length ≤ 63 → ∃ st, m_law [.scr ns] [] = .ok (.bl true) st) : PySem.Challenge.rw_portsalike_k00_errors_and_limits.Holds := by
  w_on; o_law
  refine HandSHeadRun.head_any (r := R) (q := PySem.W.view R.prog [33]) (H := hk) (ob := ob) (M := 6000) (loose := loose) (d := HandSHeadRun.topDef R.prog 33) (kwd := []) ob_eq
    (by kernel_rfl) (fun s => by kernel_rfl) run_eq (by kernel_rfl) (by kernel_rfl) (by kernel_rfl) (by rfl) (by first | assumption | decide +kernel) (by decide +kernel) ⟨rfl, rfl, rfl, rfl, rfl, by decide +kernel⟩ ?hw ?hc
  case hw => w_witness2
  case hc =>
    refine walk_end (l := PySem.Challenge.rw_portsalike_k00_errors_and_limits) (n := 63) (k := 5) (x := "script") (m := m_law) rfl (by decide) (by kernel_rfl) ⟨rfl, by decide, by decide⟩ hm ?F
    intro w mg fa h Y G hmg0
    obtain ⟨K, KX, c⟩ := Y
    have T := tells KX G c bindP
    have hmg : mg ("law" : PySem.Str) = some (.ref fa) := by
      have e : (HandSHeadRun.topDef R.prog 33).name = ("law" : PySem.Str) := by kernel_rfl
      rw [← e]
      exact hmg0
    obtain ⟨_, gl, _, fd, _, hF, hb⟩ := ok_all (w := w) T
    have e := hmg.symm.trans gl
    cases e
    exact ⟨K, fd, GCof K z, rfl, KX, fun s v => hb s [v] rfl, fun base _ _ => hF base⟩
end Z.K00
theorem PySem.Challenge.cw_portsalike_k00_errors_and_limits_holds : PySem.Challenge.rw_portsalike_k00_errors_and_limits.Holds := by
  exact Z.K00.holds_of Z.K00.law_true
