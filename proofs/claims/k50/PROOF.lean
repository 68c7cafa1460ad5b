import PyProof.Rows.All
import Wide.All
import OpenK.AllK
import Wide.FinOn
import HandS.ForMost
import HandS.Conv
import HandS.Rev
import HandS.TupAny
import HandS.IsInst
import HandS.SortInts
import HandS.Strs
import HandS.Deep
import HandS.TupLe
import HandS.Flow
import HandS.TupMul
import HandS.Style
import HandS.WordsList
import HandS.SetFor
import HandS.SetBool
import HandS.TupSets
import HandS.Sort
import PySem.Challenge.RW_readwhilechanged_k50_steady_circuits_by
set_option Elab.async false
set_option linter.all false
set_option maxRecDepth 100000
section
set_option maxHeartbeats 4000000
/-! Plain data, what stands for it in the abstract heap, what is owned. -/
namespace Cr
open PySem PySem.Spec PyProof.Rows L2

/-- plain data; fls: a list that is only read (the script) -/
inductive D where
  | non | bl (b : Bool) | int (i : Int) | str (s : Str)
  | tup (xs : List D) | lst (xs : List D) | fls (xs : List D)
  deriving Inhabited

mutual
/-- v stands for d, in the heap S whose objects do not change any more -/
inductive Rep (K : PySem.W.Frag) (S : Hp) : V → D → Prop
  | non : Rep K S .non .non
  | bl (b : Bool) : Rep K S (.bl b) (.bl b)
  | int (i : Int) : Rep K S (.int i) (.int i)
  | str (x : Str) : Rep K S (.str x) (.str x)
  | tup {a : Addr} {vs : List V} {ds : List D} : SqT K S a vs → RepAll K S vs ds → Rep K S (.ref a) (.tup ds)
  | lst {a : Addr} {vs : List V} {ds : List D} : S a = some (.lst vs) → RepAll K S vs ds → Rep K S (.ref a) (.lst ds)
  | fls {a : Addr} {vs : List V} {ds : List D} : SqL K S a vs → RepAll K S vs ds → Rep K S (.ref a) (.fls ds)
inductive RepAll (K : PySem.W.Frag) (S : Hp) : List V → List D → Prop
  | nil : RepAll K S [] []
  | cons {v : V} {d : D} {vs : List V} {ds : List D} : Rep K S v d → RepAll K S vs ds → RepAll K S (v :: vs) (d :: ds)
end
mutual
/-- v stands for d; the lists at as (and no others of it) are owned: nothing else leads to them -/
inductive DOwn (K : PySem.W.Frag) (S H : Hp) : V → D → List Addr → Prop
  | rep {v : V} {d : D} : Rep K S v d → DOwn K S H v d []
  | lst {a : Addr} {vs : List V} {ds : List D} {as : List Addr} : H a = some (.lst vs) → DOwnAll K S H vs ds as → DOwn K S H (.ref a) (.lst ds) (a :: as)
inductive DOwnAll (K : PySem.W.Frag) (S H : Hp) : List V → List D → List Addr → Prop
  | nil : DOwnAll K S H [] [] []
  | cons {v : V} {d : D} {vs : List V} {ds : List D} {as bs : List Addr} : DOwn K S H v d as → DOwnAll K S H vs ds bs → DOwnAll K S H (v :: vs) (d :: ds) (as ++ bs)
end

theorem Same.seqT {K : PySem.W.Frag} {H H' : Hp} {a : Addr} {xs : List V} (e : Same H H') (h : SqT K H a xs) : SqT K H' a xs := by
  rcases h with (h | ⟨o, h⟩) | h
  · exact .inl (.inl (e _ _ h))
  · exact .inl (.inr ⟨o, e _ _ h⟩)
  · exact .inr h

section
variable {K : PySem.W.Frag} {S S' H H' : Hp}
mutual
theorem Rep.mono (m : Same S S') : ∀ {v : V} {d : D}, Rep K S v d → Rep K S' v d
  | _, _, .non => .non
  | _, _, .bl b => .bl b
  | _, _, .int i => .int i
  | _, _, .str i => .str i
  | _, _, .tup h r => .tup (Same.seqT m h) (RepAll.mono m r)
  | _, _, .lst h r => .lst (m _ _ h) (RepAll.mono m r)
  | _, _, .fls h r => .fls (m.seq h) (RepAll.mono m r)
theorem RepAll.mono (m : Same S S') : ∀ {vs : List V} {ds : List D}, RepAll K S vs ds → RepAll K S' vs ds
  | _, _, .nil => .nil
  | _, _, .cons h r => .cons (Rep.mono m h) (RepAll.mono m r)
end
mutual
theorem DOwn.mono (m : Same S S') : ∀ {v : V} {d : D} {as : List Addr}, DOwn K S H v d as → (∀ a ∈ as, H' a = H a) → DOwn K S' H' v d as
  | _, _, _, .rep h, _ => .rep (h.mono m)
  | _, _, _, .lst h r, e => .lst ((e _ (by simp)).trans h) (DOwnAll.mono m r fun a ha => e a (by simp [ha]))
theorem DOwnAll.mono (m : Same S S') : ∀ {vs : List V} {ds : List D} {as : List Addr}, DOwnAll K S H vs ds as → (∀ a ∈ as, H' a = H a) → DOwnAll K S' H' vs ds as
  | _, _, _, .nil, _ => .nil
  | _, _, _, .cons h r, e => .cons (DOwn.mono m h fun a ha => e a (by simp [ha])) (DOwnAll.mono m r fun a ha => e a (by simp [ha]))
end
/-- the owned lists at as are given away: they join S -/
def frz (S H : Hp) (as : List Addr) : Hp := fun b => if b ∈ as then H b else S b
theorem frz_mono (sub : Same S H) (as : List Addr) : Same S (frz S H as) := fun b o h => by
  unfold frz
  split
  · exact sub _ _ h
  · exact h
theorem frz_sub (sub : Same S H) (as : List Addr) : Same (frz S H as) H := fun b o h => by
  unfold frz at h
  split at h
  · exact h
  · exact sub _ _ h
theorem frz_in {as : List Addr} {b : Addr} (h : b ∈ as) : frz S H as b = H b := if_pos h
mutual
theorem DOwn.frz_ (m : Same S S') : ∀ {v : V} {d : D} {as : List Addr}, DOwn K S H v d as → (∀ a ∈ as, S' a = H a) → Rep K S' v d
  | _, _, _, .rep h, _ => h.mono m
  | _, _, _, .lst h r, e => .lst ((e _ (by simp)).trans h) (DOwnAll.frz_ m r fun a ha => e a (by simp [ha]))
theorem DOwnAll.frz_ (m : Same S S') : ∀ {vs : List V} {ds : List D} {as : List Addr}, DOwnAll K S H vs ds as → (∀ a ∈ as, S' a = H a) → RepAll K S' vs ds
  | _, _, _, .nil, _ => .nil
  | _, _, _, .cons h r, e => .cons (DOwn.frz_ m h fun a ha => e a (by simp [ha])) (DOwnAll.frz_ m r fun a ha => e a (by simp [ha]))
end
theorem DOwn.freeze (sub : Same S H) {v : V} {d : D} {as : List Addr} (h : DOwn K S H v d as) : Rep K (frz S H as) v d :=
  h.frz_ (frz_mono sub as) fun _ ha => frz_in ha
mutual
theorem DOwn.there : ∀ {v : V} {d : D} {as : List Addr}, DOwn K S H v d as → ∀ a ∈ as, ∃ xs, H a = some (.lst xs)
  | _, _, _, .rep h, _, ha => nomatch ha
  | _, _, _, .lst h r, b, hb => by
    rcases List.mem_cons.mp hb with e | e
    · subst e; exact ⟨_, h⟩
    · exact DOwnAll.there r b e
theorem DOwnAll.there : ∀ {vs : List V} {ds : List D} {as : List Addr}, DOwnAll K S H vs ds as → ∀ a ∈ as, ∃ xs, H a = some (.lst xs)
  | _, _, _, .nil, _, ha => nomatch ha
  | _, _, _, .cons h r, b, hb => by
    rcases List.mem_append.mp hb with e | e
    · exact DOwn.there h b e
    · exact DOwnAll.there r b e
end
theorem RepAll.own : ∀ {vs : List V} {ds : List D}, RepAll K S vs ds → DOwnAll K S H vs ds []
  | _, _, .nil => .nil
  | _, _, .cons h r => .cons (as := []) (bs := []) (.rep h) (RepAll.own r)
theorem RepAll.length : ∀ {vs : List V} {ds : List D}, RepAll K S vs ds → vs.length = ds.length
  | _, _, .nil => rfl
  | _, _, .cons _ r => by simp [RepAll.length r]
theorem DOwnAll.length : ∀ {vs : List V} {ds : List D} {as : List Addr}, DOwnAll K S H vs ds as → vs.length = ds.length
  | _, _, _, .nil => rfl
  | _, _, _, .cons _ r => by simp [DOwnAll.length r]
theorem DOwn.of_nil {v : V} {d : D} {as : List Addr} (h : DOwn K S H v d as) (e : as = []) : Rep K S v d := by
  cases h with
  | rep h => exact h
  | lst => cases e
theorem DOwnAll.of_nil : ∀ {vs : List V} {ds : List D} {as : List Addr}, DOwnAll K S H vs ds as → as = [] → RepAll K S vs ds
  | _, _, _, .nil, _ => .nil
  | _, _, _, .cons h r, e => by
    have e2 := List.append_eq_nil_iff.mp e
    exact .cons (h.of_nil e2.1) (r.of_nil e2.2)
/-- not a list at the top -/
def nl : D → Bool
  | .lst _ => false
  | _ => true
theorem DOwn.of_nl {v : V} {d : D} {as : List Addr} (h : DOwn K S H v d as) (e : nl d = true) : as = [] ∧ Rep K S v d := by
  cases h with
  | rep h => exact ⟨rfl, h⟩
  | lst => cases e
theorem DOwnAll.of_nl : ∀ {vs : List V} {ds : List D} {as : List Addr}, DOwnAll K S H vs ds as → ds.all nl = true → as = [] ∧ RepAll K S vs ds
  | _, _, _, .nil, _ => ⟨rfl, .nil⟩
  | _, _, _, .cons h r, e => by
    rw [List.all_cons, Bool.and_eq_true] at e
    obtain ⟨e1, r1⟩ := h.of_nl e.1
    obtain ⟨e2, r2⟩ := r.of_nl e.2
    exact ⟨by rw [e1, e2]; rfl, .cons r1 r2⟩
/-- the items may be read as they stand -/
def eok (fl : Bool) (ds : List D) : Bool := !fl || ds.all nl
theorem RepAll.get : ∀ {vs : List V} {ds : List D} {i : Nat} {d : D}, RepAll K S vs ds → ds[i]? = some d → ∃ v, vs[i]? = some v ∧ Rep K S v d
  | _, _, _, _, .nil, e => by simp at e
  | _, _, 0, _, .cons r _, e => by simp at e; subst e; exact ⟨_, rfl, r⟩
  | _, _, i + 1, d, .cons _ t, e => by
    obtain ⟨u, h1, h2⟩ := RepAll.get (i := i) (d := d) t (by simpa using e)
    exact ⟨u, by simpa using h1, h2⟩
theorem RepAll.append : ∀ {vs ws : List V} {ds es : List D}, RepAll K S vs ds → RepAll K S ws es → RepAll K S (vs ++ ws) (ds ++ es)
  | _, _, _, _, .nil, s => s
  | _, _, _, _, .cons h r, s => .cons h (RepAll.append r s)
theorem RepAll.take : ∀ {vs : List V} {ds : List D} (n : Nat), RepAll K S vs ds → RepAll K S (vs.take n) (ds.take n)
  | _, _, 0, _ => .nil
  | _, _, _ + 1, .nil => .nil
  | _, _, n + 1, .cons r t => .cons r (RepAll.take n t)
theorem RepAll.drop : ∀ {vs : List V} {ds : List D} (n : Nat), RepAll K S vs ds → RepAll K S (vs.drop n) (ds.drop n)
  | _, _, 0, r => r
  | _, _, _ + 1, .nil => .nil
  | _, _, n + 1, .cons _ t => RepAll.drop n t
theorem RepAll.reverse {vs : List V} {ds : List D} (h : RepAll K S vs ds) : RepAll K S vs.reverse ds.reverse := by
  induction ds generalizing vs with
  | nil => cases h; exact .nil
  | cons d ds ih =>
    cases h with
    | cons h r =>
      rw [List.reverse_cons, List.reverse_cons]
      exact (ih r).append (.cons h .nil)
theorem RepAll.rep {vs : List V} {ds : List D} (h : RepAll K S vs ds) : ∀ k : Nat, RepAll K S (List.replicate k vs).flatten (List.replicate k ds).flatten
  | 0 => .nil
  | k + 1 => by
    rw [List.replicate_succ, List.replicate_succ, List.flatten_cons, List.flatten_cons]
    exact h.append (h.rep k)
theorem RepAll.set {v : V} {d : D} (h : Rep K S v d) : ∀ {vs : List V} {ds : List D} (i : Nat), RepAll K S vs ds → RepAll K S (vs.set i v) (ds.set i d)
  | _, _, _, .nil => .nil
  | _, _, 0, .cons _ t => .cons h t
  | _, _, i + 1, .cons q t => .cons q (RepAll.set h i t)
theorem RepAll.ints : ∀ (ns : List Int), RepAll K S (ns.map V.int) (ns.map D.int)
  | [] => .nil
  | n :: ns => .cons (.int n) (RepAll.ints ns)
theorem RepAll.ints_inv : ∀ {vs : List V} {ns : List Int}, RepAll K S vs (ns.map D.int) → vs = ns.map V.int
  | _, [], .nil => rfl
  | _, n :: ns, .cons h r => by
    cases h
    rw [RepAll.ints_inv r]
    rfl
end
end Cr
end

section
set_option maxHeartbeats 4000000
/-! The core syntax and its evaluator over plain data. -/
namespace Cr
open PySem PySem.Spec PyProof.Rows L2

/-- an exception: its class, its fields -/
structure Xc where
  cls : Str
  fs : List (Str × D)
inductive Out (α : Type) where
  | ok (a : α) | exc (x : Xc) | bad
  deriving Inhabited
def Out.bind {α β : Type} : Out α → (α → Out β) → Out β
  | .ok a, f => f a
  | .exc x, _ => .exc x
  | .bad, _ => .bad
instance : Monad Out where
  pure := .ok
  bind := Out.bind
@[simp] theorem ok_bind {α β : Type} (a : α) (f : α → Out β) : (Out.ok a >>= f) = f a := rfl
@[simp] theorem exc_bind {α β : Type} (x : Xc) (f : α → Out β) : ((Out.exc x : Out α) >>= f) = .exc x := rfl
@[simp] theorem bad_bind {α β : Type} (f : α → Out β) : ((Out.bad : Out α) >>= f) = .bad := rfl
@[simp] theorem pure_ok {α : Type} (a : α) : (pure a : Out α) = .ok a := rfl
/-- an answer, and whether it is owned (a new list) -/
abbrev R := Out (D × Bool)
/-- the names' values by slots, and whether they are owned -/
abbrev En := List (Option (D × Bool))

inductive Ty where | bool | int | str | tuple | list | dict
  deriving DecidableEq
/-- built-ins by name, of one, two arguments -/
inductive Bf where
  | int | abs | len | list | tuple | sorted | sortedSet | any | all | sum | min | max | min2 | max2 | str | divmod | isi (t : Ty) | listRange
  deriving DecidableEq
inductive Gx where
  | nm (i : Nat)
  | tup (gs : List Gx)
mutual
inductive Ex where
  | var (i : Nat) | bor (i : Nat)
  | non | bl (b : Bool) | int (n : Int) | str (s : Str)
  | glob (x : Str) (d : D)
  | bin (op : Operator) (a b : Ex)
  | neg (a : Ex) | inv (a : Ex) | not (a : Ex)
  | cmp (op : CmpOp) (a b : Ex)
  | and (a b : Ex) | or (a b : Ex)
  | ife (t : Tx) (a b : Ex)
  | tup (es : List Ex) | lst (es : List Ex)
  | ix (a i : Ex)
  | slc (a : Ex) (lo hi : Option Ex)
  | call (f : Str) (es : List Ex)
  | blt (f : Bf) (es : List Ex)
  | lc (own : List Nat) (g : Gx) (it : Ix) (t : Option Tx) (e : Ex)
  | ssc (own : List Nat) (g : Gx) (it : Ix) (t : Option Tx) (e : Ex)
  | rvs (a : Ex)
inductive Tx where
  | e (a : Ex)
  | cmp (op : CmpOp) (a b : Ex)
  | and (a b : Tx) | or (a b : Tx) | not (a : Tx)
  | inr (neg : Bool) (a n : Ex)
inductive Ix where
  | seq (e : Ex) | rng (a : Ex) | rng2 (a b : Ex) | rev (e : Ex)
end
inductive Sx where
  | set (g : Gx) (e : Ex)
  | own (i : Nat) (e : Ex)
  | ret (e : Ex) | retn | retv (i : Nat)
  | ifs (t : Tx) (a b : List Sx)
  | fors (g : Gx) (it : Ix) (body : List Sx)
  | whl (t : Tx) (body : List Sx)
  | app (i : Nat) (e : Ex)
  | pop (g : Gx) (i : Nat)
  | seti (i : Nat) (k e : Ex)
  | frz (i : Nat)
  | aug (i : Nat) (op : Operator) (e : Ex)
  | pass | brk | cont

/-! ### names -/
def look (Γ : En) (i : Nat) : R := match Γ[i]? with
  | some (some p) => .ok p
  | _ => .bad
def lookV (Γ : En) (i : Nat) : R := match Γ[i]? with
  | some (some (d, false)) => .ok (d, false)
  | _ => .bad
def put (Γ : En) (i : Nat) (d : D) (fl : Bool) : Option En := if i < Γ.length then some (Γ.set i (some (d, fl))) else none
mutual
def asg : Gx → D → En → Option En
  | .nm i, d, Γ => put Γ i d false
  | .tup gs, .tup ds, Γ => asgs gs ds Γ
  | .tup _, _, _ => none
def asgs : List Gx → List D → En → Option En
  | [], [], Γ => some Γ
  | g :: gs, d :: ds, Γ => match asg g d Γ with
    | some Γ' => asgs gs ds Γ'
    | none => none
  | _, _, _ => none
end
mutual
/-- the target stores into these slots alone -/
def Gx.within (own : List Nat) : Gx → Bool
  | .nm i => own.contains i
  | .tup gs => gWithin own gs
def gWithin (own : List Nat) : List Gx → Bool
  | [] => true
  | g :: gs => g.within own && gWithin own gs
end
def wipeE (Γ : En) : List Nat → En
  | [] => Γ
  | v :: vs => (wipeE Γ vs).set v none

/-! ### operators -/
def up {α : Type} : Option α → Out α
  | some a => .ok a
  | none => .bad
@[simp] theorem up_some {α : Type} (a : α) : up (some a) = .ok a := rfl
@[simp] theorem up_none {α : Type} : up (none : Option α) = .bad := rfl
def pb (d : D) : R := .ok (d, false)

def szOk (n : Nat) : Bool := decide (n ≤ sizeLine)
def D.seq : D → Option (List D)
  | .tup ds => some ds
  | .lst ds => some ds
  | .fls ds => some ds
  | _ => none
abbrev RO := Option (D × Bool)
def pbO (d : D) : RO := some (d, false)
def mulOk (i j : Int) : Bool := decide ((-(2 ^ 64) < i ∧ i < 2 ^ 64) ∨ (-(2 ^ 64) < j ∧ j < 2 ^ 64))
theorem mulOk_of {i j : Int} (h : mulOk i j = true) : CMul i j := by
  have h := of_decide_eq_true h
  exact h
def shOk (i j : Int) : Bool := decide (0 ≤ j ∧ j ≤ 1000000 ∧ i.natAbs < 2 ^ 64)
theorem shOk_of {i j : Int} (h : shOk i j = true) : CPow i j := by
  have h := of_decide_eq_true h
  exact h
def dvOk (j : Int) : Bool := decide (0 < j ∧ j < 1073741824)
theorem dvOk_of {i j : Int} (h : dvOk j = true) : CDiv i j := by
  have h := of_decide_eq_true h
  exact h
/-- the operator on two values, each with its mark -/
def binD (op : Operator) (x : D) (fx : Bool) (y : D) (fy : Bool) : RO := match op, x, y with
  | .Add, .int i, .int j => pbO (.int (i + j))
  | .Sub, .int i, .int j => pbO (.int (i - j))
  | .Mult, .int i, .int j => if mulOk i j then pbO (.int (i * j)) else none
  | .Mult, .tup xs, .int k => if decide (-(2 ^ 62) ≤ k ∧ k ≤ 1000 ∧ xs.length ≤ 1000) then pbO (.tup (List.replicate k.toNat xs).flatten) else none
  | .FloorDiv, .int i, .int j => if dvOk j then pbO (.int (i / j)) else none
  | .Mod, .int i, .int j => if decide (0 < j) then pbO (.int (i % j)) else none
  | .LShift, .int i, .int j => if shOk i j then pbO (.int (i * 2 ^ j.toNat)) else none
  | .RShift, .int i, .int j => if decide (0 ≤ j) then pbO (.int (i / 2 ^ j.toNat)) else none
  | .BitAnd, .int i, .int j => pbO (.int (Builtin.bitAnd i j))
  | .BitOr, .int i, .int j => pbO (.int (Builtin.bitOr i j))
  | .BitXor, .int i, .int j => pbO (.int (Builtin.bitXor i j))
  | .Add, .str i, .str j => if szOk (i.length + j.length) then pbO (.str (i ++ j)) else none
  | .Add, .tup xs, .tup ys => if szOk (xs.length + ys.length) then pbO (.tup (xs ++ ys)) else none
  | .Add, .lst xs, .lst ys => if szOk (xs.length + ys.length) && eok fx xs && eok fy ys then some (.lst (xs ++ ys), true) else none
  | _, _, _ => none
/-- x op= y, ints -/
def augD (op : Operator) (x y : D) : Option D := match op, x, y with
  | .Add, .int i, .int j => some (.int (i + j))
  | .Sub, .int i, .int j => some (.int (i - j))
  | _, _, _ => none
def flatD : D → Option V
  | .non => some .non
  | .bl b => some (.bl b)
  | .int i => some (.int i)
  | .str s => some (.str s)
  | _ => none
mutual
def toPy : D → Option PyData
  | .non => some .none
  | .bl b => some (.bool b)
  | .int i => some (.int i)
  | .str s => some (.str s)
  | .tup ds => (toPys ds).map .tuple
  | .lst ds => (toPys ds).map .list
  | .fls ds => (toPys ds).map .list
def toPys : List D → Option (List PyData)
  | [] => some []
  | d :: ds => match toPy d, toPys ds with
    | some p, some ps => some (p :: ps)
    | _, _ => none
end
def flatDs : List D → Option (List V)
  | [] => some []
  | d :: ds => match flatD d, flatDs ds with
    | some v, some vs => some (v :: vs)
    | _, _ => none
def eqD (x y : D) : Option Bool := match flatD x, flatD y with
  | some v, some u => if scal v u then some (decide (v = u)) else none
  | _, _ => match toPy x, toPy y with
    | some p, some q => if SeqAt.shaped p && SeqAt.shaped q then some (PyData.eqv p q) else none
    | _, _ => none
def inD (x y : D) : Option Bool := match flatD x, y.seq with
  | some v, some ds => match flatDs ds with
    | some vs => some (inV v vs)
    | none => none
  | _, _ => none
def cmpD (op : CmpOp) (x y : D) : Option Bool := match op, x, y with
  | .Lt, .int i, .int j => some (decide (i < j))
  | .LtE, .int i, .int j => some (decide (i ≤ j))
  | .Gt, .int i, .int j => some (decide (j < i))
  | .GtE, .int i, .int j => some (decide (j ≤ i))
  | .Eq, x, y => eqD x y
  | .NotEq, x, y => (eqD x y).map (!·)
  | .In, x, y => inD x y
  | .NotIn, x, y => (inD x y).map (!·)
  | .Is, .non, .non => some true
  | .Is, _, .non => some false
  | .Is, .bl a, .bl b => some (decide (a = b))
  | .IsNot, .non, .non => some false
  | .IsNot, _, .non => some true
  | .IsNot, .bl a, .bl b => some (!decide (a = b))
  | _, _, _ => none
def truD : D → Option Bool
  | .non => some false
  | .bl b => some b
  | .int i => some (i != 0)
  | .str s => if szOk s.length then some ((s.length : Int) != 0) else none
  | .tup ds => some (!ds.isEmpty)
  | .lst ds => some (!ds.isEmpty)
  | .fls ds => some (!ds.isEmpty)
def ixD (x : D) (fx : Bool) (y : D) : RO := match y with
  | .int i => match x with
    | .str s => if szOk s.length then match atI s.cps.toList i with
        | some c => pbO (.str ⟨#[c]⟩)
        | none => none else none
    | x => match x.seq with
      | some ds => match atI ds i with
        | some d => if !fx || nl d then pbO d else none
        | none => none
      | none => none
  | _ => none
def cutD (ds : List D) (lo hi : Option Int) : List D := (ds.drop (HT.sIx ds.length 0 lo)).take (HT.sIx ds.length ds.length hi - HT.sIx ds.length 0 lo)
def slcD (x : D) (fx : Bool) (lo hi : Option Int) : RO := match x with
  | .tup ds => pbO (.tup (cutD ds lo hi))
  | .lst ds => if eok fx ds then some (.lst (cutD ds lo hi), true) else none
  | .fls ds => if eok fx ds then some (.lst (cutD ds lo hi), true) else none
  | _ => none
/-- x[::-1] -/
def rvsD (x : D) (fx : Bool) : RO := match x with
  | .lst ds => if eok fx ds then some (.lst ds.reverse, true) else none
  | .fls ds => if eok fx ds then some (.lst ds.reverse, true) else none
  | _ => none
def asInt : D → Option Int
  | .int i => some i
  | _ => none
def asBl : D → Option Bool
  | .bl i => some i
  | _ => none
def intsOf : List D → Option (List Int)
  | [] => some []
  | .int i :: ds => (intsOf ds).map (i :: ·)
  | _ => none
def blsOf : List D → Option (List Bool)
  | [] => some []
  | .bl i :: ds => (blsOf ds).map (i :: ·)
  | _ => none
/-- insertion into an ascending list -/
def ins (x : Int) : List Int → List Int
  | [] => [x]
  | y :: ys => if x ≤ y then x :: y :: ys else y :: ins x ys
def isort : List Int → List Int
  | [] => []
  | x :: xs => ins x (isort xs)
def insU (x : Int) : List Int → List Int
  | [] => [x]
  | y :: ys => if x < y then x :: y :: ys else if x = y then y :: ys else y :: insU x ys
/-- ascending, without duplicates -/
def usort : List Int → List Int
  | [] => []
  | x :: xs => insU x (usort xs)
def tyIs : Ty → D → Bool
  | .bool, .bl _ => true
  | .int, .bl _ => true
  | .int, .int _ => true
  | .str, .str _ => true
  | .tuple, .tup _ => true
  | .list, .lst _ => true
  | .list, .fls _ => true
  | _, _ => false
def maxI : List Int → Int → Int
  | [], m => m
  | x :: xs, m => maxI xs (if x > m then x else m)
def minI : List Int → Int → Int
  | [], m => m
  | x :: xs, m => minI xs (if x < m then x else m)
def rngD (a b : Int) : List D := (List.range (b - a).toNat).map fun i => D.int (a + (i : Nat))
def fInt : D → RO
  | .int i => pbO (.int i)
  | .bl b => pbO (.int (if b then 1 else 0))
  | _ => none
def fAbs : D → RO
  | .int i => pbO (.int (if i < 0 then -i else i))
  | _ => none
def fLen (x : D) : RO := match x with
  | .str s => if szOk s.length then pbO (.int s.length) else none
  | x => match x.seq with
    | some ds => pbO (.int ds.length)
    | none => none
def fList (x : D) (fx : Bool) : RO := match x.seq with
  | some ds => if eok fx ds then some (.lst ds, true) else none
  | none => none
def fTuple (x : D) (fx : Bool) : RO := match x.seq with
  | some ds => if eok fx ds then pbO (.tup ds) else none
  | none => none
def fSorted (x : D) : RO := match x with
  | .lst ds => match intsOf ds with
    | some ns => some (.lst ((isort ns).map .int), true)
    | none => none
  | _ => none
def fSortedSet (x : D) : RO := match x.seq with
  | some ds => match intsOf ds with
    | some ns => if ns.length < 64 then some (.lst ((usort ns).map .int), true) else none
    | none => none
  | none => none
def fAny : D → RO
  | .lst ds => match blsOf ds with
    | some bs => pbO (.bl (bs.any id))
    | none => none
  | _ => none
def fAll : D → RO
  | .lst ds => match blsOf ds with
    | some bs => pbO (.bl (bs.all id))
    | none => none
  | _ => none
def fSum : D → RO
  | .lst ds => match intsOf ds with
    | some ns => pbO (.int ns.sum)
    | none => none
  | _ => none
def fMin2 (x y : D) : RO := match x, y with
  | .int i, .int j => pbO (.int (if j < i then j else i))
  | _, _ => none
def fMax2 (x y : D) : RO := match x, y with
  | .int i, .int j => pbO (.int (if j > i then j else i))
  | _, _ => none
def fStr : D → RO
  | .int i => if i.natAbs.log2 < 1920 then pbO (.str (toString i)) else none
  | _ => none
def fListRange : D → RO
  | .int j => if decide (0 ≤ j ∧ j ≤ 16777216) then some (.lst (rngD 0 j), true) else none
  | _ => none
def bltD (f : Bf) (xs : List (D × Bool)) : RO := match xs with
  | [(x, fx)] => match f with
    | .int => fInt x
    | .abs => fAbs x
    | .len => fLen x
    | .list => fList x fx
    | .tuple => fTuple x fx
    | .sorted => fSorted x
    | .sortedSet => fSortedSet x
    | .any => fAny x
    | .all => fAll x
    | .sum => fSum x
    | .str => fStr x
    | .isi t => pbO (.bl (tyIs t x))
    | .listRange => fListRange x
    | _ => none
  | [(x, _), (y, _)] => match f with
    | .min2 => fMin2 x y
    | .max2 => fMax2 x y
    | _ => none
  | _ => none

/-! ### loops -/
inductive Ctl where
  | nx | bk | ct | rt (d : D) (fl : Bool)
def forOp (as : D → En → Option En) (body : En → Out (Ctl × En)) : List D → En → Out (Ctl × En)
  | [], Γ => .ok (.nx, Γ)
  | d :: ds, Γ => up (as d Γ) >>= fun Γ1 => body Γ1 >>= fun p => match p with
    | (.nx, Γ2) => forOp as body ds Γ2
    | (.ct, Γ2) => forOp as body ds Γ2
    | (.bk, Γ2) => .ok (.nx, Γ2)
    | (.rt d fl, Γ2) => .ok (.rt d fl, Γ2)
/-- no exception leaves a comprehension -/
def noX {α : Type} : Out α → Out α
  | .ok a => .ok a
  | _ => .bad
@[simp] theorem noX_ok {α : Type} (a : α) : noX (.ok a) = .ok a := rfl
def lcOp (as : D → En → Option En) (t : En → Out Bool) (e : En → R) (Γ : En) : List D → Out (List D)
  | [] => .ok []
  | d :: ds => up (as d Γ) >>= fun Γ1 => t Γ1 >>= fun b => if b then e Γ1 >>= fun p => lcOp as t e Γ ds >>= fun r => .ok (p.1 :: r) else lcOp as t e Γ ds
/-- n turns of a while at most -/
def whlN (t : En → Out Bool) (body : En → Out (Ctl × En)) : Nat → En → Option (Out (Ctl × En))
  | 0, _ => none
  | n + 1, Γ => match t Γ with
    | .bad => some .bad
    | .exc x => some (.exc x)
    | .ok false => some (.ok (.nx, Γ))
    | .ok true => match body Γ with
      | .bad => some .bad
      | .exc x => some (.exc x)
      | .ok (.nx, Γ2) => whlN t body n Γ2
      | .ok (.ct, Γ2) => whlN t body n Γ2
      | .ok (.bk, Γ2) => some (.ok (.nx, Γ2))
      | .ok (.rt d fl, Γ2) => some (.ok (.rt d fl, Γ2))
open Classical in
/-- a while: what it comes to after some turns -/
noncomputable def whlOp (t : En → Out Bool) (body : En → Out (Ctl × En)) (Γ : En) : Out (Ctl × En) :=
  if h : ∃ n r, whlN t body n Γ = some r then Classical.choose (Classical.choose_spec h) else .bad

/-! ### the evaluator -/
def isBor : Ex → Option Nat
  | .bor i => some i
  | _ => none
/-- read for a moment: a borrowed name, or what the expression gives -/
def borOr (e : Ex) (r : R) (Γ : En) : R := match isBor e with
  | some i => look Γ i
  | none => r
/-- handed to a def: a borrowed name keeps its mark; all else is given away -/
def argOr (e : Ex) (r : R) (Γ : En) : R := match isBor e with
  | some i => look Γ i
  | none => r >>= fun p => .ok (p.1, false)
mutual
/-- no list within -/
def pureD : D → Bool
  | .lst _ => false
  | .fls _ => false
  | .tup ds => pureDs ds
  | _ => true
def pureDs : List D → Bool
  | [] => true
  | d :: ds => pureD d && pureDs ds
end
def callOr (as : List (D × Bool)) (r : R) : R := r >>= fun p => if as.all (fun a => !a.2) || pureD p.1 then .ok p else .bad
section
variable (call : Str → List D → R)
mutual
def evE : Ex → En → R
  | .var i, Γ => lookV Γ i
  | .bor _, _ => .bad
  | .non, _ => pb .non
  | .bl b, _ => pb (.bl b)
  | .int n, _ => pb (.int n)
  | .str s, _ => pb (.str s)
  | .glob _ d, _ => pb d
  | .bin op a b, Γ => borOr a (evE a Γ) Γ >>= fun x => borOr b (evE b Γ) Γ >>= fun y => up <| binD op x.1 x.2 y.1 y.2
  | .neg a, Γ => evE a Γ >>= fun x => match x.1 with
    | .int i => pb (.int (-i))
    | _ => .bad
  | .inv a, Γ => evE a Γ >>= fun x => match x.1 with
    | .int i => pb (.int (Builtin.bitNot i))
    | _ => .bad
  | .not a, Γ => borOr a (evE a Γ) Γ >>= fun x => up (truD x.1) >>= fun b => pb (.bl (!b))
  | .cmp op a b, Γ => borOr a (evE a Γ) Γ >>= fun x => borOr b (evE b Γ) Γ >>= fun y => up (cmpD op x.1 y.1) >>= fun r => pb (.bl r)
  | .and a b, Γ => evE a Γ >>= fun x => match x.1 with
    | .bl c => if c then evE b Γ else pb (.bl false)
    | _ => .bad
  | .or a b, Γ => evE a Γ >>= fun x => match x.1 with
    | .bl c => if c then pb (.bl true) else evE b Γ
    | _ => .bad
  | .ife t a b, Γ => evT t Γ >>= fun c => if c then evE a Γ else evE b Γ
  | .tup es, Γ => evVs es Γ >>= fun ds => if szOk ds.length then pb (.tup ds) else .bad
  | .lst es, Γ => evVs es Γ >>= fun ds => if szOk ds.length then .ok (.lst ds, true) else .bad
  | .ix a i, Γ => borOr a (evE a Γ) Γ >>= fun x => evE i Γ >>= fun y => up (ixD x.1 x.2 y.1)
  | .slc a lo hi, Γ => borOr a (evE a Γ) Γ >>= fun x => evO lo Γ >>= fun l => evO hi Γ >>= fun h => up (slcD x.1 x.2 l h)
  | .call f es, Γ => evAs es Γ >>= fun as => callOr as (call f (as.map (·.1)))
  | .blt f es, Γ => evBs es Γ >>= fun as => up (bltD f as)
  | .lc own g it t e, Γ => evI it Γ >>= fun ds => noX (lcOp (asg g) (evTo t) (evE e) (wipeE Γ own) ds) >>= fun r => if szOk r.length && g.within own then .ok (.lst r, true) else .bad
  | .ssc own g it t e, Γ => evI it Γ >>= fun ds => noX (lcOp (asg g) (evTo t) (evE e) (wipeE Γ own) ds) >>= fun r => if g.within own then up (fSortedSet (.lst r)) else .bad
  | .rvs a, Γ => borOr a (evE a Γ) Γ >>= fun x => up (rvsD x.1 x.2)
def evVs : List Ex → En → Out (List D)
  | [], _ => .ok []
  | e :: es, Γ => evE e Γ >>= fun x => evVs es Γ >>= fun xs => .ok (x.1 :: xs)
def evAs : List Ex → En → Out (List (D × Bool))
  | [], _ => .ok []
  | e :: es, Γ => argOr e (evE e Γ) Γ >>= fun x => evAs es Γ >>= fun xs => .ok (x :: xs)
def evBs : List Ex → En → Out (List (D × Bool))
  | [], _ => .ok []
  | e :: es, Γ => borOr e (evE e Γ) Γ >>= fun x => evBs es Γ >>= fun xs => .ok (x :: xs)
def evO : Option Ex → En → Out (Option Int)
  | none, _ => .ok none
  | some e, Γ => evE e Γ >>= fun x => match x.1 with
    | .int i => .ok (some i)
    | _ => .bad
def evT : Tx → En → Out Bool
  | .e a, Γ => borOr a (evE a Γ) Γ >>= fun x => up (truD x.1)
  | .cmp op a b, Γ => borOr a (evE a Γ) Γ >>= fun x => borOr b (evE b Γ) Γ >>= fun y => up (cmpD op x.1 y.1)
  | .and a b, Γ => evT a Γ >>= fun c => if c then evT b Γ else .ok false
  | .or a b, Γ => evT a Γ >>= fun c => if c then .ok true else evT b Γ
  | .not a, Γ => evT a Γ >>= fun c => .ok (!c)
  | .inr neg a n, Γ => evE a Γ >>= fun x => evE n Γ >>= fun y => match x.1, y.1 with
    | .int i, .int j => .ok (xor neg (decide (0 ≤ i ∧ i < j)))
    | _, _ => .bad
def evTo : Option Tx → En → Out Bool
  | none, _ => .ok true
  | some t, Γ => evT t Γ
def evI : Ix → En → Out (List D)
  | .seq e, Γ => evE e Γ >>= fun x => match x.1.seq with
    | some ds => .ok ds
    | none => .bad
  | .rng a, Γ => evE a Γ >>= fun x => match x.1 with
    | .int j => if decide (-(2 ^ 62) ≤ j ∧ j < 2 ^ 62) then .ok (rngD 0 j) else .bad
    | _ => .bad
  | .rng2 a b, Γ => evE a Γ >>= fun x => evE b Γ >>= fun y => match x.1, y.1 with
    | .int i, .int j => if decide (-(2 ^ 62) ≤ i ∧ i < 2 ^ 62 ∧ -(2 ^ 62) ≤ j ∧ j < 2 ^ 62) then .ok (rngD i j) else .bad
    | _, _ => .bad
  | .rev e, Γ => evE e Γ >>= fun x => match x.1.seq with
    | some ds => .ok ds.reverse
    | none => .bad
end
def ownL (r : R) : Out (List D) := r >>= fun p => match p with
  | (.lst ds, true) => .ok ds
  | _ => .bad
mutual
noncomputable def exS : Sx → En → Out (Ctl × En)
  | .set g e, Γ => evE call e Γ >>= fun x => up (asg g x.1 Γ) >>= fun Γ' => .ok (.nx, Γ')
  | .own i e, Γ => evE call e Γ >>= fun x => up (put Γ i x.1 x.2) >>= fun Γ' => .ok (.nx, Γ')
  | .ret e, Γ => evE call e Γ >>= fun x => .ok (.rt x.1 x.2, Γ)
  | .retn, Γ => .ok (.rt .non false, Γ)
  | .retv i, Γ => look Γ i >>= fun x => .ok (.rt x.1 x.2, Γ)
  | .ifs t a b, Γ => evT call t Γ >>= fun c => if c then exSs a Γ else exSs b Γ
  | .fors g it body, Γ => evI call it Γ >>= fun ds => forOp (asg g) (exSs body) ds Γ
  | .whl t body, Γ => whlOp (evT call t) (exSs body) Γ
  | .app i e, Γ => ownL (look Γ i) >>= fun ds => evE call e Γ >>= fun x => if ds.length < sizeLine then .ok (.nx, Γ.set i (some (.lst (ds ++ [x.1]), true))) else .bad
  | .pop g i, Γ => ownL (look Γ i) >>= fun ds => match ds[ds.length - 1]? with
    | some d => if nl d then up (asg g d (Γ.set i (some (.lst ds.dropLast, true)))) >>= fun Γ' => .ok (.nx, Γ') else .bad
    | none => .bad
  | .seti i k e, Γ => evE call e Γ >>= fun x => ownL (look Γ i) >>= fun ds => evE call k Γ >>= fun y => match y.1 with
    | .int j => match ixN ds.length j with
      | some n => if ds.all nl then .ok (.nx, Γ.set i (some (.lst (ds.set n x.1), true))) else .bad
      | none => .bad
    | _ => .bad
  | .frz i, Γ => look Γ i >>= fun x => .ok (.nx, Γ.set i (some (x.1, false)))
  | .aug i op e, Γ => lookV Γ i >>= fun x => evE call e Γ >>= fun y => up (augD op x.1 y.1) >>= fun z => up (put Γ i z false) >>= fun Γ' => .ok (.nx, Γ')
  | .pass, Γ => .ok (.nx, Γ)
  | .brk, Γ => .ok (.bk, Γ)
  | .cont, Γ => .ok (.ct, Γ)
noncomputable def exSs : List Sx → En → Out (Ctl × En)
  | [], Γ => .ok (.nx, Γ)
  | s :: ss, Γ => exS s Γ >>= fun p => match p with
    | (.nx, Γ') => exSs ss Γ'
    | q => .ok q
end
end
/-- a def: its name, its parameters' number, its slots' number, its body -/
structure Fd where
  name : Str
  ps : Nat
  n : Nat
  body : List Sx
noncomputable def runF (call : Str → List D → R) (f : Fd) (as : List D) : R :=
  if as.length = f.ps ∧ f.ps ≤ f.n then exSs call f.body (as.map (fun d => some (d, false)) ++ List.replicate (f.n - as.length) none) >>= fun p => match p.1 with
    | .nx => pb .non
    | .rt d fl => .ok (d, fl)
    | _ => .bad
  else .bad
/-- calls n deep at most -/
noncomputable def callN (tbl : List Fd) : Nat → Str → List D → R
  | 0, _, _ => .bad
  | n + 1, f, as => match tbl.find? fun d => decide (d.name = f) with
    | some fd => runF (callN tbl n) fd as
    | none => .bad
end Cr
end

section
set_option maxHeartbeats 4000000
/-! What holds between two steps, and the readings of expressions by the evaluator. -/
namespace Cr
open PySem PySem.Spec PyProof.Rows L2

/-- the heap grows: S what does not change any more, H all -/
structure Grow (S H S' H' : Hp) : Prop where
  sub : Same S' H'
  mono : Same S S'
  same : Same H H'
  new : ∀ a, S' a ≠ none → S a ≠ none ∨ H a = none
theorem Same.none {H H' : Hp} (e : Same H H') {a : Addr} (h : H' a = none) : H a = none := by
  cases q : H a with
  | none => rfl
  | some o => rw [e _ _ q] at h; cases h
theorem Grow.refl {S H : Hp} (sub : Same S H) : Grow S H S H := ⟨sub, Same.refl _, Same.refl _, fun _ h => .inl h⟩
theorem Grow.trans {S H S1 H1 S2 H2 : Hp} (a : Grow S H S1 H1) (b : Grow S1 H1 S2 H2) : Grow S H S2 H2 :=
  ⟨b.sub, a.mono.trans b.mono, a.same.trans b.same, fun c h => (b.new c h).elim (a.new c) fun q => .inr (Same.none a.same q)⟩
/-- an object that is not of S is none later, if it was there -/
theorem Grow.keepN {S H S' H' : Hp} (g : Grow S H S' H') {a : Addr} (h : S a = none) (t : H a ≠ none) : S' a = none := by
  cases q : S' a with
  | none => rfl
  | some o => exact ((g.new a (by rw [q]; exact fun z => nomatch z)).elim (fun z => z h) fun z => t z).elim
/-- only the heap, by a new object that is not given away -/
theorem Grow.lay {S H : Hp} (sub : Same S H) {p : Addr} (hp : H p = none) (o : HO) : Grow S H S (upd H p o) :=
  ⟨fun a x h => by
    have q := sub _ _ h
    rw [upd_ne (ne_of_none q hp)]
    exact q, Same.refl _, fun a x h => by
    rw [upd_ne (ne_of_none h hp)]
    exact h, fun _ h => .inl h⟩
/-- by a new object that is given away -/
theorem Grow.layS {S H : Hp} (sub : Same S H) {p : Addr} (hp : H p = none) (o : HO) : Grow S H (upd S p o) (upd H p o) := by
  have hs : S p = none := Same.none sub hp
  refine ⟨fun a x h => ?_, fun a x h => ?_, fun a x h => ?_, fun a h => ?_⟩
  · by_cases e : a = p
    · subst e; rw [upd_same] at h ⊢; exact h
    · rw [upd_ne e] at h ⊢; exact sub _ _ h
  · rw [upd_ne (ne_of_none h hs)]; exact h
  · rw [upd_ne (ne_of_none h hp)]; exact h
  · by_cases e : a = p
    · subst e; exact .inr hp
    · rw [upd_ne e] at h; exact .inl h

/-- the mark: not owned; or owned, a list with its own address -/
def FlOk (fl : Bool) (d : D) (as : List Addr) : Prop := (fl = false → as = []) ∧ (fl = true → nl d = true ∨ as ≠ [])
/-- a value, owned (all its lists are new) or of S -/
def VOk (K : PySem.W.Frag) (H S' H' : Hp) (v : V) (d : D) (fl : Bool) : Prop :=
  ∃ as, DOwn K S' H' v d as ∧ as.Nodup ∧ (∀ a ∈ as, H a = none ∧ S' a = none) ∧ FlOk fl d as
/-- a value read for a moment -/
def BOk (K : PySem.W.Frag) (S' H' : Hp) (v : V) (d : D) (fl : Bool) : Prop := ∃ as, DOwn K S' H' v d as ∧ (fl = false → as = [])
section
variable {K : PySem.W.Frag} {H S S' H' : Hp} {v : V} {d : D} {fl : Bool}
theorem VOk.of (r : Rep K S' v d) (h : fl = false ∨ nl d = true := by first | exact .inl rfl | exact .inr rfl) : VOk K H S' H' v d fl :=
  ⟨[], .rep r, .nil, (fun _ h => nomatch h), fun _ => rfl, fun e => h.elim (fun q => by rw [e] at q; cases q) .inl⟩
theorem VOk.b (h : VOk K H S' H' v d fl) : BOk K S' H' v d fl := let ⟨as, a, _, _, f⟩ := h; ⟨as, a, f.1⟩
theorem VOk.rep (h : VOk K H S' H' v d false) : Rep K S' v d := let ⟨as, a, _, _, f⟩ := h; a.of_nil (f.1 rfl)
theorem BOk.of (r : Rep K S' v d) : BOk K S' H' v d fl := ⟨[], .rep r, fun _ => rfl⟩
theorem BOk.rep (h : BOk K S' H' v d false) : Rep K S' v d := let ⟨as, a, f⟩ := h; a.of_nil (f rfl)
theorem BOk.nl (h : BOk K S' H' v d fl) (e : nl d = true) : Rep K S' v d := let ⟨_, a, _⟩ := h; (a.of_nl e).2
theorem BOk.mono (h : BOk K S H v d fl) (g : Grow S H S' H') : BOk K S' H' v d fl := by
  obtain ⟨as, a, f⟩ := h
  exact ⟨as, a.mono g.mono fun b hb => by
    obtain ⟨xs, e⟩ := a.there b hb
    rw [e, g.same _ _ e], f⟩
theorem VOk.mono {H0 : Hp} (h : VOk K H0 S H v d fl) (g : Grow S H S' H') : VOk K H0 S' H' v d fl := by
  obtain ⟨as, a, n, z, f⟩ := h
  refine ⟨as, a.mono g.mono fun b hb => ?_, n, fun b hb => ⟨(z b hb).1, ?_⟩, f⟩
  · obtain ⟨xs, e⟩ := a.there b hb
    rw [e, g.same _ _ e]
  · obtain ⟨xs, e⟩ := a.there b hb
    exact g.keepN (z b hb).2 (by rw [e]; exact fun q => nomatch q)
/-- an owned value is given away -/
theorem VOk.give (g : Grow S H S' H') (h : VOk K H S' H' v d fl) : ∃ S2, Grow S H S2 H' ∧ Rep K S2 v d := by
  obtain ⟨as, a, n, z, f⟩ := h
  refine ⟨frz S' H' as, ⟨frz_sub g.sub as, g.mono.trans (frz_mono g.sub as), g.same, fun b hb => ?_⟩, a.freeze g.sub⟩
  by_cases hm : b ∈ as
  · exact .inr (z b hm).1
  · exact g.new b (by unfold frz at hb; rw [if_neg hm] at hb; exact hb)
/-- a list that is read -/
theorem BOk.lst {ds : List D} (sub : Same S' H') (h : BOk K S' H' v (.lst ds) fl) : ∃ a vs as, v = .ref a ∧ H' a = some (.lst vs) ∧ DOwnAll K S' H' vs ds as ∧ (eok fl ds = true → RepAll K S' vs ds) := by
  obtain ⟨as, x, f⟩ := h
  cases x with
  | rep r =>
    cases r with
    | lst h r => exact ⟨_, _, [], rfl, sub _ _ h, r.own, fun _ => r⟩
  | lst h r =>
    refine ⟨_, _, _, rfl, h, r, fun e => ?_⟩
    cases fl with
    | false => exact absurd (f rfl) (by simp)
    | true => exact (r.of_nl (by simpa [eok] using e)).2
theorem BOk.fls {ds : List D} (sub : Same S' H') (h : BOk K S' H' v (.fls ds) fl) : ∃ a vs, v = .ref a ∧ SqL K H' a vs ∧ RepAll K S' vs ds := by
  cases h.nl rfl with
  | fls h1 r => exact ⟨_, _, rfl, sub.seq h1, r⟩
theorem BOk.tup {ds : List D} (sub : Same S' H') (h : BOk K S' H' v (.tup ds) fl) : ∃ a vs, v = .ref a ∧ SqT K H' a vs ∧ RepAll K S' vs ds := by
  cases h.nl rfl with
  | tup h1 r => exact ⟨_, _, rfl, Same.seqT sub h1, r⟩
/-- a sequence that is read -/
theorem BOk.seq {ds : List D} (sub : Same S' H') (h : BOk K S' H' v d fl) (e : d.seq = some ds) :
    ∃ a vs as, v = .ref a ∧ (SqL K H' a vs ∨ SqT K H' a vs) ∧ DOwnAll K S' H' vs ds as ∧ (eok fl ds = true → RepAll K S' vs ds) := by
  cases d with
  | tup xs =>
    obtain rfl : xs = ds := Option.some.inj e
    obtain ⟨a, vs, e1, q, r⟩ := h.tup sub
    exact ⟨a, vs, [], e1, .inr q, r.own, fun _ => r⟩
  | lst xs =>
    obtain rfl : xs = ds := Option.some.inj e
    obtain ⟨a, vs, as, e1, q, r, f⟩ := h.lst sub
    exact ⟨a, vs, as, e1, .inl (SqL.of q), r, f⟩
  | fls xs =>
    obtain rfl : xs = ds := Option.some.inj e
    obtain ⟨a, vs, e1, q, r⟩ := h.fls sub
    exact ⟨a, vs, [], e1, .inl q, r.own, fun _ => r⟩
  | _ => cases e
end

/-- between two steps of a def's body: S0, P0 what stood at its entry, fp the owned lists of each slot -/
structure Ok (K : PySem.W.Frag) (S0 P0 : Hp) (fp : Nat → List Addr) (Γ : En) (σ : L2.St) (S H : Hp) : Prop where
  sub : Same S H
  base : Same P0 H
  s0 : Same S0 S
  st : ∀ a, S a ≠ none → S0 a ≠ none ∨ P0 a = none
  len : Γ.length = σ.length
  val : ∀ (i : Nat) d fl, Γ[i]? = some (some (d, fl)) → ∃ v, σ[i]? = some (some v) ∧ DOwn K S H v d (fp i) ∧ FlOk fl d (fp i)
  nd : ∀ i, (fp i).Nodup
  frs : ∀ i, ∀ a ∈ fp i, P0 a = none ∧ S a = none ∧ H a ≠ none
  dis : ∀ i j, i ≠ j → ∀ a ∈ fp i, a ∉ fp j
section
variable {K : PySem.W.Frag} {S0 P0 S H S' H' : Hp} {fp : Nat → List Addr} {Γ : En} {σ : L2.St} {i : Nat} {d : D} {fl : Bool}
theorem Ok.grow (k : Ok K S0 P0 fp Γ σ S H) (g : Grow S H S' H') : Ok K S0 P0 fp Γ σ S' H' where
  sub := g.sub
  base := k.base.trans g.same
  s0 := k.s0.trans g.mono
  st := fun a h => (g.new a h).elim (k.st a) fun q => .inr (Same.none k.base q)
  len := k.len
  val := fun i d fl e => by
    obtain ⟨v, e1, o, f⟩ := k.val i d fl e
    exact ⟨v, e1, o.mono g.mono fun b hb => by
      obtain ⟨xs, q⟩ := o.there b hb
      rw [q, g.same _ _ q], f⟩
  nd := k.nd
  frs := fun i a ha => by
    obtain ⟨h1, h2, h3⟩ := k.frs i a ha
    refine ⟨h1, g.keepN h2 h3, ?_⟩
    cases q : H a with
    | none => exact (h3 q).elim
    | some o => rw [g.same _ _ q]; exact fun z => nomatch z
  dis := k.dis
theorem Ok.bor (k : Ok K S0 P0 fp Γ σ S H) (e : look Γ i = .ok (d, fl)) : ∃ v, σ[i]? = some (some v) ∧ BOk K S H v d fl := by
  unfold look at e
  split at e
  · rename_i p hp
    cases e
    obtain ⟨v, e1, o, f⟩ := k.val i d fl hp
    exact ⟨v, e1, _, o, f.1⟩
  · cases e
theorem Ok.var (k : Ok K S0 P0 fp Γ σ S H) (e : lookV Γ i = .ok (d, fl)) : ∃ v, σ[i]? = some (some v) ∧ Rep K S v d := by
  unfold lookV at e
  split at e
  · rename_i p hp
    cases e
    obtain ⟨v, e1, o, f⟩ := k.val i d false hp
    exact ⟨v, e1, o.of_nil (f.1 rfl)⟩
  · cases e
end

/-! ### the readings -/
/-- an exception as it leaves: its class, its own dict -/
def RepX (K : PySem.W.Frag) (mg : Str → Option Value) (S : Hp) (x : Xc) (C : Addr) (oa : Option Addr) : Prop :=
  mg x.cls = some (.ref C) ∧ match x.fs with
    | [] => oa = none
    | fs => ∃ d fvs, oa = some d ∧ S d = some (.xd fvs) ∧ Paired (fun (p : Str × D) (q : Str × V) => p.1 = q.1 ∧ Rep K S q.2 p.2) fs fvs
/-- what is wanted of an exception -/
def XWant (K : PySem.W.Frag) (mg : Str → Option Value) (E : XK) (S0 P0 : Hp) (x : Xc) : Prop :=
  ∀ C oa S' H', Same P0 H' → Same S0 S' → Same S' H' → RepX K mg S' x C oa → E (.ref C) oa H'
section
variable (K : PySem.W.Frag) (mg : Str → Option Value) (E : XK)
def Want {α : Type} (S0 P0 : Hp) (r : Out α) (k : α → Prop) : Prop := match r with
  | .ok a => k a
  | .exc x => XWant K mg E S0 P0 x
  | .bad => False
/-- an expression -/
def TE_ (f : En → R) : TE := fun σ H Q => ∃ S0 P0 fp Γ S, Ok K S0 P0 fp Γ σ S H ∧ Want K mg E S0 P0 (f Γ) fun p => ∀ v S' H', Grow S H S' H' → VOk K H S' H' v p.1 p.2 → Q v H'
/-- .. read for a moment -/
def TB_ (f : En → R) : TE := fun σ H Q => ∃ S0 P0 fp Γ S, Ok K S0 P0 fp Γ σ S H ∧ Want K mg E S0 P0 (f Γ) fun p => ∀ v S' H', Grow S H S' H' → BOk K S' H' v p.1 p.2 → Q v H'
/-- .. given away -/
def TV_ (f : En → R) : TE := fun σ H Q => ∃ S0 P0 fp Γ S, Ok K S0 P0 fp Γ σ S H ∧ Want K mg E S0 P0 (f Γ) fun p => ∀ v S' H', Grow S H S' H' → Rep K S' v p.1 → Q v H'
/-- a test -/
def TT_ (f : En → Out Bool) : TT := fun σ H Q => ∃ S0 P0 fp Γ S, Ok K S0 P0 fp Γ σ S H ∧ Want K mg E S0 P0 (f Γ) fun b => ∀ S' H', Grow S H S' H' → Q b H'
end
theorem _root_.L2.PE.imp {X : Cx} {e : Expr} {t t' : TE} (h : PE X e t) (i : ∀ σ H Q, t' σ H Q → t σ H Q) : PE X e t' := ⟨fun pins s σ H Q I q => h.run pins s σ H Q I (i σ H Q q)⟩
theorem _root_.L2.PT.imp {X : Cx} {e : Expr} {t t' : TT} (h : PT X e t) (i : ∀ σ H Q, t' σ H Q → t σ H Q) : PT X e t' := ⟨fun pins s σ H Q I q => h.run pins s σ H Q I (i σ H Q q)⟩
theorem _root_.L2.PW.imp {X : Cx} {e : Expr} {t t' : TT} (h : PW X e t) (i : ∀ σ H Q, t' σ H Q → t σ H Q) : PW X e t' := ⟨fun wh pins s σ H Q I q => h.run wh pins s σ H Q I (i σ H Q q)⟩
theorem _root_.L2.PA.imp {X : Cx} {e : List Expr} {t t' : TA} (h : PA X e t) (i : ∀ σ H Q, t' σ H Q → t σ H Q) : PA X e t' := ⟨fun pos pins s σ H Q I q => h.run pos pins s σ H Q I (i σ H Q q)⟩
theorem _root_.L2.PS.imp {X : Cx} {e : Stmt} {t t' : TS} (h : PS X e t) (i : ∀ D σ H, t' D σ H → t D σ H) : PS X e t' := ⟨fun pins s σ H D I q => h.run pins s σ H D I (i D σ H q)⟩
theorem _root_.L2.PSs.imp {X : Cx} {e : List Stmt} {t t' : TS} (h : PSs X e t) (i : ∀ D σ H, t' D σ H → t D σ H) : PSs X e t' := ⟨fun pins s σ H D I q => h.run pins s σ H D I (i D σ H q)⟩
section
variable {K : PySem.W.Frag} {mg : Str → Option Value} {E : XK}
theorem Want.mono {α : Type} {S0 P0 : Hp} {r : Out α} {k k' : α → Prop} (h : Want K mg E S0 P0 r k) (i : ∀ a, k a → k' a) : Want K mg E S0 P0 r k' := by
  cases r with
  | ok a => exact i a h
  | exc x => exact h
  | bad => exact h
theorem Want.bind {α β : Type} {S0 P0 : Hp} {r : Out α} {f : α → Out β} {k : β → Prop} : Want K mg E S0 P0 (r >>= f) k ↔ Want K mg E S0 P0 r fun a => Want K mg E S0 P0 (f a) k := by
  cases r with
  | ok a => exact Iff.rfl
  | exc x => exact Iff.rfl
  | bad => exact Iff.rfl
theorem TB_.of {f : En → R} {σ : L2.St} {H : Hp} {Q : VK} (h : TB_ K mg E f σ H Q) : TE_ K mg E f σ H Q := by
  obtain ⟨S0, P0, fp, Γ, S, ok, w⟩ := h
  exact ⟨S0, P0, fp, Γ, S, ok, w.mono fun p q v S' H' g vo => q v S' H' g vo.b⟩
theorem TV_.of {f : En → R} {σ : L2.St} {H : Hp} {Q : VK} (h : TV_ K mg E f σ H Q) : TE_ K mg E f σ H Q := by
  obtain ⟨S0, P0, fp, Γ, S, ok, w⟩ := h
  refine ⟨S0, P0, fp, Γ, S, ok, w.mono fun p q v S' H' g vo => ?_⟩
  obtain ⟨S2, g2, r⟩ := vo.give g
  exact q v S2 H' g2 r
end
end Cr
end

section
set_option maxHeartbeats 4000000
/-! tuple * int, whatever the number. -/
namespace Cr
open PySem PySem.Spec PyProof.Rows L2
theorem mul_same (l : Addr) (items : Array Value) (n : Nat) (dd : Option Addr) (sl : Array (Option Value)) (x : Int) (u : Tok) (c0 : (decide (x < -(2 ^ 63)) || decide (x ≥ 2 ^ 63)) = false) (c1 : (items.isEmpty || x == 1) = true) :
    Meets (Builtin.«tuple.__mul__» ⟨[.ref l, .int x u], []⟩) (fun _ R s => s.heap.get? l = some { cls := .type "tuple", dict := dd, data := .seq items n, slots := sl } ∧ R (.ok (.ret (Value.ref l))) s) :=
  .of_wp fun prog w A R s h => by
    obtain ⟨hp, g, d, tk, os⟩ := s
    obtain ⟨hl, h⟩ := h
    have f1 := AutoSeq1.idx_int
    wp_walk using wpAny_loadPart' hl
    refine wpAny_ite_false (decide_eq_false (by rw [c0]; exact Bool.false_ne_true)) ?_
    wp_walk using wpAny_loadPart' hl
    exact ⟨_, rfl, h⟩
theorem mul_none (l : Addr) (items : Array Value) (n : Nat) (dd : Option Addr) (sl : Array (Option Value)) (x : Int) (u : Tok) (c0 : (decide (x < -(2 ^ 63)) || decide (x ≥ 2 ^ 63)) = false) (c1 : (items.isEmpty || x == 1) = false) (c2 : (decide (x ≤ 0) || items.isEmpty) = true) :
    Meets (Builtin.«tuple.__mul__» ⟨[.ref l, .int x u], []⟩) (fun _ R s => s.heap.get? l = some { cls := .type "tuple", dict := dd, data := .seq items n, slots := sl } ∧ R (.ok (.ret (Value.ref s.heap.objs.size))) { s with heap := s.heap.push { cls := Value.type "tuple", data := Data.seq #[] }, toks := s.toks }) :=
  .of_wp fun prog w A R s h => by
    obtain ⟨hp, g, d, tk, os⟩ := s
    obtain ⟨hl, h⟩ := h
    have f1 := AutoSeq1.idx_int
    wp_walk using wpAny_loadPart' hl
    refine wpAny_ite_false (decide_eq_false (by rw [c0]; exact Bool.false_ne_true)) ?_
    wp_walk using wpAny_loadPart' hl
    exact ⟨_, rfl, h⟩
/-- tuple * int -/
def rRepA (K : PySem.W.Frag) : R2 := fun x y H Q => ∃ l k xs, x = .ref l ∧ y = .int k ∧ SqT K H l xs ∧ -(2 ^ 62) ≤ k ∧ k ≤ 1000 ∧ xs.length ≤ 1000 ∧
  ((xs = [] ∨ k = 1) → Q (.ref l) H) ∧ (∀ p, H p = none → Q (.ref p) (upd H p (.tup (List.replicate k.toNat xs).flatten)))
theorem op_repA {X : Cx} : OpR X (binaryOp .Mult) (rRepA X.K) := by
  intro pins s σ H x y v u Q I rx ry h
  obtain ⟨l, k, xs, rfl, rfl, hT, h0, h1, hz, q1, q2⟩ := h
  by_cases hs : xs = [] ∨ k = 1
  · cases rx
    obtain ⟨t, rfl⟩ := ry
    obtain ⟨its, r, ⟨⟨cls, dd, data, sl⟩, ho, hc, n, hd⟩, hs'⟩ := I.tuple hT
    simp only at hc hd
    subst hc hd
    have c0 : (decide (k < -(2 ^ 63)) || decide (k ≥ 2 ^ 63)) = false := by
      rw [decide_eq_false (by omega), decide_eq_false (by omega)]; rfl
    have c1 : (its.toArray.isEmpty || k == 1) = true := by
      rcases hs with e | e
      · subst e; cases r; rfl
      · subst e; simp
    exact wpAny_binaryOp_repeat_ref (T := "tuple") (U := "int") (by decide) ⟨_, ho, rfl⟩ (fun s' => typeIs_int s' k t) noFill_tuple_mul F.fills_int_mul F.slot_int_rmul repeat_tuple F.slot_int_index.lookup
      (call_meets F.slot_int_rmul (typeIs_int s k t) F.entry_int_rmul (F.args_int_rmul_2 _ _) (int_rmul_tuple k t l its.toArray n dd sl)
        ⟨ho, rfl, ⟨_, ho, rfl⟩, call_meets F.slot_tuple_mul ⟨_, ho, rfl⟩ F.entry_tuple_mul (F.args_tuple_mul_2 _ _) (mul_same l its.toArray n dd sl k t c0 c1) ⟨ho, ⟨.ref l, H, I, rfl, q1 hs⟩⟩⟩)
  · by_cases hk : 2 ≤ k
    · exact op_repT pins s σ H _ _ v u Q I rx ry ⟨l, k, xs, rfl, rfl, hT, fun e => hs (.inl e), hk, h1, hz, q2⟩
    · cases rx
      obtain ⟨t, rfl⟩ := ry
      obtain ⟨its, r, ⟨⟨cls, dd, data, sl⟩, ho, hc, n, hd⟩, hs'⟩ := I.tuple hT
      simp only at hc hd
      subst hc hd
      have hk0 : k ≤ 0 := by
        have : k ≠ 1 := fun e => hs (.inr e)
        omega
      have c0 : (decide (k < -(2 ^ 63)) || decide (k ≥ 2 ^ 63)) = false := by
        rw [decide_eq_false (by omega), decide_eq_false (by omega)]; rfl
      have c1 : (its.toArray.isEmpty || k == 1) = false := by
        have e1 : its ≠ [] := fun e => hs (.inl (by subst e; cases r; rfl))
        have e2 : (k == 1) = false := beq_eq_false_iff_ne.mpr (by omega)
        rw [e2, Bool.or_false]
        cases its with
        | nil => exact absurd rfl e1
        | cons _ _ => rfl
      have c2 : (decide (k ≤ 0) || its.toArray.isEmpty) = true := by rw [decide_eq_true hk0]; rfl
      have q := q2 s.heap.objs.size I.fresh
      rw [show k.toNat = 0 by omega] at q
      exact wpAny_binaryOp_repeat_ref (T := "tuple") (U := "int") (by decide) ⟨_, ho, rfl⟩ (fun s' => typeIs_int s' k t) noFill_tuple_mul F.fills_int_mul F.slot_int_rmul repeat_tuple F.slot_int_index.lookup
        (call_meets F.slot_int_rmul (typeIs_int s k t) F.entry_int_rmul (F.args_int_rmul_2 _ _) (int_rmul_tuple k t l its.toArray n dd sl)
          ⟨ho, rfl, ⟨_, ho, rfl⟩, call_meets F.slot_tuple_mul ⟨_, ho, rfl⟩ F.entry_tuple_mul (F.args_tuple_mul_2 _ _) (mul_none l its.toArray n dd sl k t c0 c1 c2)
            ⟨ho, ⟨.ref s.heap.objs.size, _, I.laid (t' := s.toks) (o := .tup []) (fun b ob q => Heap.get?_push_of_some _ q) (Nat.le_refl _) ⟨Nat.zero_le _, [], .nil, IsTup.new _ _⟩, rfl, q⟩⟩⟩)
end Cr
end

section
set_option maxHeartbeats 4000000
/-! The evaluator's operators are the model's. -/
namespace Cr
open PySem PySem.Spec PyProof.Rows L2

section
variable {K : PySem.W.Frag} {S H : Hp} {p : Addr} {vs : List V} {ds : List D}
theorem new_lst (sub : Same S H) (hp : H p = none) (r : RepAll K S vs ds) : Grow S H S (upd H p (.lst vs)) ∧ VOk K H S (upd H p (.lst vs)) (.ref p) (.lst ds) true :=
  ⟨Grow.lay sub hp _, [p], .lst upd_same r.own, by simp, fun a ha => by
    obtain rfl : a = p := by simpa using ha
    exact ⟨hp, Same.none sub hp⟩, (fun h => nomatch h), fun _ => .inr fun h => nomatch h⟩
theorem new_tup (sub : Same S H) (hp : H p = none) (r : RepAll K S vs ds) {fl : Bool} : Grow S H (upd S p (.tup vs)) (upd H p (.tup vs)) ∧ VOk K H (upd S p (.tup vs)) (upd H p (.tup vs)) (.ref p) (.tup ds) fl := by
  have g := Grow.layS sub hp (.tup vs)
  exact ⟨g, VOk.of (.tup (SqT.of upd_same) (r.mono g.mono))⟩
theorem int_inv {fl : Bool} {v : V} {i : Int} (h : BOk K S H v (.int i) fl) : v = .int i := by cases h.nl rfl; rfl
theorem str_inv {fl : Bool} {v : V} {i : Str} (h : BOk K S H v (.str i) fl) : v = .str i := by cases h.nl rfl; rfl
theorem bl_inv {fl : Bool} {v : V} {i : Bool} (h : BOk K S H v (.bl i) fl) : v = .bl i := by cases h.nl rfl; rfl
theorem non_inv {fl : Bool} {v : V} (h : BOk K S H v .non fl) : v = .non := by cases h.nl rfl; rfl
theorem flat_inv {fl : Bool} {v u : V} {d : D} (h : BOk K S H v d fl) (e : flatD d = some u) : v = u := by
  cases d with
  | non => cases e; exact non_inv h
  | bl b => cases e; exact bl_inv h
  | int b => cases e; exact int_inv h
  | str b => cases e; exact str_inv h
  | _ => cases e
theorem flat_rep {v u : V} {d : D} (h : Rep K S v d) (e : flatD d = some u) : v = u := flat_inv (H := S) (fl := false) (BOk.of h) e
theorem flatV_of {u : V} {d : D} (e : flatD d = some u) : flatV u = true := by
  cases d <;> first | (cases e; rfl) | cases e
theorem flats_inv {as : List Addr} : ∀ {vs us : List V} {ds : List D} {as : List Addr}, DOwnAll K S H vs ds as → flatDs ds = some us → vs = us
  | _, us, _, _, .nil, e => by cases e; rfl
  | _, us, d :: ds, _, .cons h r, e => by
    unfold flatDs at e
    split at e
    · rename_i v' vs' e1 e2
      cases e
      rw [flats_inv (as := as) r e2, flat_inv (fl := true) ⟨_, h, fun z => nomatch z⟩ e1]
    · cases e
theorem flatsV_of : ∀ {us : List V} {ds : List D}, flatDs ds = some us → us.all flatV = true
  | us, [], e => by cases e; rfl
  | us, d :: ds, e => by
    unfold flatDs at e
    split at e
    · rename_i v' vs' e1 e2
      cases e
      rw [List.all_cons, flatV_of e1, flatsV_of e2]; rfl
    · cases e
end
section
variable {K : PySem.W.Frag} {S H : Hp}
mutual
theorem Rep.dp (sub : Same S H) : ∀ {v : V} {d : D} {p : PyData}, Rep K S v d → toPy d = some p → Dp K H v p
  | _, _, _, .non, e => by cases e; exact .non
  | _, _, _, .bl b, e => by cases e; exact .bl b
  | _, _, _, .int i, e => by cases e; exact .int i
  | _, _, _, .str i, e => by cases e; exact .str i
  | _, .tup ds, p, .tup h r, e => by
    unfold toPy at e
    cases q : toPys ds with
    | none => rw [q] at e; cases e
    | some ps => rw [q] at e; cases e; exact .tup (Same.seqT sub h) (RepAll.dp sub r q)
  | _, .lst ds, p, .lst h r, e => by
    unfold toPy at e
    cases q : toPys ds with
    | none => rw [q] at e; cases e
    | some ps => rw [q] at e; cases e; exact .lst (SqL.of (sub _ _ h)) (RepAll.dp sub r q)
  | _, .fls ds, p, .fls h r, e => by
    unfold toPy at e
    cases q : toPys ds with
    | none => rw [q] at e; cases e
    | some ps => rw [q] at e; cases e; exact .lst (sub.seq h) (RepAll.dp sub r q)
theorem RepAll.dp (sub : Same S H) : ∀ {vs : List V} {ds : List D} {ps : List PyData}, RepAll K S vs ds → toPys ds = some ps → DpAll K H vs ps
  | _, _, _, .nil, e => by cases e; exact .nil
  | _, d :: ds, _, .cons h r, e => by
    unfold toPys at e
    split at e
    · rename_i p ps e1 e2
      cases e
      exact .cons (Rep.dp sub h e1) (RepAll.dp sub r e2)
    · cases e
end
mutual
theorem DOwn.dp (sub : Same S H) : ∀ {v : V} {d : D} {as : List Addr} {p : PyData}, DOwn K S H v d as → toPy d = some p → Dp K H v p
  | _, _, _, _, .rep h, e => h.dp sub e
  | _, .lst ds, _, p, .lst h r, e => by
    unfold toPy at e
    cases q : toPys ds with
    | none => rw [q] at e; cases e
    | some ps => rw [q] at e; cases e; exact .lst (SqL.of h) (DOwnAll.dp sub r q)
theorem DOwnAll.dp (sub : Same S H) : ∀ {vs : List V} {ds : List D} {as : List Addr} {ps : List PyData}, DOwnAll K S H vs ds as → toPys ds = some ps → DpAll K H vs ps
  | _, _, _, _, .nil, e => by cases e; exact .nil
  | _, d :: ds, _, _, .cons h r, e => by
    unfold toPys at e
    split at e
    · rename_i p ps e1 e2
      cases e
      exact .cons (DOwn.dp sub h e1) (DOwnAll.dp sub r e2)
    · cases e
end
theorem BOk.dp (sub : Same S H) {v : V} {d : D} {fl : Bool} {p : PyData} (h : BOk K S H v d fl) (e : toPy d = some p) : Dp K H v p := let ⟨_, a, _⟩ := h; a.dp sub e
end

/-- two values read, the operator's answer as the evaluator says -/
def rBin (K : PySem.W.Frag) (op : Operator) : R2 := fun x y H Q => ∃ S d fd e fe p, Same S H ∧ BOk K S H x d fd ∧ BOk K S H y e fe ∧ binD op d fd e fe = some p ∧
  ∀ v S' H', Grow S H S' H' → VOk K H S' H' v p.1 p.2 → Q v H'
def rCmp (K : PySem.W.Frag) (op : CmpOp) : R2 := fun x y H Q => ∃ S d fd e fe b, Same S H ∧ BOk K S H x d fd ∧ BOk K S H y e fe ∧ cmpD op d e = some b ∧ Q (.bl b) H
section
variable {X : Cx} {pins : List (Addr × Obj)} {s : Shared} {σ : L2.St} {H : Hp}
theorem scal_int (i j : Int) : scal (.int i) (.int j) = true := rfl
theorem RepAll.reps {K : PySem.W.Frag} {S : Hp} {vs : List V} {ds : List D} (r : RepAll K S vs ds) : ∀ n : Nat, RepAll K S (List.replicate n vs).flatten (List.replicate n ds).flatten
  | 0 => .nil
  | n + 1 => by
    rw [List.replicate_succ, List.replicate_succ, List.flatten_cons, List.flatten_cons]
    exact r.append (RepAll.reps r n)
theorem bin_ok {op : Operator} : OpR X (binaryOp op) (rBin X.K op) := by
  intro pins s σ H x y v u Q I rx ry h
  obtain ⟨S, d, fd, e, fe, p, sub, hx, hy, hb, q⟩ := h
  have fin : ∀ {d : D} (v : V), Rep X.K S v d → p = (d, false) → Q v H := fun v r e => by
    subst e
    exact q v S H (Grow.refl sub) (VOk.of r)
  unfold binD at hb
  split at hb
  · cases int_inv hx; cases int_inv hy
    exact op_add pins s σ H _ _ v u Q I rx ry ⟨_, _, rfl, rfl, fin _ (.int _) (Option.some.inj hb).symm⟩
  · cases int_inv hx; cases int_inv hy
    exact op_sub pins s σ H _ _ v u Q I rx ry ⟨_, _, rfl, rfl, fin _ (.int _) (Option.some.inj hb).symm⟩
  · split at hb
    · rename_i hc
      cases int_inv hx; cases int_inv hy
      exact op_mul pins s σ H _ _ v u Q I rx ry ⟨_, _, rfl, rfl, mulOk_of hc, fin _ (.int _) (Option.some.inj hb).symm⟩
    · cases hb
  · rename_i xs k
    split at hb
    · rename_i hc
      cases int_inv hy
      have hc := of_decide_eq_true hc
      obtain ⟨a, vs, rfl, ha, ra⟩ := hx.tup sub
      refine op_repA pins s σ H _ _ v u Q I rx ry ⟨a, k, vs, rfl, rfl, ha, hc.1, hc.2.1, by rw [ra.length]; exact hc.2.2, fun e => ?_, fun p hp => ?_⟩
      · have e2 : (List.replicate k.toNat xs).flatten = xs := by
          rcases e with e | e
          · subst e
            cases ra
            simp
          · subst e
            simp
        rw [e2] at hb
        exact fin _ (hx.nl rfl) (Option.some.inj hb).symm
      · obtain ⟨g, vo⟩ := new_tup (K := X.K) sub hp (ra.reps k.toNat) (fl := false)
        exact q _ _ _ g (by obtain rfl := Option.some.inj hb; exact vo)
    · cases hb
  · split at hb
    · rename_i hc
      cases int_inv hx; cases int_inv hy
      exact op_fdiv pins s σ H _ _ v u Q I rx ry ⟨_, _, rfl, rfl, dvOk_of hc, fin _ (.int _) (Option.some.inj hb).symm⟩
    · cases hb
  · split at hb
    · rename_i hc
      cases int_inv hx; cases int_inv hy
      exact op_mod pins s σ H _ _ v u Q I rx ry ⟨_, _, rfl, rfl, of_decide_eq_true hc, fin _ (.int _) (Option.some.inj hb).symm⟩
    · cases hb
  · split at hb
    · rename_i hc
      cases int_inv hx; cases int_inv hy
      exact op_shl pins s σ H _ _ v u Q I rx ry ⟨_, _, rfl, rfl, shOk_of hc, fin _ (.int _) (Option.some.inj hb).symm⟩
    · cases hb
  · split at hb
    · rename_i hc
      cases int_inv hx; cases int_inv hy
      exact op_shr pins s σ H _ _ v u Q I rx ry ⟨_, _, rfl, rfl, of_decide_eq_true hc, fin _ (.int _) (Option.some.inj hb).symm⟩
    · cases hb
  · cases int_inv hx; cases int_inv hy
    exact op_and pins s σ H _ _ v u Q I rx ry ⟨_, _, rfl, rfl, fin _ (.int _) (Option.some.inj hb).symm⟩
  · cases int_inv hx; cases int_inv hy
    exact op_or pins s σ H _ _ v u Q I rx ry ⟨_, _, rfl, rfl, fin _ (.int _) (Option.some.inj hb).symm⟩
  · cases int_inv hx; cases int_inv hy
    exact op_xor pins s σ H _ _ v u Q I rx ry ⟨_, _, rfl, rfl, fin _ (.int _) (Option.some.inj hb).symm⟩
  · split at hb
    · rename_i hc
      cases str_inv hx; cases str_inv hy
      exact op_add_str pins s σ H _ _ v u Q I rx ry ⟨_, _, rfl, rfl, of_decide_eq_true hc, fin _ (.str _) (Option.some.inj hb).symm⟩
    · cases hb
  · rename_i xs ys
    split at hb
    · rename_i hc
      obtain ⟨a, vs, rfl, ha, ra⟩ := hx.tup sub
      obtain ⟨b, ws, rfl, hb', rb⟩ := hy.tup sub
      have lz : vs.length + ws.length ≤ sizeLine := by rw [ra.length, rb.length]; exact of_decide_eq_true hc
      refine op_catA pins s σ H _ _ v u Q I rx ry ⟨a, b, vs, ws, rfl, rfl, ha, hb', lz, fun e => ?_, fun _ e => ?_, fun _ _ p hp => ?_⟩
      · subst e
        cases ra
        exact fin _ (hy.nl rfl) (Option.some.inj hb).symm
      · subst e
        cases rb
        exact fin _ (hx.nl rfl) (by rw [List.append_nil] at hb; exact (Option.some.inj hb).symm)
      · obtain ⟨g, vo⟩ := new_tup (K := X.K) sub hp (ra.append rb) (fl := false)
        exact q _ _ _ g (by obtain rfl := Option.some.inj hb; exact vo)
    · cases hb
  · rename_i xs ys
    split at hb
    · rename_i hc
      simp only [Bool.and_eq_true] at hc
      obtain ⟨⟨h1, h2⟩, h3⟩ := hc
      obtain ⟨a, vs, as, rfl, ha, oa, ra⟩ := hx.lst sub
      obtain ⟨b, ws, bs, rfl, hb', ob, rb⟩ := hy.lst sub
      have ra := ra h2
      have rb := rb h3
      have lz : vs.length + ws.length ≤ sizeLine := by rw [ra.length, rb.length]; exact of_decide_eq_true h1
      refine op_cat pins s σ H _ _ v u Q I rx ry ⟨a, b, vs, ws, rfl, rfl, ha, hb', lz, fun p hp => ?_⟩
      obtain ⟨g, vo⟩ := new_lst (K := X.K) sub hp (ra.append rb)
      exact q _ _ _ g (by obtain rfl := Option.some.inj hb; exact vo)
    · cases hb
  · cases hb

theorem eq_ok (hu : X.A.units + 64 < cLine) : OpR X (compareOp .Eq) (fun x y H Q => ∃ S d fd e fe b, Same S H ∧ BOk X.K S H x d fd ∧ BOk X.K S H y e fe ∧ eqD d e = some b ∧ Q (.bl b) H) := by
  intro pins s σ H x y v u Q I rx ry h
  obtain ⟨S, d, fd, e, fe, b, sub, hx, hy, hb, q⟩ := h
  unfold eqD at hb
  split at hb
  · rename_i v' u' e1 e2
    split at hb
    · rename_i hs
      cases flat_inv hx e1
      cases flat_inv hy e2
      cases hb
      exact op_eq pins s σ H _ _ v u Q I rx ry ⟨hs, q⟩
    · cases hb
  · split at hb
    · rename_i p' q' e1 e2
      split at hb
      · rename_i hs
        rw [Bool.and_eq_true] at hs
        cases hb
        exact op_eqD hu pins s σ H _ _ v u Q I rx ry ⟨_, _, hx.dp sub e1, hy.dp sub e2, hs.1, hs.2, q⟩
      · cases hb
    · cases hb
theorem ne_ok (hu : X.A.units + 64 < cLine) : OpR X (compareOp .NotEq) (fun x y H Q => ∃ S d fd e fe b, Same S H ∧ BOk X.K S H x d fd ∧ BOk X.K S H y e fe ∧ eqD d e = some b ∧ Q (.bl (!b)) H) := by
  intro pins s σ H x y v u Q I rx ry h
  obtain ⟨S, d, fd, e, fe, b, sub, hx, hy, hb, q⟩ := h
  unfold eqD at hb
  split at hb
  · rename_i v' u' e1 e2
    split at hb
    · rename_i hs
      cases flat_inv hx e1
      cases flat_inv hy e2
      cases hb
      exact op_ne pins s σ H _ _ v u Q I rx ry ⟨hs, q⟩
    · cases hb
  · split at hb
    · rename_i p' q' e1 e2
      split at hb
      · rename_i hs
        rw [Bool.and_eq_true] at hs
        cases hb
        exact op_neD hu pins s σ H _ _ v u Q I rx ry ⟨_, _, hx.dp sub e1, hy.dp sub e2, hs.1, hs.2, q⟩
      · cases hb
    · cases hb
theorem in_ok : OpR X (compareOp .In) (fun x y H Q => ∃ S d fd e fe b, Same S H ∧ BOk X.K S H x d fd ∧ BOk X.K S H y e fe ∧ inD d e = some b ∧ Q (.bl b) H) := by
  intro pins s σ H x y v u Q I rx ry h
  obtain ⟨S, d, fd, e, fe, b, sub, hx, hy, hb, q⟩ := h
  unfold inD at hb
  split at hb
  · rename_i v' ds e1 e2
    split at hb
    · rename_i vs e3
      cases flat_inv hx e1
      obtain ⟨a, us, as, rfl, hs, o, _⟩ := hy.seq sub e2
      cases flats_inv (as := as) o e3
      cases hb
      exact op_in_seq pins s σ H _ _ v u Q I rx ry ⟨a, vs, rfl, hs, flatV_of e1, flatsV_of e3, by rw [if_neg Bool.false_ne_true]; exact q⟩
    · cases hb
  · cases hb
theorem notIn_ok : OpR X (compareOp .NotIn) (fun x y H Q => ∃ S d fd e fe b, Same S H ∧ BOk X.K S H x d fd ∧ BOk X.K S H y e fe ∧ inD d e = some b ∧ Q (.bl (!b)) H) := by
  intro pins s σ H x y v u Q I rx ry h
  obtain ⟨S, d, fd, e, fe, b, sub, hx, hy, hb, q⟩ := h
  unfold inD at hb
  split at hb
  · rename_i v' ds e1 e2
    split at hb
    · rename_i vs e3
      cases flat_inv hx e1
      obtain ⟨a, us, as, rfl, hs, o, _⟩ := hy.seq sub e2
      cases flats_inv (as := as) o e3
      cases hb
      exact op_notIn_seq pins s σ H _ _ v u Q I rx ry ⟨a, vs, rfl, hs, flatV_of e1, flatsV_of e3, by rw [if_pos rfl]; exact q⟩
    · cases hb
  · cases hb
theorem isN_dec {K : PySem.W.Frag} {S H : Hp} {v : V} {d : D} {fl : Bool} (h : BOk K S H v d fl) : decide (v = .non) = (match d with | .non => true | _ => false) := by
  obtain ⟨as, o, _⟩ := h
  cases o with
  | rep r => cases r <;> rfl
  | lst => rfl
theorem cmp_ok {op : CmpOp} (hu : X.A.units + 64 < cLine) : OpR X (compareOp op) (rCmp X.K op) := by
  intro pins s σ H x y v u Q I rx ry h
  obtain ⟨S, d, fd, e, fe, b, sub, hx, hy, hb, q⟩ := h
  unfold cmpD at hb
  split at hb
  · cases int_inv hx; cases int_inv hy; cases hb
    exact op_lt pins s σ H _ _ v u Q I rx ry ⟨_, _, rfl, rfl, q⟩
  · cases int_inv hx; cases int_inv hy; cases hb
    exact op_le pins s σ H _ _ v u Q I rx ry ⟨_, _, rfl, rfl, q⟩
  · cases int_inv hx; cases int_inv hy; cases hb
    exact op_gt pins s σ H _ _ v u Q I rx ry ⟨_, _, rfl, rfl, q⟩
  · cases int_inv hx; cases int_inv hy; cases hb
    exact op_ge pins s σ H _ _ v u Q I rx ry ⟨_, _, rfl, rfl, q⟩
  · exact eq_ok hu pins s σ H _ _ v u Q I rx ry ⟨S, d, fd, e, fe, b, sub, hx, hy, hb, q⟩
  · obtain ⟨b', e1, e2⟩ := Option.map_eq_some_iff.mp hb
    subst e2
    exact ne_ok hu pins s σ H _ _ v u Q I rx ry ⟨S, d, fd, e, fe, b', sub, hx, hy, e1, q⟩
  · exact in_ok pins s σ H _ _ v u Q I rx ry ⟨S, d, fd, e, fe, b, sub, hx, hy, hb, q⟩
  · obtain ⟨b', e1, e2⟩ := Option.map_eq_some_iff.mp hb
    subst e2
    exact notIn_ok pins s σ H _ _ v u Q I rx ry ⟨S, d, fd, e, fe, b', sub, hx, hy, e1, q⟩
  · have e1 := isN_dec hx
    cases non_inv hy
    refine op_isN pins s σ H _ _ v u Q I rx ry ⟨rfl, ?_⟩
    rw [e1]; cases hb; exact q
  · rename_i hd
    have e1 := isN_dec hx
    cases non_inv hy
    refine op_isN pins s σ H _ _ v u Q I rx ry ⟨rfl, ?_⟩
    rw [e1]; cases hb
    cases d <;> first | exact q | exact absurd rfl hd
  · cases bl_inv hx; cases bl_inv hy; cases hb
    exact op_is_bl pins s σ H _ _ v u Q I rx ry ⟨_, _, rfl, rfl, q⟩
  · have e1 := isN_dec hx
    cases non_inv hy
    refine op_notN pins s σ H _ _ v u Q I rx ry ⟨rfl, ?_⟩
    rw [e1]; cases hb; exact q
  · rename_i hd
    have e1 := isN_dec hx
    cases non_inv hy
    refine op_notN pins s σ H _ _ v u Q I rx ry ⟨rfl, ?_⟩
    rw [e1]; cases hb
    cases d <;> first | exact q | exact absurd rfl hd
  · cases bl_inv hx; cases bl_inv hy; cases hb
    exact op_isnot_bl pins s σ H _ _ v u Q I rx ry ⟨_, _, rfl, rfl, q⟩
  · cases hb
theorem tru_of {K : PySem.W.Frag} {S H : Hp} (sub : Same S H) {v : V} {d : D} {fl b : Bool} (h : BOk K S H v d fl) (e : truD d = some b) : TruV K v H b := by
  unfold truD at e
  cases d with
  | non => cases non_inv h; cases e; rfl
  | bl c => cases bl_inv h; cases e; exact rfl
  | int c => cases int_inv h; cases e; exact rfl
  | str c =>
    cases str_inv h
    dsimp only at e
    split at e
    · rename_i hz
      cases e
      exact ⟨of_decide_eq_true hz, rfl⟩
    · cases e
  | tup ds =>
    obtain ⟨a, vs, rfl, q, r⟩ := h.tup sub
    cases e
    refine .inr (.inl ⟨vs, q, ?_⟩)
    have := r.length
    cases vs <;> cases ds <;> simp_all
  | lst ds =>
    obtain ⟨a, vs, as, rfl, q, r, _⟩ := h.lst sub
    cases e
    refine .inl ⟨vs, SqL.of q, ?_⟩
    have := r.length
    cases vs <;> cases ds <;> simp_all
  | fls ds =>
    obtain ⟨a, vs, rfl, q, r⟩ := h.fls sub
    cases e
    refine .inl ⟨vs, q, ?_⟩
    have := r.length
    cases vs <;> cases ds <;> simp_all
end
end Cr
end

section
set_option maxHeartbeats 4000000
/-! Subscripts, slices, built-ins by values. -/
namespace Cr
open PySem PySem.Spec PyProof.Rows L2

section
variable {K : PySem.W.Frag} {S H : Hp}
theorem atI_map {α β : Type} {R : α → β → Prop} {xs : List α} {ys : List β} {i : Int} {y : β} (hl : xs.length = ys.length) (hg : ∀ (j : Nat) (y : β), ys[j]? = some y → ∃ x, xs[j]? = some x ∧ R x y) (h : atI ys i = some y) : ∃ x, atI xs i = some x ∧ R x y := by
  unfold atI at h ⊢
  rw [hl]
  cases e : ixN ys.length i with
  | none => rw [e] at h; cases h
  | some j =>
    rw [e] at h
    exact hg j y h
theorem DOwnAll.get : ∀ {vs : List V} {ds : List D} {as : List Addr}, DOwnAll K S H vs ds as → ∀ (i : Nat) (d : D), ds[i]? = some d → ∃ v, vs[i]? = some v ∧ ∃ bs, DOwn K S H v d bs
  | _, _, _, .nil, _, _, e => by simp at e
  | _, _, _, .cons r _, 0, _, e => by simp at e; subst e; exact ⟨_, rfl, _, r⟩
  | _, _, _, .cons _ t, i + 1, d, e => by
    obtain ⟨u, h1, h2⟩ := DOwnAll.get t i d (by simpa using e)
    exact ⟨u, by simpa using h1, h2⟩
/-- an item that is read -/
theorem seq_at {v : V} {d x : D} {fl : Bool} {ds : List D} {i : Int} (sub : Same S H) (h : BOk K S H v d fl) (e : d.seq = some ds) (ex : atI ds i = some x) :
    ∃ a vs y, v = .ref a ∧ (SqL K H a vs ∨ SqT K H a vs) ∧ atI vs i = some y ∧ ((!fl || nl x) = true → Rep K S y x) := by
  obtain ⟨a, vs, as, rfl, hs, o, r⟩ := h.seq sub e
  obtain ⟨y, hy, bs, ho⟩ := atI_map o.length o.get ex
  refine ⟨a, vs, y, rfl, hs, hy, fun hn => ?_⟩
  cases fl with
  | false =>
    obtain ⟨y', hy', r'⟩ := atI_map (R := fun v d => Rep K S v d) o.length (fun j y e => (r rfl).get e) ex
    rw [hy] at hy'; cases hy'
    exact r'
  | true => exact (ho.of_nl (by simpa using hn)).2
theorem cut_rep {vs : List V} {ds : List D} (h : RepAll K S vs ds) (lo hi : Option Int) : RepAll K S (cutV vs lo hi) (cutD ds lo hi) := by
  unfold cutV cutD
  rw [h.length]
  exact (h.drop _).take _
end

def rIxD (K : PySem.W.Frag) : R2 := fun x y H Q => ∃ S d fd e fe p, Same S H ∧ BOk K S H x d fd ∧ BOk K S H y e fe ∧ ixD d fd e = some p ∧
  ∀ v S' H', Grow S H S' H' → VOk K H S' H' v p.1 p.2 → Q v H'
def rSlD (K : PySem.W.Frag) : V → Option Int → Option Int → Hp → VK → Prop := fun x lo hi H Q => ∃ S d fd p, Same S H ∧ BOk K S H x d fd ∧ slcD d fd lo hi = some p ∧
  ∀ v S' H', Grow S H S' H' → VOk K H S' H' v p.1 p.2 → Q v H'
section
variable {X : Cx}
theorem ix_ok : IxR X (rIxD X.K) := by
  intro value slice pins s σ H x y v u Q I rx ry h hsu
  obtain ⟨S, d, fd, e, fe, p, sub, hx, hy, hb, q⟩ := h
  unfold ixD at hb
  split at hb
  · rename_i i
    cases int_inv hy
    split at hb
    · rename_i z
      cases str_inv hx
      split at hb
      · rename_i hz
        split at hb
        · rename_i c hc
          cases hb
          exact ix_str value slice pins s σ H _ _ v u Q I rx ry ⟨_, _, _, rfl, rfl, of_decide_eq_true hz, hc, q _ S H (Grow.refl sub) (VOk.of (.str _))⟩ hsu
        · cases hb
      · cases hb
    · split at hb
      · rename_i ds hs
        split at hb
        · rename_i x1 hx1
          split at hb
          · rename_i hn
            cases hb
            obtain ⟨a, vs, y1, rfl, hq, hy1, r⟩ := seq_at sub hx hs hx1
            have q1 := q y1 S H (Grow.refl sub) (VOk.of (r hn))
            exact ix_seq value slice pins s σ H _ _ v u Q I rx ry (hq.elim (fun hl => .inl ⟨a, vs, _, y1, rfl, rfl, hl, hy1, q1⟩) fun ht => .inr (.inl ⟨a, vs, _, y1, rfl, rfl, ht, hy1, q1⟩)) hsu
          · cases hb
        · cases hb
      · cases hb
  · cases hb
theorem slc_ok : SlR X (rSlD X.K) := by
  intro pins s σ H x v vl vu lo hi sl Q I rx hs pl pu h
  obtain ⟨S, d, fd, p, sub, hx, hb, q⟩ := h
  unfold slcD at hb
  split at hb
  · rename_i ds
    cases hb
    obtain ⟨a, vs, rfl, ha, ra⟩ := hx.tup sub
    refine sl_tupA pins s σ H _ v vl vu lo hi sl Q I rx hs pl pu ⟨a, vs, rfl, ha, fun e => ?_, fun _ p hp => ?_⟩
    · have e2 : cutD ds lo hi = ds := by
        unfold cutD
        rw [← ra.length, e.1, e.2, Nat.sub_zero, List.drop_zero, ra.length, List.take_length]
      exact q _ S H (Grow.refl sub) (by rw [e2]; exact VOk.of (hx.nl rfl))
    · obtain ⟨g, vo⟩ := new_tup (K := X.K) sub hp (cut_rep ra lo hi) (fl := false)
      exact q _ _ _ g vo
  · rename_i ds
    split at hb
    · rename_i he
      cases hb
      obtain ⟨a, vs, as, rfl, ha, _, ra⟩ := hx.lst sub
      refine sl_list pins s σ H _ v vl vu lo hi sl Q I rx hs pl pu ⟨a, vs, rfl, SqL.of ha, fun p hp => ?_⟩
      obtain ⟨g, vo⟩ := new_lst (K := X.K) sub hp (cut_rep (ra he) lo hi)
      exact q _ _ _ g vo
    · cases hb
  · rename_i ds
    split at hb
    · rename_i he
      cases hb
      obtain ⟨a, vs, rfl, ha, ra⟩ := hx.fls sub
      refine sl_list pins s σ H _ v vl vu lo hi sl Q I rx hs pl pu ⟨a, vs, rfl, ha, fun p hp => ?_⟩
      obtain ⟨g, vo⟩ := new_lst (K := X.K) sub hp (cut_rep ra lo hi)
      exact q _ _ _ g vo
    · cases hb
  · cases hb

/-! ### built-ins of plain values -/
def rFn1 (K : PySem.W.Frag) (f : Bf) : List V → Hp → VK → Prop := fun xs H Q => ∃ x S d fd p, xs = [x] ∧ Same S H ∧ BOk K S H x d fd ∧ bltD f [(d, fd)] = some p ∧
  ∀ v S' H', Grow S H S' H' → VOk K H S' H' v p.1 p.2 → Q v H'
def rFn2 (K : PySem.W.Frag) (f : Bf) : List V → Hp → VK → Prop := fun xs H Q => ∃ x y S d fd e fe p, xs = [x, y] ∧ Same S H ∧ BOk K S H x d fd ∧ BOk K S H y e fe ∧ bltD f [(d, fd), (e, fe)] = some p ∧
  ∀ v S' H', Grow S H S' H' → VOk K H S' H' v p.1 p.2 → Q v H'
theorem intsOf_inv {K : PySem.W.Frag} {S H : Hp} : ∀ {vs : List V} {ds : List D} {as : List Addr} {ns : List Int}, DOwnAll K S H vs ds as → intsOf ds = some ns → vs = ns.map V.int
  | _, _, _, _, .nil, e => by cases e; rfl
  | _, d :: ds, _, _, .cons h r, e => by
    cases d with
    | int i =>
      unfold intsOf at e
      cases q : intsOf ds with
      | none => rw [q] at e; cases e
      | some ms =>
        rw [q] at e; cases e
        cases (int_inv (fl := true) ⟨_, h, fun z => nomatch z⟩)
        rw [intsOf_inv r q]; rfl
    | _ => cases e
theorem blsOf_inv {K : PySem.W.Frag} {S H : Hp} : ∀ {vs : List V} {ds : List D} {as : List Addr} {ns : List Bool}, DOwnAll K S H vs ds as → blsOf ds = some ns → vs = ns.map V.bl
  | _, _, _, _, .nil, e => by cases e; rfl
  | _, d :: ds, _, _, .cons h r, e => by
    cases d with
    | bl i =>
      unfold blsOf at e
      cases q : blsOf ds with
      | none => rw [q] at e; cases e
      | some ms =>
        rw [q] at e; cases e
        cases (bl_inv (fl := true) ⟨_, h, fun z => nomatch z⟩)
        rw [blsOf_inv r q]; rfl
    | _ => cases e
theorem ins_perm (x : Int) : ∀ ys : List Int, (ins x ys).Perm (x :: ys)
  | [] => .refl _
  | y :: ys => by
    unfold ins
    split
    · exact .refl _
    · exact ((ins_perm x ys).cons y).trans (.swap x y ys)
theorem isort_perm : ∀ xs : List Int, (isort xs).Perm xs
  | [] => .refl _
  | x :: xs => (ins_perm x (isort xs)).trans ((isort_perm xs).cons x)
theorem ins_sorted (x : Int) : ∀ ys : List Int, ys.Pairwise (· ≤ ·) → (ins x ys).Pairwise (· ≤ ·)
  | [], _ => by simp [ins]
  | y :: ys, h => by
    unfold ins
    have h1 := List.pairwise_cons.mp h
    split
    · rename_i hxy
      refine List.pairwise_cons.mpr ⟨fun z hz => ?_, h⟩
      rcases List.mem_cons.mp hz with rfl | hz
      · exact hxy
      · exact Int.le_trans hxy (h1.1 z hz)
    · rename_i hxy
      refine List.pairwise_cons.mpr ⟨fun z hz => ?_, ins_sorted x ys h1.2⟩
      rcases List.mem_cons.mp ((ins_perm x ys).mem_iff.mp hz) with rfl | hz
      · omega
      · exact h1.1 z hz
theorem isort_sorted : ∀ xs : List Int, (isort xs).Pairwise (· ≤ ·)
  | [] => .nil
  | x :: xs => ins_sorted x _ (isort_sorted xs)
theorem sorted_unique : ∀ {xs ys : List Int}, xs.Pairwise (· ≤ ·) → ys.Pairwise (· ≤ ·) → xs.Perm ys → xs = ys := by
  intro xs ys h1 h2 p
  exact p.eq_of_pairwise (fun a b _ _ h1 h2 => Int.le_antisymm h1 h2) h1 h2
theorem fn_int : CallR X (.type "int") (rFn1 X.K .int) := by
  intro pins s σ H xs us Q I r h
  obtain ⟨x, S, d, fd, p, rfl, sub, hx, hb, q⟩ := h
  cases d with
  | int i =>
    cases hb
    cases int_inv hx
    exact call_int1 pins s σ H _ us Q I r (.inl ⟨i, rfl, q _ S H (Grow.refl sub) (VOk.of (.int i))⟩)
  | bl b =>
    cases hb
    cases bl_inv hx
    exact call_int1 pins s σ H _ us Q I r (.inr ⟨b, rfl, q _ S H (Grow.refl sub) (VOk.of (.int _))⟩)
  | _ => cases hb
theorem fn_abs : CallR X (.builtin "abs") (rFn1 X.K .abs) := by
  intro pins s σ H xs us Q I r h
  obtain ⟨x, S, d, fd, p, rfl, sub, hx, hb, q⟩ := h
  cases d with
  | int i =>
    cases hb
    cases int_inv hx
    exact call_abs pins s σ H _ us Q I r ⟨i, rfl, q _ S H (Grow.refl sub) (VOk.of (.int _))⟩
  | _ => cases hb
theorem fn_str : CallR X (.type "str") (rFn1 X.K .str) := by
  intro pins s σ H xs us Q I r h
  obtain ⟨x, S, d, fd, p, rfl, sub, hx, hb, q⟩ := h
  replace hb : fStr d = some p := hb
  unfold fStr at hb
  split at hb
  · split at hb
    · rename_i hz
      cases hb
      cases int_inv hx
      exact call_str_int pins s σ H _ us Q I r ⟨_, rfl, hz, q _ S H (Grow.refl sub) (VOk.of (.str _))⟩
    · cases hb
  · cases hb
theorem fn_len : CallR X (.builtin "len") (rFn1 X.K .len) := by
  intro pins s σ H xs us Q I r h
  obtain ⟨x, S, d, fd, p, rfl, sub, hx, hb, q⟩ := h
  replace hb : fLen d = some p := hb
  unfold fLen at hb
  split at hb
  · split at hb
    · rename_i hz
      cases hb
      cases str_inv hx
      exact call_len_str pins s σ H _ us Q I r ⟨_, rfl, of_decide_eq_true hz, q _ S H (Grow.refl sub) (VOk.of (.int _))⟩
    · cases hb
  · split at hb
    · rename_i ds e
      cases hb
      obtain ⟨a, vs, as, rfl, hs, o, _⟩ := hx.seq sub e
      refine call_len_seq pins s σ H _ us Q I r ⟨a, vs, rfl, hs, ?_⟩
      rw [o.length]
      exact q _ S H (Grow.refl sub) (VOk.of (.int _))
    · cases hb
theorem fn_list : CallR X (.type "list") (rFn1 X.K .list) := by
  intro pins s σ H xs us Q I r h
  obtain ⟨x, S, d, fd, p, rfl, sub, hx, hb, q⟩ := h
  replace hb : fList d fd = some p := hb
  unfold fList at hb
  split at hb
  · rename_i ds e
    split at hb
    · rename_i he
      cases hb
      obtain ⟨a, vs, as, rfl, hs, o, rr⟩ := hx.seq sub e
      refine call_list_of pins s σ H _ us Q I r ⟨a, vs, rfl, hs, fun l hl => ?_⟩
      obtain ⟨g, vo⟩ := new_lst (K := X.K) sub hl (rr he)
      exact q _ _ _ g vo
    · cases hb
  · cases hb
theorem fn_tuple : CallR X (.type "tuple") (rFn1 X.K .tuple) := by
  intro pins s σ H xs us Q I r h
  obtain ⟨x, S, d, fd, p, rfl, sub, hx, hb, q⟩ := h
  replace hb : fTuple d fd = some p := hb
  unfold fTuple at hb
  cases d with
  | tup ds =>
    replace hb : (if eok fd ds then pbO (.tup ds) else none) = some p := hb
    split at hb
    · cases hb
      obtain ⟨a, vs, rfl, hs, rr⟩ := hx.tup sub
      exact call_tuple_of pins s σ H _ us Q I r ⟨a, vs, rfl, .inr ⟨hs, q _ S H (Grow.refl sub) (VOk.of (hx.nl rfl))⟩⟩
    · cases hb
  | lst ds =>
    replace hb : (if eok fd ds then pbO (.tup ds) else none) = some p := hb
    split at hb
    · rename_i he
      cases hb
      obtain ⟨a, vs, as, rfl, hs, _, rr⟩ := hx.lst sub
      refine call_tuple_of pins s σ H _ us Q I r ⟨a, vs, rfl, .inl ⟨SqL.of hs, fun l hl => ?_⟩⟩
      obtain ⟨g, vo⟩ := new_tup (K := X.K) sub hl (rr he) (fl := false)
      exact q _ _ _ g vo
    · cases hb
  | fls ds =>
    replace hb : (if eok fd ds then pbO (.tup ds) else none) = some p := hb
    split at hb
    · cases hb
      obtain ⟨a, vs, rfl, hs, rr⟩ := hx.fls sub
      refine call_tuple_of pins s σ H _ us Q I r ⟨a, vs, rfl, .inl ⟨hs, fun l hl => ?_⟩⟩
      obtain ⟨g, vo⟩ := new_tup (K := X.K) sub hl rr (fl := false)
      exact q _ _ _ g vo
    · cases hb
  | _ => cases hb
theorem fn_sorted : CallR X (.builtin "sorted") (rFn1 X.K .sorted) := by
  intro pins s σ H xs us Q I r h
  obtain ⟨x, S, d, fd, p, rfl, sub, hx, hb, q⟩ := h
  replace hb : fSorted d = some p := hb
  unfold fSorted at hb
  split at hb
  · split at hb
    · rename_i ns e
      cases hb
      obtain ⟨a, vs, as, rfl, hs, o, _⟩ := hx.lst sub
      obtain rfl := intsOf_inv o e
      refine cr_sortedI pins s σ H _ us Q I r ⟨a, ns, rfl, SqL.of hs, fun ns' p h1 h2 hp => ?_⟩
      obtain rfl : ns' = isort ns := sorted_unique h2 (isort_sorted ns) (h1.trans (isort_perm ns).symm)
      obtain ⟨g, vo⟩ := new_lst (K := X.K) sub hp (RepAll.ints (K := X.K) (S := S) (isort ns))
      exact q _ _ _ g vo
    · cases hb
  · cases hb
theorem fn_any (hc : X.calm = true) : CallR X (.builtin "any") (rFn1 X.K .any) := by
  intro pins s σ H xs us Q I r h
  obtain ⟨x, S, d, fd, p, rfl, sub, hx, hb, q⟩ := h
  replace hb : fAny d = some p := hb
  unfold fAny at hb
  split at hb
  · split at hb
    · rename_i ns e
      cases hb
      obtain ⟨a, vs, as, rfl, hs, o, _⟩ := hx.lst sub
      obtain rfl := blsOf_inv o e
      exact cr_any hc pins s σ H _ us Q I r ⟨a, ns, rfl, SqL.of hs, q _ S H (Grow.refl sub) (VOk.of (.bl _))⟩
    · cases hb
  · cases hb
theorem fn_all (hc : X.calm = true) : CallR X (.builtin "all") (rFn1 X.K .all) := by
  intro pins s σ H xs us Q I r h
  obtain ⟨x, S, d, fd, p, rfl, sub, hx, hb, q⟩ := h
  replace hb : fAll d = some p := hb
  unfold fAll at hb
  split at hb
  · split at hb
    · rename_i ns e
      cases hb
      obtain ⟨a, vs, as, rfl, hs, o, _⟩ := hx.lst sub
      obtain rfl := blsOf_inv o e
      exact cr_all hc pins s σ H _ us Q I r ⟨a, ns, rfl, SqL.of hs, q _ S H (Grow.refl sub) (VOk.of (.bl _))⟩
    · cases hb
  · cases hb
theorem fn_sum (hc : X.calm = true) : CallR X (.builtin "sum") (rFn1 X.K .sum) := by
  intro pins s σ H xs us Q I r h
  obtain ⟨x, S, d, fd, p, rfl, sub, hx, hb, q⟩ := h
  replace hb : fSum d = some p := hb
  unfold fSum at hb
  split at hb
  · split at hb
    · rename_i ns e
      cases hb
      obtain ⟨a, vs, as, rfl, hs, o, _⟩ := hx.lst sub
      obtain rfl := intsOf_inv o e
      exact cr_sum hc pins s σ H _ us Q I r ⟨a, ns, rfl, SqL.of hs, q _ S H (Grow.refl sub) (VOk.of (.int _))⟩
    · cases hb
  · cases hb
theorem fn_min2 (hc : X.calm = true) : CallR X (.builtin "min") (rFn2 X.K .min2) := by
  intro pins s σ H xs us Q I r h
  obtain ⟨x, y, S, d, fd, e, fe, p, rfl, sub, hx, hy, hb, q⟩ := h
  replace hb : fMin2 d e = some p := hb
  unfold fMin2 at hb
  split at hb
  · cases hb
    cases int_inv hx
    cases int_inv hy
    exact call_min2 hc pins s σ H _ us Q I r ⟨_, _, rfl, q _ S H (Grow.refl sub) (VOk.of (.int _))⟩
  · cases hb
theorem fn_max2 (hc : X.calm = true) : CallR X (.builtin "max") (rFn2 X.K .max2) := by
  intro pins s σ H xs us Q I r h
  obtain ⟨x, y, S, d, fd, e, fe, p, rfl, sub, hx, hy, hb, q⟩ := h
  replace hb : fMax2 d e = some p := hb
  unfold fMax2 at hb
  split at hb
  · cases hb
    cases int_inv hx
    cases int_inv hy
    exact call_max2 hc pins s σ H _ us Q I r ⟨_, _, rfl, q _ S H (Grow.refl sub) (VOk.of (.int _))⟩
  · cases hb
def Ty.nm : Ty → String
  | .bool => "bool"
  | .int => "int"
  | .str => "str"
  | .tuple => "tuple"
  | .list => "list"
  | .dict => "dict"
def tyN : D → String
  | .non => "NoneType"
  | .bl _ => "bool"
  | .int _ => "int"
  | .str _ => "str"
  | .tup _ => "tuple"
  | .lst _ => "list"
  | .fls _ => "list"
theorem tyX_of {K : PySem.W.Frag} {S H : Hp} {v : V} {d : D} {fl : Bool} (sub : Same S H) (h : BOk K S H v d fl) : TyX K H v (.type (tyN d)) := by
  cases d with
  | non => cases non_inv h; exact .base .non
  | bl b => cases bl_inv h; exact .base (.bl b)
  | int b => cases int_inv h; exact .base (.int b)
  | str b => cases str_inv h; exact .base (.str b)
  | tup ds =>
    obtain ⟨a, vs, rfl, q, r⟩ := h.tup sub
    rcases q with (q | ⟨o, q⟩) | ⟨o, its, n, hk, hc, _⟩
    · exact .base (.tup q)
    · exact .fTuple q
    · exact .kTuple hk hc
  | lst ds =>
    obtain ⟨a, vs, as, rfl, q, r, _⟩ := h.lst sub
    exact .base (.lst q)
  | fls ds =>
    obtain ⟨a, vs, rfl, q, r⟩ := h.fls sub
    rcases q with (q | ⟨o, q⟩) | ⟨o, its, n, hk, hc, _⟩
    · exact .base (.lst q)
    · exact .base (.frz q)
    · exact .kList hk hc
theorem kit_is (t : Ty) (d : D) : kitB (tyN d) t.nm = some (tyIs t d) := by
  cases t <;> cases d <;> first | decide +kernel | (simp only [tyN, Ty.nm, tyIs]; decide +kernel)
def rIsiD (K : PySem.W.Frag) (t : Ty) : List V → Hp → VK → Prop := fun xs H Q => ∃ x S d fd, xs = [x, .ty t.nm] ∧ Same S H ∧ BOk K S H x d fd ∧ Q (.bl (tyIs t d)) H
theorem fn_isi (t : Ty) : CallR X (.builtin "isinstance") (rIsiD X.K t) := by
  intro pins s σ H xs us Q I r h
  obtain ⟨x, S, d, fd, rfl, sub, hx, q⟩ := h
  exact call_isi pins s σ H _ us Q I r ⟨x, .ty t.nm, .type (tyN d), .type t.nm, tyIs t d, rfl, .ty _, tyX_of sub hx, kit_ty (kit_is t d), q⟩
end
end Cr
end

section
set_option maxHeartbeats 8000000
/-! Sets of ints: set(x) of a list, sorted of it. -/
namespace Cr
open PySem PySem.Spec PyProof.Rows L2
abbrev eSet (w : World) : Obj := { cls := .type "set", dict := none, data := .set #[] 0 (.fresh 0 0 (!w.params.followText "set-order")) }
section
variable {P : Program} {w : World} {A : Around} {E : Value → Shared → Prop} {s : Shared}
set_option maxHeartbeats 8000000 in
theorem set_ofList {l : Addr} {its : Array Value} (ns : List Int) {Q : Value → Shared → Prop} (calm : A.handled = none) (isl : s.heap.IsList l its) (hI : IntsAre its.toList ns) (few : ns.length + 1 < scanBound)
    (k : ∀ (h2 : Heap) (t2 c : Nat), SetR w h2 s.heap.objs.size (fun j => decide (j ∈ ns)) c → c ≤ ns.length → (∀ b o, s.heap.get? b = some o → h2.get? b = some o) → Q (.ref s.heap.objs.size) { s with heap := h2, toks := t2 }) :
    wpAny (model P w) A (call (.type "set") [.ref l]) Q E s := by
  have sz : its.size = ns.length := (Array.length_toList (xs := its)).symm.trans (IntsAre.length hI)
  obtain ⟨c0, tl0, m0⟩ := F.called_set.mro
  have m1 := F.called_set.made
  have m2 := F.called_set.sub
  refine wpAny_call (codeAny_of_tree (show wpAny _ _ (callAny (.type "set") _) _ _ _ from ?_))
  refine wpAny_pure ⟨Code.quiet_builtin _ (by decide +kernel), codeAny_builtin F.entry_type_call ?_⟩
  rw [Around.under_plain (weight_type_call_type "set" [.ref l] []) rfl]
  have m3 := F.called_set.notType
  have m4 := F.called_set.canCreate
  have m5 := F.typeCall_set_1 (.ref l)
  repeat (any_goals (first | assumption | wp_step))
  refine codeAny_mono (code_set_led1 (.ref l) (E := E) (Q₁ := fun obj s₁ => obj = .ref s.heap.objs.size ∧ s₁ = { s with heap := s.heap.push (eSet w) }) ⟨rfl, rfl⟩) fun r s₁ hr => ?_
  match r, hr with
  | .error e, hr => exact hr
  | .ok (.brk), hr => exact hr.elim
  | .ok (.cont), hr => exact hr.elim
  | .ok (.next), hr => exact hr.elim
  | .ok (.ret obj), ⟨e1, e2⟩ =>
    subst e1 e2
    have at0 : (s.heap.push (eSet w)).get? s.heap.objs.size = some (eSet w) := Heap.get?_push_size _ rfl
    have ty0 : Shared.TypeIs { s with heap := s.heap.push (eSet w) } (.ref s.heap.objs.size) "set" := ⟨_, at0, rfl⟩
    have m6 := F.called_set.init.lookup
    have m7 := F.called_set.init.bind (.ref s.heap.objs.size)
    repeat (any_goals (first | assumption | wp_step))
    refine codeAny_mono (codeAny_call_builtin (R := wants (fun r s₂ => r = .none ∧ ∃ h2 t2 c, s₂ = { s with heap := h2, toks := t2 } ∧ SetR w h2 s.heap.objs.size (fun j => decide (j ∈ ns)) c ∧ c ≤ ns.length ∧
      (∀ b o, s.heap.get? b = some o → h2.get? b = some o)) E) F.called_set.init.plain F.entry_set_init (check_set_init_1 ty0 ?_)) fun r2 s2 hr2 => ?_
    · obtain ⟨⟨oc, od, odt, osl⟩, ol, ocl, n0, odl⟩ := isl
      simp only at ocl odl
      subst ocl odl
      have ol2 : (s.heap.push (eSet w)).get? l = some { cls := .type "list", dict := od, data := .seq its n0, slots := osl } := Heap.get?_push_of_some _ ol
      have isl2 : (s.heap.push (eSet w)).IsList l its := ⟨_, ol2, rfl, n0, rfl⟩
      have q1 := F.sub_list_set
      have q2 := F.sub_list_frozenset
      have q3 : (Value.type "list" == Value.type "dict") = false := by decide
      unfold Builtin.«set.__init__» noKeywords Builtin.Frozenset.updateFrom
      generalize hPI : pyIter = PI
      wp_walk
      subst hPI
      refine wpAny_pyIter_list isl2 (wpAny_bind (wpAny_runValue ?_))
      have below : l < s.heap.objs.size := Heap.lt_size ol
      have calm3 : A.in1.in1.in1.handled = none := by simp [calm]
      have ne1 : l ≠ (s.heap.push (eSet w)).objs.size := by
        rw [Heap.size_push]; exact Nat.ne_of_lt (Nat.lt_succ_of_lt below)
      have out : s.heap.objs.size ∉ [(s.heap.push (eSet w)).objs.size, l] := by
        rw [Heap.size_push]
        simp only [List.mem_cons, List.not_mem_nil, or_false, not_or]
        exact ⟨Nat.ne_of_lt (Nat.lt_succ_self _), Nat.ne_of_gt below⟩
      have val : ∀ (i : Nat) (v : Value), its[i]? = some v → ∃ k t, ns[i]? = some k ∧ v = .int k t := fun i v hv => by
        have hi : i < ns.length := sz ▸ (Array.getElem?_eq_some_iff.mp hv).1
        obtain ⟨t, e⟩ := PyProof.Rows.IntsAre.int_at hI i v (by rw [Array.getElem?_toList]; exact hv)
        exact ⟨ns[i], t, List.getElem?_eq_getElem hi, by rw [e, List.getD_eq_getElem?_getD, List.getElem?_eq_getElem hi]; rfl⟩
      refine set_update_ints ((Walks.list calm3 _ l ne1 its).toS) s.heap.objs.size out ns sz few val (its.size - 0) 0 _ (by omega) (Nat.zero_le _) ⟨⟨_, Heap.get?_push_size _ rfl, rfl, rfl⟩, (isl2.push _)⟩
        ⟨0, Nat.le_refl 0, setR_new_at (Heap.get?_push_of_some _ at0)⟩ fun s3 c3 mv le3 R3 => ?_
      obtain ⟨h3, g3, d3, t3, o3⟩ := s3
      obtain rfl : g3 = s.gens := mv.gens
      obtain rfl : d3 = s.drawn := mv.drawn
      obtain rfl : o3 = s.os := mv.os
      show wpAny _ _ _ _ _ _
      refine wpAny_pure (show wpAny _ _ (ret Value.none) _ _ _ from ?_)
      rw [sz] at le3
      refine wpAny_pure ⟨rfl, h3, t3, c3, rfl, R3, le3, fun b o e => ?_⟩
      have b0 : b < s.heap.objs.size := Heap.lt_size e
      refine mv.heap b o ?_ (Heap.get?_push_of_some _ (Heap.get?_push_of_some _ e))
      simp only [List.mem_cons, List.not_mem_nil, or_false, not_or]
      refine ⟨Nat.ne_of_lt b0, ?_⟩
      rw [Heap.size_push]
      exact Nat.ne_of_lt (Nat.lt_succ_of_lt b0)
    · match r2, hr2 with
      | .error e, hr2 => exact hr2
      | .ok (.brk), hr2 => exact hr2.elim
      | .ok (.cont), hr2 => exact hr2.elim
      | .ok (.next), hr2 => exact hr2.elim
      | .ok (.ret r), ⟨e1, h2, t2, c2, e2, R2, le2, kp⟩ =>
        subst e1 e2
        repeat (any_goals (first | assumption | wp_step))
        exact k _ _ _ R2 le2 kp
end
end Cr
end

section
set_option maxHeartbeats 4000000
/-! The check that ties the core syntax to the program's, and what is known where a text runs. -/
namespace Cr
open PySem PySem.Spec PyProof.Rows L2

structure Sc where
  N : List Str
  scope : Scope
  /-- none: a def's body; the written scope of a comprehension's block -/
  fns : Option Scope
structure Gi where
  funs : List (Str × Nat)
  globs : List (Str × V)
def bnames : List Str := ["int", "abs", "len", "list", "tuple", "sorted", "set", "any", "all", "sum", "min", "max", "str", "isinstance", "range", "reversed", "bool", "dict"]
def visB (sc : Scope) (x : Str) : Bool := match sc.names.lookup x with
  | some .local => true
  | some .cell => true
  | some .free => true
  | _ => false
def okNm (x : Str) : Bool := !(x == ("__debug__" : Str)) && !(x == ("__classdict__" : Str)) && !(x == ("__name__" : Str))
def chkVar (sc : Sc) (i : Nat) (x : Str) : Bool := decide (sc.N[i]? = some x) && visB sc.scope x && okNm x
def gloB (sc : Sc) (x : Str) : Bool := match sc.scope.names.lookup x with
  | some .globalImplicit => true
  | _ => false
def locB (sc : Sc) (x : Str) : Bool := match sc.scope.names.lookup x with
  | some .local => true
  | some .cell => match sc.fns with
    | none => true
    | some s0 => s0.names.lookup x == some .cell
  | _ => false
def isStar : Expr → Bool
  | .Starred _ _ => true
  | _ => false
def isSlice : Expr → Bool
  | .Slice _ _ _ _ => true
  | _ => false
def isComp : Expr → Bool
  | .ListComp _ _ _ _ => true
  | .SetComp _ _ _ _ => true
  | .DictComp _ _ _ _ _ => true
  | _ => false
def isSetE : Expr → Bool
  | .Set _ _ _ => true
  | _ => false
def plainT : Expr → Bool
  | .UnaryOp .Not _ _ => false
  | .BoolOp _ _ _ => false
  | .IfExp _ _ _ _ => false
  | .Compare _ _ _ _ => false
  | _ => true
def Sc.blk (sc : Sc) (s0 : Scope) : Sc := ⟨sc.N, relS s0 sc.scope, some s0⟩
def Bf.nm : Bf → Str
  | .int => "int"
  | .abs => "abs"
  | .len => "len"
  | .list => "list"
  | .tuple => "tuple"
  | .sorted => "sorted"
  | .sortedSet => "sorted"
  | .any => "any"
  | .all => "all"
  | .sum => "sum"
  | .min => "min"
  | .max => "max"
  | .min2 => "min"
  | .max2 => "max"
  | .str => "str"
  | .divmod => "divmod"
  | .isi _ => "isinstance"
  | .listRange => "list"
def Bf.ar : Bf → Nat
  | .min2 => 2
  | .max2 => 2
  | _ => 1
def isiArgs (sc : Sc) (t : Ty) (e : Expr) : Option (List Expr) := match e with
  | .Call (.Name x _) [a, .Name y _] [] _ => if decide (x = "isinstance") && gloB sc x && decide (y = (t.nm : Str)) && gloB sc y then some [a] else none
  | _ => none
def twoArgs (sc : Sc) (f g : Str) (e : Expr) : Option (List Expr) := match e with
  | .Call (.Name x _) [.Call (.Name y _) [a] [] _] [] _ => if decide (x = f) && gloB sc x && decide (y = g) && gloB sc y then some [a] else none
  | _ => none
def oneArgs (sc : Sc) (f : Bf) (e : Expr) : Option (List Expr) := match e with
  | .Call (.Name x _) as [] _ => if decide (x = f.nm) && gloB sc x && decide (as.length = f.ar) then some as else none
  | _ => none
/-- the arguments that a built-in's call evaluates -/
def bltArgs (sc : Sc) (f : Bf) (e : Expr) : Option (List Expr) := match f with
  | .isi t => isiArgs sc t e
  | .listRange => twoArgs sc "list" "range" e
  | .sortedSet => twoArgs sc "sorted" "set" e
  | .min => none
  | .max => none
  | .divmod => none
  | f => oneArgs sc f e
mutual
def chkG (sc : Sc) : Gx → Expr → Bool
  | .nm i, .Name x _ => decide (sc.N[i]? = some x) && locB sc x
  | .tup gs, .Tuple es _ _ => chkGs sc gs es
  | _, _ => false
def chkGs (sc : Sc) : List Gx → List Expr → Bool
  | [], [] => true
  | g :: gs, e :: es => !isStar e && chkG sc g e && chkGs sc gs es
  | _, _ => false
end
mutual
def chkE (G : Gi) (sc : Sc) : Ex → Expr → Bool
  | .var i, e => (match e with
    | .Name x _ => chkVar sc i x
    | _ => false)
  | .bor i, e => (match e with
    | .Name x _ => chkVar sc i x
    | _ => false)
  | .non, e => (match e with
    | .Constant .none _ _ => true
    | _ => false)
  | .bl b, e => (match e with
    | .Constant (.bool c) _ _ => b == c
    | _ => false)
  | .int n, e => (match e with
    | .Constant (.int m) _ _ => n == m
    | _ => false)
  | .str s, e => (match e with
    | .Constant (.str z) _ _ => decide (s = z)
    | _ => false)
  | .glob x d, e => (match e with
    | .Name y _ => decide (x = y) && gloB sc y && okNm y && (match flatD d with
      | some u => G.globs.any fun p => decide (p = (x, u))
      | none => false)
    | _ => false)
  | .bin op a b, e => (match e with
    | .BinOp l o r _ => decide (op = o) && chkE G sc a l && chkE G sc b r
    | _ => false)
  | .neg a, e => (match e with
    | .UnaryOp .USub x _ => chkE G sc a x
    | _ => false)
  | .inv a, e => (match e with
    | .UnaryOp .Invert x _ => chkE G sc a x
    | _ => false)
  | .not a, e => (match e with
    | .UnaryOp .Not x _ => chkE G sc a x
    | _ => false)
  | .cmp op a b, e => (match e with
    | .Compare l [o] [r] _ => decide (op = o) && chkE G sc a l && chkE G sc b r && !behindInMarks o r
    | _ => false)
  | .and a b, e => (match e with
    | .BoolOp .And (x :: y :: []) _ => chkE G sc a x && chkE G sc b y
    | .BoolOp .And (x :: y :: z :: r) p => chkE G sc a x && chkE G sc b (.BoolOp .And (y :: z :: r) p)
    | _ => false)
  | .or a b, e => (match e with
    | .BoolOp .Or (x :: y :: []) _ => chkE G sc a x && chkE G sc b y
    | .BoolOp .Or (x :: y :: z :: r) p => chkE G sc a x && chkE G sc b (.BoolOp .Or (y :: z :: r) p)
    | _ => false)
  | .ife t a b, e => (match e with
    | .IfExp c x y _ => chkT G sc t c && chkE G sc a x && chkE G sc b y
    | _ => false)
  | .tup es, e => (match e with
    | .Tuple xs _ _ => chkEs G sc es xs
    | _ => false)
  | .lst es, e => (match e with
    | .List xs _ => chkEs G sc es xs
    | _ => false)
  | .ix a i, e => (match e with
    | .Subscript x y _ => !isSlice y && chkE G sc a x && chkE G sc i y
    | _ => false)
  | .slc a lo hi, e => (match e with
    | .Subscript x (.Slice l h none _) _ => chkE G sc a x && chkO G sc lo l && chkO G sc hi h
    | _ => false)
  | .call f es, e => (match e with
    | .Call (.Name x _) xs [] _ => decide (x = f) && okNm x && gloB sc x && (G.funs.any fun p => decide (p = (f, es.length))) && chkEs G sc es xs
    | _ => false)
  | .blt f es, e => (match bltArgs sc f e with
    | some xs => chkEs G sc es xs
    | none => false)
  | .lc own g it t el, e => (match e with
    | .ListComp elt [⟨tg, iter, ifs, 0⟩] s0 _ => (blkC sc.N sc.scope s0 (own.filterMap fun i => (sc.N[i]?).map fun x => (x, i)) && decide ((own.filterMap fun i => (sc.N[i]?).map fun x => (x, i)).map (·.2) = own)) &&
      !isSetE iter && chkG (sc.blk s0) g tg && chkI G sc it iter && chkTo G (sc.blk s0) t ifs && chkE G (sc.blk s0) el elt
    | _ => false)
  | .ssc own g it t el, e => (match e with
    | .Call (.Name x _) [.SetComp elt [⟨tg, iter, ifs, 0⟩] s0 _] [] _ => decide (x = "sorted") && gloB sc x && (blkC sc.N sc.scope s0 (own.filterMap fun i => (sc.N[i]?).map fun x => (x, i)) && decide ((own.filterMap fun i => (sc.N[i]?).map fun x => (x, i)).map (·.2) = own)) &&
      !isSetE iter && chkG (sc.blk s0) g tg && chkI G sc it iter && chkTo G (sc.blk s0) t ifs && chkE G (sc.blk s0) el elt
    | _ => false)
  | .rvs a, e => (match e with
    | .Subscript x (.Slice none none (some (.UnaryOp .USub (.Constant (.int 1) _ _) _)) _) _ => chkE G sc a x
    | _ => false)
def chkEs (G : Gi) (sc : Sc) : List Ex → List Expr → Bool
  | [], [] => true
  | c :: cs, e :: es => !isStar e && chkE G sc c e && chkEs G sc cs es
  | _, _ => false
def chkO (G : Gi) (sc : Sc) : Option Ex → Option Expr → Bool
  | none, none => true
  | some c, some e => chkE G sc c e
  | _, _ => false
def chkT (G : Gi) (sc : Sc) : Tx → Expr → Bool
  | .e a, x => plainT x && chkE G sc a x
  | .cmp op a b, e => (match e with
    | .Compare l [o] [r] _ => decide (op = o) && chkE G sc a l && chkE G sc b r && !behindInMarks o r
    | _ => false)
  | .and a b, e => (match e with
    | .BoolOp .And (x :: y :: []) _ => chkT G sc a x && chkT G sc b y
    | .BoolOp .And (x :: y :: z :: r) p => chkT G sc a x && chkT G sc b (.BoolOp .And (y :: z :: r) p)
    | _ => false)
  | .or a b, e => (match e with
    | .BoolOp .Or (x :: y :: []) _ => chkT G sc a x && chkT G sc b y
    | .BoolOp .Or (x :: y :: z :: r) p => chkT G sc a x && chkT G sc b (.BoolOp .Or (y :: z :: r) p)
    | _ => false)
  | .not a, e => (match e with
    | .UnaryOp .Not x _ => chkT G sc a x
    | _ => false)
  | .inr neg a n, e => (match e with
    | .Compare l [o] [.Call (.Name x p) [r] [] p2] _ => decide (o = if neg then .NotIn else .In) && decide (x = "range") && gloB sc x && !isStar r && chkE G sc a l && chkE G sc n r && !behindInMarks o (.Call (.Name x p) [r] [] p2)
    | _ => false)
def chkTo (G : Gi) (sc : Sc) : Option Tx → List Expr → Bool
  | none, [] => true
  | some t, [c] => chkT G sc t c
  | _, _ => false
def chkI (G : Gi) (sc : Sc) : Ix → Expr → Bool
  | .seq a, x => !isSetE x && chkE G sc a x
  | .rng a, e => (match e with
    | .Call (.Name x _) [y] [] _ => decide (x = "range") && gloB sc x && !isStar y && chkE G sc a y
    | _ => false)
  | .rng2 a b, e => (match e with
    | .Call (.Name x _) [y, z] [] _ => decide (x = "range") && gloB sc x && !isStar y && !isStar z && chkE G sc a y && chkE G sc b z
    | _ => false)
  | .rev a, e => (match e with
    | .Call (.Name x _) [y] [] _ => decide (x = "reversed") && gloB sc x && !isStar y && chkE G sc a y
    | _ => false)
end

/-! ### where a text runs -/
/-- a def's promise: what the evaluator says -/
def spF (K : PySem.W.Frag) (mg : Str → Option Value) (n : Nat) (f : List D → R) : Sp := fun vs H Q E => vs.length = n ∧ ∃ ds S, Same S H ∧ RepAll K S vs ds ∧ Want K mg E S H (f ds) fun p => ∀ v S' H', Grow S H S' H' → VOk K H S' H' v p.1 p.2 → Q v H'
structure Mt (G : Gi) (call : Str → List D → R) (CX : CXT) (E : XK) (X : Cx) (sc : Sc) : Prop where
  N : X.N = sc.N
  sco : X.env.scope = sc.scope
  fn : match sc.fns with
    | none => X.fn = fun _ => true
    | some s0 => X.fn = fun x => s0.names.lookup x == some .cell
  nd : X.N.Nodup
  calm : X.calm = true
  bl : ∀ x ∈ bnames, X.mg x = none
  un : X.A.units + 64 < cLine
  gl : ∀ x u, (x, u) ∈ G.globs → ∃ w, X.mg x = some w ∧ RelV u w
  fs : ∀ f n, (f, n) ∈ G.funs → ∃ a fd ps k, X.mg f = some (.ref a) ∧ FnOk X.prog X.w X.K X.mg X.base CX k a fd ps (spF X.K X.mg n (call f)) ∧ Room k X.A ∧ PySem.W.keepIn X.K (.ref a) = true ∧ Binds X.K fd ps []
  pass : Passes CX X E
  own : PassesOwn (model X.prog X.w) X.A X.env X.xe
  kind : sc.fns = none → sc.scope.kind = .function
  cx0 : ∀ outer H s e s', CX outer H s E0 e s' → False
section
variable {G : Gi} {call : Str → List D → R} {CX : CXT} {E : XK} {X : Cx} {sc : Sc}
theorem Mt.blk (M : Mt G call CX E X sc) (s0 : Scope) (s : Shared) (H : Hp) (C : Addr) (cl : List (Str × Addr)) (fp : List Addr) : Mt G call CX E0 (X.blk s H s0 (compEnvC s0 cl C X.env) fp) (sc.blk s0) where
  N := M.N
  sco := by
    show relabel s0 X.env = relS s0 sc.scope
    rw [← M.sco]
    rfl
  fn := rfl
  nd := M.nd
  calm := M.calm
  bl := M.bl
  un := M.un
  gl := M.gl
  fs := M.fs
  pass := fun _ _ _ _ _ _ _ h => (M.cx0 _ _ _ _ _ h).elim
  own := PassesOwn.never
  kind := fun h => nomatch h
  cx0 := M.cx0
theorem Mt.vis (M : Mt G call CX E X sc) {i : Nat} {x : Str} (h : chkVar sc i x = true) : X.N[i]? = some x ∧ Vis X.env.scope x ∧ (x == ("__debug__" : Str)) = false ∧ (x == ("__classdict__" : Str)) = false := by
  unfold chkVar okNm at h
  simp only [Bool.and_eq_true, Bool.not_eq_true', decide_eq_true_eq] at h
  obtain ⟨⟨h1, h2⟩, ⟨h3, h4⟩, _⟩ := h
  refine ⟨by rw [M.N]; exact h1, ?_, h3, h4⟩
  unfold visB at h2
  rw [← M.sco] at h2
  unfold Vis
  split at h2 <;> simp_all
theorem Mt.glo (M : Mt G call CX E X sc) {x : Str} (h : gloB sc x = true) : Gl X x := by
  unfold gloB at h
  rw [← M.sco] at h
  show X.env.scope.names.lookup x = _
  split at h <;> simp_all
theorem Mt.loc (M : Mt G call CX E X sc) {i : Nat} {x : Str} (h : (decide (sc.N[i]? = some x) && locB sc x) = true) : X.N[i]? = some x ∧ L2.Loc X.env.scope x ∧ (X.fn x = true ∨ X.env.scope.names.lookup x = some .local) := by
  simp only [Bool.and_eq_true, decide_eq_true_eq] at h
  obtain ⟨h1, h2⟩ := h
  refine ⟨by rw [M.N]; exact h1, ?_⟩
  unfold locB at h2
  rw [← M.sco] at h2
  have hf := M.fn
  unfold L2.Loc
  split at h2
  · rename_i q; exact ⟨.inl q, .inr q⟩
  · rename_i q
    refine ⟨.inr q, .inl ?_⟩
    split at h2
    · rename_i z; rw [z] at hf; rw [hf]
    · rename_i z; rw [z] at hf; rw [hf]; exact h2
  · cases h2
end
theorem star_of {e : Expr} (h : isStar e = false) (es : List Expr) (env : Env) : starEach (e :: es) env = (false, eval e env) :: starEach es env := by
  cases e <;> first | rfl | cases h
theorem backTo_cons (pos : Pos) (x : Bool × Sem Value) (l : List (Bool × Sem Value)) : backTo pos (x :: l) = (x.1, if x.1 then do let v ← x.2; standAt pos; pure v else x.2) :: backTo pos l := rfl
theorem plainIx_of {e : Expr} (h : isSlice e = false) : PlainIx e := by
  intro o i
  cases e <;> first | rfl | cases h
theorem isTrue_of {e : Expr} (h : plainT e = true) (env : Env) (whole : Sem Value) : isTrue e env whole = (do let v ← whole; standAt e.pos; holding [v] (truthy v)) := by
  cases e with
  | UnaryOp op a p => cases op <;> first | rfl | cases h
  | BoolOp _ _ _ => cases h
  | IfExp _ _ _ _ => cases h
  | Compare _ _ _ _ => cases h
  | _ => rfl
theorem swaps_of {e : Expr} (h : isComp e = false) (t : Option Expr) (l : Nat) (env : Env) : swapsWith e t l env = pure false := by
  cases e <;> first | rfl | cases h
theorem folded_of {e : Expr} (h : isSetE e = false) (env : Env) (x : Value) : foldedSetIterable e env x = pure x := by
  cases e <;> first | rfl | cases h
/-- no star among the arguments -/
inductive NoStars : List Expr → Prop
  | nil : NoStars []
  | cons {e : Expr} {es : List Expr} : isStar e = false → NoStars es → NoStars (e :: es)
theorem NoStars.any {es : List Expr} (h : NoStars es) (pos : Pos) (env : Env) : (backTo pos (starEach es env)).any (·.1) = false := by
  induction h with
  | nil => rfl
  | cons h1 _ ih =>
    rw [star_of h1, backTo_cons, List.any_cons, ih]
    rfl
theorem pw_of {X : Cx} {op : BoolOp} {vs : List Expr} {pos : Pos} {t : TT} (h : PT X (.BoolOp op vs pos) t) : PW X (.BoolOp op vs pos) t := ⟨fun wh pins s σ H Q I q => h.run pins s σ H Q I q⟩
end Cr
end

section
set_option maxHeartbeats 4000000
/-! One lemma a construct: expressions. -/
namespace Cr
open PySem PySem.Spec PyProof.Rows L2

section
variable {G : Gi} {call : Str → List D → R} {CX : CXT} {E : XK} {X : Cx} {sc : Sc}
theorem up_want {K : PySem.W.Frag} {mg : Str → Option Value} {E : XK} {S0 P0 : Hp} {α : Type} {o : Option α} {k : α → Prop} : Want K mg E S0 P0 (up o) k ↔ ∃ a, o = some a ∧ k a := by
  cases o with
  | none => exact ⟨fun h => h.elim, fun ⟨_, h, _⟩ => nomatch h⟩
  | some a => exact ⟨fun h => ⟨a, rfl, h⟩, fun ⟨b, e, h⟩ => by cases e; exact h⟩
theorem pb_want {K : PySem.W.Frag} {mg : Str → Option Value} {E : XK} {S0 P0 : Hp} {d : D} {k : D × Bool → Prop} : Want K mg E S0 P0 (pb d) k ↔ k (d, false) := Iff.rfl
theorem ok_want {K : PySem.W.Frag} {mg : Str → Option Value} {E : XK} {S0 P0 : Hp} {α : Type} {a : α} {k : α → Prop} : Want K mg E S0 P0 (.ok a) k ↔ k a := Iff.rfl

/-! ### names, constants -/
theorem s_var (M : Mt G call CX E X sc) {i : Nat} {x : Str} {pos : Pos} (h : chkVar sc i x = true) : PE X (.Name x pos) (TE_ X.K X.mg E fun Γ => lookV Γ i) := by
  obtain ⟨h1, h2, h3, h4⟩ := M.vis h
  refine (pe_var h1 h2 h3 h4).imp fun σ H Q ⟨S0, P0, fp, Γ, S, ok, w⟩ => ?_
  cases e : lookV Γ i with
  | ok p =>
    simp only [e] at w
    obtain ⟨v, hv, r⟩ := ok.var (d := p.1) (fl := p.2) e
    have e2 : p.2 = false := by
      unfold lookV at e
      split at e
      · cases e; rfl
      · cases e
    exact ⟨v, hv, w v S H (Grow.refl ok.sub) (VOk.of r (.inl e2))⟩
  | exc x => simp only [e] at w; unfold lookV at e; split at e <;> cases e
  | bad => simp only [e] at w; exact w.elim
theorem s_bor (M : Mt G call CX E X sc) {i : Nat} {x : Str} {pos : Pos} (h : chkVar sc i x = true) : PE X (.Name x pos) (TB_ X.K X.mg E fun Γ => look Γ i) := by
  obtain ⟨h1, h2, h3, h4⟩ := M.vis h
  refine (pe_var h1 h2 h3 h4).imp fun σ H Q ⟨S0, P0, fp, Γ, S, ok, w⟩ => ?_
  cases e : look Γ i with
  | ok p =>
    simp only [e] at w
    obtain ⟨v, hv, r⟩ := ok.bor (d := p.1) (fl := p.2) e
    exact ⟨v, hv, w v S H (Grow.refl ok.sub) r⟩
  | exc x => unfold look at e; split at e <;> cases e
  | bad => simp only [e] at w; exact w.elim
theorem s_const {e : Expr} {v : V} {d : D} (h : PE X e (tC v)) (r : ∀ S, Rep X.K S v d) : PE X e (TE_ X.K X.mg E fun _ => pb d) :=
  h.imp fun σ H Q ⟨S0, P0, fp, Γ, S, ok, w⟩ => w v S H (Grow.refl ok.sub) (VOk.of (r S))
theorem s_glob (M : Mt G call CX E X sc) {x : Str} {d : D} {u : V} {pos : Pos} (hg : gloB sc x = true) (ho : okNm x = true) (hd : flatD d = some u) (hm : (x, u) ∈ G.globs) : PE X (.Name x pos) (TE_ X.K X.mg E fun _ => pb d) := by
  obtain ⟨w, h1, h2⟩ := M.gl x u hm
  unfold okNm at ho
  simp only [Bool.and_eq_true, Bool.not_eq_true'] at ho
  refine s_const (pe_glob (M.glo hg) h1 h2 ho.1.1) fun S => ?_
  cases d with
  | non => cases hd; exact .non
  | bl b => cases hd; exact .bl b
  | int b => cases hd; exact .int b
  | str b => cases hd; exact .str b
  | _ => cases hd

/-! ### operators -/
theorem s_bin (op : Operator) {a b : Expr} {f g : En → R} {pos : Pos} (ha : PE X a (TB_ X.K X.mg E f)) (hb : PE X b (TB_ X.K X.mg E g)) :
    PE X (.BinOp a op b pos) (TE_ X.K X.mg E fun Γ => f Γ >>= fun x => g Γ >>= fun y => up <| binD op x.1 x.2 y.1 y.2) := by
  refine (pe_op bin_ok ha hb).imp fun σ H Q ⟨S0, P0, fp, Γ, S, ok, w⟩ => ?_
  refine ⟨S0, P0, fp, Γ, S, ok, (Want.bind.mp w).mono fun x w v S1 H1 g1 b1 => ?_⟩
  refine ⟨S0, P0, fp, Γ, S1, ok.grow g1, (Want.bind.mp w).mono fun y w u S2 H2 g2 b2 => ?_⟩
  obtain ⟨p, hp, k⟩ := up_want.mp w
  refine ⟨S2, x.1, x.2, y.1, y.2, p, g2.sub, b1.mono g2, b2, hp, fun v3 S3 H3 g3 vo => ?_⟩
  refine k v3 S3 H3 ((g1.trans g2).trans g3) ?_
  obtain ⟨as, o, n, z, f⟩ := vo
  exact ⟨as, o, n, fun a ha => ⟨Same.none (g1.trans g2).same (z a ha).1, (z a ha).2⟩, f⟩
theorem s_cmp (M : Mt G call CX E X sc) (op : CmpOp) {a b : Expr} {f g : En → R} {pos : Pos} (ha : PE X a (TB_ X.K X.mg E f)) (hb : PE X b (TB_ X.K X.mg E g)) (hm : behindInMarks op b = false) :
    PE X (.Compare a [op] [b] pos) (TE_ X.K X.mg E fun Γ => f Γ >>= fun x => g Γ >>= fun y => up (cmpD op x.1 y.1) >>= fun r => pb (.bl r)) := by
  refine (pe_cmpR (cmp_ok M.un) ha hb hm).imp fun σ H Q ⟨S0, P0, fp, Γ, S, ok, w⟩ => ?_
  refine ⟨S0, P0, fp, Γ, S, ok, (Want.bind.mp w).mono fun x w v S1 H1 g1 b1 => ?_⟩
  refine ⟨S0, P0, fp, Γ, S1, ok.grow g1, (Want.bind.mp w).mono fun y w u S2 H2 g2 b2 => ?_⟩
  obtain ⟨p, hp, k⟩ := up_want.mp (Want.bind.mp w)
  exact ⟨S2, x.1, x.2, y.1, y.2, p, g2.sub, b1.mono g2, b2, hp, k _ S2 H2 (g1.trans g2) (VOk.of (.bl _))⟩
theorem s_cmpT (M : Mt G call CX E X sc) (op : CmpOp) {a b : Expr} {f g : En → R} {pos : Pos} (ha : PE X a (TB_ X.K X.mg E f)) (hb : PE X b (TB_ X.K X.mg E g)) (hm : behindInMarks op b = false) :
    PT X (.Compare a [op] [b] pos) (TT_ X.K X.mg E fun Γ => f Γ >>= fun x => g Γ >>= fun y => up (cmpD op x.1 y.1)) := by
  refine (pt_cmpR (cmp_ok M.un) ha hb hm).imp fun σ H Q ⟨S0, P0, fp, Γ, S, ok, w⟩ => ?_
  refine ⟨S0, P0, fp, Γ, S, ok, (Want.bind.mp w).mono fun x w v S1 H1 g1 b1 => ?_⟩
  refine ⟨S0, P0, fp, Γ, S1, ok.grow g1, (Want.bind.mp w).mono fun y w u S2 H2 g2 b2 => ?_⟩
  obtain ⟨p, hp, k⟩ := up_want.mp w
  exact ⟨S2, x.1, x.2, y.1, y.2, p, g2.sub, b1.mono g2, b2, hp, p, rfl, k S2 H2 (g1.trans g2)⟩
theorem s_truth {a : Expr} {f : En → R} (ha : PE X a (TB_ X.K X.mg E f)) (hp : plainT a = true) : PT X a (TT_ X.K X.mg E fun Γ => f Γ >>= fun x => up (truD x.1)) := by
  refine (pt_truth ha fun whole => isTrue_of hp X.env whole).imp fun σ H Q ⟨S0, P0, fp, Γ, S, ok, w⟩ => ?_
  refine ⟨S0, P0, fp, Γ, S, ok, (Want.bind.mp w).mono fun x w v S1 H1 g1 b1 => ?_⟩
  obtain ⟨p, hp, k⟩ := up_want.mp w
  exact ⟨p, tru_of g1.sub b1 hp, k S1 H1 g1⟩
theorem s_and1 {a : Expr} {f : En → Out Bool} {pos : Pos} (ha : PT X a (TT_ X.K X.mg E f)) : PW X (.BoolOp .And [a] pos) (TT_ X.K X.mg E f) := pw_and1 ha
theorem s_andT {a b : Expr} {rest : List Expr} {f g : En → Out Bool} {pos : Pos} (ha : PT X a (TT_ X.K X.mg E f)) (hb : PW X (.BoolOp .And (b :: rest) pos) (TT_ X.K X.mg E g)) :
    PT X (.BoolOp .And (a :: b :: rest) pos) (TT_ X.K X.mg E fun Γ => f Γ >>= fun c => if c then g Γ else .ok false) := by
  refine (pw_and ha hb).pt.imp fun σ H Q ⟨S0, P0, fp, Γ, S, ok, w⟩ => ?_
  refine ⟨S0, P0, fp, Γ, S, ok, (Want.bind.mp w).mono fun c w S1 H1 g1 => ?_⟩
  cases c with
  | true => exact iteT ⟨S0, P0, fp, Γ, S1, ok.grow g1, w.mono fun b q S2 H2 g2 => q S2 H2 (g1.trans g2)⟩
  | false => exact iteF (w S1 H1 g1)
theorem s_orT {a b : Expr} {rest : List Expr} {f g : En → Out Bool} {pos : Pos} (ha : PT X a (TT_ X.K X.mg E f)) (hb : PW X (.BoolOp .Or (b :: rest) pos) (TT_ X.K X.mg E g)) :
    PT X (.BoolOp .Or (a :: b :: rest) pos) (TT_ X.K X.mg E fun Γ => f Γ >>= fun c => if c then .ok true else g Γ) := by
  refine (pw_or ha hb).pt.imp fun σ H Q ⟨S0, P0, fp, Γ, S, ok, w⟩ => ?_
  refine ⟨S0, P0, fp, Γ, S, ok, (Want.bind.mp w).mono fun c w S1 H1 g1 => ?_⟩
  cases c with
  | false => exact iteF ⟨S0, P0, fp, Γ, S1, ok.grow g1, w.mono fun b q S2 H2 g2 => q S2 H2 (g1.trans g2)⟩
  | true => exact iteT (w S1 H1 g1)
theorem s_notT {a : Expr} {f : En → Out Bool} {pos : Pos} (ha : PT X a (TT_ X.K X.mg E f)) : PT X (.UnaryOp .Not a pos) (TT_ X.K X.mg E fun Γ => f Γ >>= fun c => .ok (!c)) := by
  refine (pt_not ha).imp fun σ H Q ⟨S0, P0, fp, Γ, S, ok, w⟩ => ?_
  exact ⟨S0, P0, fp, Γ, S, ok, (Want.bind.mp w).mono fun c w S1 H1 g1 => w S1 H1 g1⟩
theorem s_un {op : UnaryOp} {h : Int → Int} (hu : UnR X (unaryOp op) (rU fun i => .int (h i))) {a : Expr} {f : En → R} {pos : Pos} (ha : PE X a (TE_ X.K X.mg E f)) :
    PE X (.UnaryOp op a pos) (TE_ X.K X.mg E fun Γ => f Γ >>= fun x => match x.1 with
      | .int i => pb (.int (h i))
      | _ => .bad) := by
  refine (pe_un hu ha).imp fun σ H Q ⟨S0, P0, fp, Γ, S, ok, w⟩ => ?_
  refine ⟨S0, P0, fp, Γ, S, ok, (Want.bind.mp w).mono fun x w v S1 H1 g1 b1 => ?_⟩
  obtain ⟨d, fl⟩ := x
  cases d with
  | int i => cases int_inv b1.b; exact ⟨i, rfl, w _ S1 H1 g1 (VOk.of (.int _))⟩
  | _ => exact w.elim
theorem s_not {a : Expr} {f : En → R} {pos : Pos} (ha : PE X a (TB_ X.K X.mg E f)) : PE X (.UnaryOp .Not a pos) (TE_ X.K X.mg E fun Γ => f Γ >>= fun x => up (truD x.1) >>= fun b => pb (.bl (!b))) := by
  refine (pe_notT ha).imp fun σ H Q ⟨S0, P0, fp, Γ, S, ok, w⟩ => ?_
  refine ⟨S0, P0, fp, Γ, S, ok, (Want.bind.mp w).mono fun x w v S1 H1 g1 b1 => ?_⟩
  obtain ⟨p, hp, k⟩ := up_want.mp (Want.bind.mp w)
  exact ⟨p, tru_of g1.sub b1 hp, k _ S1 H1 g1 (VOk.of (.bl _))⟩
theorem grow_vok {K : PySem.W.Frag} {S H S1 H1 S2 H2 : Hp} {v : V} {d : D} {fl : Bool} (g1 : Grow S H S1 H1) (vo : VOk K H1 S2 H2 v d fl) : VOk K H S2 H2 v d fl := by
  obtain ⟨as, o, n, z, f⟩ := vo
  exact ⟨as, o, n, fun a ha => ⟨Same.none g1.same (z a ha).1, (z a ha).2⟩, f⟩
/-- behind a part: the whole's wish for the rest -/
theorem TE_.next {f : En → R} {σ : L2.St} {H S S1 H1 S0 P0 : Hp} {fp : Nat → List Addr} {Γ : En} {Q : VK} (ok : Ok X.K S0 P0 fp Γ σ S H) (g1 : Grow S H S1 H1)
    (w : Want X.K X.mg E S0 P0 (f Γ) fun p => ∀ v S' H', Grow S H S' H' → VOk X.K H S' H' v p.1 p.2 → Q v H') : TE_ X.K X.mg E f σ H1 Q :=
  ⟨S0, P0, fp, Γ, S1, ok.grow g1, w.mono fun p q v S2 H2 g2 vo => q v S2 H2 (g1.trans g2) (grow_vok g1 vo)⟩
theorem s_and1V {a : Expr} {f : En → R} {pos : Pos} {op : BoolOp} (ha : PE X a (TE_ X.K X.mg E f)) : PE X (.BoolOp op [a] pos) (TE_ X.K X.mg E f) := pe_one ha
theorem s_and {a b : Expr} {rest : List Expr} {f g : En → R} {pos : Pos} (ha : PE X a (TE_ X.K X.mg E f)) (hb : PE X (.BoolOp .And (b :: rest) pos) (TE_ X.K X.mg E g)) :
    PE X (.BoolOp .And (a :: b :: rest) pos) (TE_ X.K X.mg E fun Γ => f Γ >>= fun x => match x.1 with
      | .bl c => if c then g Γ else pb (.bl false)
      | _ => .bad) := by
  refine (pe_and ha hb).imp fun σ H Q ⟨S0, P0, fp, Γ, S, ok, w⟩ => ?_
  refine ⟨S0, P0, fp, Γ, S, ok, (Want.bind.mp w).mono fun x w v S1 H1 g1 b1 => ?_⟩
  obtain ⟨d, fl⟩ := x
  cases d with
  | bl c =>
    cases bl_inv b1.b
    refine ⟨c, rfl, ?_⟩
    cases c with
    | true => exact iteT (TE_.next ok g1 w)
    | false => exact iteF (w _ S1 H1 g1 (VOk.of (.bl _)))
  | _ => exact w.elim
theorem s_or {a b : Expr} {rest : List Expr} {f g : En → R} {pos : Pos} (ha : PE X a (TE_ X.K X.mg E f)) (hb : PE X (.BoolOp .Or (b :: rest) pos) (TE_ X.K X.mg E g)) :
    PE X (.BoolOp .Or (a :: b :: rest) pos) (TE_ X.K X.mg E fun Γ => f Γ >>= fun x => match x.1 with
      | .bl c => if c then pb (.bl true) else g Γ
      | _ => .bad) := by
  refine (pe_or ha hb).imp fun σ H Q ⟨S0, P0, fp, Γ, S, ok, w⟩ => ?_
  refine ⟨S0, P0, fp, Γ, S, ok, (Want.bind.mp w).mono fun x w v S1 H1 g1 b1 => ?_⟩
  obtain ⟨d, fl⟩ := x
  cases d with
  | bl c =>
    cases bl_inv b1.b
    refine ⟨c, rfl, ?_⟩
    cases c with
    | false => exact iteF (TE_.next ok g1 w)
    | true => exact iteT (w _ S1 H1 g1 (VOk.of (.bl _)))
  | _ => exact w.elim
theorem s_ife {c a b : Expr} {t : En → Out Bool} {f g : En → R} {pos : Pos} (hc : PT X c (TT_ X.K X.mg E t)) (ha : PE X a (TE_ X.K X.mg E f)) (hb : PE X b (TE_ X.K X.mg E g)) :
    PE X (.IfExp c a b pos) (TE_ X.K X.mg E fun Γ => t Γ >>= fun c => if c then f Γ else g Γ) := by
  refine (pe_ifExp hc ha hb).imp fun σ H Q ⟨S0, P0, fp, Γ, S, ok, w⟩ => ?_
  refine ⟨S0, P0, fp, Γ, S, ok, (Want.bind.mp w).mono fun c w S1 H1 g1 => ?_⟩
  cases c with
  | true => exact iteT (TE_.next ok g1 w)
  | false => exact iteF (TE_.next ok g1 w)

/-! ### argument lists -/
/-- given away -/
def TA_ (K : PySem.W.Frag) (mg : Str → Option Value) (E : XK) (f : En → Out (List D)) : TA := fun σ H Q => ∃ S0 P0 fp Γ S, Ok K S0 P0 fp Γ σ S H ∧ Want K mg E S0 P0 (f Γ) fun ds => ∀ vs S' H', Grow S H S' H' → RepAll K S' vs ds → Q vs H'
/-- read for a moment -/
def TAB_ (K : PySem.W.Frag) (mg : Str → Option Value) (E : XK) (f : En → Out (List (D × Bool))) : TA := fun σ H Q => ∃ S0 P0 fp Γ S, Ok K S0 P0 fp Γ σ S H ∧ Want K mg E S0 P0 (f Γ) fun ps => ∀ vs S' H', Grow S H S' H' → Paired (fun v (p : D × Bool) => BOk K S' H' v p.1 p.2) vs ps → Q vs H'
/-- handed to a def: what is owned stands outside of S -/
def AOk (K : PySem.W.Frag) (S' H' : Hp) (v : V) (p : D × Bool) : Prop := ∃ as, DOwn K S' H' v p.1 as ∧ (p.2 = false → as = []) ∧ ∀ a ∈ as, S' a = none
def TAA_ (K : PySem.W.Frag) (mg : Str → Option Value) (E : XK) (f : En → Out (List (D × Bool))) : TA := fun σ H Q => ∃ S0 P0 fp Γ S, Ok K S0 P0 fp Γ σ S H ∧ Want K mg E S0 P0 (f Γ) fun ps => ∀ vs S' H', Grow S H S' H' → Paired (AOk K S' H') vs ps → Q vs H'
theorem AOk.mono {K : PySem.W.Frag} {S H S' H' : Hp} {v : V} {p : D × Bool} (h : AOk K S H v p) (g : Grow S H S' H') : AOk K S' H' v p := by
  obtain ⟨as, o, f, z⟩ := h
  refine ⟨as, o.mono g.mono fun b hb => ?_, f, fun b hb => ?_⟩
  · obtain ⟨xs, q⟩ := o.there b hb
    rw [q, g.same _ _ q]
  · obtain ⟨xs, q⟩ := o.there b hb
    exact g.keepN (z b hb) (by rw [q]; exact fun z => nomatch z)
theorem s_nilA : PA X [] (TA_ X.K X.mg E fun _ => .ok []) := pa_nil.imp fun σ H Q ⟨S0, P0, fp, Γ, S, ok, w⟩ => w [] S H (Grow.refl ok.sub) .nil
theorem s_consA {e : Expr} {es : List Expr} {f : En → R} {g : En → Out (List D)} (ha : PE X e (TE_ X.K X.mg E f)) (hr : PA X es (TA_ X.K X.mg E g)) (hs : isStar e = false) :
    PA X (e :: es) (TA_ X.K X.mg E fun Γ => f Γ >>= fun x => g Γ >>= fun xs => .ok (x.1 :: xs)) := by
  refine (pa_cons (ha.imp fun _ _ _ => TV_.of) hr (star_of hs _ _)).imp fun σ H Q ⟨S0, P0, fp, Γ, S, ok, w⟩ => ?_
  refine ⟨S0, P0, fp, Γ, S, ok, (Want.bind.mp w).mono fun x w v S1 H1 g1 b1 => ?_⟩
  refine ⟨S0, P0, fp, Γ, S1, ok.grow g1, (Want.bind.mp w).mono fun y w vs S2 H2 g2 b2 => ?_⟩
  exact w _ S2 H2 (g1.trans g2) (.cons (b1.mono g2.mono) b2)
theorem s_nilB : PA X [] (TAB_ X.K X.mg E fun _ => .ok []) := pa_nil.imp fun σ H Q ⟨S0, P0, fp, Γ, S, ok, w⟩ => w [] S H (Grow.refl ok.sub) .nil
theorem s_consB {e : Expr} {es : List Expr} {f : En → R} {g : En → Out (List (D × Bool))} (ha : PE X e (TB_ X.K X.mg E f)) (hr : PA X es (TAB_ X.K X.mg E g)) (hs : isStar e = false) :
    PA X (e :: es) (TAB_ X.K X.mg E fun Γ => f Γ >>= fun x => g Γ >>= fun xs => .ok (x :: xs)) := by
  refine (pa_cons ha hr (star_of hs _ _)).imp fun σ H Q ⟨S0, P0, fp, Γ, S, ok, w⟩ => ?_
  refine ⟨S0, P0, fp, Γ, S, ok, (Want.bind.mp w).mono fun x w v S1 H1 g1 b1 => ?_⟩
  refine ⟨S0, P0, fp, Γ, S1, ok.grow g1, (Want.bind.mp w).mono fun y w vs S2 H2 g2 b2 => ?_⟩
  exact w _ S2 H2 (g1.trans g2) (.cons (b1.mono g2) b2)
/-- one argument handed to a def -/
def TA1_ (K : PySem.W.Frag) (mg : Str → Option Value) (E : XK) (f : En → R) : TE := fun σ H Q => ∃ S0 P0 fp Γ S, Ok K S0 P0 fp Γ σ S H ∧ Want K mg E S0 P0 (f Γ) fun p => ∀ v S' H', Grow S H S' H' → AOk K S' H' v p → Q v H'
theorem s_arg_bor (M : Mt G call CX E X sc) {i : Nat} {x : Str} {pos : Pos} (h : chkVar sc i x = true) : PE X (.Name x pos) (TA1_ X.K X.mg E fun Γ => look Γ i) := by
  obtain ⟨h1, h2, h3, h4⟩ := M.vis h
  refine (pe_var h1 h2 h3 h4).imp fun σ H Q ⟨S0, P0, fp, Γ, S, ok, w⟩ => ?_
  cases e : look Γ i with
  | ok p =>
    simp only [e] at w
    unfold look at e
    split at e
    · rename_i p' hp
      cases e
      obtain ⟨v, hv, o, f⟩ := ok.val i p.1 p.2 hp
      exact ⟨v, hv, w v S H (Grow.refl ok.sub) ⟨_, o, f.1, fun a ha => (ok.frs i a ha).2.1⟩⟩
    · cases e
  | exc x => unfold look at e; split at e <;> cases e
  | bad => simp only [e] at w; exact w.elim
theorem s_arg_val {e : Expr} {f : En → R} (ha : PE X e (TE_ X.K X.mg E f)) : PE X e (TA1_ X.K X.mg E fun Γ => f Γ >>= fun p => .ok (p.1, false)) := by
  refine (ha.imp fun _ _ _ => TV_.of).imp fun σ H Q ⟨S0, P0, fp, Γ, S, ok, w⟩ => ?_
  exact ⟨S0, P0, fp, Γ, S, ok, (Want.bind.mp w).mono fun p q v S' H' g r => q v S' H' g ⟨[], .rep r, fun _ => rfl, fun a ha => nomatch ha⟩⟩
theorem s_nilAA : PA X [] (TAA_ X.K X.mg E fun _ => .ok []) := pa_nil.imp fun σ H Q ⟨S0, P0, fp, Γ, S, ok, w⟩ => w [] S H (Grow.refl ok.sub) .nil
theorem s_consAA {e : Expr} {es : List Expr} {f : En → R} {g : En → Out (List (D × Bool))} (ha : PE X e (TA1_ X.K X.mg E f)) (hr : PA X es (TAA_ X.K X.mg E g)) (hs : isStar e = false) :
    PA X (e :: es) (TAA_ X.K X.mg E fun Γ => f Γ >>= fun x => g Γ >>= fun xs => .ok (x :: xs)) := by
  refine (pa_cons ha hr (star_of hs _ _)).imp fun σ H Q ⟨S0, P0, fp, Γ, S, ok, w⟩ => ?_
  refine ⟨S0, P0, fp, Γ, S, ok, (Want.bind.mp w).mono fun x w v S1 H1 g1 b1 => ?_⟩
  refine ⟨S0, P0, fp, Γ, S1, ok.grow g1, (Want.bind.mp w).mono fun y w vs S2 H2 g2 b2 => ?_⟩
  exact w _ S2 H2 (g1.trans g2) (.cons (b1.mono g2) b2)

/-! ### displays, subscripts -/
theorem s_tup {es : List Expr} {k : Nat} {pos : Pos} {f : En → Out (List D)} (h : PA X es (TA_ X.K X.mg E f)) : PE X (.Tuple es k pos) (TE_ X.K X.mg E fun Γ => f Γ >>= fun ds => if szOk ds.length then pb (.tup ds) else .bad) := by
  refine (pe_tup h).imp fun σ H Q ⟨S0, P0, fp, Γ, S, ok, w⟩ => ?_
  refine ⟨S0, P0, fp, Γ, S, ok, (Want.bind.mp w).mono fun ds w vs S1 H1 g1 r1 => ?_⟩
  split at w
  · rename_i hz
    refine ⟨by rw [r1.length]; exact of_decide_eq_true hz, fun p hp => ?_⟩
    obtain ⟨g, vo⟩ := new_tup (K := X.K) g1.sub hp r1 (fl := false)
    exact w _ _ _ (g1.trans g) (grow_vok g1 vo)
  · exact w.elim
theorem s_lst {es : List Expr} {pos : Pos} {f : En → Out (List D)} (h : PA X es (TA_ X.K X.mg E f)) : PE X (.List es pos) (TE_ X.K X.mg E fun Γ => f Γ >>= fun ds => if szOk ds.length then .ok (.lst ds, true) else .bad) := by
  refine (pe_lst h).imp fun σ H Q ⟨S0, P0, fp, Γ, S, ok, w⟩ => ?_
  refine ⟨S0, P0, fp, Γ, S, ok, (Want.bind.mp w).mono fun ds w vs S1 H1 g1 r1 => ?_⟩
  split at w
  · rename_i hz
    refine ⟨by rw [r1.length]; exact of_decide_eq_true hz, fun p hp => ?_⟩
    obtain ⟨g, vo⟩ := new_lst (K := X.K) g1.sub hp r1
    exact w _ _ _ (g1.trans g) (grow_vok g1 vo)
  · exact w.elim
theorem s_ix {a b : Expr} {f g : En → R} {pos : Pos} (ha : PE X a (TB_ X.K X.mg E f)) (hb : PE X b (TE_ X.K X.mg E g)) (hs : isSlice b = false) :
    PE X (.Subscript a b pos) (TE_ X.K X.mg E fun Γ => f Γ >>= fun x => g Γ >>= fun y => up (ixD x.1 x.2 y.1)) := by
  refine (pe_ix ix_ok ha hb (plainIx_of hs)).imp fun σ H Q ⟨S0, P0, fp, Γ, S, ok, w⟩ => ?_
  refine ⟨S0, P0, fp, Γ, S, ok, (Want.bind.mp w).mono fun x w v S1 H1 g1 b1 => ?_⟩
  refine ⟨S0, P0, fp, Γ, S1, ok.grow g1, (Want.bind.mp w).mono fun y w u S2 H2 g2 b2 => ?_⟩
  obtain ⟨p, hp, k⟩ := up_want.mp w
  exact ⟨S2, x.1, x.2, y.1, y.2, p, g2.sub, b1.mono g2, b2.b, hp, fun v3 S3 H3 g3 vo => k v3 S3 H3 ((g1.trans g2).trans g3) (grow_vok (g1.trans g2) vo)⟩
def TO_ (K : PySem.W.Frag) (mg : Str → Option Value) (E : XK) (f : En → Out (Option Int)) : TO := fun σ H Q => ∃ S0 P0 fp Γ S, Ok K S0 P0 fp Γ σ S H ∧ Want K mg E S0 P0 (f Γ) fun o => ∀ S' H', Grow S H S' H' → Q o H'
theorem _root_.L2.PO.imp {e : Option Expr} {t t' : TO} (h : PO X e t) (i : ∀ σ H Q, t' σ H Q → t σ H Q) : PO X e t' := ⟨fun pins s σ H Q I q => h.run pins s σ H Q I (i σ H Q q)⟩
theorem s_none : PO X none (TO_ X.K X.mg E fun _ => .ok none) := PO.imp po_none fun σ H Q ⟨S0, P0, fp, Γ, S, ok, w⟩ => w S H (Grow.refl ok.sub)
theorem s_some {e : Expr} {f : En → R} (he : PE X e (TE_ X.K X.mg E f)) : PO X (some e) (TO_ X.K X.mg E fun Γ => f Γ >>= fun x => match x.1 with
    | .int i => .ok (some i)
    | _ => .bad) := by
  refine PO.imp (po_some he) fun σ H Q ⟨S0, P0, fp, Γ, S, ok, w⟩ => ?_
  refine ⟨S0, P0, fp, Γ, S, ok, (Want.bind.mp w).mono fun x w v S1 H1 g1 b1 => ?_⟩
  obtain ⟨d, fl⟩ := x
  cases d with
  | int i => cases int_inv b1.b; exact ⟨i, rfl, w S1 H1 g1⟩
  | _ => exact w.elim
theorem s_slc {a : Expr} {lo hi : Option Expr} {f : En → R} {l h : En → Out (Option Int)} {pos p2 : Pos} (ha : PE X a (TB_ X.K X.mg E f)) (hl : PO X lo (TO_ X.K X.mg E l)) (hh : PO X hi (TO_ X.K X.mg E h)) :
    PE X (.Subscript a (.Slice lo hi none p2) pos) (TE_ X.K X.mg E fun Γ => f Γ >>= fun x => l Γ >>= fun l => h Γ >>= fun h => up (slcD x.1 x.2 l h)) := by
  refine (pe_slice slc_ok ha hl hh).imp fun σ H Q ⟨S0, P0, fp, Γ, S, ok, w⟩ => ?_
  refine ⟨S0, P0, fp, Γ, S, ok, (Want.bind.mp w).mono fun x w v S1 H1 g1 b1 => ?_⟩
  refine ⟨S0, P0, fp, Γ, S1, ok.grow g1, (Want.bind.mp w).mono fun lo w S2 H2 g2 => ?_⟩
  refine ⟨S0, P0, fp, Γ, S2, (ok.grow g1).grow g2, (Want.bind.mp w).mono fun hi w S3 H3 g3 => ?_⟩
  obtain ⟨p, hp, k⟩ := up_want.mp w
  have g := (g1.trans g2).trans g3
  exact ⟨S3, x.1, x.2, p, g3.sub, b1.mono (g2.trans g3), hp, fun v4 S4 H4 g4 vo => k v4 S4 H4 (g.trans g4) (grow_vok g vo)⟩
end
end Cr
end

section
set_option maxHeartbeats 4000000
/-! Calls, built-ins by name, what a loop walks. -/
namespace Cr
open PySem PySem.Spec PyProof.Rows L2

theorem Want.mono' {K : PySem.W.Frag} {mg : Str → Option Value} {E : XK} {α : Type} {S0 P0 : Hp} {r : Out α} {k k' : α → Prop} (h : Want K mg E S0 P0 r k) (i : ∀ a, r = .ok a → k a → k' a) : Want K mg E S0 P0 r k' := by
  cases r with
  | ok a => exact i a rfl h
  | exc x => exact h
  | bad => exact h
theorem frz_more {S H : Hp} (sub : Same S H) (as bs : List Addr) : Same (frz S H as) (frz S H (as ++ bs)) := fun b o h => by
  unfold frz at h ⊢
  by_cases h1 : b ∈ as
  · rw [if_pos h1] at h; rw [if_pos (List.mem_append_left _ h1)]; exact h
  · rw [if_neg h1] at h
    split
    · exact sub _ _ h
    · exact h
theorem frz_more' {S H : Hp} (sub : Same S H) (as bs : List Addr) : Same (frz S H bs) (frz S H (as ++ bs)) := fun b o h => by
  unfold frz at h ⊢
  by_cases h1 : b ∈ bs
  · rw [if_pos h1] at h; rw [if_pos (List.mem_append_right _ h1)]; exact h
  · rw [if_neg h1] at h
    split
    · exact sub _ _ h
    · exact h
theorem args_frz {K : PySem.W.Frag} {S H : Hp} (sub : Same S H) : ∀ {vs : List V} {ps : List (D × Bool)}, Paired (AOk K S H) vs ps →
    ∃ A : List Addr, (∀ a ∈ A, S a = none ∧ ∃ xs, H a = some (.lst xs)) ∧ RepAll K (frz S H A) vs (ps.map (·.1)) ∧ (ps.all (fun a => !a.2) = true → A = [])
  | _, _, .nil => ⟨[], (fun a ha => nomatch ha), .nil, fun _ => rfl⟩
  | _, p :: ps, .cons h r => by
    obtain ⟨as, o, f, z⟩ := h
    obtain ⟨A, hA, rA, fA⟩ := args_frz sub r
    refine ⟨as ++ A, fun a ha => ?_, .cons ((o.freeze sub).mono (frz_more sub as A)) (rA.mono (frz_more' sub as A)), fun e => ?_⟩
    · rcases List.mem_append.mp ha with q | q
      · exact ⟨z a q, o.there a q⟩
      · exact hA a q
    · rw [List.all_cons, Bool.and_eq_true] at e
      rw [f (by simpa using e.1), fA e.2]
      rfl
mutual
theorem Rep.pure {K : PySem.W.Frag} {S S' : Hp} (t : ∀ a u, Rd S a (.tup u) → Rd S' a (.tup u)) : ∀ {v : V} {d : D}, Rep K S v d → pureD d = true → Rep K S' v d
  | _, _, .non, _ => .non
  | _, _, .bl b, _ => .bl b
  | _, _, .int i, _ => .int i
  | _, _, .str i, _ => .str i
  | _, .tup ds, .tup h r, e => .tup (h.elim (fun q => .inl (t _ _ q)) .inr) (RepAll.pure t r (by unfold pureD at e; exact e))
  | _, .lst ds, .lst h r, e => by unfold pureD at e; cases e
  | _, .fls ds, .fls h r, e => by unfold pureD at e; cases e
theorem RepAll.pure {K : PySem.W.Frag} {S S' : Hp} (t : ∀ a u, Rd S a (.tup u) → Rd S' a (.tup u)) : ∀ {vs : List V} {ds : List D}, RepAll K S vs ds → pureDs ds = true → RepAll K S' vs ds
  | _, _, .nil, _ => .nil
  | _, d :: ds, .cons h r, e => by
    unfold pureDs at e
    rw [Bool.and_eq_true] at e
    exact .cons (Rep.pure t h e.1) (RepAll.pure t r e.2)
end
theorem pure_nl {d : D} (h : pureD d = true) : nl d = true := by
  cases d with
  | lst ds => unfold pureD at h; cases h
  | _ => rfl
theorem Paired.len {α β : Type} {F : α → β → Prop} : ∀ {l : List α} {m : List β}, Paired F l m → l.length = m.length
  | _, _, .nil => rfl
  | _, _, .cons _ t => by simp [Paired.len t]

section
variable {G : Gi} {call : Str → List D → R} {CX : CXT} {E : XK} {X : Cx} {sc : Sc}
/-- behind a call, what had been handed but is still owned is taken back -/
theorem call_back {K : PySem.W.Frag} {S H S' H' : Hp} {A : List Addr} {v : V} {d : D} {fl : Bool} (sub : Same S H) (hA : ∀ a ∈ A, S a = none ∧ ∃ xs, H a = some (.lst xs)) (g : Grow (frz S H A) H S' H') (vo : VOk K H S' H' v d fl)
    (h : A = [] ∨ pureD d = true) : ∃ S2, Grow S H S2 H' ∧ VOk K H S2 H' v d fl := by
  rcases h with rfl | h
  · have e : frz S H [] = S := by funext b; exact if_neg (by simp)
    rw [e] at g
    exact ⟨S', g, vo⟩
  · refine ⟨fun b => if b ∈ A then none else S' b, ⟨fun b o q => ?_, fun b o q => ?_, g.same, fun b q => ?_⟩, ?_⟩
    · by_cases nb : b ∈ A
      · have q : (if b ∈ A then none else S' b) = some o := q
        rw [if_pos nb] at q; cases q
      · have q : (if b ∈ A then none else S' b) = some o := q
        rw [if_neg nb] at q
        exact g.sub _ _ q
    · have nb : b ∉ A := fun z => by rw [(hA b z).1] at q; cases q
      show (if b ∈ A then none else S' b) = some o
      rw [if_neg nb]
      exact g.mono _ _ (frz_mono sub A _ _ q)
    · have q : (if b ∈ A then none else S' b) ≠ none := q
      by_cases nb : b ∈ A
      · rw [if_pos nb] at q; exact (q rfl).elim
      · rw [if_neg nb] at q
        rcases g.new b q with z | z
        · unfold frz at z; rw [if_neg nb] at z; exact .inl z
        · exact .inr z
    · obtain ⟨as, o, n, z, f⟩ := vo
      refine VOk.of ((o.of_nl (pure_nl h)).2.pure (fun a u r => ?_) h) (.inr (pure_nl h))
      have nb : a ∉ A := fun q => by
        obtain ⟨xs, e⟩ := (hA a q).2
        have e2 := g.same _ _ e
        rcases r with r | ⟨ob, r⟩
        · rw [g.sub _ _ r] at e2; cases e2
        · rw [g.sub _ _ r] at e2; cases e2
      rcases r with r | ⟨ob, r⟩
      · exact .inl (by show (if a ∈ A then none else S' a) = _; rw [if_neg nb]; exact r)
      · exact .inr ⟨ob, by show (if a ∈ A then none else S' a) = _; rw [if_neg nb]; exact r⟩
theorem call_step {K : PySem.W.Frag} {mg : Str → Option Value} {n : Nat} {f : List D → R} {as : List (D × Bool)} {vs : List V} {σ : L2.St} {S0 P0 S H S1 H1 : Hp} {fp : Nat → List Addr} {Γ : En} {Q : VK} (ok : Ok K S0 P0 fp Γ σ S H) (g1 : Grow S H S1 H1)
    (w : Want K mg E S0 P0 (callOr as (f (as.map (·.1)))) fun p => ∀ v S' H', Grow S H S' H' → VOk K H S' H' v p.1 p.2 → Q v H') (pr : Paired (AOk K S1 H1) vs as) (hl : as.length = n) : spF K mg n f vs H1 Q E := by
  obtain ⟨A, hA, rA, fA⟩ := args_frz g1.sub pr
  refine ⟨(Paired.len pr).trans hl, _, _, frz_sub g1.sub A, rA, ?_⟩
  unfold callOr at w
  cases e : f (as.map (·.1)) with
  | bad => rw [e] at w; exact w.elim
  | exc z =>
    rw [e] at w
    intro C oa S' H' h1 h2 h3 h4
    have ok1 := ok.grow g1
    exact w C oa S' H' (ok1.base.trans h1) ((ok1.s0.trans (frz_mono g1.sub A)).trans h2) h3 h4
  | ok q =>
    rw [e, ok_bind] at w
    split at w
    · rename_i hc
      rw [Bool.or_eq_true] at hc
      intro v S2 H2 g2 vo
      obtain ⟨S3, g3, vo3⟩ := call_back g1.sub hA g2 vo (hc.imp fA id)
      exact w v S3 H2 (g1.trans g3) (grow_vok g1 vo3)
    · exact w.elim
theorem s_call (M : Mt G call CX E X sc) {f x : Str} {e : Expr} {es : List Expr} {g : En → Out (List (D × Bool))} {p pos : Pos} (hx : x = f) (ho : okNm x = true) (hg : gloB sc x = true) (hm : (f, (e :: es).length) ∈ G.funs)
    (ha : PA X (e :: es) (TAA_ X.K X.mg E g)) (h1 : isStar e = false) (h2 : NoStars es) (hl : ∀ Γ as, g Γ = .ok as → as.length = (e :: es).length) :
    PE X (.Call (.Name x p) (e :: es) [] pos) (TE_ X.K X.mg E fun Γ => g Γ >>= fun as => callOr as (call f (as.map (·.1)))) := by
  subst hx
  obtain ⟨a, fd, ps, k, m1, F, hr, kp, hb⟩ := M.fs x _ hm
  unfold okNm at ho
  simp only [Bool.and_eq_true, Bool.not_eq_true'] at ho
  refine (pe_call F hr (M.glo hg) m1 kp hb .nil M.pass ha ho.1.1 (star_of h1 _ _) (h2.any _ _)).imp fun σ H Q ⟨S0, P0, fp, Γ, S, ok, w⟩ => ?_
  refine ⟨S0, P0, fp, Γ, S, ok, (Want.bind.mp w).mono' fun as eas w vs S1 H1 g1 pr => ?_⟩
  show spF X.K X.mg _ (call x) (vs ++ []) H1 Q E
  rw [List.append_nil]
  exact call_step ok g1 w pr (hl Γ as eas)
theorem s_call0 (M : Mt G call CX E X sc) {f x : Str} {p pos : Pos} (hx : x = f) (ho : okNm x = true) (hg : gloB sc x = true) (hm : (f, 0) ∈ G.funs) :
    PE X (.Call (.Name x p) [] [] pos) (TE_ X.K X.mg E fun Γ => (Out.ok [] : Out (List (D × Bool))) >>= fun as => callOr as (call f (as.map (·.1)))) := by
  subst hx
  obtain ⟨a, fd, ps, k, m1, F, hr, kp, hb⟩ := M.fs x _ hm
  unfold okNm at ho
  simp only [Bool.and_eq_true, Bool.not_eq_true'] at ho
  refine (pe_call0 F hr (M.glo hg) m1 kp hb .nil M.pass ho.1.1).imp fun σ H Q ⟨S0, P0, fp, Γ, S, ok, w⟩ => ?_
  show spF X.K X.mg _ (call x) ([] ++ []) H Q E
  exact call_step (vs := []) ok (Grow.refl ok.sub) w .nil rfl

/-! ### built-ins by name -/
theorem s_fn1 {f : Bf} {id : String} {x : Str} {a : Expr} {g : En → R} {p pos : Pos} (hc : CallR X (.builtin id) (rFn1 X.K f)) (hg : Gl X x) (hm : X.mg x = none) (hv : bootBuiltins x = some (.builtin id)) (ha : PE X a (TB_ X.K X.mg E g)) (hs : isStar a = false)
    (hn : x ≠ "__name__") (hdb : (x == ("__debug__" : Str)) = false) :
    PE X (.Call (.Name x p) [a] [] pos) (TE_ X.K X.mg E fun Γ => (g Γ >>= fun x => (Out.ok [] : Out (List (D × Bool))) >>= fun xs => .ok (x :: xs)) >>= fun as => up (bltD f as)) := by
  refine (pe_callB hc hg hm hv (pa_cons ha pa_nil (star_of hs _ _)) hn hdb (star_of hs _ _) rfl).imp fun σ H Q ⟨S0, P0, fp, Γ, S, ok, w⟩ => ?_
  refine ⟨S0, P0, fp, Γ, S, ok, (Want.bind.mp (Want.bind.mp w)).mono fun y w v S1 H1 g1 b1 => ?_⟩
  obtain ⟨q, hq, k⟩ := up_want.mp w
  exact ⟨v, S1, y.1, y.2, q, rfl, g1.sub, b1, hq, fun v2 S2 H2 g2 vo => k v2 S2 H2 (g1.trans g2) (grow_vok g1 vo)⟩
theorem s_fnT1 {f : Bf} {id : String} {x : Str} {a : Expr} {g : En → R} {p pos : Pos} (hc : CallR X (.type id) (rFn1 X.K f)) (hg : Gl X x) (hm : X.mg x = none) (hv : bootBuiltins x = some (.type id)) (ha : PE X a (TB_ X.K X.mg E g)) (hs : isStar a = false)
    (hn : x ≠ "__name__") (hdb : (x == ("__debug__" : Str)) = false) :
    PE X (.Call (.Name x p) [a] [] pos) (TE_ X.K X.mg E fun Γ => (g Γ >>= fun x => (Out.ok [] : Out (List (D × Bool))) >>= fun xs => .ok (x :: xs)) >>= fun as => up (bltD f as)) := by
  refine (pe_callTy hc hg hm hv (pa_cons ha pa_nil (star_of hs _ _)) hn hdb (star_of hs _ _) rfl).imp fun σ H Q ⟨S0, P0, fp, Γ, S, ok, w⟩ => ?_
  refine ⟨S0, P0, fp, Γ, S, ok, (Want.bind.mp (Want.bind.mp w)).mono fun y w v S1 H1 g1 b1 => ?_⟩
  obtain ⟨q, hq, k⟩ := up_want.mp w
  exact ⟨v, S1, y.1, y.2, q, rfl, g1.sub, b1, hq, fun v2 S2 H2 g2 vo => k v2 S2 H2 (g1.trans g2) (grow_vok g1 vo)⟩
theorem s_fn2 {f : Bf} {id : String} {x : Str} {a b : Expr} {g h : En → R} {p pos : Pos} (hc : CallR X (.builtin id) (rFn2 X.K f)) (hg : Gl X x) (hm : X.mg x = none) (hv : bootBuiltins x = some (.builtin id)) (ha : PE X a (TB_ X.K X.mg E g)) (hb : PE X b (TB_ X.K X.mg E h))
    (hs : isStar a = false) (hs2 : isStar b = false) (hn : x ≠ "__name__") (hdb : (x == ("__debug__" : Str)) = false) :
    PE X (.Call (.Name x p) [a, b] [] pos) (TE_ X.K X.mg E fun Γ => (g Γ >>= fun x => (h Γ >>= fun y => (Out.ok [] : Out (List (D × Bool))) >>= fun xs => .ok (y :: xs)) >>= fun xs => .ok (x :: xs)) >>= fun as => up (bltD f as)) := by
  refine (pe_callB hc hg hm hv (pa_cons ha (pa_cons hb pa_nil (star_of hs2 _ _)) (star_of hs _ _)) hn hdb (star_of hs _ _) ((NoStars.cons hs2 .nil).any _ _)).imp fun σ H Q ⟨S0, P0, fp, Γ, S, ok, w⟩ => ?_
  refine ⟨S0, P0, fp, Γ, S, ok, (Want.bind.mp (Want.bind.mp w)).mono fun y w v S1 H1 g1 b1 => ?_⟩
  refine ⟨S0, P0, fp, Γ, S1, ok.grow g1, (Want.bind.mp (Want.bind.mp w)).mono fun z w u S2 H2 g2 b2 => ?_⟩
  obtain ⟨q, hq, k⟩ := up_want.mp w
  exact ⟨v, u, S2, y.1, y.2, z.1, z.2, q, rfl, g2.sub, b1.mono g2, b2, hq, fun v3 S3 H3 g3 vo => k v3 S3 H3 ((g1.trans g2).trans g3) (grow_vok (g1.trans g2) vo)⟩
theorem boot_ty (t : Ty) : bootBuiltins (t.nm : Str) = some (.type t.nm) := by cases t <;> decide +kernel
theorem s_isi {t : Ty} {x y : Str} {a : Expr} {g : En → R} {p p2 pos : Pos} (hx : x = "isinstance") (hy : y = (t.nm : Str)) (hg : Gl X x) (hm : X.mg x = none) (hg2 : Gl X y) (hm2 : X.mg y = none) (ha : PE X a (TB_ X.K X.mg E g)) (hs : isStar a = false) :
    PE X (.Call (.Name x p) [a, .Name y p2] [] pos) (TE_ X.K X.mg E fun Γ => (g Γ >>= fun x => (Out.ok [] : Out (List (D × Bool))) >>= fun xs => .ok (x :: xs)) >>= fun as => up (bltD (.isi t) as)) := by
  subst hx
  subst hy
  have n1 : (t.nm : Str) ≠ "__name__" := by cases t <;> decide
  have n2 : ((t.nm : Str) == ("__debug__" : Str)) = false := by cases t <;> decide
  refine (pe_callB (fn_isi t) hg hm PyProof.Rows.boot_isinstance (pa_cons ha (pa_cons (pe_bltn (v := .ty t.nm) hg2 hm2 (boot_ty t) rfl n1 n2) pa_nil) (star_of hs _ _)) (by decide) (by decide) (star_of hs _ _) rfl).imp fun σ H Q ⟨S0, P0, fp, Γ, S, ok, w⟩ => ?_
  refine ⟨S0, P0, fp, Γ, S, ok, (Want.bind.mp (Want.bind.mp w)).mono fun y w v S1 H1 g1 b1 => ?_⟩
  exact ⟨v, S1, y.1, y.2, rfl, g1.sub, b1, w _ S1 H1 g1 (VOk.of (.bl _))⟩
theorem rg_rep {K : PySem.W.Frag} {S : Hp} (a b : Int) : RepAll K S (rgV a b) (rngD a b) := by
  have : ∀ l : List Nat, RepAll K S (l.map fun i => V.int (a + (i : Nat))) (l.map fun i => D.int (a + (i : Nat))) := fun l => by
    induction l with
    | nil => exact .nil
    | cons x l ih => exact .cons (.int _) ih
  exact this _
theorem s_listRange {x y : Str} {a : Expr} {g : En → R} {p p2 pos pos2 : Pos} (hx : x = "list") (hy : y = "range") (M : Mt G call CX E X sc) (hg : Gl X x) (hg2 : Gl X y) (ha : PE X a (TB_ X.K X.mg E g)) (hs : isStar a = false) :
    PE X (.Call (.Name x p) [.Call (.Name y p2) [a] [] pos2] [] pos) (TE_ X.K X.mg E fun Γ => (g Γ >>= fun x => (Out.ok [] : Out (List (D × Bool))) >>= fun xs => .ok (x :: xs)) >>= fun as => up (bltD .listRange as)) := by
  subst hx
  subst hy
  refine (pe_listRg M.calm hg (M.bl _ (by decide)) (prg_1 hg2 (M.bl _ (by decide)) ha (star_of hs _ _))).imp fun σ H Q ⟨S0, P0, fp, Γ, S, ok, w⟩ => ?_
  refine ⟨S0, P0, fp, Γ, S, ok, (Want.bind.mp (Want.bind.mp w)).mono fun y w v S1 H1 g1 b1 => ?_⟩
  obtain ⟨q, hq, k⟩ := up_want.mp w
  obtain ⟨d, fl⟩ := y
  replace hq : fListRange d = some q := hq
  unfold fListRange at hq
  split at hq
  · rename_i j
    split at hq
    · rename_i hj
      cases hq
      have hj := of_decide_eq_true hj
      cases int_inv b1
      refine ⟨j, rfl, .of_le (by omega) hj.2 (by omega) hj.1, fun l hl => ?_⟩
      obtain ⟨g, vo⟩ := new_lst (K := X.K) g1.sub hl (rg_rep (K := X.K) (S := S1) 0 j)
      exact k _ _ _ (g1.trans g) (grow_vok g1 vo)
    · cases hq
  · cases hq

/-! ### what a loop walks -/
/-- the walk gives these items one after another -/
def Enum (K : PySem.W.Frag) (J : It) (S : Hp) (ds : List D) : Prop := ∃ vs, RepAll K S vs ds ∧ ∀ H, Same S H →
  (∀ i x, vs[i]? = some x → J.go i H ∧ ∀ y H', J.yld i H y H' → H' = H ∧ y = x) ∧ ∀ i, vs.length ≤ i → J.stop i H
theorem Enum.mono {K : PySem.W.Frag} {J : It} {S S' : Hp} {ds : List D} (h : Enum K J S ds) (m : Same S S') : Enum K J S' ds := by
  obtain ⟨vs, r, k⟩ := h
  exact ⟨vs, r.mono m, fun H e => k H (m.trans e)⟩
def TI_ (K : PySem.W.Frag) (mg : Str → Option Value) (E : XK) (f : En → Out (List D)) : TI := fun σ H R => ∃ S0 P0 fp Γ S, Ok K S0 P0 fp Γ σ S H ∧ Want K mg E S0 P0 (f Γ) fun ds => ∀ J S' H', Grow S H S' H' → Enum K J S' ds → R J H'
theorem _root_.L2.PI.imp {tg it : Expr} {t t' : TI} (h : PI X tg it t) (i : ∀ σ H R, t' σ H R → t σ H R) : PI X tg it t' := ⟨fun pins s σ H R I q => h.run pins s σ H R I (i σ H R q)⟩
theorem Same.sq {K : PySem.W.Frag} {H H' : Hp} {a : Addr} {xs : List V} (e : Same H H') (h : SqL K H a xs) : SqL K H' a xs := e.seq h
section
variable {K : PySem.W.Frag} {S : Hp} {a : Addr} {vs : List V} {ds : List D}
theorem enum_l (h : SqL K S a vs) (r : RepAll K S vs ds) : Enum K (Itl K a) S ds :=
  ⟨vs, r, fun H e => ⟨fun i x hx => ⟨⟨vs, x, e.seq h, hx⟩, fun y H' ⟨q, k⟩ => ⟨q, Option.some.inj ((k vs (e.seq h)).symm.trans hx)⟩⟩, fun i hi => ⟨vs, e.seq h, hi⟩⟩⟩
theorem enum_t (h : SqT K S a vs) (r : RepAll K S vs ds) : Enum K (Itt K a) S ds :=
  ⟨vs, r, fun H e => ⟨fun i x hx => ⟨⟨vs, x, Same.seqT e h, hx⟩, fun y H' ⟨q, k⟩ => ⟨q, Option.some.inj ((k vs (Same.seqT e h)).symm.trans hx)⟩⟩, fun i hi => ⟨vs, Same.seqT e h, hi⟩⟩⟩
theorem enum_r (lo hi : Int) : Enum K (Itr lo (hi - lo).toNat) S (rngD lo hi) := by
  refine ⟨rgV lo hi, rg_rep lo hi, fun H _ => ⟨fun i x hx => ?_, fun i h => ?_⟩⟩
  · have hi' : i < (hi - lo).toNat := by
      have := (List.getElem?_eq_some_iff.mp hx).1
      rwa [rgV_length] at this
    refine ⟨hi', fun y H' ⟨q, k⟩ => ⟨q, ?_⟩⟩
    unfold rgV at hx
    rw [List.getElem?_map, List.getElem?_range hi'] at hx
    rw [k]
    exact Option.some.inj hx
  · rw [rgV_length] at h
    exact h
theorem rev_at {α : Type} {xs : List α} {i : Nat} {x : α} (h : xs.reverse[i]? = some x) : i < xs.length ∧ xs[xs.length - 1 - i]? = some x := by
  have h1 := (List.getElem?_eq_some_iff.mp h).1
  rw [List.length_reverse] at h1
  rw [List.getElem?_reverse h1] at h
  exact ⟨h1, h⟩
end
theorem s_seq {tg e : Expr} {f : En → R} (ha : PE X e (TE_ X.K X.mg E f)) : PI X tg e (TI_ X.K X.mg E fun Γ => f Γ >>= fun x => match x.1.seq with
    | some ds => .ok ds
    | none => .bad) := by
  refine ⟨fun pins s σ H R I h => ?_⟩
  obtain ⟨S0, P0, fp, Γ, S, ok, w⟩ := h
  have h2 : TV_ X.K X.mg E f σ H fun v H1 => ∃ S1 ds a vs, v = .ref a ∧ (SqL X.K S1 a vs ∨ SqT X.K S1 a vs) ∧ RepAll X.K S1 vs ds ∧ Same S1 H1 ∧ ∀ J, Enum X.K J S1 ds → R J H1 := by
    refine ⟨S0, P0, fp, Γ, S, ok, (Want.bind.mp w).mono fun x w v S1 H1 g1 r => ?_⟩
    obtain ⟨d, fl⟩ := x
    cases r with
    | tup q r => exact ⟨S1, _, _, _, rfl, .inr q, r, g1.sub, fun J e => w J S1 H1 g1 e⟩
    | lst q r => exact ⟨S1, _, _, _, rfl, .inl (SqL.of q), r, g1.sub, fun J e => w J S1 H1 g1 e⟩
    | fls q r => exact ⟨S1, _, _, _, rfl, .inl q, r, g1.sub, fun J e => w J S1 H1 g1 e⟩
    | _ => exact w.elim
  refine thn ((ha.imp fun _ _ _ => TV_.of).run pins s σ H _ I h2) fun v s1 ⟨x, H1, I1, r1, S1, ds, a, vs, ex, hs, r, sub, k⟩ => ?_
  subst ex
  obtain rfl : v = .ref a := r1
  have fin : ∀ (J : It) (tn : Nat → Heap → Prop) (o : Obj), Turn X.prog X.w X.K tg J [s1.heap.objs.size] s1.heap.objs.size tn → tn 0 (s1.heap.push o) → R J H1 →
      PIE X pins σ tg R (.ref s1.heap.objs.size) { s1 with heap := s1.heap.push o } := fun J tn o T h0 q => by
    refine ⟨_, _, tn, J, H1, rfl, I1.kept (t' := s1.toks) fun b ob e => Heap.get?_push_of_some _ e, T, h0, fun b hb => ?_, q⟩
    obtain rfl : b = s1.heap.objs.size := List.mem_singleton.mp hb
    exact I1.fpOk (Nat.le_refl _) I1.fresh
  rcases hs with hs | hs
  · obtain ⟨its, _, p, _⟩ := I1.list (sub.seq hs)
    exact wpAny_pyIter_list p.isList (fin _ _ _ (turn_list a _) ⟨_, Heap.get?_push_size _ rfl, rfl, rfl⟩ (k _ (enum_l hs r)))
  · obtain ⟨its, _, p, _⟩ := I1.tuple (Same.seqT sub hs)
    exact wpAny_pyIter_tuple p (fin _ _ _ (turn_tuple a _) ⟨_, Heap.get?_push_size _ rfl, rfl, rfl⟩ (k _ (enum_t hs r)))
theorem s_rng {tg a : Expr} {f : En → R} {x : Str} {p pos : Pos} (M : Mt G call CX E X sc) (hx : x = "range") (hg : Gl X x) (ha : PE X a (TE_ X.K X.mg E f)) (hs : isStar a = false) :
    PI X tg (.Call (.Name x p) [a] [] pos) (TI_ X.K X.mg E fun Γ => f Γ >>= fun x => match x.1 with
      | .int j => if decide (-(2 ^ 62) ≤ j ∧ j < 2 ^ 62) then .ok (rngD 0 j) else .bad
      | _ => .bad) := by
  subst hx
  refine (pi_range1 hg (M.bl _ (by decide)) (pa_cons ha pa_nil (star_of hs _ _)) (star_of hs _ _)).imp fun σ H R ⟨S0, P0, fp, Γ, S, ok, w⟩ => ?_
  refine ⟨S0, P0, fp, Γ, S, ok, (Want.bind.mp w).mono fun y w v S1 H1 g1 b1 => ?_⟩
  obtain ⟨d, fl⟩ := y
  cases d with
  | int j =>
    cases int_inv b1.b
    have w : Want X.K X.mg E S0 P0 (if decide (-(2 ^ 62) ≤ j ∧ j < 2 ^ 62) then .ok (rngD 0 j) else .bad) _ := w
    split at w
    · rename_i hj
      have hj := of_decide_eq_true hj
      refine ⟨j, rfl, hj.1, hj.2, ?_⟩
      have e := enum_r (K := X.K) (S := S1) 0 j
      rw [Int.sub_zero] at e
      exact w _ S1 H1 g1 e
    · exact w.elim
  | _ => exact w.elim
theorem s_rng2 {tg a b : Expr} {f h : En → R} {x : Str} {p pos : Pos} (M : Mt G call CX E X sc) (hx : x = "range") (hg : Gl X x) (ha : PE X a (TE_ X.K X.mg E f)) (hb : PE X b (TE_ X.K X.mg E h)) (hs : isStar a = false) (hs2 : isStar b = false) :
    PI X tg (.Call (.Name x p) [a, b] [] pos) (TI_ X.K X.mg E fun Γ => f Γ >>= fun x => h Γ >>= fun y => match x.1, y.1 with
      | .int i, .int j => if decide (-(2 ^ 62) ≤ i ∧ i < 2 ^ 62 ∧ -(2 ^ 62) ≤ j ∧ j < 2 ^ 62) then .ok (rngD i j) else .bad
      | _, _ => .bad) := by
  subst hx
  refine (pi_range2 hg (M.bl _ (by decide)) (pa_cons ha (pa_cons hb pa_nil (star_of hs2 _ _)) (star_of hs _ _)) (by rw [star_of hs, star_of hs2]; rfl) (star_of hs2 _ _)).imp fun σ H R ⟨S0, P0, fp, Γ, S, ok, w⟩ => ?_
  refine ⟨S0, P0, fp, Γ, S, ok, (Want.bind.mp w).mono fun y w v S1 H1 g1 b1 => ?_⟩
  refine ⟨S0, P0, fp, Γ, S1, ok.grow g1, (Want.bind.mp w).mono fun z w u S2 H2 g2 b2 => ?_⟩
  obtain ⟨d, fl⟩ := y
  obtain ⟨e, fe⟩ := z
  cases d with
  | int i =>
    cases e with
    | int j =>
      cases int_inv b1.b
      cases int_inv b2.b
      have w : Want X.K X.mg E S0 P0 (if decide (-(2 ^ 62) ≤ i ∧ i < 2 ^ 62 ∧ -(2 ^ 62) ≤ j ∧ j < 2 ^ 62) then .ok (rngD i j) else .bad) _ := w
      split at w
      · rename_i hj
        exact ⟨i, j, rfl, of_decide_eq_true hj, w _ S2 H2 (g1.trans g2) (enum_r i j)⟩
      · exact w.elim
    | _ => exact w.elim
  | _ => exact w.elim
theorem s_rev {tg a : Expr} {f : En → R} {x : Str} {p pos : Pos} (M : Mt G call CX E X sc) (hx : x = "reversed") (hg : Gl X x) (ha : PE X a (TE_ X.K X.mg E f)) (hs : isStar a = false) :
    PI X tg (.Call (.Name x p) [a] [] pos) (TI_ X.K X.mg E fun Γ => f Γ >>= fun x => match x.1.seq with
      | some ds => .ok ds.reverse
      | none => .bad) := by
  subst hx
  refine (RT.pi_revA hg (M.bl _ (by decide)) (ha.imp fun _ _ _ => TV_.of) (star_of hs _ _)).imp fun σ H R ⟨S0, P0, fp, Γ, S, ok, w⟩ => ?_
  refine ⟨S0, P0, fp, Γ, S, ok, (Want.bind.mp w).mono fun x w v S1 H1 g1 r => ?_⟩
  obtain ⟨d, fl⟩ := x
  have el : ∀ {a : Addr} {vs : List V} {ds : List D}, SqL X.K S1 a vs → RepAll X.K S1 vs ds → Enum X.K (Itv X.K a vs.length) S1 ds.reverse := fun {a vs ds} h r =>
    ⟨vs.reverse, r.reverse, fun H e => ⟨fun i x hx => ⟨⟨(rev_at hx).1, vs, x, e.seq h, (rev_at hx).2⟩, fun y H' ⟨q, k⟩ => ⟨q, Option.some.inj ((k vs (e.seq h)).symm.trans (rev_at hx).2)⟩⟩, fun i hi => by rw [List.length_reverse] at hi; exact hi⟩⟩
  have et : ∀ {a : Addr} {vs : List V} {ds : List D}, SqT X.K S1 a vs → RepAll X.K S1 vs ds → Enum X.K (RT.ItvT X.K a vs.length) S1 ds.reverse := fun {a vs ds} h r =>
    ⟨vs.reverse, r.reverse, fun H e => ⟨fun i x hx => ⟨⟨(rev_at hx).1, vs, x, Same.seqT e h, (rev_at hx).2⟩, fun y H' ⟨q, k⟩ => ⟨q, Option.some.inj ((k vs (Same.seqT e h)).symm.trans (rev_at hx).2)⟩⟩, fun i hi => by rw [List.length_reverse] at hi; exact hi⟩⟩
  cases r with
  | tup q r => exact ⟨_, _, rfl, .inr ⟨Same.seqT g1.sub q, w _ S1 H1 g1 (et q r)⟩⟩
  | lst q r => exact ⟨_, _, rfl, .inl ⟨SqL.of (g1.sub _ _ q), w _ S1 H1 g1 (el (SqL.of q) r)⟩⟩
  | fls q r => exact ⟨_, _, rfl, .inl ⟨g1.sub.seq q, w _ S1 H1 g1 (el q r)⟩⟩
  | _ => exact w.elim
end
end Cr
end

section
set_option maxHeartbeats 4000000
/-! Targets, comprehensions. -/
namespace Cr
open PySem PySem.Spec PyProof.Rows L2

/-! ### wiped slots -/
theorem wipe_set_in {x : Option V} : ∀ {own : List Nat} {σ : L2.St} {i : Nat}, i ∈ own → wipe (σ.set i x) own = wipe σ own
  | v :: vs, σ, i, h => by
    unfold wipe
    by_cases hv : i ∈ vs
    · rw [wipe_set_in hv]
    · have e : i = v := by
        rcases List.mem_cons.mp h with e | e
        · exact e
        · exact (hv e).elim
      subst e
      apply List.ext_getElem?
      intro j
      by_cases hj : i = j
      · subst hj
        simp [List.getElem?_set, wipe_length]
      · rw [List.getElem?_set_ne hj, List.getElem?_set_ne hj]
        exact wipe_other hj
where
  wipe_other {σ : L2.St} {i : Nat} : ∀ {vs : List Nat} {j : Nat}, i ≠ j → (wipe (σ.set i x) vs)[j]? = (wipe σ vs)[j]?
    | [], j, h => List.getElem?_set_ne h
    | w :: ws, j, h => by
      unfold wipe
      by_cases hw : w = j
      · subst hw
        simp [List.getElem?_set, wipe_length]
      · rw [List.getElem?_set_ne hw, List.getElem?_set_ne hw]
        exact wipe_other h
theorem wipe_get {σ : L2.St} : ∀ {own : List Nat} {i : Nat}, (wipe σ own)[i]? = if i ∈ own ∧ i < σ.length then some none else σ[i]?
  | [], i => by simp [wipe]
  | v :: vs, i => by
    unfold wipe
    have ih := wipe_get (σ := σ) (own := vs) (i := i)
    by_cases h : v = i
    · subst h
      rw [List.getElem?_set]
      simp only [wipe_length, if_pos rfl]
      by_cases hl : v < σ.length
      · simp [hl]
      · simp [hl]
    · rw [List.getElem?_set_ne h, ih]
      have : (i ∈ v :: vs) ↔ i ∈ vs := by
        rw [List.mem_cons]
        exact ⟨fun q => q.resolve_left fun e => h e.symm, .inr⟩
      simp only [this]
theorem wipe_wipe (σ : L2.St) (own : List Nat) : wipe (wipe σ own) own = wipe σ own := by
  apply List.ext_getElem?
  intro i
  rw [wipe_get, wipe_length, wipe_get]
  by_cases h : i ∈ own ∧ i < σ.length
  · rw [if_pos h, if_pos h]
  · rw [if_neg h, if_neg h]
theorem wipeE_length (Γ : En) : ∀ vs : List Nat, (wipeE Γ vs).length = Γ.length
  | [] => rfl
  | v :: vs => by unfold wipeE; rw [List.length_set, wipeE_length Γ vs]
theorem wipeE_get {Γ : En} : ∀ {own : List Nat} {i : Nat}, (wipeE Γ own)[i]? = if i ∈ own ∧ i < Γ.length then some none else Γ[i]?
  | [], i => by simp [wipeE]
  | v :: vs, i => by
    unfold wipeE
    have ih := wipeE_get (Γ := Γ) (own := vs) (i := i)
    by_cases h : v = i
    · subst h
      rw [List.getElem?_set]
      simp only [wipeE_length, if_pos rfl]
      by_cases hl : v < Γ.length
      · simp [hl]
      · simp [hl]
    · rw [List.getElem?_set_ne h, ih]
      have : (i ∈ v :: vs) ↔ i ∈ vs := by
        rw [List.mem_cons]
        exact ⟨fun q => q.resolve_left fun e => h e.symm, .inr⟩
      simp only [this]

section
variable {K : PySem.W.Frag} {S0 P0 S H : Hp} {fp : Nat → List Addr} {Γ : En} {σ : L2.St}
/-- a slot is stored -/
theorem Ok.put (k : Ok K S0 P0 fp Γ σ S H) {i : Nat} {v : V} {d : D} (r : Rep K S v d) : Ok K S0 P0 (fun j => if j = i then [] else fp j) (Γ.set i (some (d, false))) (σ.set i (some v)) S H where
  sub := k.sub
  base := k.base
  s0 := k.s0
  st := k.st
  len := by rw [List.length_set, List.length_set]; exact k.len
  val := fun j e fl h => by
    by_cases hj : i = j
    · subst hj
      have hl : i < Γ.length := by
        have q := (List.getElem?_eq_some_iff.mp h).1
        rwa [List.length_set] at q
      rw [List.getElem?_set_self hl] at h
      cases h
      rw [k.len] at hl
      rw [if_pos rfl]
      exact ⟨v, List.getElem?_set_self hl, .rep r, (fun _ => rfl), fun z => nomatch z⟩
    · rw [List.getElem?_set_ne hj] at h ⊢
      simp only [if_neg (Ne.symm hj)]
      exact k.val j e fl h
  nd := fun j => by
    by_cases hj : j = i
    · rw [if_pos hj]; exact .nil
    · rw [if_neg hj]; exact k.nd j
  frs := fun j a ha => by
    by_cases hj : j = i
    · rw [if_pos hj] at ha; cases ha
    · rw [if_neg hj] at ha; exact k.frs j a ha
  dis := fun p q hpq a ha hb => by
    by_cases h1 : p = i
    · rw [if_pos h1] at ha; cases ha
    · rw [if_neg h1] at ha
      by_cases h2 : q = i
      · rw [if_pos h2] at hb; cases hb
      · rw [if_neg h2] at hb
        exact k.dis p q hpq a ha hb
theorem Ok.wipe (k : Ok K S0 P0 fp Γ σ S H) (own : List Nat) : Ok K S0 P0 (fun j => if j ∈ own then [] else fp j) (wipeE Γ own) (L2.wipe σ own) S H where
  sub := k.sub
  base := k.base
  s0 := k.s0
  st := k.st
  len := by rw [wipeE_length, wipe_length]; exact k.len
  val := fun j e fl h => by
    rw [wipeE_get] at h
    by_cases hj : j ∈ own ∧ j < Γ.length
    · rw [if_pos hj] at h; cases h
    · rw [if_neg hj] at h
      obtain ⟨v, e1, o, f⟩ := k.val j e fl h
      have hl : j < Γ.length := (List.getElem?_eq_some_iff.mp h).1
      have hn : j ∉ own := fun q => hj ⟨q, hl⟩
      refine ⟨v, ?_, by rw [if_neg hn]; exact o, by rw [if_neg hn]; exact f⟩
      rw [wipe_get, if_neg fun q => hn q.1]
      exact e1
  nd := fun j => by
    by_cases hj : j ∈ own
    · rw [if_pos hj]; exact .nil
    · rw [if_neg hj]; exact k.nd j
  frs := fun j a ha => by
    by_cases hj : j ∈ own
    · rw [if_pos hj] at ha; cases ha
    · rw [if_neg hj] at ha; exact k.frs j a ha
  dis := fun p q hpq a ha hb => by
    by_cases h1 : p ∈ own
    · rw [if_pos h1] at ha; cases ha
    · rw [if_neg h1] at ha
      by_cases h2 : q ∈ own
      · rw [if_pos h2] at hb; cases hb
      · rw [if_neg h2] at hb
        exact k.dis p q hpq a ha hb
end

/-! ### targets -/
def G_ (K : PySem.W.Frag) (g : Gx) : TG := fun v σ H Q => ∃ S0 P0 fp Γ S d Γ', Ok K S0 P0 fp Γ σ S H ∧ Rep K S v d ∧ asg g d Γ = some Γ' ∧
  ∀ σ' fp', Ok K S0 P0 fp' Γ' σ' S H → (∀ own, g.within own = true → wipe σ' own = wipe σ own) → Q σ' H
def Gs_ (K : PySem.W.Frag) (gs : List Gx) : TGs := fun vs σ H Q => ∃ S0 P0 fp Γ S ds Γ', Ok K S0 P0 fp Γ σ S H ∧ RepAll K S vs ds ∧ asgs gs ds Γ = some Γ' ∧
  ∀ σ' fp', Ok K S0 P0 fp' Γ' σ' S H → (∀ own, gWithin own gs = true → wipe σ' own = wipe σ own) → Q σ' H
theorem _root_.L2.PG.imp {X : Cx} {e : Expr} {t t' : TG} (h : PG X e t) (i : ∀ v σ H Q, t' v σ H Q → t v σ H Q) : PG X e t' := ⟨fun pins s σ H v u Q I r q => h.run pins s σ H v u Q I r (i v σ H Q q)⟩
theorem _root_.L2.PGs.imp {X : Cx} {e : List Expr} {t t' : TGs} (h : PGs X e t) (i : ∀ v σ H Q, t' v σ H Q → t v σ H Q) : PGs X e t' := ⟨fun pins s σ H v u Q I r q => h.run pins s σ H v u Q I r (i v σ H Q q)⟩
theorem asgE_of {e : Expr} (h : isStar e = false) (es : List Expr) (env : Env) : assignEach (e :: es) env = (false, assign e env) :: assignEach es env := by
  cases e <;> first | rfl | cases h
theorem chkGs_star {sc : Sc} : ∀ {gs : List Gx} {es : List Expr}, chkGs sc gs es = true → NoStars es
  | [], [], _ => .nil
  | [], _ :: _, h => by cases h
  | _ :: _, [], h => by cases h
  | g :: gs, e :: es, h => by
    unfold chkGs at h
    simp only [Bool.and_eq_true, Bool.not_eq_true'] at h
    exact .cons h.1.1 (chkGs_star h.2)
theorem NoStars.asg {es : List Expr} (h : NoStars es) (env : Env) : (assignEach es env).length = es.length ∧ (assignEach es env).findIdx? (·.1) = none := by
  induction h with
  | nil => exact ⟨rfl, rfl⟩
  | cons h1 _ ih =>
    rw [asgE_of h1]
    refine ⟨by rw [List.length_cons, List.length_cons, ih.1], ?_⟩
    rw [List.findIdx?_cons, ih.2]
    rfl
section
variable {G : Gi} {call : Str → List D → R} {CX : CXT} {E : XK} {X : Cx} {sc : Sc}
mutual
theorem s_tg (M : Mt G call CX E X sc) : ∀ (g : Gx) (e : Expr), chkG sc g e = true → PG X e (G_ X.K g)
  | .nm i, e, h => by
    cases e with
    | Name x pos =>
      unfold chkG at h
      obtain ⟨h1, h2, h3⟩ := M.loc h
      refine (pg_name M.nd h1 h2 h3).imp fun v σ H Q ⟨S0, P0, fp, Γ, S, d, Γ', ok, r, e, k⟩ => ?_
      unfold asg put at e
      split at e
      · cases e
        refine k _ _ (ok.put r) fun own hw => ?_
        unfold Gx.within at hw
        exact wipe_set_in (List.contains_iff_mem.mp hw)
      · cases e
    | _ => unfold chkG at h; cases h
  | .tup gs, e, h => by
    cases e with
    | Tuple es k pos =>
      unfold chkG at h
      have hn := (chkGs_star h).asg X.env
      refine (pg_tup M.calm (s_tgs M gs es h) hn.1 hn.2).imp fun v σ H Q ⟨S0, P0, fp, Γ, S, d, Γ', ok, r, e, k⟩ => ?_
      cases r with
      | tup hq ra =>
        unfold asg at e
        refine ⟨_, _, rfl, Same.seqT ok.sub hq, ?_, S0, P0, fp, Γ, S, _, Γ', ok, ra, e, fun σ' fp' ok' hw => k σ' fp' ok' fun own h => hw own (by unfold Gx.within at h; exact h)⟩
        rw [ra.length]
        exact asgs_len gs es _ Γ Γ' h e
      | _ => unfold asg at e; cases e
    | _ => unfold chkG at h; cases h
theorem s_tgs (M : Mt G call CX E X sc) : ∀ (gs : List Gx) (es : List Expr), chkGs sc gs es = true → PGs X es (Gs_ X.K gs)
  | [], es, h => by
    cases es with
    | nil =>
      refine pgs_nil.imp fun v σ H Q ⟨S0, P0, fp, Γ, S, ds, Γ', ok, r, e, k⟩ => ?_
      cases ds with
      | nil =>
        cases r
        cases e
        exact ⟨rfl, k _ _ ok fun _ _ => rfl⟩
      | cons d ds => cases e
    | cons e es => cases h
  | g :: gs, es, h => by
    cases es with
    | nil => cases h
    | cons e es =>
      unfold chkGs at h
      simp only [Bool.and_eq_true, Bool.not_eq_true'] at h
      refine (pgs_cons (s_tg M g e h.1.2) (s_tgs M gs es h.2) (by rw [asgE_of h.1.1]; rfl)).imp fun v σ H Q ⟨S0, P0, fp, Γ, S, ds, Γ', ok, r, e, k⟩ => ?_
      cases r with
      | nil => cases e
      | cons r1 r2 =>
        unfold asgs at e
        split at e
        · rename_i Γ1 e1
          refine ⟨_, _, rfl, S0, P0, fp, Γ, S, _, Γ1, ok, r1, e1, fun σ1 fp1 ok1 w1 => ?_⟩
          refine ⟨S0, P0, fp1, Γ1, S, _, Γ', ok1, r2, e, fun σ2 fp2 ok2 w2 => k σ2 fp2 ok2 fun own hw => ?_⟩
          unfold gWithin at hw
          rw [Bool.and_eq_true] at hw
          rw [w2 own hw.2, w1 own hw.1]
        · cases e
theorem asgs_len {sc : Sc} : ∀ (gs : List Gx) (es : List Expr) (ds : List D) (Γ Γ' : En), chkGs sc gs es = true → asgs gs ds Γ = some Γ' → ds.length = es.length
  | [], es, ds, Γ, Γ', h, e => by
    cases es with
    | nil => cases ds with
      | nil => rfl
      | cons d ds => cases e
    | cons _ _ => cases h
  | g :: gs, es, ds, Γ, Γ', h, e => by
    cases es with
    | nil => cases h
    | cons x es =>
      cases ds with
      | nil => cases e
      | cons d ds =>
        unfold chkGs at h
        simp only [Bool.and_eq_true] at h
        unfold asgs at e
        split at e
        · rw [List.length_cons, List.length_cons, asgs_len gs es ds _ Γ' h.2 e]
        · cases e
end

/-! ### list comprehensions -/
theorem DOwnAll.append {K : PySem.W.Frag} {S H : Hp} : ∀ {vs ws : List V} {ds es : List D} {as bs : List Addr}, DOwnAll K S H vs ds as → DOwnAll K S H ws es bs → DOwnAll K S H (vs ++ ws) (ds ++ es) (as ++ bs)
  | _, _, _, _, _, _, .nil, s => s
  | _, _, _, _, _, _, .cons h r, s => by
    rw [List.append_assoc]
    exact .cons h (DOwnAll.append r s)
theorem DOwnAll.one {K : PySem.W.Frag} {S H : Hp} {v : V} {d : D} {as : List Addr} (h : DOwn K S H v d as) : DOwnAll K S H [v] [d] as := by
  have q := DOwnAll.cons h .nil
  rwa [List.append_nil] at q
theorem lcOp_cons {as : D → En → Option En} {t : En → Out Bool} {e : En → R} {Γ : En} {d : D} {ds r : List D} (h : lcOp as t e Γ (d :: ds) = .ok r) :
    ∃ Γ1 b, as d Γ = some Γ1 ∧ t Γ1 = .ok b ∧ ((b = true ∧ ∃ p r', e Γ1 = .ok p ∧ lcOp as t e Γ ds = .ok r' ∧ r = p.1 :: r') ∨ (b = false ∧ lcOp as t e Γ ds = .ok r)) := by
  unfold lcOp at h
  cases h1 : as d Γ with
  | none => rw [h1] at h; cases h
  | some Γ1 =>
    rw [h1, up_some, ok_bind] at h
    cases h2 : t Γ1 with
    | bad => rw [h2] at h; cases h
    | exc x => rw [h2] at h; cases h
    | ok b =>
      rw [h2, ok_bind] at h
      cases b with
      | false => exact ⟨Γ1, false, rfl, h2, .inr ⟨rfl, h⟩⟩
      | true =>
        rw [if_pos rfl] at h
        cases h3 : e Γ1 with
        | bad => rw [h3] at h; cases h
        | exc x => rw [h3] at h; cases h
        | ok p =>
          rw [h3, ok_bind] at h
          cases h4 : lcOp as t e Γ ds with
          | bad => rw [h4] at h; cases h
          | exc x => rw [h4] at h; cases h
          | ok r' =>
            rw [h4, ok_bind] at h
            cases h
            exact ⟨Γ1, true, rfl, h2, .inl ⟨rfl, p, r', h3, rfl, rfl⟩⟩
/-- the state between two turns: the new list stands at D -/
structure LcSt (K : PySem.W.Frag) (S1 H1 : Hp) (D' : Addr) (rest : List D → Prop) (r : List D) (H : Hp) : Prop where
  ex : ∃ S acc ads as r', Grow S1 H1 S H ∧ H D' = some (.lst acc) ∧ S D' = none ∧ DOwnAll K S H acc ads as ∧ (D' :: as).Nodup ∧ (∀ a ∈ as, H1 a = none ∧ S a = none) ∧ rest r' ∧ r = ads ++ r'
theorem lc_read {K : PySem.W.Frag} {mg : Str → Option Value} {E : XK} {own : List Nat} {g : Gx} {fi : En → Out (List D)} {ft : En → Out Bool} {fe : En → R} {σ : L2.St} {H : Hp} {Q : VK}
    (h : TE_ K mg E (fun Γ => fi Γ >>= fun ds => noX (lcOp (asg g) ft fe (wipeE Γ own) ds) >>= fun r => if szOk r.length && g.within own then .ok (.lst r, true) else .bad) σ H Q) :
    tLc (TI_ K mg E fi) (G_ K g) (TT_ K mg E0 ft) (TE_ K mg E0 fe) own σ H Q := by
  obtain ⟨S0, P0, fp, Γ, S, ok, w⟩ := h
  refine ⟨S0, P0, fp, Γ, S, ok, (Want.bind.mp w).mono fun ds w J S1 H1 g1 en D' hD => ?_⟩
  cases er : lcOp (asg g) ft fe (wipeE Γ own) ds with
  | bad => rw [er] at w; exact w.elim
  | exc x => rw [er] at w; exact w.elim
  | ok r =>
    rw [er, noX_ok, ok_bind] at w
    split at w
    case isFalse => exact w.elim
    rename_i hz
    rw [Bool.and_eq_true] at hz
    obtain ⟨hz, hw⟩ := hz
    have hz : r.length ≤ sizeLine := of_decide_eq_true hz
    obtain ⟨vs, rv, kx⟩ := en
    have hlen := rv.length
    have SD1 : S1 D' = none := Same.none g1.sub hD
    refine ⟨fun i m H' => m = ds.length - i ∧ i ≤ ds.length ∧ LcSt K S1 H1 D' (fun r' => lcOp (asg g) ft fe (wipeE Γ own) (ds.drop i) = .ok r') r H', ⟨ds.length, by simp, Nat.zero_le _, ⟨S1, [], [], [], r, Grow.lay g1.sub hD _, upd_same, SD1, .nil, by simp, (fun a ha => nomatch ha), er, rfl⟩⟩, ?_⟩
    rintro i m H' ⟨rfl, hi, ⟨S', acc, ads, as, r', G', hDv, SD, oa, nd, fr, hr, rfl⟩⟩
    obtain ⟨kg, ks⟩ := kx H' (G'.mono.trans G'.sub)
    by_cases hlt : i < ds.length
    · refine .inr ?_
      obtain ⟨x, hx, rx⟩ := rv.get (List.getElem?_eq_getElem hlt)
      obtain ⟨go, yl⟩ := kg i x hx
      rw [List.drop_eq_getElem_cons hlt] at hr
      obtain ⟨Γ1, b, e1, e2, e3⟩ := lcOp_cons hr
      refine ⟨go, fun H'' => LcSt K S1 H1 D' (fun r' => lcOp (asg g) ft fe (wipeE Γ own) (ds.drop (i + 1)) = .ok r') (ads ++ r') H'', fun H'' n => ⟨ds.length - (i + 1), by omega, rfl, hlt, n⟩, fun y H'' hy => ?_⟩
      obtain ⟨rfl, rfl⟩ := yl y H'' hy
      have ok1 := ((ok.grow g1).grow G').wipe own
      refine ⟨S0, P0, _, _, S', _, Γ1, ok1, rx.mono G'.mono, e1, fun σ2 fp2 ok2 w2 => ⟨(w2 own hw).trans (wipe_wipe σ own), ?_⟩⟩
      refine ⟨S0, P0, fp2, Γ1, S', ok2, ?_⟩
      rw [e2]
      intro S3 H3 g3
      have D3 : H3 D' = some (.lst acc) := g3.same _ _ hDv
      have G3 := G'.trans g3
      have SD3 : S3 D' = none := g3.keepN SD (by rw [hDv]; exact fun z => nomatch z)
      have oa3 : DOwnAll K S3 H3 acc ads as := oa.mono g3.mono fun a ha => by
        obtain ⟨xs, q⟩ := oa.there a ha
        rw [q, g3.same _ _ q]
      have fr3 : ∀ a ∈ as, H1 a = none ∧ S3 a = none := fun a ha => ⟨(fr a ha).1, g3.keepN (fr a ha).2 (by
        obtain ⟨xs, q⟩ := oa.there a ha
        rw [q]; exact fun z => nomatch z)⟩
      rcases e3 with ⟨rfl, p, r2, e4, e5, rfl⟩ | ⟨rfl, e5⟩
      · refine iteT ⟨S0, P0, fp2, Γ1, S3, ok2.grow g3, ?_⟩
        rw [e4]
        intro y2 S4 H4 g4 vo
        obtain ⟨bs, ob, nb, zb, _, _⟩ := vo
        have D4 : H4 D' = some (.lst acc) := g4.same _ _ D3
        have SD4 : S4 D' = none := g4.keepN SD3 (by rw [D3]; exact fun z => nomatch z)
        have ndb : ∀ a ∈ bs, a ≠ D' := fun a ha e => by
          subst e
          rw [(zb a ha).1] at D3; cases D3
        have nda : ∀ a ∈ as, a ≠ D' := fun a ha e => by
          subst e
          exact (List.nodup_cons.mp nd).1 ha
        refine ⟨acc, D4, ?_, ⟨S4, acc ++ [y2], ads ++ [p.1], as ++ bs, r2, ?_, upd_same, SD4, ?_, ?_, ?_, e5, by simp⟩⟩
        · have h1 := oa3.length
          have h2 : (ads ++ p.1 :: r2).length ≤ sizeLine := hz
          rw [List.length_append, List.length_cons] at h2
          omega
        · have G4 := G3.trans g4
          refine ⟨fun a o q => ?_, G4.mono, fun a o q => ?_, G4.new⟩
          · rw [upd_ne (fun e => by rw [e, SD4] at q; cases q)]
            exact G4.sub _ _ q
          · rw [upd_ne (fun e => by rw [e, hD] at q; cases q)]
            exact G4.same _ _ q
        · refine DOwnAll.append (oa3.mono g4.mono fun a ha => ?_) (DOwnAll.one (ob.mono (Same.refl _) fun a ha => upd_ne (ndb a ha)))
          rw [upd_ne (nda a ha)]
          obtain ⟨xs, q⟩ := oa3.there a ha
          rw [q, g4.same _ _ q]
        · refine List.nodup_cons.mpr ⟨fun q => ?_, ?_⟩
          · rcases List.mem_append.mp q with q | q
            · exact nda _ q rfl
            · exact ndb _ q rfl
          · refine List.nodup_append.mpr ⟨(List.nodup_cons.mp nd).2, nb, fun a ha b hb e => ?_⟩
            subst e
            obtain ⟨xs, q⟩ := oa3.there a ha
            rw [(zb a hb).1] at q; cases q
        · intro a ha
          rcases List.mem_append.mp ha with q | q
          · refine ⟨(fr3 a q).1, g4.keepN (fr3 a q).2 ?_⟩
            obtain ⟨xs, z⟩ := oa3.there a q
            rw [z]; exact fun z => nomatch z
          · exact ⟨Same.none G3.same (zb a q).1, (zb a q).2⟩
      · exact iteF ⟨S3, acc, ads, as, r', G3, D3, SD3, oa3, nd, fr3, e5, rfl⟩
    · have e : i = ds.length := by omega
      subst e
      rw [List.drop_length] at hr
      cases hr
      rw [List.append_nil] at w
      refine .inl ⟨ks _ (by rw [hlen]; exact Nat.le_refl _), w _ S' H' (g1.trans G') ⟨D' :: as, .lst hDv oa, nd, fun a ha => ?_, (fun z => nomatch z), fun _ => .inr fun z => nomatch z⟩⟩
      rcases List.mem_cons.mp ha with rfl | ha
      · exact ⟨Same.none g1.same hD, SD⟩
      · exact ⟨Same.none g1.same (fr a ha).1, (fr a ha).2⟩
end
end Cr
end

section
set_option maxHeartbeats 4000000
/-! Sets of ints behind sorted, ranges behind in, a list read backwards. -/
namespace Cr
open PySem PySem.Spec PyProof.Rows L2 PpSet

/-! ### usort -/
theorem insU_mem (x : Int) : ∀ (ys : List Int) (z : Int), z ∈ insU x ys ↔ z = x ∨ z ∈ ys
  | [], z => by simp [insU]
  | y :: ys, z => by
    unfold insU
    split
    · simp
    · split
      · rename_i h; subst h; simp
      · rw [List.mem_cons, insU_mem x ys z, List.mem_cons]
        constructor
        · rintro (h | h | h) <;> simp [h]
        · rintro (h | h | h) <;> simp [h]
theorem insU_sorted (x : Int) : ∀ ys : List Int, ys.Pairwise (· < ·) → (insU x ys).Pairwise (· < ·)
  | [], _ => by simp [insU]
  | y :: ys, h => by
    obtain ⟨h1, h2⟩ := List.pairwise_cons.mp h
    unfold insU
    split
    · rename_i hx
      refine List.pairwise_cons.mpr ⟨fun z hz => ?_, h⟩
      rcases List.mem_cons.mp hz with rfl | hz
      · exact hx
      · exact Int.lt_trans hx (h1 z hz)
    · split
      · exact h
      · refine List.pairwise_cons.mpr ⟨fun z hz => ?_, insU_sorted x ys h2⟩
        rcases (insU_mem x ys z).mp hz with rfl | hz
        · omega
        · exact h1 z hz
theorem usort_sorted : ∀ xs : List Int, (usort xs).Pairwise (· < ·)
  | [] => List.Pairwise.nil
  | x :: xs => insU_sorted x _ (usort_sorted xs)
theorem usort_mem : ∀ (xs : List Int) (z : Int), z ∈ usort xs ↔ z ∈ xs
  | [], z => by simp [usort]
  | x :: xs, z => by
    unfold usort
    rw [insU_mem, usort_mem xs, List.mem_cons]
theorem rising_unique : ∀ {xs ys : List Int}, xs.Pairwise (· < ·) → ys.Pairwise (· < ·) → (∀ k, k ∈ xs ↔ k ∈ ys) → xs = ys
  | [], [], _, _, _ => rfl
  | [], y :: ys, _, _, h => absurd ((h y).mpr (by simp)) (by simp)
  | x :: xs, [], _, _, h => absurd ((h x).mp (by simp)) (by simp)
  | x :: xs, y :: ys, hx, hy, h => by
    obtain ⟨x1, x2⟩ := List.pairwise_cons.mp hx
    obtain ⟨y1, y2⟩ := List.pairwise_cons.mp hy
    have e : x = y := by
      rcases List.mem_cons.mp ((h x).mp (by simp)) with q | q
      · exact q
      · rcases List.mem_cons.mp ((h y).mpr (by simp)) with r | r
        · exact r.symm
        · have a := y1 x q
          have b := x1 y r
          omega
    subst e
    rw [rising_unique x2 y2 fun k => ⟨fun q => ?_, fun q => ?_⟩]
    · rcases List.mem_cons.mp ((h k).mp (List.mem_cons_of_mem _ q)) with r | r
      · subst r; exact absurd (x1 _ q) (by omega)
      · exact r
    · rcases List.mem_cons.mp ((h k).mpr (List.mem_cons_of_mem _ q)) with r | r
      · subst r; exact absurd (y1 _ q) (by omega)
      · exact r
theorem usort_of {ns xs : List Int} {S : Int → Bool} (h1 : ns.Pairwise (· < ·)) (h2 : ∀ k, k ∈ ns ↔ S k = true) (h3 : ∀ k, S k = decide (k ∈ xs)) : ns = usort xs :=
  rising_unique h1 (usort_sorted xs) fun k => by rw [h2, h3, usort_mem, decide_eq_true_eq]

section
variable {X : Cx}
/-- set(xs) -/
def rSetSq (K : PySem.W.Frag) (w : World) : List V → Hp → VK → Prop := fun vs H Q => ∃ (a : Addr) (ns : List Int), vs = [V.ref a] ∧ (SqL K H a (ns.map V.int) ∨ SqT K H a (ns.map V.int)) ∧ ns.length + 1 < scanBound ∧
  ∀ p c, H p = none → c ≤ ns.length → Q (.ref p) (upd H p (SetO w p (fun j => decide (j ∈ ns)) c))
theorem cr_setSq (hc : X.calm = true) : CallR X (.type "set") (rSetSq X.K X.w) := by
  intro pins s σ H vs us Q I r h
  obtain ⟨a, ns, rfl, hs, few, q⟩ := h
  rw [Vals.ref1 r]
  have fin : ∀ (h2 : Heap) (t2 c : Nat), SetR X.w h2 s.heap.objs.size (fun j => decide (j ∈ ns)) c → c ≤ ns.length → (∀ b o, s.heap.get? b = some o → h2.get? b = some o) → EP X pins σ Q (.ref s.heap.objs.size) { s with heap := h2, toks := t2 } :=
    fun h2 t2 c R le k => ⟨.ref _, _, I.laid k (Nat.le_refl _) (setO_new R), rfl, q _ c (I.hok.fresh (Nat.le_refl _)) le⟩
  rcases hs with hs | hs
  · obtain ⟨its, rv, p, _⟩ := I.list hs
    exact set_ofList ns (I.ok.hd hc) p.isList (ints_of_vals rv) few fin
  · obtain ⟨its, rv, p, _⟩ := I.tuple hs
    exact call_set_tupI ns (I.ok.hd hc) (show s.heap.IsTuple a its.toArray from p) (ints_of_vals rv) few fin

theorem cr_range1 : CallR X (.type "range") (fun vs H Q => ∃ j, vs = [V.int j] ∧ ∀ p, H p = none → Q (.ref p) (upd H p (.rng 0 j))) := by
  intro pins s σ H vs us Q I r h
  obtain ⟨j, rfl, q⟩ := h
  cases r with
  | cons r rr =>
    cases rr
    obtain ⟨t, rfl⟩ := r
    refine call_range_1 ⟨.ref s.heap.objs.size, upd H s.heap.objs.size (.rng 0 j), I.laid (t' := s.toks + 1 + 1) (fun b o e => Heap.get?_push_of_some _ e) (Nat.le_refl _) ?_, rfl, q _ (I.hok.fresh (Nat.le_refl _))⟩
    exact ⟨_, _, _, Heap.get?_push_size _ rfl⟩
def rNotRng : V → V → Hp → VK → Prop := fun x y H Q => ∃ i a lo hi, x = V.int i ∧ y = V.ref a ∧ H a = some (.rng lo hi) ∧ Q (.bl (!(decide (lo ≤ i ∧ i < hi)))) H
theorem op_notIn_rng : OpR X (compareOp .NotIn) rNotRng := by
  intro pins s σ H x y v u Q I rx ry h
  obtain ⟨i, a, lo, hi, rfl, rfl, ha, q⟩ := h
  obtain ⟨k, rfl⟩ := rx
  obtain rfl : u = Value.ref a := ry
  obtain ⟨t1, t2, t3, ho⟩ := I.hok a _ ha
  show wpAny _ _ (do return Value.bool (!(← contains (Value.ref a) (Value.int i k)))) _ _ s
  refine wpAny_bind (wpAny_contains_slot (T := "range") ⟨_, ho, rfl⟩ F.slot_range_contains (call_meets F.slot_range_contains ⟨_, ho, rfl⟩ F.entry_range_contains (F.args_range_contains_2 _ _) (q_contains a lo hi i t1 t2 t3 k)
    ⟨ho, wpAny_truthy_bool (wpAny_pure ⟨.bl _, H, I, rfl, ?_⟩)⟩))
  rw [place1]
  exact q
end

section
variable {G : Gi} {call : Str → List D → R} {CX : CXT} {E : XK} {X : Cx} {sc : Sc}
def opI (neg : Bool) : CmpOp := if neg then .NotIn else .In
def rInR (neg : Bool) : V → V → Hp → VK → Prop := fun x y H Q => ∃ i a hi, x = V.int i ∧ y = V.ref a ∧ H a = some (.rng 0 hi) ∧ Q (.bl (xor neg (decide (0 ≤ i ∧ i < hi)))) H
theorem op_inR : ∀ neg : Bool, OpR X (compareOp (opI neg)) (rInR neg)
  | true => fun pins s σ H x y v u Q I rx ry ⟨i, a, hi, ex, ey, ha, q⟩ => op_notIn_rng pins s σ H x y v u Q I rx ry ⟨i, a, 0, hi, ex, ey, ha, by rw [Bool.true_xor] at q; exact q⟩
  | false => fun pins s σ H x y v u Q I rx ry ⟨i, a, hi, ex, ey, ha, q⟩ => op_in_rng pins s σ H x y v u Q I rx ry ⟨i, a, 0, hi, ex, ey, ha, by rw [Bool.false_xor] at q; exact q⟩
/-- x in range(n), x not in range(n) -/
theorem s_inr (M : Mt G call CX E X sc) {neg : Bool} {a b : Expr} {f g : En → R} {x : Str} {p pos pos2 : Pos} (hx : x = "range") (hg : Gl X x) (ha : PE X a (TE_ X.K X.mg E f)) (hb : PE X b (TE_ X.K X.mg E g)) (hs : isStar b = false)
    (hm : behindInMarks (opI neg) (.Call (.Name x p) [b] [] pos2) = false) :
    PT X (.Compare a [opI neg] [.Call (.Name x p) [b] [] pos2] pos) (TT_ X.K X.mg E fun Γ => f Γ >>= fun x => g Γ >>= fun y => match x.1, y.1 with
      | .int i, .int j => .ok (xor neg (decide (0 ≤ i ∧ i < j)))
      | _, _ => .bad) := by
  subst hx
  have hr := pe_callTy (cr_range1 (X := X)) hg (M.bl _ (by decide)) boot_range (pa_cons hb pa_nil (star_of hs _ _)) (by decide) (by decide) (star_of hs _ _) rfl (pos := pos2) (p := p)
  refine (pt_cmpR (op_inR neg) ha hr hm).imp fun σ H Q ⟨S0, P0, fp, Γ, S, ok, w⟩ => ?_
  refine ⟨S0, P0, fp, Γ, S, ok, (Want.bind.mp w).mono fun x w v S1 H1 g1 b1 => ?_⟩
  refine ⟨S0, P0, fp, Γ, S1, ok.grow g1, (Want.bind.mp w).mono fun y w u S2 H2 g2 b2 => ?_⟩
  obtain ⟨d, fd⟩ := x
  obtain ⟨e, fe⟩ := y
  cases d with
  | int i =>
    cases e with
    | int j =>
      cases int_inv b1.b
      cases int_inv b2.b
      refine ⟨j, rfl, fun q hq => ⟨i, q, j, rfl, rfl, upd_same, _, rfl, ?_⟩⟩
      exact w S2 _ ((g1.trans g2).trans (Grow.lay g2.sub hq _))
    | _ => exact w.elim
  | _ => exact w.elim
/-- sorted(set(a)) -/
theorem s_sortedSet (M : Mt G call CX E X sc) {x y : Str} {a : Expr} {g : En → R} {p p2 pos pos2 : Pos} (hx : x = "sorted") (hy : y = "set") (hg : Gl X x) (hg2 : Gl X y) (ha : PE X a (TB_ X.K X.mg E g)) (hs : isStar a = false) :
    PE X (.Call (.Name x p) [.Call (.Name y p2) [a] [] pos2] [] pos) (TE_ X.K X.mg E fun Γ => (g Γ >>= fun x => (Out.ok [] : Out (List (D × Bool))) >>= fun xs => .ok (x :: xs)) >>= fun as => up (bltD .sortedSet as)) := by
  subst hx
  subst hy
  have hr := pe_callTy (cr_setSq M.calm) hg2 (M.bl _ (by decide)) PyProof.Rows.boot_set (pa_cons ha pa_nil (star_of hs _ _)) (by decide) (by decide) (star_of hs _ _) rfl (pos := pos2) (p := p2)
  refine (pe_callB (cr_sortedSet M.calm) hg (M.bl _ (by decide)) PyProof.Rows.boot_sorted (pa_cons hr pa_nil (star_of rfl _ _)) (by decide) (by decide) (star_of rfl _ _) rfl).imp fun σ H Q ⟨S0, P0, fp, Γ, S, ok, w⟩ => ?_
  refine ⟨S0, P0, fp, Γ, S, ok, (Want.bind.mp (Want.bind.mp w)).mono fun y w v S1 H1 g1 b1 => ?_⟩
  obtain ⟨q, hq, k⟩ := up_want.mp w
  obtain ⟨d, fl⟩ := y
  replace hq : fSortedSet d = some q := hq
  unfold fSortedSet at hq
  split at hq
  · rename_i ds e1
    split at hq
    · rename_i ns e2
      split at hq
      · rename_i h64
        cases hq
        obtain ⟨a', us, as, rfl, hs', o, _⟩ := b1.seq g1.sub e1
        obtain rfl := intsOf_inv o e2
        refine ⟨a', ns, rfl, hs', by unfold scanBound; omega, fun p1 c hp hc => ⟨p1, _, c, rfl, upd_same, by omega, fun ns' p2 h1 h2 h3 hp2 => ?_⟩⟩
        obtain rfl : ns' = usort ns := usort_of h1 h2 fun _ => rfl
        have gl := Grow.lay g1.sub hp (SetO X.w p1 (fun j => decide (j ∈ ns)) c)
        obtain ⟨g3, vo⟩ := new_lst (K := X.K) (gl.sub) hp2 (RepAll.ints (K := X.K) (S := S1) (usort ns))
        exact k _ _ _ ((g1.trans gl).trans g3) (grow_vok (g1.trans gl) vo)
      · cases hq
    · cases hq
  · cases hq
end
end Cr
end

section
set_option maxHeartbeats 4000000
/-! {e for g in it if t}, ints. -/
namespace Cr
open PySem PySem.Spec PyProof.Rows L2 PpSet
section
variable {X : Cx}
theorem addI {pins : List (Addr × Obj)} {σ : L2.St} {H : Hp} {s : Shared} {E : Value → Shared → Prop} {D : Addr} {S : Int → Bool} {n : Nat} {k : Int} {tk : Tok} {Q : Value → Shared → Prop} (I : Inv X pins σ H s) (hD : H D = some (SetO X.w D S n)) (room : n + 1 < scanBound)
    (h : ∀ s', Inv X pins σ (upd H D (SetO X.w D (fun j => S j || decide (j = k)) (if S k = true then n else n + 1))) s' → Q .none s') : wpAny (model X.prog X.w) X.A (call (.builtin "set.add") [.ref D, .int k tk]) Q E s :=
  setR_add (setO_get I hD) room fun h' sb new => h _ (I.write (by rw [hD]; trivial) (.inl rfl) (fun b u hb hu => (sb.2 b hb).trans hu) ⟨_, new.choose_spec.choose_spec.choose_spec.choose_spec.1⟩ (setO_new new))
abbrev oSet (w : World) (D : Addr) (l : List Int) (n : Nat) : HO := SetO w D (fun j => decide (j ∈ l)) n
/-- ints, put into the new set D one after another; l those put in by now -/
def tSs (w : World) (wi : TI) (g : TG) (tt : TT) (te : TE) (vs : List Nat) : TE := fun σ H Q => wi σ H fun J H1 => ∀ D, H1 D = none → ∃ W : Nat → Nat → Hp → Prop, (∃ m, W 0 m (upd H1 D (SetO w D (fun _ => false) 0))) ∧
  ∀ i m H, W i m H → (J.stop i H ∧ Q (.ref D) H) ∨ (J.go i H ∧ ∀ x H', J.yld i H x H' → g x (wipe σ vs) H' fun σ2 H2 => wipe σ2 vs = wipe σ vs ∧ tt σ2 H2 fun b H3 =>
    if b = true then te σ2 H3 fun y H4 => ∃ k S n, y = .int k ∧ H4 D = some (SetO w D S n) ∧ n + 1 < scanBound ∧ ∃ m', m' < m ∧ W (i + 1) m' (upd H4 D (SetO w D (fun j => S j || decide (j = k)) (if S k = true then n else n + 1))) else ∃ m', m' < m ∧ W (i + 1) m' H3)
end
section
variable {X : Cx} {elt tg iter : Expr} {ifs : List Expr} {scope : Scope} {own : List (PySem.Str × Nat)} {pos : Pos} {wi : TI} {g : TG} {tt : TT} {te : TE}
/-- one turn and those behind it, inside the block -/
theorem ss_loop {B : Cx} {J : It} {fp : List Addr} {itA : Addr} {tn : Nat → Heap → Prop} {D : Addr} {σw : L2.St} {vs : List Nat} {W : Nat → Nat → Hp → Prop} {Qd : Hp → Prop} {R : Result → Shared → Prop}
    (hw : wipe σw vs = σw) (T : Turn B.prog B.w B.K tg J fp itA tn) (hcalm : B.calm = true) (hex : B.xe = fun _ _ => False)
    (stat : ∀ {σ' : L2.St} {H' : Hp} {s' : Shared}, Inv B [] σ' H' s' → (∀ b ∈ fp, H' b = none) → ∀ b ∈ fp, FpOk B [] H' b)
    (pg : PG B tg g) (pt : PTs B ifs tt) (pe : PE B elt te)
    (turn : ∀ i m H, W i m H → (J.stop i H ∧ Qd H) ∨ (J.go i H ∧ ∀ x H', J.yld i H x H' → g x σw H' fun σ2 H2 => wipe σ2 vs = σw ∧ tt σ2 H2 fun b H3 =>
      if b = true then te σ2 H3 fun y H4 => ∃ k S n, y = .int k ∧ H4 D = some (SetO B.w D S n) ∧ n + 1 < scanBound ∧ ∃ m', m' < m ∧ W (i + 1) m' (upd H4 D (SetO B.w D (fun j => S j || decide (j = k)) (if S k = true then n else n + 1))) else ∃ m', m' < m ∧ W (i + 1) m' H3))
    (fin : ∀ H' s', Inv B [] σw H' s' → Qd H' → R (.ok .next) s') {m0 : Nat} {s0 : Shared} {H0 : Hp} (I0 : Inv B [] σw H0 s0) (t0 : tn 0 s0.heap) (n0 : ∀ b ∈ fp, H0 b = none) (w0 : W 0 m0 H0) :
    codeAny (model B.prog B.w) B.A (.compLoop (.SetComp elt [⟨tg, iter, ifs, 0⟩] scope pos) 0 (.ref itA) (.ref D) B.env) R s0 := by
  refine compLoopS_any (fun m s' => ∃ i H', Inv B [] σw H' s' ∧ tn i s'.heap ∧ (∀ b ∈ fp, H' b = none) ∧ W i m H') ?_ m0 ⟨0, H0, I0, t0, n0, w0⟩
  rintro m s ⟨i, H, I, st, nf, wm⟩
  rcases turn i m H wm with ⟨stop, qd⟩ | ⟨go, step⟩
  · refine thnF (T.done B rfl rfl rfl hcalm i [] s _ H (fun _ _ => False) I (stat I nf) st stop) fun r s' hr => ?_
    obtain ⟨rfl, I'⟩ := hr
    exact fin H s' I' qd
  · refine thnF (T.item B rfl rfl rfl hcalm i [] s _ H (fun _ _ => False) I (stat I nf) st go) fun r s1 hr => ?_
    obtain ⟨u, rfl, h1⟩ := hr
    refine thnF h1 fun _ s2 ⟨x, H2, I2, r2, y2, st2, nf2⟩ => ?_
    have J2 := I2.pinned (stat I2 nf2) (T.obj _ _ st2)
    have back : ∀ {σ' : L2.St} {s' : Shared} {H' : Hp}, wipe σ' vs = σw → Inv B ([] ++ pinsAt fp s2.heap) σ' H' s' → (∃ m', m' < m ∧ W (i + 1) m' H') → ∃ m', m' < m ∧ ∃ i H', Inv B [] σw H' s' ∧ tn i s'.heap ∧ (∀ b ∈ fp, H' b = none) ∧ W i m' H' := by
      rintro σ' s' H' hσ I' ⟨m', lt, w'⟩
      have pinned : ∀ b ∈ fp, ∀ o, s2.heap.get? b = some o → s'.heap.get? b = some o ∧ H' b = none := fun b hb o e =>
        have z := I'.pin (b, o) (List.mem_append_right _ (List.mem_append_right _ (mem_pinsAt hb e)))
        ⟨z.1, z.2.1⟩
      refine ⟨m', lt, i + 1, H', (I'.unpinned (pins := [])).weak (by rw [← hσ, wipe_length]) (fun j v e => ?_), T.keep _ _ _ st2 fun b hb o e => (pinned b hb o e).1, fun b hb => ?_, w'⟩
      · rw [← hσ] at e
        exact (wipe_some e).1
      · obtain ⟨o, e, _⟩ := T.obj _ _ st2 b hb
        exact (pinned b hb o e).2
    have e1 := pg.run _ s2 _ H2 x u _ J2 r2 (step x H2 y2)
    rw [hex] at e1
    refine thnF e1 fun _ s3 ⟨σ3, H3, I3, hw3, q3⟩ => ?_
    have e2 := pt.run _ s3 σ3 H3 _ I3 q3
    rw [hex] at e2
    refine thnF e2 fun b s4 ⟨H4, I4, q4⟩ => ?_
    cases b with
    | false =>
      rw [if_neg Bool.false_ne_true] at q4
      rw [if_neg Bool.false_ne_true]
      exact back hw3 I4 q4
    | true =>
      rw [if_pos rfl] at q4
      rw [if_pos rfl]
      have e3 := pe.run _ s4 σ3 H4 _ I4 q4
      rw [hex] at e3
      refine thnF e3 fun z s5 ⟨yv, H5, I5, r5, k, S, n, ey, hD, room, nx⟩ => ?_
      subst ey
      obtain ⟨tk, rfl⟩ := r5
      exact addI I5 hD room fun s6 I6 => back hw3 I6 nx

theorem pe_ss (hc : X.calm = true) (hN : X.N.Nodup) (hi : PI X tg iter wi) (ok : BlkOk X.N X.env.scope scope own) (hg : ∀ (s : Shared) (H : Hp) (C : Addr) (cl : List (PySem.Str × Addr)) (fp : List Addr), PG (X.blk s H scope (compEnvC scope cl C X.env) fp) tg g)
    (ht : ∀ (s : Shared) (H : Hp) (C : Addr) (cl : List (PySem.Str × Addr)) (fp : List Addr), PTs (X.blk s H scope (compEnvC scope cl C X.env) fp) ifs tt) (he : ∀ (s : Shared) (H : Hp) (C : Addr) (cl : List (PySem.Str × Addr)) (fp : List Addr), PE (X.blk s H scope (compEnvC scope cl C X.env) fp) elt te)
    (hs : ∀ x, foldedSetIterable iter X.env x = pure x) : PE X (.SetComp elt [⟨tg, iter, ifs, 0⟩] scope pos) (tSs X.w wi g tt te (own.map (·.2))) := by
  refine ⟨fun pins s σ H Q I h => ?_⟩
  rw [eval_SetComp]
  have free : ∀ y ∈ scope.names, y.2 = .free → ∃ c, X.env.cells.lookup y.1 = some c := fun y hy e => I.ok.has _ (ok.free y hy e)
  refine wpAny_comprehension_free (use := none) rfl hs (closure_ok free) ok.kind (fun y hy e => by rw [ok.uniq y hy, e]) (thn (hi.run pins s σ H _ I h) fun xv s1 hx => thn hx fun itv s2 hit => ?_)
  obtain ⟨it, fp, tn, J, H2, rfl, I2, T, st2, f2, q⟩ := hit
  refine newSet_ok (newEnv_comp ?_)
  -- the new set at D, the block's dict at C
  let D := s2.heap.objs.size
  obtain ⟨W, ⟨m0, w0⟩, turn⟩ := q D I2.fresh
  let h3 := s2.heap.push { cls := .type "set", dict := none, data := .set #[] 0 (.fresh 0 0 (!X.w.params.followText "set-order")) }
  let s3 : Shared := { s2 with heap := h3 }
  let H3 := upd H2 D (SetO X.w D (fun _ => false) 0)
  have up3 : ∀ b o, s2.heap.get? b = some o → h3.get? b = some o := fun b o e => Heap.get?_push_of_some _ e
  have I3 : Inv X pins σ H3 s3 := I2.laid (t' := s2.toks) up3 (Nat.le_refl _) (setO_new (setR_fresh X.w))
  have f3 : ∀ b ∈ fp, FpOk X pins H3 b ∧ b < h3.objs.size := fun b hb => by
    obtain ⟨o, e, _⟩ := T.obj _ _ st2 b hb
    have lt := Heap.lt_size e
    have nD : b ≠ D := Nat.ne_of_lt lt
    refine ⟨⟨(upd_ne nD).trans (f2 b hb).1, (f2 b hb).2⟩, ?_⟩
    rw [Heap.size_push]
    exact Nat.lt_succ_of_lt lt
  have st3 : tn 0 h3 := T.keep _ _ _ st2 fun b _ o e => up3 b o e
  have I4 := block_start I3 ok hN f3
  show codeAny _ _ (.compStart (.SetComp elt [⟨tg, iter, ifs, 0⟩] scope pos) 0 (.ref it) (.ref D) (compEnvC scope (cellsFrom (h3.objs.size + 1) scope.names (cloFrom X.env.cells scope.names [])) h3.objs.size X.env))
    (compPost (model X.prog X.w) X.A X.xe none (EP X pins σ Q) (.ref D) h3.objs.size) { s3 with heap := pushCells (h3.push { cls := .type "dict", data := .dict #[] }) scope.names }
  have I4 : Inv (X.blk s3 H3 scope (compEnvC scope (cellsFrom (h3.objs.size + 1) scope.names (cloFrom X.env.cells scope.names [])) h3.objs.size X.env) fp) [] (wipe σ (own.map (·.2))) H3 { s3 with heap := pushCells (h3.push { cls := .type "dict", data := .dict #[] }) scope.names } := I4
  generalize cellsFrom (h3.objs.size + 1) scope.names (cloFrom X.env.cells scope.names []) = cl at I4 ⊢
  generalize hs4 : ({ s3 with heap := pushCells (h3.push { cls := .type "dict", data := .dict #[] }) scope.names } : Shared) = s4 at I4 ⊢
  have st4 : tn 0 s4.heap := T.keep _ _ _ st3 fun b _ o e => by
    rw [← hs4]
    exact pushCells_keeps _ _ _ _ (Heap.get?_push_of_some _ e)
  have loop := ss_loop (B := X.blk s3 H3 scope (compEnvC scope cl h3.objs.size X.env) fp) (elt := elt) (tg := tg) (iter := iter) (ifs := ifs) (scope := scope) (pos := pos) (D := D) (W := W) (Qd := Q (.ref D)) (R := compPost (model X.prog X.w) X.A X.xe none (EP X pins σ Q) (.ref D) h3.objs.size)
    (wipe_wipe σ _) T hc rfl
    (fun {σ' H' s'} I' hn b hb => ⟨hn b hb, (I'.ok.exf b hb).1, I'.ok.exfs b hb, .inl hb, fun x c e => (I'.ok.exf b hb).2 x c e, fun p hp => absurd (show p ∈ ([] : List (Addr × Obj)) ++ [] from hp) (by simp)⟩)
    (hg s3 H3 h3.objs.size cl fp) (ht s3 H3 h3.objs.size cl fp) (he s3 H3 h3.objs.size cl fp) turn
    (fun H' s' I' q => by
      have I7 : Inv X pins σ H' s' := I3.call' (ch := fp) I'.os I'.base I'.hok I'.bare fun b hb => ⟨(f3 b hb).1.2.2.2.1, (f3 b hb).1.2.1, (f3 b hb).1.2.2.2.2.1, (f3 b hb).1.2.2.2.2.2⟩
      obtain ⟨m, hn, _⟩ := I'.loc
      obtain ⟨f0, f1, f2, f3, f4, f5⟩ := I3.fpOk (Nat.le_refl _) (show H' h3.objs.size = none from I'.free)
      exact ⟨m, hn, fun h'' sb => ⟨.ref D, H', I7.turned (t' := s'.toks) (fun b o hb e => (sb.2 b hb).trans e) f0 f1 f3 f4 f5, rfl, q⟩⟩)
    I4 st4 (fun b hb => (f3 b hb).1.1) w0
  exact codeAny_compStart_set loop (T.self X.A 0 _ _ _ st4 loop)
end

/-- between two turns: acc the ints put in by now -/
structure SsSt (w : World) (S1 H1 : Hp) (D' : Addr) (rest : List D → Prop) (r : List D) (H : Hp) : Prop where
  ex : ∃ (S : Hp) (acc : List Int) (f : Int → Bool) (n : Nat) (r' : List D), Grow S1 H1 S H ∧ H D' = some (SetO w D' f n) ∧ (∀ j : Int, f j = decide (j ∈ acc)) ∧ S D' = none ∧ n ≤ acc.length ∧ rest r' ∧ r = acc.map D.int ++ r'
theorem intsOf_app : ∀ {xs : List Int} {ys : List D} {ns : List Int}, intsOf (xs.map D.int ++ ys) = some ns → ∃ ms, intsOf ys = some ms ∧ ns = xs ++ ms
  | [], ys, ns, h => ⟨ns, h, rfl⟩
  | x :: xs, ys, ns, h => by
    have h : (intsOf (xs.map D.int ++ ys)).map (x :: ·) = some ns := h
    obtain ⟨ns', h1, rfl⟩ := Option.map_eq_some_iff.mp h
    obtain ⟨ms, h2, rfl⟩ := intsOf_app h1
    exact ⟨ms, h2, rfl⟩
theorem ss_read {w0 : World} {K : PySem.W.Frag} {mg : Str → Option Value} {E : XK} {own : List Nat} {g : Gx} {fi : En → Out (List D)} {ft : En → Out Bool} {fe : En → R} {σ : L2.St} {H : Hp} {Q : VK}
    (h : TE_ K mg E (fun Γ => fi Γ >>= fun ds => noX (lcOp (asg g) ft fe (wipeE Γ own) ds) >>= fun r => if g.within own then up (fSortedSet (.lst r)) else .bad) σ H Q) :
    tSs w0 (TI_ K mg E fi) (G_ K g) (TT_ K mg E0 ft) (TE_ K mg E0 fe) own σ H fun y H' => rSortedSet w0 [y] H' Q := by
  obtain ⟨S0, P0, fp, Γ, S, ok, w⟩ := h
  refine ⟨S0, P0, fp, Γ, S, ok, (Want.bind.mp w).mono fun ds w J S1 H1 g1 en D' hD => ?_⟩
  cases er : lcOp (asg g) ft fe (wipeE Γ own) ds with
  | bad => rw [er] at w; exact w.elim
  | exc x => rw [er] at w; exact w.elim
  | ok r =>
    rw [er, noX_ok, ok_bind] at w
    split at w
    case isFalse => exact w.elim
    rename_i hw
    obtain ⟨p, hp, k⟩ := up_want.mp w
    replace hp : (match intsOf r with
      | some ns => if ns.length < 64 then some (.lst ((usort ns).map .int), true) else none
      | none => none) = some p := hp
    split at hp
    case h_2 => cases hp
    rename_i ns hns
    split at hp
    case isFalse => cases hp
    rename_i h64
    cases hp
    obtain ⟨vs, rv, kx⟩ := en
    have hlen := rv.length
    have SD1 : S1 D' = none := Same.none g1.sub hD
    refine ⟨fun i m H' => m = ds.length - i ∧ i ≤ ds.length ∧ SsSt w0 S1 H1 D' (fun r' => lcOp (asg g) ft fe (wipeE Γ own) (ds.drop i) = .ok r') r H', ⟨ds.length, by simp, Nat.zero_le _, ⟨S1, [], _, 0, r, Grow.lay g1.sub hD _, upd_same, (fun j => by simp), SD1, Nat.le_refl _, er, rfl⟩⟩, ?_⟩
    rintro i m H' ⟨rfl, hi, ⟨S', acc, f, n, r', G', hDv, hf, SD, hn, hr, rfl⟩⟩
    obtain ⟨ms, hms, rfl⟩ := intsOf_app hns
    rw [List.length_append] at h64
    obtain ⟨kg, ks⟩ := kx H' (G'.mono.trans G'.sub)
    by_cases hlt : i < ds.length
    · refine .inr ?_
      obtain ⟨x, hx, rx⟩ := rv.get (List.getElem?_eq_getElem hlt)
      obtain ⟨go, yl⟩ := kg i x hx
      rw [List.drop_eq_getElem_cons hlt] at hr
      obtain ⟨Γ1, b, e1, e2, e3⟩ := lcOp_cons hr
      refine ⟨go, fun y H'' hy => ?_⟩
      obtain ⟨rfl, rfl⟩ := yl y H'' hy
      have ok1 := ((ok.grow g1).grow G').wipe own
      refine ⟨S0, P0, _, _, S', _, Γ1, ok1, rx.mono G'.mono, e1, fun σ2 fp2 ok2 w2 => ⟨(w2 own hw).trans (wipe_wipe σ own), ?_⟩⟩
      refine ⟨S0, P0, fp2, Γ1, S', ok2, ?_⟩
      rw [e2]
      intro S3 H3 g3
      have D3 := g3.same _ _ hDv
      have G3 := G'.trans g3
      have SD3 : S3 D' = none := g3.keepN SD (by rw [hDv]; exact fun z => nomatch z)
      rcases e3 with ⟨rfl, q, r2, e4, e5, rfl⟩ | ⟨rfl, e5⟩
      · refine iteT ⟨S0, P0, fp2, Γ1, S3, ok2.grow g3, ?_⟩
        rw [e4]
        intro y2 S4 H4 g4 vo
        have hq : ∃ z, q.1 = .int z := by
          cases e6 : q.1 with
          | int z => exact ⟨z, rfl⟩
          | _ => rw [e6] at hms; cases hms
        obtain ⟨z, hz⟩ := hq
        obtain ⟨qd, qf⟩ := q
        obtain rfl : qd = .int z := hz
        cases int_inv vo.b
        have D4 := g4.same _ _ D3
        have SD4 : S4 D' = none := g4.keepN SD3 (by rw [D3]; exact fun z => nomatch z)
        have G4 := G3.trans g4
        refine ⟨z, f, n, rfl, D4, by unfold scanBound; omega, _, ?_, rfl, hlt, ⟨S4, acc ++ [z], _, _, r2, ?_, upd_same, (fun j => ?_), SD4, ?_, e5, by simp⟩⟩
        · omega
        · refine ⟨fun a o q => ?_, G4.mono, fun a o q => ?_, G4.new⟩
          · rw [upd_ne (fun e => by rw [e, SD4] at q; cases q)]
            exact G4.sub _ _ q
          · rw [upd_ne (fun e => by rw [e, hD] at q; cases q)]
            exact G4.same _ _ q
        · show (f j || decide (j = z)) = decide (j ∈ acc ++ [z])
          rw [hf]
          simp
        · rw [List.length_append, List.length_singleton]
          split <;> omega
      · exact iteF ⟨_, by omega, rfl, hlt, ⟨S3, acc, f, n, r', G3, D3, hf, SD3, hn, e5, rfl⟩⟩
    · have e : i = ds.length := by omega
      subst e
      rw [List.drop_length] at hr
      cases hr
      cases hms
      refine .inl ⟨ks _ (by rw [hlen]; exact Nat.le_refl _), D', f, n, rfl, hDv, by omega, fun ns' p2 h1 h2 h3 hp2 => ?_⟩
      obtain rfl : ns' = usort acc := usort_of h1 h2 hf
      obtain ⟨g3, vo⟩ := new_lst (K := K) G'.sub hp2 (RepAll.ints (K := K) (S := S') (usort acc))
      rw [List.append_nil] at k
      exact k _ _ _ ((g1.trans G').trans g3) (grow_vok (g1.trans G') vo)
section
variable {G : Gi} {call : Str → List D → R} {CX : CXT} {E : XK} {X : Cx} {sc : Sc}
def rvsRead {K : PySem.W.Frag} {mg : Str → Option Value} {E : XK} {f : En → R} {σ : L2.St} {H : Hp} {Q : VK} (h : TE_ K mg E (fun Γ => f Γ >>= fun x => up (rvsD x.1 x.2)) σ H Q) : tRevL K (TB_ K mg E f) σ H Q := by
  obtain ⟨S0, P0, fp, Γ, S, ok, w⟩ := h
  refine ⟨S0, P0, fp, Γ, S, ok, (Want.bind.mp w).mono fun x w v S1 H1 g1 b1 => ?_⟩
  obtain ⟨q, hq, k⟩ := up_want.mp w
  obtain ⟨d, fl⟩ := x
  replace hq : rvsD d fl = some q := hq
  unfold rvsD at hq
  have fin : ∀ {ds : List D}, d.seq = some ds → (∀ x, d ≠ .tup x) → (if eok fl ds then some (D.lst ds.reverse, true) else none) = some q → ∃ a xs, v = .ref a ∧ SqL K H1 a xs ∧ ∀ p, H1 p = none → Q (.ref p) (upd H1 p (.lst xs.reverse)) := fun {ds} e1 e2 e3 => by
    split at e3
    case isFalse => cases e3
    rename_i he
    cases e3
    have hs : ∃ a vs, v = .ref a ∧ SqL K H1 a vs ∧ RepAll K S1 vs ds := by
      cases d with
      | tup x => exact absurd rfl (e2 x)
      | lst xs => cases e1; obtain ⟨a, vs, as, h1, h2, _, h3⟩ := b1.lst g1.sub; exact ⟨a, vs, h1, SqL.of h2, h3 he⟩
      | fls xs => cases e1; obtain ⟨a, vs, h1, h2, h3⟩ := b1.fls g1.sub; exact ⟨a, vs, h1, h2, h3⟩
      | _ => cases e1
    obtain ⟨a, vs, h1, h2, h3⟩ := hs
    refine ⟨a, vs, h1, h2, fun p hp => ?_⟩
    obtain ⟨g3, vo⟩ := new_lst (K := K) g1.sub hp h3.reverse
    exact k _ _ _ (g1.trans g3) (grow_vok g1 vo)
  split at hq
  · exact fin rfl (fun x => by simp) hq
  · exact fin rfl (fun x => by simp) hq
  · cases hq
end
end Cr
end

section
set_option maxHeartbeats 4000000
/-! Every expression that the check lets pass. -/
namespace Cr
open PySem PySem.Spec PyProof.Rows L2

section
variable {G : Gi} {call : Str → List D → R} {CX : CXT} {E : XK} {X : Cx} {sc : Sc}
theorem s_bad {e : Expr} {K mg} {E : XK} : PE X e (TE_ K mg E fun _ => .bad) := ⟨fun _ _ _ _ _ _ ⟨_, _, _, _, _, _, w⟩ => w.elim⟩
theorem s_B (M : Mt G call CX E X sc) {c : Ex} {e : Expr} (h : chkE G sc c e = true) (ih : PE X e (TE_ X.K X.mg E (evE call c))) : PE X e (TB_ X.K X.mg E fun Γ => borOr c (evE call c Γ) Γ) := by
  cases c with
  | bor i =>
    unfold chkE at h
    split at h
    · exact s_bor M h
    · cases h
  | _ => exact ih.imp fun _ _ _ => TB_.of
theorem s_A1 (M : Mt G call CX E X sc) {c : Ex} {e : Expr} (h : chkE G sc c e = true) (ih : PE X e (TE_ X.K X.mg E (evE call c))) : PE X e (TA1_ X.K X.mg E fun Γ => argOr c (evE call c Γ) Γ) := by
  cases c with
  | bor i =>
    unfold chkE at h
    split at h
    · exact s_arg_bor M h
    · cases h
  | _ => exact s_arg_val ih
theorem evAs_len : ∀ (es : List Ex) (Γ : En) (as : List (D × Bool)), evAs call es Γ = .ok as → as.length = es.length
  | [], _, _, h => by unfold evAs at h; cases h; rfl
  | e :: es, Γ, as, h => by
    unfold evAs at h
    cases q : argOr e (evE call e Γ) Γ with
    | bad => rw [q] at h; cases h
    | exc x => rw [q] at h; cases h
    | ok x =>
      rw [q, ok_bind] at h
      cases q2 : evAs call es Γ with
      | bad => rw [q2] at h; cases h
      | exc x => rw [q2] at h; cases h
      | ok xs =>
        rw [q2, ok_bind] at h
        cases h
        rw [List.length_cons, List.length_cons, evAs_len es Γ xs q2]
theorem chkEs_len : ∀ {cs : List Ex} {es : List Expr}, chkEs G sc cs es = true → cs.length = es.length ∧ NoStars es
  | [], [], _ => ⟨rfl, .nil⟩
  | [], _ :: _, h => by unfold chkEs at h; cases h
  | _ :: _, [], h => by unfold chkEs at h; cases h
  | c :: cs, e :: es, h => by
    unfold chkEs at h
    simp only [Bool.and_eq_true, Bool.not_eq_true'] at h
    obtain ⟨h1, h2⟩ := chkEs_len h.2
    exact ⟨by rw [List.length_cons, List.length_cons, h1], .cons h.1.1 h2⟩
/-- what a built-in's call is, from its arguments -/
theorem s_blt (M : Mt G call CX E X sc) {f : Bf} {es : List Ex} {e : Expr} {xs : List Expr} (hb : bltArgs sc f e = some xs) (hc : chkEs G sc es xs = true)
    (ih : ∀ c ∈ es, ∀ x, chkE G sc c x = true → PE X x (TB_ X.K X.mg E fun Γ => borOr c (evE call c Γ) Γ)) : PE X e (TE_ X.K X.mg E fun Γ => evBs call es Γ >>= fun as => up (bltD f as)) := by
  have inv1 : ∀ {a : Expr}, xs = [a] → ∃ c, es = [c] ∧ isStar a = false ∧ PE X a (TB_ X.K X.mg E fun Γ => borOr c (evE call c Γ) Γ) := fun {a} q => by
    subst q
    cases es with
    | nil => unfold chkEs at hc; cases hc
    | cons c cs =>
      unfold chkEs at hc
      simp only [Bool.and_eq_true, Bool.not_eq_true'] at hc
      cases cs with
      | nil => exact ⟨c, rfl, hc.1.1, ih c (by simp) a hc.1.2⟩
      | cons d ds => have := hc.2; unfold chkEs at this; cases this
  have inv2 : ∀ {a b : Expr}, xs = [a, b] → ∃ c d, es = [c, d] ∧ isStar a = false ∧ isStar b = false ∧ PE X a (TB_ X.K X.mg E fun Γ => borOr c (evE call c Γ) Γ) ∧ PE X b (TB_ X.K X.mg E fun Γ => borOr d (evE call d Γ) Γ) := fun {a b} q => by
    subst q
    cases es with
    | nil => unfold chkEs at hc; cases hc
    | cons c cs =>
      cases cs with
      | nil => unfold chkEs at hc; simp only [Bool.and_eq_true] at hc; have := hc.2; unfold chkEs at this; cases this
      | cons d ds =>
        cases ds with
        | cons d' ds' =>
          unfold chkEs at hc
          simp only [Bool.and_eq_true] at hc
          have h2 := hc.2
          unfold chkEs at h2
          simp only [Bool.and_eq_true] at h2
          have h3 := h2.2
          unfold chkEs at h3
          cases h3
        | nil =>
          unfold chkEs at hc
          simp only [Bool.and_eq_true, Bool.not_eq_true'] at hc
          have h2 := hc.2
          unfold chkEs at h2
          simp only [Bool.and_eq_true, Bool.not_eq_true'] at h2
          exact ⟨c, d, rfl, hc.1.1, h2.1.1, ih c (by simp) a hc.1.2, ih d (by simp) b h2.1.2⟩
  have simple : ∀ {id : Str}, f.nm = id → oneArgs sc f e = some xs → ∃ x p pos, e = .Call (.Name x p) xs [] pos ∧ x = id ∧ Gl X x ∧ xs.length = f.ar := fun {id} hid hb => by
    subst hid
    unfold oneArgs at hb
    split at hb
    · split at hb
      · rename_i hq
        cases hb
        simp only [Bool.and_eq_true, decide_eq_true_eq] at hq
        exact ⟨_, _, _, rfl, hq.1.1, M.glo hq.1.2, hq.2⟩
      · cases hb
    · cases hb
  have two : ∀ {f g : Str}, twoArgs sc f g e = some xs → ∃ x p y p2 a pos2 pos, e = .Call (.Name x p) [.Call (.Name y p2) [a] [] pos2] [] pos ∧ x = f ∧ Gl X x ∧ y = g ∧ Gl X y ∧ xs = [a] := fun {f g} hb => by
    unfold twoArgs at hb
    split at hb
    · split at hb
      · rename_i hq
        cases hb
        simp only [Bool.and_eq_true, decide_eq_true_eq] at hq
        exact ⟨_, _, _, _, _, _, _, rfl, hq.1.1.1, M.glo hq.1.1.2, hq.1.2, M.glo hq.2, rfl⟩
      · cases hb
    · cases hb
  have len1 : xs.length = 1 → ∃ a, xs = [a] := fun q => by
    match xs, q with
    | [a], _ => exact ⟨a, rfl⟩
  have len2 : xs.length = 2 → ∃ a b, xs = [a, b] := fun q => by
    match xs, q with
    | [a, b], _ => exact ⟨a, b, rfl⟩
  cases f with
  | int =>
    obtain ⟨x, p, pos, rfl, rfl, hg, hl⟩ := simple (id := "int") rfl hb
    obtain ⟨a, rfl⟩ := len1 hl
    obtain ⟨c, rfl, hs, ha⟩ := inv1 rfl
    exact s_fnT1 fn_int hg (M.bl _ (by decide)) PyProof.Rows.boot_int ha hs (by decide) (by decide)
  | abs =>
    obtain ⟨x, p, pos, rfl, rfl, hg, hl⟩ := simple (id := "abs") rfl hb
    obtain ⟨a, rfl⟩ := len1 hl
    obtain ⟨c, rfl, hs, ha⟩ := inv1 rfl
    exact s_fn1 fn_abs hg (M.bl _ (by decide)) PyProof.Rows.boot_abs ha hs (by decide) (by decide)
  | len =>
    obtain ⟨x, p, pos, rfl, rfl, hg, hl⟩ := simple (id := "len") rfl hb
    obtain ⟨a, rfl⟩ := len1 hl
    obtain ⟨c, rfl, hs, ha⟩ := inv1 rfl
    exact s_fn1 fn_len hg (M.bl _ (by decide)) PySem.boot_len ha hs (by decide) (by decide)
  | list =>
    obtain ⟨x, p, pos, rfl, rfl, hg, hl⟩ := simple (id := "list") rfl hb
    obtain ⟨a, rfl⟩ := len1 hl
    obtain ⟨c, rfl, hs, ha⟩ := inv1 rfl
    exact s_fnT1 fn_list hg (M.bl _ (by decide)) PyProof.Rows.boot_list ha hs (by decide) (by decide)
  | tuple =>
    obtain ⟨x, p, pos, rfl, rfl, hg, hl⟩ := simple (id := "tuple") rfl hb
    obtain ⟨a, rfl⟩ := len1 hl
    obtain ⟨c, rfl, hs, ha⟩ := inv1 rfl
    exact s_fnT1 fn_tuple hg (M.bl _ (by decide)) PyProof.Rows.boot_tuple ha hs (by decide) (by decide)
  | sorted =>
    obtain ⟨x, p, pos, rfl, rfl, hg, hl⟩ := simple (id := "sorted") rfl hb
    obtain ⟨a, rfl⟩ := len1 hl
    obtain ⟨c, rfl, hs, ha⟩ := inv1 rfl
    exact s_fn1 fn_sorted hg (M.bl _ (by decide)) PyProof.Rows.boot_sorted ha hs (by decide) (by decide)
  | any =>
    obtain ⟨x, p, pos, rfl, rfl, hg, hl⟩ := simple (id := "any") rfl hb
    obtain ⟨a, rfl⟩ := len1 hl
    obtain ⟨c, rfl, hs, ha⟩ := inv1 rfl
    exact s_fn1 (fn_any M.calm) hg (M.bl _ (by decide)) PyProof.Rows.boot_any ha hs (by decide) (by decide)
  | all =>
    obtain ⟨x, p, pos, rfl, rfl, hg, hl⟩ := simple (id := "all") rfl hb
    obtain ⟨a, rfl⟩ := len1 hl
    obtain ⟨c, rfl, hs, ha⟩ := inv1 rfl
    exact s_fn1 (fn_all M.calm) hg (M.bl _ (by decide)) PyProof.Rows.boot_all ha hs (by decide) (by decide)
  | sum =>
    obtain ⟨x, p, pos, rfl, rfl, hg, hl⟩ := simple (id := "sum") rfl hb
    obtain ⟨a, rfl⟩ := len1 hl
    obtain ⟨c, rfl, hs, ha⟩ := inv1 rfl
    exact s_fn1 (fn_sum M.calm) hg (M.bl _ (by decide)) PyProof.Rows.boot_sum ha hs (by decide) (by decide)
  | str =>
    obtain ⟨x, p, pos, rfl, rfl, hg, hl⟩ := simple (id := "str") rfl hb
    obtain ⟨a, rfl⟩ := len1 hl
    obtain ⟨c, rfl, hs, ha⟩ := inv1 rfl
    exact s_fnT1 fn_str hg (M.bl _ (by decide)) PyProof.Rows.boot_str ha hs (by decide) (by decide)
  | min2 =>
    obtain ⟨x, p, pos, rfl, rfl, hg, hl⟩ := simple (id := "min") rfl hb
    obtain ⟨a, b, rfl⟩ := len2 hl
    obtain ⟨c, d, rfl, hs, hs2, ha, hb2⟩ := inv2 rfl
    exact s_fn2 (fn_min2 M.calm) hg (M.bl _ (by decide)) PyProof.Rows.boot_min ha hb2 hs hs2 (by decide) (by decide)
  | max2 =>
    obtain ⟨x, p, pos, rfl, rfl, hg, hl⟩ := simple (id := "max") rfl hb
    obtain ⟨a, b, rfl⟩ := len2 hl
    obtain ⟨c, d, rfl, hs, hs2, ha, hb2⟩ := inv2 rfl
    exact s_fn2 (fn_max2 M.calm) hg (M.bl _ (by decide)) PyProof.Rows.boot_max ha hb2 hs hs2 (by decide) (by decide)
  | isi t =>
    have hb : isiArgs sc t e = some xs := hb
    unfold isiArgs at hb
    split at hb
    · split at hb
      · rename_i hq2
        cases hb
        simp only [Bool.and_eq_true, decide_eq_true_eq] at hq2
        obtain ⟨⟨⟨h1, h2⟩, h3⟩, h4⟩ := hq2
        obtain ⟨c, rfl, hs, ha⟩ := inv1 rfl
        exact s_isi h1 h3 (M.glo h2) (by rw [h1]; exact M.bl _ (by decide)) (M.glo h4) (by rw [h3]; exact M.bl _ (by cases t <;> decide)) ha hs
      · cases hb
    · cases hb
  | listRange =>
    obtain ⟨x, p, y, p2, a, pos2, pos, rfl, hx, hg, hy, hg2, rfl⟩ := two hb
    obtain ⟨c, rfl, hs, ha⟩ := inv1 rfl
    exact s_listRange hx hy M hg hg2 ha hs
  | sortedSet =>
    obtain ⟨x, p, y, p2, a, pos2, pos, rfl, hx, hg, hy, hg2, rfl⟩ := two hb
    obtain ⟨c, rfl, hs, ha⟩ := inv1 rfl
    exact s_sortedSet M hx hy hg hg2 ha hs
  | min => cases hb
  | max => cases hb
  | divmod => cases hb
def bK (sc : Sc) (own : List Nat) : List (Str × Nat) := own.filterMap fun i => (sc.N[i]?).map fun x => (x, i)
mutual
theorem snd : ∀ (c : Ex) {E : XK} {X : Cx} {sc : Sc} (M : Mt G call CX E X sc) (e : Expr), chkE G sc c e = true → PE X e (TE_ X.K X.mg E (evE call c))
  | .var i, E, X, sc, M, e, h => by
    unfold chkE at h; split at h
    · exact s_var M h
    · cases h
  | .bor i, E, X, sc, M, e, h => s_bad
  | .non, E, X, sc, M, e, h => by
    unfold chkE at h; split at h
    · exact s_const pe_non fun _ => .non
    · cases h
  | .bl b, E, X, sc, M, e, h => by
    unfold chkE at h; split at h
    · obtain rfl := eq_of_beq h
      exact s_const pe_bl fun _ => .bl _
    · cases h
  | .int n, E, X, sc, M, e, h => by
    unfold chkE at h; split at h
    · obtain rfl := eq_of_beq h
      exact s_const pe_int fun _ => .int _
    · cases h
  | .str z, E, X, sc, M, e, h => by
    unfold chkE at h; split at h
    · obtain rfl := of_decide_eq_true h
      exact s_const pe_str fun _ => .str _
    · cases h
  | .glob x d, E, X, sc, M, e, h => by
    unfold chkE at h; split at h
    · simp only [Bool.and_eq_true, decide_eq_true_eq] at h
      obtain ⟨⟨⟨rfl, h2⟩, h3⟩, h4⟩ := h
      split at h4
      · rename_i u hu
        rw [List.any_eq_true] at h4
        obtain ⟨p, hp, hq⟩ := h4
        exact s_glob M h2 h3 hu (by rw [← of_decide_eq_true hq]; exact hp)
      · cases h4
    · cases h
  | .bin op a b, E, X, sc, M, e, h => by
    unfold chkE at h; split at h
    · simp only [Bool.and_eq_true, decide_eq_true_eq] at h
      obtain ⟨⟨rfl, h2⟩, h3⟩ := h
      exact s_bin _ (s_B M h2 (snd a M _ h2)) (s_B M h3 (snd b M _ h3))
    · cases h
  | .neg a, E, X, sc, M, e, h => by
    unfold chkE at h; split at h
    · exact s_un un_neg (snd a M _ h)
    · cases h
  | .inv a, E, X, sc, M, e, h => by
    unfold chkE at h; split at h
    · exact s_un un_inv (snd a M _ h)
    · cases h
  | .not a, E, X, sc, M, e, h => by
    unfold chkE at h; split at h
    · exact s_not (s_B M h (snd a M _ h))
    · cases h
  | .cmp op a b, E, X, sc, M, e, h => by
    unfold chkE at h; split at h
    · simp only [Bool.and_eq_true, decide_eq_true_eq, Bool.not_eq_true'] at h
      obtain ⟨⟨⟨rfl, h2⟩, h3⟩, h4⟩ := h
      exact s_cmp M _ (s_B M h2 (snd a M _ h2)) (s_B M h3 (snd b M _ h3)) h4
    · cases h
  | .and a b, E, X, sc, M, e, h => by
    unfold chkE at h; split at h
    · rw [Bool.and_eq_true] at h
      exact s_and (snd a M _ h.1) (s_and1V (snd b M _ h.2))
    · rw [Bool.and_eq_true] at h
      exact s_and (snd a M _ h.1) (snd b M _ h.2)
    · cases h
  | .or a b, E, X, sc, M, e, h => by
    unfold chkE at h; split at h
    · rw [Bool.and_eq_true] at h
      exact s_or (snd a M _ h.1) (s_and1V (snd b M _ h.2))
    · rw [Bool.and_eq_true] at h
      exact s_or (snd a M _ h.1) (snd b M _ h.2)
    · cases h
  | .ife t a b, E, X, sc, M, e, h => by
    unfold chkE at h; split at h
    · simp only [Bool.and_eq_true] at h
      exact s_ife (sndT t M _ h.1.1) (snd a M _ h.1.2) (snd b M _ h.2)
    · cases h
  | .tup es, E, X, sc, M, e, h => by
    unfold chkE at h; split at h
    · exact s_tup (sndVs es M _ h)
    · cases h
  | .lst es, E, X, sc, M, e, h => by
    unfold chkE at h; split at h
    · exact s_lst (sndVs es M _ h)
    · cases h
  | .ix a i, E, X, sc, M, e, h => by
    unfold chkE at h; split at h
    · simp only [Bool.and_eq_true, Bool.not_eq_true'] at h
      exact s_ix (s_B M h.1.2 (snd a M _ h.1.2)) (snd i M _ h.2) h.1.1
    · cases h
  | .slc a lo hi, E, X, sc, M, e, h => by
    unfold chkE at h; split at h
    · simp only [Bool.and_eq_true] at h
      exact s_slc (s_B M h.1.1 (snd a M _ h.1.1)) (sndO lo M _ h.1.2) (sndO hi M _ h.2)
    · cases h
  | .call f es, E, X, sc, M, e, h => by
    unfold chkE at h; split at h
    · rename_i x p xs pos
      simp only [Bool.and_eq_true, decide_eq_true_eq, List.any_eq_true] at h
      obtain ⟨⟨⟨⟨h1, h2⟩, h3⟩, q, hq, hq2⟩, h5⟩ := h
      obtain rfl := hq2
      obtain ⟨hl, ns⟩ := chkEs_len h5
      rw [hl] at hq
      cases ns with
      | nil =>
        cases es with
        | nil => exact s_call0 M h1 h2 h3 hq
        | cons _ _ => cases hl
      | cons n1 n2 => exact s_call M h1 h2 h3 hq (sndAs es M _ h5) n1 n2 fun Γ as q => (evAs_len es Γ as q).trans hl
    · cases h
  | .blt f es, E, X, sc, M, e, h => by
    unfold chkE at h; split at h
    · rename_i xs hx
      exact s_blt M hx h (sndBl es M)
    · cases h
  | .lc own g it t el, E, X, sc, M, e, h => by
    unfold chkE at h; split at h
    · rename_i elt tg iter ifs s0 pos
      simp only [Bool.and_eq_true, decide_eq_true_eq, Bool.not_eq_true'] at h
      obtain ⟨⟨⟨⟨⟨⟨h1, h2⟩, h3⟩, h4⟩, h5⟩, h6⟩, h7⟩ := h
      have ok : BlkOk X.N X.env.scope s0 (bK sc own) := by rw [M.N, M.sco]; exact blkOk_by h1
      refine (pe_lc (wi := TI_ X.K X.mg E (evI call it)) (g := G_ X.K g) (tt := TT_ X.K X.mg E0 (evTo call t)) (te := TE_ X.K X.mg E0 (evE call el)) M.calm M.nd (sndI it M _ _ h5) ok (fun s H C cl fp => s_tg (M.blk _ s H C cl fp) g _ h4) (fun s H C cl fp => sndTo t (M.blk _ s H C cl fp) _ h6) (fun s H C cl fp => snd el (M.blk _ s H C cl fp) _ h7) fun x => folded_of h3 _ x).imp fun σ H Q q => ?_
      rw [show (bK sc own).map (·.2) = own from h2]
      exact lc_read q
    · cases h
  | .ssc own g it t el, E, X, sc, M, e, h => by
    unfold chkE at h; split at h
    · rename_i x px elt tg iter ifs s0 p2 pos
      simp only [Bool.and_eq_true, decide_eq_true_eq, Bool.not_eq_true'] at h
      obtain ⟨⟨⟨⟨⟨⟨⟨hx, hgx⟩, h1, h2⟩, h3⟩, h4⟩, h5⟩, h6⟩, h7⟩ := h
      subst hx
      have ok : BlkOk X.N X.env.scope s0 (bK sc own) := by rw [M.N, M.sco]; exact blkOk_by h1
      refine (pe_callB (cr_sortedSet M.calm) (M.glo hgx) (M.bl _ (by decide)) PyProof.Rows.boot_sorted (pa_cons (pe_ss (wi := TI_ X.K X.mg E (evI call it)) (g := G_ X.K g) (tt := TT_ X.K X.mg E0 (evTo call t)) (te := TE_ X.K X.mg E0 (evE call el)) M.calm M.nd (sndI it M _ _ h5) ok
        (fun s H C cl fp => s_tg (M.blk _ s H C cl fp) g _ h4) (fun s H C cl fp => sndTo t (M.blk _ s H C cl fp) _ h6) (fun s H C cl fp => snd el (M.blk _ s H C cl fp) _ h7) fun x => folded_of h3 _ x) pa_nil (star_of rfl _ _)) (by decide) (by decide) (star_of rfl _ _) rfl).imp fun σ H Q q => ?_
      rw [show (bK sc own).map (·.2) = own from h2]
      exact ss_read q
    · cases h
  | .rvs a, E, X, sc, M, e, h => by
    unfold chkE at h; split at h
    · exact (pe_revL (s_B M h (snd a M _ h))).imp fun σ H Q q => rvsRead q
    · cases h
theorem sndVs : ∀ (cs : List Ex) {E : XK} {X : Cx} {sc : Sc} (M : Mt G call CX E X sc) (es : List Expr), chkEs G sc cs es = true → PA X es (TA_ X.K X.mg E (evVs call cs))
  | [], E, X, sc, M, es, h => by
    cases es with
    | nil => exact s_nilA
    | cons _ _ => unfold chkEs at h; cases h
  | c :: cs, E, X, sc, M, es, h => by
    cases es with
    | nil => unfold chkEs at h; cases h
    | cons e es =>
      unfold chkEs at h
      simp only [Bool.and_eq_true, Bool.not_eq_true'] at h
      exact s_consA (snd c M _ h.1.2) (sndVs cs M _ h.2) h.1.1
theorem sndAs : ∀ (cs : List Ex) {E : XK} {X : Cx} {sc : Sc} (M : Mt G call CX E X sc) (es : List Expr), chkEs G sc cs es = true → PA X es (TAA_ X.K X.mg E (evAs call cs))
  | [], E, X, sc, M, es, h => by
    cases es with
    | nil => exact s_nilAA
    | cons _ _ => unfold chkEs at h; cases h
  | c :: cs, E, X, sc, M, es, h => by
    cases es with
    | nil => unfold chkEs at h; cases h
    | cons e es =>
      unfold chkEs at h
      simp only [Bool.and_eq_true, Bool.not_eq_true'] at h
      exact s_consAA (s_A1 M h.1.2 (snd c M _ h.1.2)) (sndAs cs M _ h.2) h.1.1
theorem sndBl : ∀ (cs : List Ex) {E : XK} {X : Cx} {sc : Sc} (M : Mt G call CX E X sc), ∀ c ∈ cs, ∀ x, chkE G sc c x = true → PE X x (TB_ X.K X.mg E fun Γ => borOr c (evE call c Γ) Γ)
  | [], E, X, sc, M, c, hc, x, h => nomatch hc
  | c :: cs, E, X, sc, M, c', hc, x, h => by
    rcases List.mem_cons.mp hc with e | e
    · rw [e] at h ⊢
      exact s_B M h (snd c M _ h)
    · exact sndBl cs M c' e x h
theorem sndO : ∀ (c : Option Ex) {E : XK} {X : Cx} {sc : Sc} (M : Mt G call CX E X sc) (e : Option Expr), chkO G sc c e = true → PO X e (TO_ X.K X.mg E (evO call c))
  | none, E, X, sc, M, e, h => by
    cases e with
    | none => exact s_none
    | some _ => unfold chkO at h; cases h
  | some c, E, X, sc, M, e, h => by
    cases e with
    | none => unfold chkO at h; cases h
    | some e => unfold chkO at h; exact s_some (snd c M _ h)
theorem sndT : ∀ (c : Tx) {E : XK} {X : Cx} {sc : Sc} (M : Mt G call CX E X sc) (e : Expr), chkT G sc c e = true → PT X e (TT_ X.K X.mg E (evT call c))
  | .e a, E, X, sc, M, e, h => by
    unfold chkT at h
    rw [Bool.and_eq_true] at h
    exact s_truth (s_B M h.2 (snd a M _ h.2)) h.1
  | .cmp op a b, E, X, sc, M, e, h => by
    unfold chkT at h; split at h
    · simp only [Bool.and_eq_true, decide_eq_true_eq, Bool.not_eq_true'] at h
      obtain ⟨⟨⟨rfl, h2⟩, h3⟩, h4⟩ := h
      exact s_cmpT M _ (s_B M h2 (snd a M _ h2)) (s_B M h3 (snd b M _ h3)) h4
    · cases h
  | .and a b, E, X, sc, M, e, h => by
    unfold chkT at h; split at h
    · rw [Bool.and_eq_true] at h
      exact s_andT (sndT a M _ h.1) (pw_and1 (sndT b M _ h.2))
    · rw [Bool.and_eq_true] at h
      exact s_andT (sndT a M _ h.1) (pw_of (sndT b M _ h.2))
    · cases h
  | .or a b, E, X, sc, M, e, h => by
    unfold chkT at h; split at h
    · rw [Bool.and_eq_true] at h
      exact s_orT (sndT a M _ h.1) (pw_or1 (sndT b M _ h.2))
    · rw [Bool.and_eq_true] at h
      exact s_orT (sndT a M _ h.1) (pw_of (sndT b M _ h.2))
    · cases h
  | .not a, E, X, sc, M, e, h => by
    unfold chkT at h; split at h
    · exact s_notT (sndT a M _ h)
    · cases h
  | .inr neg a n, E, X, sc, M, e, h => by
    unfold chkT at h; split at h
    · simp only [Bool.and_eq_true, decide_eq_true_eq, Bool.not_eq_true'] at h
      obtain ⟨⟨⟨⟨⟨⟨ho, hx⟩, hg⟩, hs⟩, h1⟩, h2⟩, h3⟩ := h
      subst ho
      exact s_inr M hx (M.glo hg) (snd a M _ h1) (snd n M _ h2) hs h3
    · cases h
theorem sndTo : ∀ (c : Option Tx) {E : XK} {X : Cx} {sc : Sc} (M : Mt G call CX E X sc) (e : List Expr), chkTo G sc c e = true → PTs X e (TT_ X.K X.mg E (evTo call c))
  | none, E, X, sc, M, e, h => by
    cases e with
    | nil => exact ⟨fun pins s σ H Q I ⟨_, _, _, _, S, ok, w⟩ => pts_nil.run pins s σ H Q I (w S H (Grow.refl ok.sub))⟩
    | cons _ _ => unfold chkTo at h; cases h
  | some t, E, X, sc, M, e, h => by
    cases e with
    | nil => unfold chkTo at h; cases h
    | cons x r =>
      cases r with
      | nil => unfold chkTo at h; exact pts_one (sndT t M _ h)
      | cons _ _ => unfold chkTo at h; cases h
theorem sndI : ∀ (c : Ix) {E : XK} {X : Cx} {sc : Sc} (M : Mt G call CX E X sc) (tg e : Expr), chkI G sc c e = true → PI X tg e (TI_ X.K X.mg E (evI call c))
  | .seq a, E, X, sc, M, tg, e, h => by
    unfold chkI at h
    rw [Bool.and_eq_true] at h
    exact s_seq (snd a M _ h.2)
  | .rng a, E, X, sc, M, tg, e, h => by
    unfold chkI at h; split at h
    · simp only [Bool.and_eq_true, decide_eq_true_eq, Bool.not_eq_true'] at h
      exact s_rng M h.1.1.1 (M.glo h.1.1.2) (snd a M _ h.2) h.1.2
    · cases h
  | .rng2 a b, E, X, sc, M, tg, e, h => by
    unfold chkI at h; split at h
    · simp only [Bool.and_eq_true, decide_eq_true_eq, Bool.not_eq_true'] at h
      obtain ⟨⟨⟨⟨⟨h1, h2⟩, h3⟩, h4⟩, h5⟩, h6⟩ := h
      exact s_rng2 M h1 (M.glo h2) (snd a M _ h5) (snd b M _ h6) h3 h4
    · cases h
  | .rev a, E, X, sc, M, tg, e, h => by
    unfold chkI at h; split at h
    · simp only [Bool.and_eq_true, decide_eq_true_eq, Bool.not_eq_true'] at h
      exact s_rev M h.1.1.1 (M.glo h.1.1.2) (snd a M _ h.2) h.1.2
    · cases h
end
end
end Cr
end

section
set_option maxHeartbeats 4000000
/-! Statements: the check, one lemma a form. -/
namespace Cr
open PySem PySem.Spec PyProof.Rows L2

/-! ### the check -/
/-- a comprehension given to a name on one line: the model stores ahead of letting its names go -/
def swB (sc : Sc) (tg v : Expr) : Bool := match tg, v with
  | .Name t p, .ListComp _ _ s0 q => (match sc.scope.names.lookup t with
    | some .local => true
    | _ => false) && (p.line == q.line) && !(s0.names.any fun (n, k) => n == t && (k == .local || k == .cell))
  | _, _ => false
def isNameE : Expr → Bool
  | .Name _ _ => true
  | _ => false
def isTupE : Expr → Bool
  | .Tuple _ _ _ => true
  | .List _ _ => true
  | _ => false
/-- an assignment's value, but for its expression -/
def asgOk (sc : Sc) (tg v : Expr) : Bool := !isStar tg && (isNameE tg || !isTupE v) && (!isComp v || isNameE tg)
mutual
def chkS (G : Gi) (sc : Sc) : Sx → Stmt → Bool
  | .set g e, s => (match s with
    | .Assign [tg] v _ => asgOk sc tg v && chkG sc g tg && chkE G sc e v
    | _ => false)
  | .own i e, s => (match s with
    | .Assign [.Name x p] v _ => asgOk sc (.Name x p) v && chkG sc (.nm i) (.Name x p) && chkE G sc e v
    | _ => false)
  | .ret e, s => (match s with
    | .Return (some v) _ => chkE G sc e v
    | _ => false)
  | .retn, s => (match s with
    | .Return none _ => true
    | _ => false)
  | .retv i, s => (match s with
    | .Return (some (.Name x _)) _ => chkVar sc i x
    | _ => false)
  | .ifs t a b, s => (match s with
    | .If c x y _ => chkT G sc t c && chkSs G sc a x && chkSs G sc b y
    | _ => false)
  | .fors g it body, s => (match s with
    | .For tg iter b [] _ => !isSetE iter && chkG sc g tg && chkI G sc it iter && chkSs G sc body b
    | _ => false)
  | .whl t body, s => (match s with
    | .While c b [] _ => chkT G sc t c && chkSs G sc body b
    | _ => false)
  | .app i e, s => (match s with
    | .Expr (.Call (.Attribute (.Name x _) m ap) [v] [] cp) _ => (ap.endLine == cp.line) && decide (m = ("append" : Str)) && chkVar sc i x && !isStar v && chkE G sc e v
    | _ => false)
  | .pop g i, s => (match s with
    | .Assign [tg] (.Call (.Attribute (.Name x _) m ap) [] [] cp) _ => (ap.endLine == cp.line) && decide (m = ("pop" : Str)) && chkVar sc i x && !isStar tg && chkG sc g tg
    | _ => false)
  | .seti i k e, s => (match s with
    | .Assign [.Subscript (.Name x _) k' _] v _ => chkVar sc i x && !isComp v && !isSlice k' && chkE G sc k k' && chkE G sc e v
    | _ => false)
  | .frz _, _ => false
  | .aug i op e, s => (match s with
    | .AugAssign (.Name x _) o v _ => decide (op = o) && (decide (op = .Add) || decide (op = .Sub)) && chkVar sc i x && chkG sc (.nm i) (.Name x ⟨0, 0, 0, 0⟩) && chkE G sc e v
    | _ => false)
  | .pass, s => (match s with
    | .Pass _ => true
    | _ => false)
  | .brk, s => (match s with
    | .Break _ => true
    | _ => false)
  | .cont, s => (match s with
    | .Continue _ => true
    | _ => false)
def chkSs (G : Gi) (sc : Sc) : List Sx → List Stmt → Bool
  | [], [] => true
  | [], _ :: _ => false
  | .frz _ :: cs, ss => chkSs G sc cs ss
  | c :: cs, [] => false
  | c :: cs, s :: ss => chkS G sc c s && chkSs G sc cs ss
end

/-! ### the readings -/
section
variable (K : PySem.W.Frag) (mg : Str → Option Value) (E : XK)
/-- what a def gives back -/
def RetOk (S0 P0 S' H' : Hp) (v : V) (d : D) (fl : Bool) : Prop :=
  Same S' H' ∧ Same P0 H' ∧ Same S0 S' ∧ (∀ a, S' a ≠ none → S0 a ≠ none ∨ P0 a = none) ∧ ∃ as, DOwn K S' H' v d as ∧ as.Nodup ∧ (∀ a ∈ as, P0 a = none ∧ S' a = none) ∧ FlOk fl d as
def Fin_ (S0 P0 S : Hp) (D : Ends) (p : Ctl × En) : Prop := match p.1 with
  | .nx => ∀ fp σ S' H', Ok K S0 P0 fp p.2 σ S' H' → Same S S' → D.nx σ H'
  | .bk => ∀ fp σ S' H', Ok K S0 P0 fp p.2 σ S' H' → Same S S' → D.bk σ H'
  | .ct => ∀ fp σ S' H', Ok K S0 P0 fp p.2 σ S' H' → Same S S' → D.ct σ H'
  | .rt d fl => ∀ v S' H', RetOk K S0 P0 S' H' v d fl → D.rt v H'
def TS_ (f : En → Out (Ctl × En)) : TS := fun D σ H => ∃ S0 P0 fp Γ S, Ok K S0 P0 fp Γ σ S H ∧ Want K mg E S0 P0 (f Γ) (Fin_ K S0 P0 S D)
end
section
variable {G : Gi} {call : Str → List D → R} {CX : CXT} {E : XK} {X : Cx} {sc : Sc}
theorem Fin_.mono {K : PySem.W.Frag} {S0 P0 S S' : Hp} {D : Ends} {p : Ctl × En} (h : Fin_ K S0 P0 S D p) (m : Same S S') : Fin_ K S0 P0 S' D p := by
  obtain ⟨c, Γ⟩ := p
  cases c with
  | nx => exact fun fp σ S2 H2 ok s => h fp σ S2 H2 ok (m.trans s)
  | bk => exact fun fp σ S2 H2 ok s => h fp σ S2 H2 ok (m.trans s)
  | ct => exact fun fp σ S2 H2 ok s => h fp σ S2 H2 ok (m.trans s)
  | rt d fl => exact h
theorem Ok.ret {K : PySem.W.Frag} {S0 P0 S H : Hp} {fp : Nat → List Addr} {Γ : En} {σ : L2.St} (ok : Ok K S0 P0 fp Γ σ S H) {S' H' : Hp} (g : Grow S H S' H') {v : V} {d : D} {fl : Bool} (vo : VOk K H S' H' v d fl) : RetOk K S0 P0 S' H' v d fl := by
  have k := ok.grow g
  obtain ⟨as, o, n, z, f⟩ := vo
  exact ⟨k.sub, k.base, k.s0, k.st, as, o, n, fun a ha => ⟨Same.none ok.base (z a ha).1, (z a ha).2⟩, f⟩
/-- a slot takes an owned value -/
theorem Ok.putO {K : PySem.W.Frag} {S0 P0 S H S' H' : Hp} {fp : Nat → List Addr} {Γ : En} {σ : L2.St} (ok : Ok K S0 P0 fp Γ σ S H) (g : Grow S H S' H') {i : Nat} {v : V} {d : D} {fl : Bool} {as : List Addr} (o : DOwn K S' H' v d as) (n : as.Nodup)
    (z : ∀ a ∈ as, H a = none ∧ S' a = none) (f : FlOk fl d as) : Ok K S0 P0 (fun j => if j = i then as else fp j) (Γ.set i (some (d, fl))) (σ.set i (some v)) S' H' := by
  have k := ok.grow g
  refine ⟨k.sub, k.base, k.s0, k.st, by rw [List.length_set, List.length_set]; exact k.len, fun j e fl' h => ?_, fun j => ?_, fun j a ha => ?_, fun p q hpq a ha hb => ?_⟩
  · by_cases hj : i = j
    · subst hj
      have hl : i < Γ.length := by
        have q := (List.getElem?_eq_some_iff.mp h).1
        rwa [List.length_set] at q
      rw [List.getElem?_set_self hl] at h
      cases h
      rw [k.len] at hl
      rw [if_pos rfl]
      exact ⟨v, List.getElem?_set_self hl, o, f⟩
    · rw [List.getElem?_set_ne hj] at h ⊢
      rw [if_neg (Ne.symm hj)]
      exact k.val j e fl' h
  · by_cases hj : j = i
    · rw [if_pos hj]; exact n
    · rw [if_neg hj]; exact k.nd j
  · by_cases hj : j = i
    · rw [if_pos hj] at ha
      refine ⟨Same.none ok.base (z a ha).1, (z a ha).2, ?_⟩
      obtain ⟨xs, q⟩ := o.there a ha
      rw [q]; exact fun z => nomatch z
    · rw [if_neg hj] at ha; exact k.frs j a ha
  · by_cases h1 : p = i
    · by_cases h2 : q = i
      · exact hpq (h1.trans h2.symm)
      · rw [if_pos h1] at ha
        rw [if_neg h2] at hb
        exact (ok.frs q a hb).2.2 (z a ha).1
    · rw [if_neg h1] at ha
      by_cases h2 : q = i
      · rw [if_pos h2] at hb
        exact (ok.frs p a ha).2.2 (z a hb).1
      · rw [if_neg h2] at hb
        exact k.dis p q hpq a ha hb

/-! ### blocks, returns, ifs -/
theorem t_nil : PSs X [] (TS_ X.K X.mg E fun Γ => .ok (.nx, Γ)) := pss_nil.imp fun D σ H ⟨S0, P0, fp, Γ, S, ok, w⟩ => w fp σ S H ok (Same.refl _)
theorem t_cons {s : Stmt} {ss : List Stmt} {f g : En → Out (Ctl × En)} (h1 : PS X s (TS_ X.K X.mg E f)) (h2 : PSs X ss (TS_ X.K X.mg E g)) :
    PSs X (s :: ss) (TS_ X.K X.mg E fun Γ => f Γ >>= fun p => match p with
      | (.nx, Γ') => g Γ'
      | q => .ok q) := by
  refine (pss_cons h1 h2).imp fun D σ H ⟨S0, P0, fp, Γ, S, ok, w⟩ => ?_
  refine ⟨S0, P0, fp, Γ, S, ok, (Want.bind.mp w).mono fun p w => ?_⟩
  obtain ⟨c, Γ'⟩ := p
  cases c with
  | nx => exact fun fp' σ' S' H' ok' m => ⟨S0, P0, fp', Γ', S', ok', w.mono fun p q => q.mono m⟩
  | bk => exact w
  | ct => exact w
  | rt d fl => exact w
theorem t_frz {ss : List Stmt} {i : Nat} {g : En → Out (Ctl × En)} (h2 : PSs X ss (TS_ X.K X.mg E g)) :
    PSs X ss (TS_ X.K X.mg E fun Γ => (look Γ i >>= fun x => Out.ok (Ctl.nx, Γ.set i (some (x.1, false)))) >>= fun p => match p with
      | (.nx, Γ') => g Γ'
      | q => .ok q) := by
  refine h2.imp fun D σ H ⟨S0, P0, fp, Γ, S, ok, w⟩ => ?_
  have w := Want.bind.mp (Want.bind.mp w)
  cases e : look Γ i with
  | bad => rw [e] at w; exact w.elim
  | exc x => unfold look at e; split at e <;> cases e
  | ok p =>
    rw [e] at w
    unfold look at e
    split at e
    · rename_i p' hp
      cases e
      have w : Want X.K X.mg E S0 P0 (g (Γ.set i (some (p.1, false)))) (Fin_ X.K S0 P0 S D) := w
      obtain ⟨v, hv, o, f⟩ := ok.val i p.1 p.2 hp
      have hl := (List.getElem?_eq_some_iff.mp hp).1
      have m := frz_mono (S := S) (H := H) ok.sub (fp i)
      refine ⟨S0, P0, fun j => if j = i then [] else fp j, Γ.set i (some (p.1, false)), frz S H (fp i), ?_, w.mono fun p q => q.mono m⟩
      refine ⟨frz_sub ok.sub _, ok.base, ok.s0.trans m, fun a ha => ?_, by rw [List.length_set]; exact ok.len, fun j e fl h => ?_, fun j => ?_, fun j a ha => ?_, fun p q hpq a ha hb => ?_⟩
      · by_cases hm : a ∈ fp i
        · exact .inr (ok.frs i a hm).1
        · unfold frz at ha; rw [if_neg hm] at ha; exact ok.st a ha
      · by_cases hj : i = j
        · subst hj
          rw [List.getElem?_set_self hl] at h
          cases h
          rw [if_pos rfl]
          exact ⟨v, hv, .rep (o.freeze ok.sub), (fun _ => rfl), fun z => nomatch z⟩
        · rw [List.getElem?_set_ne hj] at h
          rw [if_neg (Ne.symm hj)]
          obtain ⟨v, e1, o, f⟩ := ok.val j e fl h
          exact ⟨v, e1, o.mono m fun a _ => rfl, f⟩
      · by_cases hj : j = i
        · rw [if_pos hj]; exact .nil
        · rw [if_neg hj]; exact ok.nd j
      · by_cases hj : j = i
        · rw [if_pos hj] at ha; cases ha
        · rw [if_neg hj] at ha
          obtain ⟨h1, h2, h3⟩ := ok.frs j a ha
          refine ⟨h1, ?_, h3⟩
          unfold frz
          rw [if_neg fun q => ok.dis j i hj a ha q]
          exact h2
      · by_cases h1 : p = i
        · rw [if_pos h1] at ha; cases ha
        · rw [if_neg h1] at ha
          by_cases h2 : q = i
          · rw [if_pos h2] at hb; cases hb
          · rw [if_neg h2] at hb; exact ok.dis p q hpq a ha hb
    · cases e
theorem t_ret {v : Expr} {f : En → R} {pos : Pos} (h : PE X v (TE_ X.K X.mg E f)) : PS X (.Return (some v) pos) (TS_ X.K X.mg E fun Γ => f Γ >>= fun x => .ok (.rt x.1 x.2, Γ)) := by
  refine (ps_ret h).imp fun D σ H ⟨S0, P0, fp, Γ, S, ok, w⟩ => ?_
  exact ⟨S0, P0, fp, Γ, S, ok, (Want.bind.mp w).mono fun x w v S' H' g vo => w v S' H' (ok.ret g vo)⟩
theorem t_retn {pos : Pos} : PS X (.Return none pos) (TS_ X.K X.mg E fun Γ => .ok (.rt .non false, Γ)) := by
  refine ps_retN.imp fun D σ H ⟨S0, P0, fp, Γ, S, ok, w⟩ => ?_
  exact w .non S H (ok.ret (Grow.refl ok.sub) (VOk.of .non))
theorem t_retv (M : Mt G call CX E X sc) {i : Nat} {x : Str} {p pos : Pos} (h : chkVar sc i x = true) : PS X (.Return (some (.Name x p)) pos) (TS_ X.K X.mg E fun Γ => look Γ i >>= fun x => .ok (.rt x.1 x.2, Γ)) := by
  obtain ⟨h1, h2, h3, h4⟩ := M.vis h
  refine (ps_ret (pe_var h1 h2 h3 h4)).imp fun D σ H ⟨S0, P0, fp, Γ, S, ok, w⟩ => ?_
  have w := Want.bind.mp w
  cases e : look Γ i with
  | bad => rw [e] at w; exact w.elim
  | exc x => unfold look at e; split at e <;> cases e
  | ok q =>
    rw [e] at w
    unfold look at e
    split at e
    · rename_i p' hp
      cases e
      obtain ⟨v, hv, o, f⟩ := ok.val i q.1 q.2 hp
      exact ⟨v, hv, w v S H ⟨ok.sub, ok.base, ok.s0, ok.st, fp i, o, ok.nd i, fun a ha => ⟨(ok.frs i a ha).1, (ok.frs i a ha).2.1⟩, f⟩⟩
    · cases e
theorem t_if {c : Expr} {a b : List Stmt} {t : En → Out Bool} {f g : En → Out (Ctl × En)} {pos : Pos} (hc : PT X c (TT_ X.K X.mg E t)) (ha : PSs X a (TS_ X.K X.mg E f)) (hb : PSs X b (TS_ X.K X.mg E g)) :
    PS X (.If c a b pos) (TS_ X.K X.mg E fun Γ => t Γ >>= fun c => if c then f Γ else g Γ) := by
  refine (ps_if hc ha hb).imp fun D σ H ⟨S0, P0, fp, Γ, S, ok, w⟩ => ?_
  refine ⟨S0, P0, fp, Γ, S, ok, (Want.bind.mp w).mono fun c w S' H' g => ?_⟩
  cases c with
  | true => exact iteT ⟨S0, P0, fp, Γ, S', ok.grow g, w.mono fun p q => q.mono g.mono⟩
  | false => exact iteF ⟨S0, P0, fp, Γ, S', ok.grow g, w.mono fun p q => q.mono g.mono⟩
theorem t_pass {pos : Pos} : PS X (.Pass pos) (TS_ X.K X.mg E fun Γ => .ok (.nx, Γ)) := ps_pass.imp fun D σ H ⟨S0, P0, fp, Γ, S, ok, w⟩ => w fp σ S H ok (Same.refl _)
theorem t_brk {pos : Pos} : PS X (.Break pos) (TS_ X.K X.mg E fun Γ => .ok (.bk, Γ)) := ps_break.imp fun D σ H ⟨S0, P0, fp, Γ, S, ok, w⟩ => w fp σ S H ok (Same.refl _)
theorem t_cont {pos : Pos} : PS X (.Continue pos) (TS_ X.K X.mg E fun Γ => .ok (.ct, Γ)) := ps_continue.imp fun D σ H ⟨S0, P0, fp, Γ, S, ok, w⟩ => w fp σ S H ok (Same.refl _)

/-! ### assignments -/
theorem swapsSole_of {e : Expr} (h : isComp e = false) (t : Expr) (l : Nat) (env : Env) : swapsWithSole [t] e l env = pure false := swaps_of h _ _ _
theorem swapped_of {tg v : Expr} (h : isNameE tg = true ∨ isTupE v = false) (env : Env) : swappedStores [tg] v env = pure none := by
  rcases h with h | h
  · cases tg <;> first | rfl | cases h
  · cases v <;> first | (cases tg <;> rfl) | cases h
theorem t_set {tg v : Expr} {g : Gx} {f : En → R} {pos : Pos} (hg : PG X tg (G_ X.K g)) (hv : PE X v (TE_ X.K X.mg E f)) (h1 : isStar tg = false) (h2 : isComp v = false) (h3 : isNameE tg = true ∨ isTupE v = false) :
    PS X (.Assign [tg] v pos) (TS_ X.K X.mg E fun Γ => f Γ >>= fun x => up (asg g x.1 Γ) >>= fun Γ' => .ok (.nx, Γ')) := by
  refine (ps_asg (hv.imp fun _ _ _ => TV_.of) hg (swaps_of h2 _ _ _) (swapped_of h3 _) (by rw [asgE_of h1]; rfl)).imp fun D σ H ⟨S0, P0, fp, Γ, S, ok, w⟩ => ?_
  refine ⟨S0, P0, fp, Γ, S, ok, (Want.bind.mp w).mono fun x w v S1 H1 g1 r => ?_⟩
  obtain ⟨Γ', e, k⟩ := up_want.mp (Want.bind.mp w)
  exact ⟨S0, P0, fp, Γ, S1, x.1, Γ', ok.grow g1, r, e, fun σ' fp' ok' _ => k fp' σ' S1 H1 ok' g1.mono⟩
/-- what is asked where a value comes to a name's slot -/
theorem own_read {f : En → R} {i : Nat} {D : Ends} {σ : L2.St} {H : Hp} (h : TS_ X.K X.mg E (fun Γ => f Γ >>= fun x => up (put Γ i x.1 x.2) >>= fun Γ' => .ok (.nx, Γ')) D σ H) : TE_ X.K X.mg E f σ H fun x H1 => gName i x σ H1 D.nx := by
  obtain ⟨S0, P0, fp, Γ, S, ok, w⟩ := h
  refine ⟨S0, P0, fp, Γ, S, ok, (Want.bind.mp w).mono fun x w v S1 H1 g1 vo => ?_⟩
  obtain ⟨Γ', e, k⟩ := up_want.mp (Want.bind.mp w)
  unfold put at e
  split at e
  · cases e
    obtain ⟨as, o, n, z, f⟩ := vo
    exact k _ _ S1 H1 (ok.putO g1 o n z f) g1.mono
  · cases e
theorem own_read' {f : En → R} {i : Nat} {D : Ends} {σ : L2.St} {H : Hp} (h : TS_ X.K X.mg E (fun Γ => f Γ >>= fun x => up (asg (.nm i) x.1 Γ) >>= fun Γ' => .ok (.nx, Γ')) D σ H) : TE_ X.K X.mg E f σ H fun x H1 => gName i x σ H1 D.nx := by
  refine TV_.of ?_
  obtain ⟨S0, P0, fp, Γ, S, ok, w⟩ := h
  refine ⟨S0, P0, fp, Γ, S, ok, (Want.bind.mp w).mono fun x w v S1 H1 g1 r => ?_⟩
  obtain ⟨Γ', e, k⟩ := up_want.mp (Want.bind.mp w)
  unfold asg put at e
  split at e
  · cases e
    exact k _ _ S1 H1 ((ok.grow g1).put r) g1.mono
  · cases e
end
end Cr
end

section
set_option maxHeartbeats 4000000
/-! Loops, changes of owned lists. -/
namespace Cr
open PySem PySem.Spec PyProof.Rows L2
section
variable {G : Gi} {call : Str → List D → R} {CX : CXT} {E : XK} {X : Cx} {sc : Sc}
theorem forOp_cons {as : D → En → Option En} {body : En → Out (Ctl × En)} {d : D} {ds : List D} {Γ : En} : forOp as body (d :: ds) Γ = (up (as d Γ) >>= fun Γ1 => body Γ1 >>= fun p => match p with
    | (.nx, Γ2) => forOp as body ds Γ2
    | (.ct, Γ2) => forOp as body ds Γ2
    | (.bk, Γ2) => .ok (.nx, Γ2)
    | (.rt d fl, Γ2) => .ok (.rt d fl, Γ2)) := rfl
theorem t_for (M : Mt G call CX E X sc) {tg iter : Expr} {body : List Stmt} {g : Gx} {fi : En → Out (List D)} {fb : En → Out (Ctl × En)} {pos : Pos} (hi : PI X tg iter (TI_ X.K X.mg E fi)) (hg : PG X tg (G_ X.K g)) (hb : PSs X body (TS_ X.K X.mg E fb)) (hs : isSetE iter = false) :
    PS X (.For tg iter body [] pos) (TS_ X.K X.mg E fun Γ => fi Γ >>= fun ds => forOp (asg g) fb ds Γ) := by
  refine (ps_for M.own M.calm hi hg hb fun x => folded_of hs _ x).imp fun D σ H ⟨S0, P0, fp, Γ, S, ok, w⟩ => ?_
  refine ⟨S0, P0, fp, Γ, S, ok, (Want.bind.mp w).mono fun ds w J S1 H1 g1 en => ?_⟩
  obtain ⟨vs, rv, kx⟩ := en
  have hlen := rv.length
  let N : Nat → L2.St → Hp → Prop := fun i σ' H' => ∃ fp' Γ' S', Ok X.K S0 P0 fp' Γ' σ' S' H' ∧ Same S1 S' ∧ Want X.K X.mg E S0 P0 (forOp (asg g) fb (ds.drop i) Γ') (Fin_ X.K S0 P0 S D)
  refine ⟨fun i m σ' H' => m = ds.length - i ∧ i ≤ ds.length ∧ N i σ' H', ⟨ds.length, by simp, Nat.zero_le _, fp, Γ, S1, ok.grow g1, Same.refl _, w⟩, ?_⟩
  rintro i m σ' H' ⟨rfl, hi, fp', Γ', S', ok', m1, w'⟩
  obtain ⟨kg, ks⟩ := kx H' (m1.trans ok'.sub)
  by_cases hlt : i < ds.length
  · refine .inr ?_
    obtain ⟨x, hx, rx⟩ := rv.get (List.getElem?_eq_getElem hlt)
    obtain ⟨go, yl⟩ := kg i x hx
    rw [List.drop_eq_getElem_cons hlt, forOp_cons] at w'
    obtain ⟨Γ1, e1, w'⟩ := up_want.mp (Want.bind.mp w')
    refine ⟨go, N (i + 1), fun σ2 H2 n => ⟨ds.length - (i + 1), by omega, rfl, hlt, n⟩, fun y H'' hy => ?_⟩
    obtain ⟨rfl, rfl⟩ := yl y H'' hy
    refine ⟨S0, P0, fp', Γ', S', _, Γ1, ok', rx.mono m1, e1, fun σ2 fp2 ok2 _ => ?_⟩
    refine ⟨S0, P0, fp2, Γ1, S', ok2, (Want.bind.mp w').mono fun p w2 => ?_⟩
    obtain ⟨c, Γ2⟩ := p
    cases c with
    | nx => exact fun fp3 σ3 S3 H3 ok3 m3 => ⟨fp3, Γ2, S3, ok3, m1.trans m3, w2⟩
    | ct => exact fun fp3 σ3 S3 H3 ok3 m3 => ⟨fp3, Γ2, S3, ok3, m1.trans m3, w2⟩
    | bk => exact fun fp3 σ3 S3 H3 ok3 m3 => w2 fp3 σ3 S3 H3 ok3 (g1.mono.trans (m1.trans m3))
    | rt d fl => exact w2
  · have e : i = ds.length := by omega
    subst e
    rw [List.drop_length] at w'
    exact .inl ⟨ks _ (by rw [hlen]; exact Nat.le_refl _), w' fp' σ' S' H' ok' (g1.mono.trans m1)⟩
theorem whlOp_some {t : En → Out Bool} {body : En → Out (Ctl × En)} {Γ : En} : whlOp t body Γ = .bad ∨ ∃ n, whlN t body n Γ = some (whlOp t body Γ) := by
  unfold whlOp
  split
  · rename_i h
    exact .inr ⟨_, Classical.choose_spec (Classical.choose_spec h)⟩
  · exact .inl rfl
theorem t_whl (M : Mt G call CX E X sc) {c : Expr} {body : List Stmt} {t : En → Out Bool} {fb : En → Out (Ctl × En)} {pos : Pos} (hc : PT X c (TT_ X.K X.mg E t)) (hb : PSs X body (TS_ X.K X.mg E fb)) :
    PS X (.While c body [] pos) (TS_ X.K X.mg E fun Γ => whlOp t fb Γ) := by
  refine (ps_while M.own hc hb).imp fun D σ H ⟨S0, P0, fp, Γ, S, ok, w⟩ => ?_
  rcases whlOp_some (t := t) (body := fb) (Γ := Γ) with e | ⟨n, e⟩
  · have w : Want X.K X.mg E S0 P0 (whlOp t fb Γ) (Fin_ X.K S0 P0 S D) := w
    rw [e] at w; exact w.elim
  · let W : Nat → L2.St → Hp → Prop := fun n σ' H' => ∃ fp' Γ' S' r, Ok X.K S0 P0 fp' Γ' σ' S' H' ∧ Same S S' ∧ whlN t fb n Γ' = some r ∧ Want X.K X.mg E S0 P0 r (Fin_ X.K S0 P0 S D)
    refine ⟨W, ⟨n, fp, Γ, S, _, ok, Same.refl _, e, w⟩, ?_⟩
    rintro m σ' H' ⟨fp', Γ', S', r, ok', m1, e, w⟩
    cases m with
    | zero => cases e
    | succ m =>
      unfold whlN at e
      refine ⟨S0, P0, fp', Γ', S', ok', ?_⟩
      cases et : t Γ' with
      | bad => rw [et] at e; cases e; exact w
      | exc x => rw [et] at e; cases e; exact w
      | ok b =>
        rw [et] at e
        intro S2 H2 g2
        cases b with
        | false =>
          cases e
          exact iteF (w fp' σ' S2 H2 (ok'.grow g2) (m1.trans g2.mono))
        | true =>
          refine iteT ⟨W m, fun σ3 H3 w3 => ⟨m, Nat.lt_succ_self m, w3⟩, S0, P0, fp', Γ', S2, ok'.grow g2, ?_⟩
          have e : (match fb Γ' with
            | .bad => some .bad
            | .exc x => some (.exc x)
            | .ok (.nx, Γ2) => whlN t fb m Γ2
            | .ok (.ct, Γ2) => whlN t fb m Γ2
            | .ok (.bk, Γ2) => some (.ok (.nx, Γ2))
            | .ok (.rt d fl, Γ2) => some (.ok (.rt d fl, Γ2))) = some r := e
          cases eb : fb Γ' with
          | bad => rw [eb] at e; cases e; exact w
          | exc x => rw [eb] at e; cases e; exact w
          | ok p =>
            rw [eb] at e
            obtain ⟨c, Γ2⟩ := p
            cases c with
            | nx => exact fun fp3 σ3 S3 H3 ok3 m3 => ⟨fp3, Γ2, S3, r, ok3, (m1.trans g2.mono).trans m3, e, w⟩
            | ct => exact fun fp3 σ3 S3 H3 ok3 m3 => ⟨fp3, Γ2, S3, r, ok3, (m1.trans g2.mono).trans m3, e, w⟩
            | bk => cases e; exact fun fp3 σ3 S3 H3 ok3 m3 => w fp3 σ3 S3 H3 ok3 ((m1.trans g2.mono).trans m3)
            | rt d fl => cases e; exact w
/-- an owned list at a slot -/
theorem Ok.own {K : PySem.W.Frag} {S0 P0 S H : Hp} {fp : Nat → List Addr} {Γ : En} {σ : L2.St} (ok : Ok K S0 P0 fp Γ σ S H) {i : Nat} {ds : List D} (h : ownL (look Γ i) = .ok ds) :
    ∃ a vs as, i < Γ.length ∧ σ[i]? = some (some (.ref a)) ∧ H a = some (.lst vs) ∧ DOwnAll K S H vs ds as ∧ fp i = a :: as := by
  unfold ownL look at h
  cases e : Γ[i]? with
  | none => rw [e] at h; cases h
  | some o =>
    rw [e] at h
    cases o with
    | none => cases h
    | some p =>
      obtain ⟨d, fl⟩ := p
      have hl := (List.getElem?_eq_some_iff.mp e).1
      cases d with
      | lst xs =>
        cases fl with
        | false => cases h
        | true =>
          cases h
          obtain ⟨v, hv, o, f⟩ := ok.val i _ _ e
          generalize hf : fp i = L at o f
          cases o with
          | rep r => exact ((f.2 rfl).elim (fun q => nomatch q) fun q => q rfl).elim
          | lst h r => exact ⟨_, _, _, hl, hv, h, r, rfl⟩
      | _ => cases h
theorem ownL_exc {Γ : En} {i : Nat} {x : Xc} : ownL (look Γ i) ≠ .exc x := by
  unfold ownL look
  cases Γ[i]? with
  | none => intro h; cases h
  | some o =>
    cases o with
    | none => intro h; cases h
    | some p =>
      obtain ⟨d, fl⟩ := p
      cases d <;> cases fl <;> (intro h; cases h)
theorem ownL_want {K : PySem.W.Frag} {mg : Str → Option Value} {E : XK} {S0 P0 : Hp} {Γ : En} {i : Nat} {k : List D → Prop} (h : Want K mg E S0 P0 (ownL (look Γ i)) k) : ∃ ds, ownL (look Γ i) = .ok ds ∧ k ds := by
  cases e : ownL (look Γ i) with
  | ok ds => rw [e] at h; exact ⟨ds, rfl, h⟩
  | exc x => exact (ownL_exc e).elim
  | bad => rw [e] at h; exact h.elim
/-- the owned list of a slot is changed: new items, new owned parts -/
theorem Ok.chg {K : PySem.W.Frag} {S0 P0 S H : Hp} {fp : Nat → List Addr} {Γ : En} {σ : L2.St} (ok : Ok K S0 P0 fp Γ σ S H) {i : Nat} {a : Addr} {as bs : List Addr} {ws : List V} {es : List D} (hl : i < Γ.length) (hv : σ[i]? = some (some (.ref a))) (hf : fp i = a :: as)
    (o : DOwnAll K S H ws es bs) (nd : (a :: bs).Nodup) (fr : ∀ b ∈ bs, P0 b = none ∧ S b = none) (di : ∀ j, j ≠ i → ∀ b ∈ bs, b ∉ fp j) :
    Ok K S0 P0 (fun j => if j = i then a :: bs else fp j) (Γ.set i (some (.lst es, true))) σ S (upd H a (.lst ws)) := by
  have ha : a ∈ fp i := by rw [hf]; exact List.mem_cons_self
  obtain ⟨a1, a2, a3⟩ := ok.frs i a ha
  have nb : ∀ b ∈ bs, b ≠ a := fun b hb e => by subst e; exact (List.nodup_cons.mp nd).1 hb
  refine ⟨fun b o q => ?_, fun b o q => ?_, ok.s0, ok.st, by rw [List.length_set]; exact ok.len, fun j e fl h => ?_, fun j => ?_, fun j b hb => ?_, fun p q hpq b hp hq => ?_⟩
  · rw [upd_ne (fun e => by rw [e, a2] at q; cases q)]; exact ok.sub _ _ q
  · rw [upd_ne (fun e => by rw [e, a1] at q; cases q)]; exact ok.base _ _ q
  · by_cases hj : i = j
    · subst hj
      rw [List.getElem?_set_self hl] at h
      cases h
      rw [if_pos rfl]
      exact ⟨_, hv, .lst upd_same (o.mono (Same.refl _) fun b hb => upd_ne (nb b hb)), (fun z => nomatch z), fun _ => .inr fun z => nomatch z⟩
    · rw [List.getElem?_set_ne hj] at h
      rw [if_neg (Ne.symm hj)]
      obtain ⟨v, e1, o, f⟩ := ok.val j e fl h
      exact ⟨v, e1, o.mono (Same.refl _) fun b hb => upd_ne fun q => by
        subst q
        exact ok.dis j i (Ne.symm hj) b hb ha, f⟩
  · by_cases hj : j = i
    · rw [if_pos hj]; exact nd
    · rw [if_neg hj]; exact ok.nd j
  · by_cases hj : j = i
    · rw [if_pos hj] at hb
      rcases List.mem_cons.mp hb with e | hb
      · subst e
        exact ⟨a1, a2, by rw [upd_same]; exact fun z => nomatch z⟩
      · refine ⟨(fr b hb).1, (fr b hb).2, ?_⟩
        rw [upd_ne (nb b hb)]
        obtain ⟨xs, q⟩ := o.there b hb
        rw [q]; exact fun z => nomatch z
    · rw [if_neg hj] at hb
      obtain ⟨h1, h2, h3⟩ := ok.frs j b hb
      refine ⟨h1, h2, ?_⟩
      rw [upd_ne fun e => by subst e; exact ok.dis j i hj b hb ha]
      exact h3
  · by_cases h1 : p = i
    · by_cases h2 : q = i
      · exact hpq (h1.trans h2.symm)
      · rw [if_pos h1] at hp
        rw [if_neg h2] at hq
        rcases List.mem_cons.mp hp with e | hp
        · subst e; exact ok.dis i q (Ne.symm h2) b ha hq
        · exact di q h2 b hp hq
    · rw [if_neg h1] at hp
      by_cases h2 : q = i
      · rw [if_pos h2] at hq
        rcases List.mem_cons.mp hq with e | hq
        · subst e; exact ok.dis p i h1 b hp ha
        · exact di p h1 b hq hp
      · rw [if_neg h2] at hq
        exact ok.dis p q hpq b hp hq
theorem t_app (M : Mt G call CX E X sc) {i : Nat} {x m : Str} {v : Expr} {f : En → R} {p p2 p3 pos : Pos} (hx : chkVar sc i x = true) (hm : m = "append") (hl : (p2.endLine == p3.line) = true) (hv : PE X v (TE_ X.K X.mg E f)) (hs : isStar v = false) :
    PS X (.Expr (.Call (.Attribute (.Name x p) m p2) [v] [] p3) pos) (TS_ X.K X.mg E fun Γ => ownL (look Γ i) >>= fun ds => f Γ >>= fun x => if ds.length < sizeLine then .ok (.nx, Γ.set i (some (.lst (ds ++ [x.1]), true))) else .bad) := by
  subst hm
  obtain ⟨h1, h2, h3, h4⟩ := M.vis hx
  refine (ps_expr (pe_bm PySem.F.plainAttrs_list PySem.F.slot_list_append PySem.F.type_list_append mt_append (pe_var h1 h2 h3 h4) (pa_cons hv pa_nil (star_of hs _ _)) (hfew := by rw [star_of hs]; rfl) (hline := hl) (hs := star_of hs _ _))).imp fun D σ H ⟨S0, P0, fp, Γ, S, ok, w⟩ => ?_
  obtain ⟨ds, e, w⟩ := ownL_want (Want.bind.mp w)
  obtain ⟨a, vs, as, hlen, hv, ha, oa, hf⟩ := ok.own e
  refine ⟨_, hv, .inl ⟨rfl, _, SqL.of ha⟩, S0, P0, fp, Γ, S, ok, (Want.bind.mp w).mono fun y w u S1 H1 g1 vo => ?_⟩
  split at w
  · rename_i hz
    have ok1 := ok.grow g1
    have ha1 := g1.same _ _ ha
    obtain ⟨bs, ob, nb, zb, _⟩ := vo
    have oa1 : DOwnAll X.K S1 H1 vs ds as := oa.mono g1.mono fun b hb => by
      obtain ⟨xs, q⟩ := oa.there b hb
      rw [q, g1.same _ _ q]
    have ia : ∀ b ∈ as, b ∈ fp i := fun b hb => by rw [hf]; exact List.mem_cons_of_mem _ hb
    refine ⟨a, vs, u, rfl, rfl, ha1, by rw [oa.length]; exact hz, w _ σ S1 _ (ok1.chg hlen hv hf (oa1.append (DOwnAll.one ob)) ?_ ?_ ?_) g1.mono⟩
    · have n0 := ok.nd i
      rw [hf] at n0
      have n1 := List.nodup_cons.mp n0
      refine List.nodup_cons.mpr ⟨fun q => ?_, List.nodup_append.mpr ⟨n1.2, nb, fun b hb c hc e => ?_⟩⟩
      · rcases List.mem_append.mp q with q | q
        · exact n1.1 q
        · rw [(zb a q).1] at ha; cases ha
      · subst e
        obtain ⟨xs, q⟩ := oa.there b hb
        rw [(zb b hc).1] at q; cases q
    · intro b hb
      rcases List.mem_append.mp hb with q | q
      · exact ⟨(ok1.frs i b (ia b q)).1, (ok1.frs i b (ia b q)).2.1⟩
      · exact ⟨Same.none ok.base (zb b q).1, (zb b q).2⟩
    · intro j hj b hb
      rcases List.mem_append.mp hb with q | q
      · exact ok.dis i j (Ne.symm hj) b (ia b q)
      · exact fun z => (ok.frs j b z).2.2 (zb b q).1
  · exact w.elim
theorem DOwnAll.dropLast {K : PySem.W.Frag} {S H : Hp} : ∀ {vs : List V} {ds : List D} {as : List Addr}, DOwnAll K S H vs ds as → (∀ d, ds[ds.length - 1]? = some d → nl d = true) → DOwnAll K S H vs.dropLast ds.dropLast as
  | _, _, _, .nil, _ => .nil
  | _, [d], _, .cons h .nil, k => by
    obtain ⟨rfl, _⟩ := h.of_nl (k d rfl)
    exact .nil
  | _, d :: e :: ds, _, .cons h (.cons h2 r), k => by
    rw [List.dropLast_cons₂, List.dropLast_cons₂]
    exact .cons h (DOwnAll.dropLast (.cons h2 r) fun x q => k x (by simpa using q))
theorem t_pop (M : Mt G call CX E X sc) {i : Nat} {x m : Str} {tg : Expr} {g : Gx} {p p2 p3 pos : Pos} (hx : chkVar sc i x = true) (hm : m = "pop") (hl : (p2.endLine == p3.line) = true) (hg : PG X tg (G_ X.K g)) (hs : isStar tg = false) :
    PS X (.Assign [tg] (.Call (.Attribute (.Name x p) m p2) [] [] p3) pos) (TS_ X.K X.mg E fun Γ => ownL (look Γ i) >>= fun ds => match ds[ds.length - 1]? with
      | some d => if nl d then up (asg g d (Γ.set i (some (.lst ds.dropLast, true)))) >>= fun Γ' => .ok (.nx, Γ') else .bad
      | none => .bad) := by
  subst hm
  obtain ⟨h1, h2, h3, h4⟩ := M.vis hx
  refine (ps_asg (pe_bm0 PySem.F.plainAttrs_list PySem.F.slot_list_pop PySem.F.type_list_pop mt_pop (pe_var h1 h2 h3 h4) (hline := hl)) hg (swapsSole_of rfl _ _ _) (swapped_of (.inr rfl) _) (by rw [asgE_of hs]; rfl)).imp fun D σ H ⟨S0, P0, fp, Γ, S, ok, w⟩ => ?_
  obtain ⟨ds, e, w⟩ := ownL_want (Want.bind.mp w)
  obtain ⟨a, vs, as, hlen, hv, ha, oa, hf⟩ := ok.own e
  split at w
  · rename_i d hd
    split at w
    · rename_i hn
      obtain ⟨Γ', e2, k⟩ := up_want.mp (Want.bind.mp w)
      obtain ⟨v, hv2, bs, ob⟩ := oa.get _ d hd
      refine ⟨_, hv, .inl ⟨rfl, _, SqL.of ha⟩, a, vs, v, rfl, rfl, ha, by rw [oa.length]; exact hv2, ?_⟩
      have n0 := ok.nd i
      rw [hf] at n0
      have ia : ∀ b ∈ as, b ∈ fp i := fun b hb => by rw [hf]; exact List.mem_cons_of_mem _ hb
      have ok2 := ok.chg hlen hv hf (oa.dropLast fun x q => by rw [hd] at q; cases q; exact hn) n0 (fun b hb => ⟨(ok.frs i b (ia b hb)).1, (ok.frs i b (ia b hb)).2.1⟩) fun j hj b hb => ok.dis i j (Ne.symm hj) b (ia b hb)
      exact ⟨S0, P0, _, _, S, d, Γ', ok2, (ob.of_nl hn).2, e2, fun σ' fp' ok' _ => k fp' σ' S _ ok' (Same.refl _)⟩
    · exact w.elim
  · exact w.elim
theorem asgSub_of {o k : Expr} {pos : Pos} (h : isSlice k = false) (env : Env) (v : Value) : assign (.Subscript o k pos) env v = (do
      let ov ← holding [v] (eval o env)
      let iv ← holding [v, ov] (eval k env)
      standAt pos
      holding [v, ov, iv] (setItem ov iv v)
      release [v, ov, iv] []) := by
  cases k <;> first | rfl | cases h
theorem t_seti (M : Mt G call CX E X sc) {i : Nat} {x : Str} {v k : Expr} {f h : En → R} {p p2 pos : Pos} (hx : chkVar sc i x = true) (hk : isSlice k = false) (hv : PE X v (TE_ X.K X.mg E f)) (hkk : PE X k (TE_ X.K X.mg E h)) (hc : isComp v = false) :
    PS X (.Assign [.Subscript (.Name x p) k p2] v pos) (TS_ X.K X.mg E fun Γ => f Γ >>= fun x => ownL (look Γ i) >>= fun ds => h Γ >>= fun y => match y.1 with
      | .int j => match ixN ds.length j with
        | some n => if ds.all nl then .ok (.nx, Γ.set i (some (.lst (ds.set n x.1), true))) else .bad
        | none => .bad
      | _ => .bad) := by
  obtain ⟨h1, h2, h3, h4⟩ := M.vis hx
  refine (ps_asg (hv.imp fun _ _ _ => TV_.of) (pg_sub (pe_var h1 h2 h3 h4) hkk set_list (asgSub_of hk X.env)) (swapsSole_of hc _ _ _) (by cases v <;> rfl) rfl).imp fun D σ H ⟨S0, P0, fp, Γ, S, ok, w⟩ => ?_
  refine ⟨S0, P0, fp, Γ, S, ok, (Want.bind.mp w).mono fun y w u S1 H1 g1 r1 => ?_⟩
  have ok1 := ok.grow g1
  obtain ⟨ds, e, w⟩ := ownL_want (Want.bind.mp w)
  obtain ⟨a, vs, as, hlen, hv, ha, oa, hf⟩ := ok1.own e
  refine ⟨_, hv, S0, P0, fp, Γ, S1, ok1, (Want.bind.mp w).mono fun z w z' S2 H2 g2 vo => ?_⟩
  have ok2 := ok1.grow g2
  obtain ⟨d, fl⟩ := z
  cases d with
  | int j =>
    have w : Want X.K X.mg E S0 P0 (match ixN ds.length j with
        | some n => if ds.all nl then .ok (.nx, Γ.set i (some (.lst (ds.set n y.1), true))) else .bad
        | none => .bad) (Fin_ X.K S0 P0 S D) := w
    cases int_inv vo.b
    split at w
    · rename_i n hn
      split at w
      · rename_i hall
        obtain ⟨rfl, rv⟩ := oa.of_nl hall
        have n0 := ok.nd i
        rw [hf] at n0
        refine ⟨a, vs, j, n, rfl, rfl, g2.same _ _ ha, by rw [oa.length]; exact hn, ?_⟩
        exact w _ σ S2 _ (ok2.chg hlen hv hf ((RepAll.set (r1.mono g2.mono) n (rv.mono g2.mono)).own) n0 (fun b hb => nomatch hb) fun j hj b hb => nomatch hb) (g1.mono.trans g2.mono)
      · exact w.elim
    · exact w.elim
  | _ => exact w.elim
theorem t_aug {op : Operator} {h : Int → Int → Int} (hop : PIp X op (ipI h)) (hd : ∀ x y z, augD op x y = some z → ∃ i j, x = .int i ∧ y = .int j ∧ z = .int (h i j)) (M : Mt G call CX E X sc) {i : Nat} {x : Str} {v : Expr} {f : En → R} {p pos : Pos} (hx : chkVar sc i x = true) (hx2 : (decide (sc.N[i]? = some x) && locB sc x) = true)
    (hv : PE X v (TE_ X.K X.mg E f)) : PS X (.AugAssign (.Name x p) op v pos) (TS_ X.K X.mg E fun Γ => lookV Γ i >>= fun x => f Γ >>= fun y => up (augD op x.1 y.1) >>= fun z => up (put Γ i z false) >>= fun Γ' => .ok (.nx, Γ')) := by
  obtain ⟨h1, h2, h3⟩ := M.loc hx2
  refine (ps_aug M.nd h1 h2 hv hop h3).imp fun D σ H ⟨S0, P0, fp, Γ, S, ok, w⟩ => ?_
  have w := Want.bind.mp w
  cases e : lookV Γ i with
  | bad => rw [e] at w; exact w.elim
  | exc z => unfold lookV at e; split at e <;> cases e
  | ok q =>
    rw [e] at w
    obtain ⟨u, hu, ru⟩ := ok.var (d := q.1) (fl := q.2) e
    refine ⟨u, hu, S0, P0, fp, Γ, S, ok, (Want.bind.mp (show Want X.K X.mg E S0 P0 (f Γ >>= fun y => up (augD op q.1 y.1) >>= fun z => up (put Γ i z false) >>= fun Γ' => .ok (.nx, Γ')) (Fin_ X.K S0 P0 S D) from w)).mono fun y w y' S1 H1 g1 vo => ?_⟩
    obtain ⟨z, hz, w⟩ := up_want.mp (Want.bind.mp w)
    obtain ⟨Γ', e2, k⟩ := up_want.mp (Want.bind.mp w)
    obtain ⟨a, b, e3, e4, rfl⟩ := hd _ _ _ hz
    obtain ⟨y1, y2⟩ := y
    dsimp only at e4
    subst e4
    cases int_inv vo.b
    rw [e3] at ru
    cases ru
    refine ⟨a, b, rfl, rfl, ?_⟩
    unfold put at e2
    split at e2
    · cases e2
      exact k _ _ S1 H1 ((ok.grow g1).put (.int _)) g1.mono
    · cases e2
end
end Cr
end

section
set_option maxHeartbeats 4000000
/-! Every statement that the check lets pass; defs; the table of defs. -/
namespace Cr
open PySem PySem.Spec PyProof.Rows L2
section
variable {G : Gi} {call : Str → List D → R} {CX : CXT} {E : XK} {X : Cx} {sc : Sc}
theorem swapsLc {elt : Expr} {gs : List Comprehension} {s0 : Scope} {q p : Pos} {x : Str} {l : Nat} (M : Mt G call CX E X sc) (hk : sc.scope.kind = .function) :
    swapsWith (.ListComp elt gs s0 q) (some (.Name x p)) l X.env = pure (swB sc (.Name x p) (.ListComp elt gs s0 q)) := by
  have hb : X.env.blockKind = .function := by unfold Env.blockKind; rw [M.sco, hk]; rfl
  have hx : (X.env.kindOf x == some .local) = (match sc.scope.names.lookup x with
    | some .local => true
    | _ => false) := by
    show (X.env.scope.names.lookup x == some .local) = _
    rw [M.sco]
    split
    · rename_i h; rw [h]; rfl
    · rename_i h
      cases e : sc.scope.names.lookup x with
      | none => rfl
      | some k =>
        cases k <;> first | rfl | exact absurd e h
  show (pure (X.env.blockKind == .function && X.env.kindOf x == some .local && p.line == q.line && !(s0.names.any fun (n, k) => n == x && (k == .local || k == .cell))) : Sem Bool) = _
  rw [hb, hx]
  rfl
theorem t_nm (M : Mt G call CX E X sc) (hk : sc.scope.kind = .function) {i : Nat} {x : Str} {c : Ex} {v : Expr} {p pos : Pos} (hg : (decide (sc.N[i]? = some x) && locB sc x) = true) (hc : chkE G sc c v = true) :
    PS X (.Assign [.Name x p] v pos) (tAsg (TE_ X.K X.mg E (evE call c)) (gName i)) := by
  obtain ⟨h1, h2, h3⟩ := M.loc hg
  by_cases hv : isComp v = false
  · exact ps_asg (snd c M v hc) (pg_name M.nd h1 h2 h3) (swapsSole_of hv _ _ _) (swapped_of (.inl rfl) _) rfl
  · cases c with
    | lc own g it t el =>
      have hc0 := hc
      unfold chkE at hc
      split at hc
      · rename_i elt tg iter ifs s0 q
        have sw := swapsLc (elt := elt) (gs := [⟨tg, iter, ifs, 0⟩]) (s0 := s0) (q := q) (p := p) (x := x) (l := pos.line) M hk
        cases hs : swB sc (.Name x p) (.ListComp elt [⟨tg, iter, ifs, 0⟩] s0 q) with
        | false =>
          rw [hs] at sw
          exact ps_asg (snd _ M _ hc0) (pg_name M.nd h1 h2 h3) sw (swapped_of (.inl rfl) _) rfl
        | true =>
          rw [hs] at sw
          simp only [Bool.and_eq_true, decide_eq_true_eq, Bool.not_eq_true'] at hc
          obtain ⟨⟨⟨⟨⟨⟨k1, k2⟩, k3⟩, k4⟩, k5⟩, k6⟩, k7⟩ := hc
          have ok : BlkOk X.N X.env.scope s0 (bK sc own) := by rw [M.N, M.sco]; exact blkOk_by k1
          have hyl : X.env.scope.names.lookup x = some .local := by
            unfold swB at hs
            simp only [Bool.and_eq_true] at hs
            rw [M.sco]
            have := hs.1.1
            split at this
            · assumption
            · cases this
          refine (ps_setLc (wi := TI_ X.K X.mg E (evI call it)) (g := G_ X.K g) (tt := TT_ X.K X.mg E0 (evTo call t)) (te := TE_ X.K X.mg E0 (evE call el)) M.calm M.nd h1 hyl sw (sndI it M _ _ k5) ok (fun s H C cl fp => s_tg (M.blk _ s H C cl fp) g _ k4) (fun s H C cl fp => sndTo t (M.blk _ s H C cl fp) _ k6) (fun s H C cl fp => snd el (M.blk _ s H C cl fp) _ k7) fun x => folded_of k3 _ x).imp fun D σ H q => ?_
          rw [show (bK sc own).map (·.2) = own from k2]
          exact lc_read q
      · cases hc
    | blt f es =>
      unfold chkE at hc
      split at hc
      · rename_i xs hx
        have : isComp v = false := by
          unfold bltArgs at hx
          cases v <;> first | rfl | (cases f <;> cases hx)
        exact absurd this hv
      · cases hc
    | _ =>
      unfold chkE at hc
      split at hc
      all_goals first | exact absurd rfl hv | cases hc
mutual
theorem sndS : ∀ (c : Sx) {E : XK} {X : Cx} {sc : Sc} (M : Mt G call CX E X sc) (hk : sc.scope.kind = .function) (s : Stmt), chkS G sc c s = true → PS X s (TS_ X.K X.mg E (exS call c))
  | .set g e, E, X, sc, M, hk, s, h => by
    unfold chkS at h
    split at h
    · rename_i tg v pos
      simp only [Bool.and_eq_true] at h
      obtain ⟨⟨h1, h2⟩, h3⟩ := h
      unfold asgOk at h1
      simp only [Bool.and_eq_true, Bool.or_eq_true, Bool.not_eq_true'] at h1
      obtain ⟨⟨k1, k2⟩, k3⟩ := h1
      rcases k3 with k3 | k3
      · exact t_set (s_tg M g tg h2) (snd e M v h3) k1 k3 k2
      · cases tg with
        | Name x p =>
          cases g with
          | nm i => exact (t_nm M hk h2 h3).imp fun D σ H q => own_read' q
          | tup gs => unfold chkG at h2; cases h2
        | _ => cases k3
    · cases h
  | .own i e, E, X, sc, M, hk, s, h => by
    unfold chkS at h
    split at h
    · simp only [Bool.and_eq_true] at h
      obtain ⟨⟨h1, h2⟩, h3⟩ := h
      exact (t_nm M hk h2 h3).imp fun D σ H q => own_read q
    · cases h
  | .ret e, E, X, sc, M, hk, s, h => by
    unfold chkS at h
    split at h
    · exact t_ret (snd e M _ h)
    · cases h
  | .retn, E, X, sc, M, hk, s, h => by
    unfold chkS at h
    split at h
    · exact t_retn
    · cases h
  | .retv i, E, X, sc, M, hk, s, h => by
    unfold chkS at h
    split at h
    · exact t_retv M h
    · cases h
  | .ifs t a b, E, X, sc, M, hk, s, h => by
    unfold chkS at h
    split at h
    · simp only [Bool.and_eq_true] at h
      exact t_if (sndT t M _ h.1.1) (sndSs a M hk _ h.1.2) (sndSs b M hk _ h.2)
    · cases h
  | .fors g it body, E, X, sc, M, hk, s, h => by
    unfold chkS at h
    split at h
    · simp only [Bool.and_eq_true, Bool.not_eq_true'] at h
      exact t_for M (sndI it M _ _ h.1.2) (s_tg M g _ h.1.1.2) (sndSs body M hk _ h.2) h.1.1.1
    · cases h
  | .whl t body, E, X, sc, M, hk, s, h => by
    unfold chkS at h
    split at h
    · simp only [Bool.and_eq_true] at h
      exact t_whl M (sndT t M _ h.1) (sndSs body M hk _ h.2)
    · cases h
  | .app i e, E, X, sc, M, hk, s, h => by
    unfold chkS at h
    split at h
    · simp only [Bool.and_eq_true, decide_eq_true_eq, Bool.not_eq_true'] at h
      obtain ⟨⟨⟨⟨h1, h2⟩, h3⟩, h4⟩, h5⟩ := h
      exact t_app M h3 h2 h1 (snd e M _ h5) h4
    · cases h
  | .pop g i, E, X, sc, M, hk, s, h => by
    unfold chkS at h
    split at h
    · simp only [Bool.and_eq_true, decide_eq_true_eq, Bool.not_eq_true'] at h
      obtain ⟨⟨⟨⟨h1, h2⟩, h3⟩, h4⟩, h5⟩ := h
      exact t_pop M h3 h2 h1 (s_tg M g _ h5) h4
    · cases h
  | .seti i k e, E, X, sc, M, hk, s, h => by
    unfold chkS at h
    split at h
    · simp only [Bool.and_eq_true, Bool.not_eq_true'] at h
      obtain ⟨⟨⟨⟨h1, h2⟩, h3⟩, h4⟩, h5⟩ := h
      exact t_seti M h1 h3 (snd e M _ h5) (snd k M _ h4) h2
    · cases h
  | .frz i, E, X, sc, M, hk, s, h => by unfold chkS at h; cases h
  | .aug i op e, E, X, sc, M, hk, s, h => by
    unfold chkS at h
    split at h
    · simp only [Bool.and_eq_true, decide_eq_true_eq, Bool.or_eq_true] at h
      obtain ⟨⟨⟨⟨rfl, h2⟩, h3⟩, h4⟩, h5⟩ := h
      unfold chkG at h4
      rcases h2 with rfl | rfl
      · refine t_aug (h := fun i j => i + j) ip_add (fun x y z q => ?_) M h3 h4 (snd e M _ h5)
        cases x with
        | int i => cases y with
          | int j => exact ⟨_, _, rfl, rfl, (Option.some.inj q).symm⟩
          | _ => cases q
        | _ => cases q
      · refine t_aug (h := fun i j => i - j) ip_sub (fun x y z q => ?_) M h3 h4 (snd e M _ h5)
        cases x with
        | int i => cases y with
          | int j => exact ⟨_, _, rfl, rfl, (Option.some.inj q).symm⟩
          | _ => cases q
        | _ => cases q
    · cases h
  | .pass, E, X, sc, M, hk, s, h => by
    unfold chkS at h
    split at h
    · exact t_pass
    · cases h
  | .brk, E, X, sc, M, hk, s, h => by
    unfold chkS at h
    split at h
    · exact t_brk
    · cases h
  | .cont, E, X, sc, M, hk, s, h => by
    unfold chkS at h
    split at h
    · exact t_cont
    · cases h
theorem sndSs : ∀ (c : List Sx) {E : XK} {X : Cx} {sc : Sc} (M : Mt G call CX E X sc) (hk : sc.scope.kind = .function) (s : List Stmt), chkSs G sc c s = true → PSs X s (TS_ X.K X.mg E (exSs call c))
  | [], E, X, sc, M, hk, s, h => by
    cases s with
    | nil => exact t_nil
    | cons _ _ => unfold chkSs at h; cases h
  | c :: cs, E, X, sc, M, hk, s, h => by
    have go : ∀ s ss, chkS G sc c s = true → chkSs G sc cs ss = true → PSs X (s :: ss) (TS_ X.K X.mg E (exSs call (c :: cs))) := fun s ss a b => t_cons (sndS c M hk s a) (sndSs cs M hk ss b)
    by_cases hc : ∃ i, c = .frz i
    · obtain ⟨i, e⟩ := hc
      have h' : chkSs G sc cs s = true := by rw [e] at h; unfold chkSs at h; cases s <;> exact h
      have := t_frz (i := i) (sndSs cs M hk s h')
      rw [e]
      exact this
    · cases s with
      | nil => unfold chkSs at h; cases c <;> first | cases h | exact absurd ⟨_, rfl⟩ hc
      | cons s ss =>
        have h2 : (chkS G sc c s && chkSs G sc cs ss) = true := by
          unfold chkSs at h
          cases c <;> first | exact h | exact absurd ⟨_, rfl⟩ hc
        rw [Bool.and_eq_true] at h2
        exact go s ss h2.1 h2.2
end
end

/-! ### defs -/
/-- a def of the text, with what the check lets pass -/
structure Good (G : Gi) (f : Fd) (st : Stmt) (N ps : List Str) : Prop where
  sc : FnScope N ps (defScope st)
  ok : chkSs G ⟨N, defScope st, none⟩ f.body (defBody st) = true
  np : f.ps = ps.length
  nn : f.n = N.length
/-- a def as it stands behind the top -/
structure There (K : PySem.W.Frag) (mg : Str → Option Value) (f : Fd) (st : Stmt) (ps : List Str) (qual : Str) (a : Addr) (fd : FuncData) : Prop where
  F : Fun K f.name qual st a fd
  g : mg f.name = some (.ref a)
  b : Binds K fd ps []
theorem start_val {N : List Str} {vs : List V} {ds : List D} {K : PySem.W.Frag} {S : Hp} (r : RepAll K S vs ds) {i : Nat} {d : D} {fl : Bool} {m : Nat}
    (h : (ds.map (fun d => some (d, false)) ++ List.replicate m none : En)[i]? = some (some (d, fl))) : fl = false ∧ ∃ v, (L2.start N vs)[i]? = some (some v) ∧ Rep K S v d := by
  by_cases hi : i < ds.length
  · rw [List.getElem?_append_left (by rw [List.length_map]; exact hi), List.getElem?_map] at h
    cases e : ds[i]? with
    | none => rw [e] at h; cases h
    | some d' =>
      rw [e] at h
      cases h
      obtain ⟨v, hv, rv⟩ := r.get e
      refine ⟨rfl, v, ?_, rv⟩
      unfold L2.start
      rw [List.getElem?_append_left (by rw [List.length_map, r.length]; exact hi), List.getElem?_map, hv]
      rfl
  · rw [List.getElem?_append_right (by rw [List.length_map]; omega), List.getElem?_replicate] at h
    split at h <;> cases h
theorem body_read {K : PySem.W.Frag} {mg : Str → Option Value} {call : Str → List D → R} {f : Fd} {N ps : List Str} {vs : List V} {H : Hp} {Q : VK} {E : XK} {n : Nat} (hN : N.take ps.length = ps) (np : f.ps = ps.length) (nn : f.n = N.length)
    (h : spF K mg n (runF call f) vs H Q E) : TS_ K mg E (exSs call f.body) { nx := fun _ H' => Q .non H', rt := Q } (L2.start N vs) H := by
  obtain ⟨hl, ds, S, sub, r, w⟩ := h
  unfold runF at w
  split at w
  case isFalse => exact w.elim
  rename_i hc
  have hle : ps.length ≤ N.length := by rw [← np, ← nn]; exact hc.2
  have hv := r.length
  refine ⟨S, H, fun _ => [], _, S, ⟨sub, Same.refl _, Same.refl _, fun a h => .inl h, ?_, fun i d fl h => ?_, fun _ => .nil, (fun _ _ h => nomatch h), (fun _ _ _ _ h => nomatch h)⟩, (Want.bind.mp w).mono fun p w => ?_⟩
  · unfold L2.start
    rw [List.length_append, List.length_append, List.length_map, List.length_map, List.length_replicate, List.length_replicate, nn, hv]
  · obtain ⟨rfl, v, e, rv⟩ := start_val r h
    exact ⟨v, e, .rep rv, (fun _ => rfl), fun z => nomatch z⟩
  · obtain ⟨c, Γ⟩ := p
    cases c with
    | nx =>
      intro fp σ S' H' ok m
      exact w .non S' H' ⟨ok.sub, m, ok.base, ok.st⟩ (VOk.of .non)
    | rt d fl =>
      intro v S' H' ⟨k1, k2, k3, k4, k5⟩
      exact w v S' H' ⟨k1, k3, k2, k4⟩ k5
    | bk => exact w.elim
    | ct => exact w.elim
/-- every def of a table keeps the promise that the evaluator's calls make, n calls deep -/
structure Tab (P : Program) (w : World) (K : PySem.W.Frag) (mg : Str → Option Value) (tbl : List Fd) (G : Gi) : Prop where
  bl : ∀ x ∈ bnames, mg x = none
  gl : ∀ x u, (x, u) ∈ G.globs → ∃ w, mg x = some w ∧ RelV u w
  fs : ∀ f n, (f, n) ∈ G.funs → ∃ fd ∈ tbl, fd.name = f ∧ fd.ps = n
  all : ∀ fd ∈ tbl, (tbl.find? fun d => decide (d.name = fd.name)) = some fd ∧ ∃ st N ps qual a fdat, Good G fd st N ps ∧ There K mg fd st ps qual a fdat
theorem tab_ok {P : Program} {w : World} {K : PySem.W.Frag} {mg : Str → Option Value} {tbl : List Fd} {G : Gi} {base : Heap} (T : Tab P w K mg tbl G) :
    ∀ (n : Nat) (fd : Fd) (st : Stmt) (N ps : List Str) (qual : Str) (a : Addr) (fdat : FuncData), fd ∈ tbl → Good G fd st N ps → There K mg fd st ps qual a fdat →
      FnOk P w K mg base CX0 n a fdat ps (spF K mg fd.ps (callN tbl n fd.name)) := by
  intro n
  induction n with
  | zero =>
    intro fd st N ps qual a fdat hm g t
    refine ⟨fun vs H Q E ⟨h, _⟩ => h.trans g.np, fun A outer s H args us vs Q E _ _ _ _ h => ?_⟩
    obtain ⟨_, ds, S, _, _, w⟩ := h
    exact w.elim
  | succ n ih =>
    intro fd st N ps qual a fdat hm g t
    refine t.F.ok g.sc (fun vs H Q E ⟨h, _⟩ => h.trans g.np) fun cdv A outer s H vs Q E hr h => ?_
    have e : callN tbl (n + 1) fd.name = runF (callN tbl n) fd := by
      funext as
      show (match tbl.find? fun d => decide (d.name = fd.name) with
        | some fd => runF (callN tbl n) fd as
        | none => .bad) = _
      rw [(T.all fd hm).1]
    rw [e] at h
    have M : Mt G (callN tbl n) CX0 E (cxOf CX0 P w K mg base N qual (defScope st) a cdv A outer s H E).nox ⟨N, defScope st, none⟩ := {
      N := rfl
      sco := rfl
      fn := rfl
      nd := g.sc.nd
      calm := rfl
      bl := T.bl
      un := hr.units
      gl := T.gl
      fs := fun f k hf => by
        obtain ⟨fd', hm', e1, e2⟩ := T.fs f k hf
        obtain ⟨_, st', N', ps', qual', a', fdat', g', t'⟩ := T.all fd' hm'
        have := ih fd' st' N' ps' qual' a' fdat' hm' g' t'
        subst e1
        subst e2
        exact ⟨a', fdat', ps', n, t'.g, this, hr, t'.F.kp, t'.b⟩
      pass := fun _ _ _ _ _ _ _ h => h.elim
      own := PassesOwn.never
      kind := fun _ => g.sc.kind
      cx0 := fun _ _ _ _ _ h => h }
    refine ⟨_, sndSs fd.body M g.sc.kind (defBody st) g.ok, ?_⟩
    exact body_read g.sc.pre g.np g.nn h
/-- a law's promise -/
def spLaw (K : PySem.W.Frag) : Sp := fun vs H Q _ => ∃ (a : Addr) (ns : List Int), vs = [.ref a] ∧ SqL K H a (ns.map V.int) ∧ ns.length ≤ 63 ∧ ∀ H', Q (.bl true) H'
theorem law_ok {P : Program} {w : World} {K : PySem.W.Frag} {mg : Str → Option Value} {tbl : List Fd} {G : Gi} {base : Heap} {fd : Fd} {st : Stmt} {N ps : List Str} {qual : Str} {a : Addr} {fdat : FuncData} {n : Nat} (T : Tab P w K mg tbl G) (hm : fd ∈ tbl) (g : Good G fd st N ps) (t : There K mg fd st ps qual a fdat) (h1 : fd.ps = 1)
    (law : ∀ ns : List Int, ns.length ≤ 63 → ∃ fl, callN tbl n fd.name [.fls (ns.map D.int)] = .ok (.bl true, fl)) : FnOk P w K mg base CX0 n a fdat ps (spLaw K) := by
  refine (tab_ok T n fd st N ps qual a fdat hm g t).imp fun vs H Q E ⟨a, ns, e, hs, hl, k⟩ => ?_
  obtain ⟨fl, e2⟩ := law ns hl
  refine ⟨by rw [e, h1]; rfl, [.fls (ns.map D.int)], H, Same.refl _, by rw [e]; exact .cons (.fls hs (RepAll.ints ns)) .nil, ?_⟩
  rw [e2]
  intro v S' H' g vo
  cases bl_inv vo.b
  exact k H'
end Cr
end

section
set_option maxHeartbeats 4000000
/-! The end of a law: from the core's evaluator to the statement. -/
namespace Cr
open PySem PySem.Spec PyProof.Rows L2

/-- a def as the top has written it -/
def HasDef (K : PySem.W.Frag) (name qual : Str) (st : Stmt) : Prop := ∃ (f : Addr) (oc : Value) (od an : Option Addr) (osl : Array (Option Value)) (kV doc pm cdv ct : Value),
  PySem.W.nsIn K mainGlobals name = some (some (.ref f)) ∧ K.lookup f = some ⟨oc, od, .func (PySem.W.fnOf name qual (defArgs st) (defBody st) (defScope st) .none kV doc pm an cdv ct), osl⟩ ∧
  PySem.W.codeIn K cdv qual = true ∧ PySem.W.keepIn K (.ref f) = true
theorem has_mk {K : PySem.W.Frag} {name qual : Str} {st : Stmt} {f : Addr} {oc : Value} {od an : Option Addr} {osl : Array (Option Value)} {kV doc pm cdv ct : Value} (a : PySem.W.nsIn K mainGlobals name = some (some (.ref f)))
    (l : K.lookup f = some ⟨oc, od, .func (PySem.W.fnOf name qual (defArgs st) (defBody st) (defScope st) .none kV doc pm an cdv ct), osl⟩) (c : PySem.W.codeIn K cdv qual = true) (k : PySem.W.keepIn K (.ref f) = true) : HasDef K name qual st :=
  ⟨f, oc, od, an, osl, kV, doc, pm, cdv, ct, a, l, c, k⟩
def Bnd (name qual : Str) (st : Stmt) (ps : List Str) : Prop := ∀ (kV doc pm : Value) (an : Option Addr) (cdv ct : Value) (us : List Value), us.length = ps.length →
  bindArgs (PySem.W.fnOf name qual (defArgs st) (defBody st) (defScope st) .none kV doc pm an cdv ct) ⟨us, []⟩ = pure (ps.zip us)
def NoNames (K : PySem.W.Frag) : List Str → Prop
  | [] => True
  | x :: xs => PySem.W.nsIn K mainGlobals x = some none ∧ NoNames K xs
theorem no_name {K : PySem.W.Frag} {h : Heap} {mg : Str → Option Value} (X : K.In h) (G : h.Ns mainGlobals mg) : ∀ {l : List Str}, NoNames K l → ∀ x ∈ l, mg x = none
  | [], _, _, h => nomatch h
  | y :: l, ⟨h1, h2⟩, x, hx => by
    rcases List.mem_cons.mp hx with e | hx
    · subst e; exact PySem.W.mg_none_of X G h1
    · exact no_name X G h2 x hx
/-- what the text alone tells of a def -/
structure Def (G : Gi) (tbl : List Fd) (fd : Fd) (qual : Str) (st : Stmt) (N ps : List Str) : Prop where
  find : (tbl.find? fun d => decide (d.name = fd.name)) = some fd
  good : Good G fd st N ps
  bnd : Bnd fd.name qual st ps
section
variable {K : PySem.W.Frag} {mg : Str → Option Value} {h : Heap} {G : Gi} {tbl : List Fd}
theorem HasDef.there {fd : Fd} {qual : Str} {st : Stmt} {N ps : List Str} (X : K.In h) (Gh : h.Ns mainGlobals mg) (d : Def G tbl fd qual st N ps) (hd : HasDef K fd.name qual st) : ∃ a fdat, There K mg fd st ps qual a fdat := by
  obtain ⟨f, oc, od, an, osl, kV, doc, pm, cdv, ct, a, l, c, k⟩ := hd
  have F := fun_mk (st := st) l c k
  exact ⟨f, _, F, PySem.W.mg_of X Gh a, F.binds d.bnd⟩
abbrev DefAt (K : PySem.W.Frag) (mg : Str → Option Value) (G : Gi) (tbl : List Fd) (fd : Fd) : Prop :=
  (tbl.find? fun d => decide (d.name = fd.name)) = some fd ∧ ∃ st N ps qual a fdat, Good G fd st N ps ∧ There K mg fd st ps qual a fdat
theorem all_nil : ∀ fd ∈ ([] : List Fd), DefAt K mg G tbl fd := fun _ h => nomatch h
theorem all_cons {fd : Fd} {l : List Fd} {qual : Str} {st : Stmt} {N ps : List Str} (X : K.In h) (Gh : h.Ns mainGlobals mg) (d : Def G tbl fd qual st N ps) (hd : HasDef K fd.name qual st) (r : ∀ fd ∈ l, DefAt K mg G tbl fd) :
    ∀ x ∈ fd :: l, DefAt K mg G tbl x := fun x hx => by
  rcases List.mem_cons.mp hx with e | hx
  · subst e
    obtain ⟨a, fdat, t⟩ := hd.there X Gh d
    exact ⟨d.find, _, _, _, _, _, _, d.good, t⟩
  · exact r x hx
def funsOf (tbl : List Fd) : List (Str × Nat) := tbl.map fun d => (d.name, d.ps)
theorem fs_of (f : Str) (n : Nat) (h : (f, n) ∈ funsOf tbl) : ∃ fd ∈ tbl, fd.name = f ∧ fd.ps = n := by
  obtain ⟨fd, hm, e⟩ := List.mem_map.mp h
  cases e
  exact ⟨fd, hm, rfl, rfl⟩
end
/-- a global constant, as the top has written it -/
def HasGl (K : PySem.W.Frag) : List (Str × V) → Prop
  | [] => True
  | (x, u) :: r => (∃ w, PySem.W.nsIn K mainGlobals x = some (some w) ∧ RelV u w) ∧ HasGl K r
theorem gl_cons {K : PySem.W.Frag} {x : Str} {u : V} {r : List (Str × V)} {w : Value} (h1 : PySem.W.nsIn K mainGlobals x = some (some w)) (h2 : RelV u w) (h3 : HasGl K r) : HasGl K ((x, u) :: r) := ⟨⟨w, h1, h2⟩, h3⟩
theorem gl_of {K : PySem.W.Frag} {h : Heap} {mg : Str → Option Value} (X : K.In h) (G : h.Ns mainGlobals mg) : ∀ {l : List (Str × V)}, HasGl K l → ∀ x u, (x, u) ∈ l → ∃ w, mg x = some w ∧ RelV u w
  | [], _, _, _, h => nomatch h
  | (y, v) :: l, ⟨⟨w, h1, h2⟩, h3⟩, x, u, hx => by
    rcases List.mem_cons.mp hx with e | hx
    · cases e; exact ⟨w, PySem.W.mg_of X G h1, h2⟩
    · exact gl_of X G h3 x u hx
theorem walkC {l : PySem.W.OpenLaw} {q : Program} {loose : List Str} {XP : (Str → Option Value) → Heap → Prop} {YP : World → Heap → Prop} {d : DefRec} {K : Params → PySem.W.Frag} {k : Nat} (hn : l.most = some 63) (hdf : d.params.defaults = []) (hk : Room k callerA)
    (hY : ∀ (w : World) (h : Heap), YP w h → (K w.params).In h)
    (F : ∀ (w : World) (mg : Str → Option Value) (fa : Addr) (h : Heap), (K w.params).In h → h.Ns mainGlobals mg → mg d.name = some (.ref fa) →
      ∃ fd : FuncData, (∀ (s : Shared) (u : Value), BindsTo s fd ⟨[u], []⟩ [("script", u)]) ∧ ∀ base : Heap, (K w.params).In base → base.Ns mainGlobals mg → FnOk l.prog w (K w.params) mg base CX0 k fa fd ["script"] (spLaw (K w.params))) :
    PySem.W.WalkO q loose XP YP l.row.toRowW d [] (fun f vs => PySem.call f vs) :=
  L2.walk_of (n := 63) (k := k) (x := "script") (CX := fun _ => CX0) (sp := fun w => spLaw (K w.params)) hn (by decide) hdf hk hY F (fun _ _ a ns hl _ hS => ⟨a, ns, rfl, hS, hl, fun _ => rfl⟩) fun _ _ _ _ _ z => z
theorem law_end {P : Program} {w : World} {K : PySem.W.Frag} {mg : Str → Option Value} {h : Heap} {G : Gi} {tbl : List Fd} {fd : Fd} {st : Stmt} {N : List Str} {qual : Str} {n : Nat} {fa : Addr} (X : K.In h) (Gh : h.Ns mainGlobals mg) (hfa : mg fd.name = some (.ref fa)) (hm : fd ∈ tbl) (h1 : fd.ps = 1)
    (d : Def G tbl fd qual st N ["script"]) (hd : HasDef K fd.name qual st) (nn : NoNames K bnames) (gl : HasGl K G.globs) (fs : G.funs = funsOf tbl) (all : ∀ x ∈ tbl, DefAt K mg G tbl x) (bt : ∀ (kV doc pm : Value) (an : Option Addr) (cdv ct : Value) (s : Shared) (v : Value), BindsTo s (PySem.W.fnOf fd.name qual (defArgs st) (defBody st) (defScope st) .none kV doc pm an cdv ct) ⟨[v], []⟩ [("script", v)])
    (law : ∀ ns : List Int, ns.length ≤ 63 → ∃ fl, callN tbl n fd.name [.fls (ns.map D.int)] = .ok (.bl true, fl)) :
    ∃ f : FuncData, (∀ (s : Shared) (v : Value), BindsTo s f ⟨[v], []⟩ [("script", v)]) ∧ ∀ base : Heap, K.In base → base.Ns mainGlobals mg → FnOk P w K mg base CX0 n fa f ["script"] (spLaw K) := by
  obtain ⟨f, oc, od, an, osl, kV, doc, pm, cdv, ct, a, l, c, k⟩ := hd
  have F := fun_mk (st := st) l c k
  have e := hfa.symm.trans (PySem.W.mg_of X Gh a)
  cases e
  refine ⟨_, bt kV doc pm an cdv ct, fun base _ _ => ?_⟩
  have T : Tab P w K mg tbl G := ⟨no_name X Gh nn, gl_of X Gh gl, fun f n h => fs_of f n (by rw [← fs]; exact h), all⟩
  exact law_ok T hm d.good ⟨F, PySem.W.mg_of X Gh a, F.binds d.bnd⟩ h1 law
end Cr
end

section
set_option maxHeartbeats 4000000
/-! Reasoning about the evaluator. -/
namespace Cr
open PySem PySem.Spec PyProof.Rows L2

def OkP {α : Type} (o : Out α) (Q : α → Prop) : Prop := ∃ a, o = .ok a ∧ Q a
section
variable {α β : Type} {Q : α → Prop}
theorem okp_ok {a : α} : OkP (.ok a) Q ↔ Q a := ⟨fun ⟨b, e, q⟩ => (by cases e; exact q), fun q => ⟨a, rfl, q⟩⟩
theorem okp_bad : OkP (.bad : Out α) Q ↔ False := ⟨fun ⟨b, e, q⟩ => (by cases e), False.elim⟩
theorem okp_bind {o : Out β} {f : β → Out α} : OkP (o >>= f) Q ↔ OkP o fun b => OkP (f b) Q := by
  cases o with
  | ok b => rw [ok_bind, okp_ok]
  | exc x => exact ⟨fun ⟨_, e, _⟩ => (by rw [exc_bind] at e; cases e), fun ⟨_, e, _⟩ => (by cases e)⟩
  | bad => rw [bad_bind, okp_bad, okp_bad]
theorem okp_ite {c : Prop} [Decidable c] {a b : Out α} : OkP (if c then a else b) Q ↔ (c → OkP a Q) ∧ (¬c → OkP b Q) := by
  split <;> simp_all
theorem OkP.mono {o : Out α} {Q' : α → Prop} (h : OkP o Q) (i : ∀ a, Q a → Q' a) : OkP o Q' := let ⟨a, e, q⟩ := h; ⟨a, e, i a q⟩
theorem okp_eq {o : Out α} {a : α} (h : OkP o fun b => b = a) : o = .ok a := by
  obtain ⟨b, e, rfl⟩ := h
  exact e
theorem okp_of {o : Out α} {a : α} (h : o = .ok a) (q : Q a) : OkP o Q := ⟨a, h, q⟩
end
/-- what a body's end gives its caller -/
def RtP (Q : D × Bool → Prop) : Ctl × En → Prop
  | (.nx, _) => Q (.non, false)
  | (.rt d fl, _) => Q (d, fl)
  | _ => False
def env0 (f : Fd) (as : List D) : En := as.map (fun d => some (d, false)) ++ List.replicate (f.n - as.length) none
theorem okp_call {tbl : List Fd} {n : Nat} {f : Str} {as : List D} {Q : D × Bool → Prop} (fd : Fd) (hf : (tbl.find? fun d => decide (d.name = f)) = some fd) (hl : as.length = fd.ps) (hn : fd.ps ≤ fd.n) (h : OkP (exSs (callN tbl n) fd.body (env0 fd as)) (RtP Q)) : OkP (callN tbl (n + 1) f as) Q := by
  show OkP (match tbl.find? fun d => decide (d.name = f) with
    | some fd => runF (callN tbl n) fd as
    | none => .bad) Q
  rw [hf]
  show OkP (runF (callN tbl n) fd as) Q
  unfold runF
  rw [if_pos ⟨hl, hn⟩, okp_bind]
  refine h.mono fun p q => ?_
  obtain ⟨c, Γ⟩ := p
  cases c with
  | nx => exact okp_ok.mpr q
  | rt d fl => exact okp_ok.mpr q
  | bk => exact q.elim
  | ct => exact q.elim
/-- a call's answer by the body -/
theorem call_eq {tbl : List Fd} {n : Nat} {f : Str} {as : List D} {d : D} {fl : Bool} (fd : Fd) (hf : (tbl.find? fun d => decide (d.name = f)) = some fd) (hl : as.length = fd.ps) (hn : fd.ps ≤ fd.n) (h : OkP (exSs (callN tbl n) fd.body (env0 fd as)) (RtP fun p => p = (d, fl))) : callN tbl (n + 1) f as = .ok (d, fl) :=
  okp_eq (okp_call fd hf hl hn h)
def ForP (P : En → Prop) (Q : Ctl × En → Prop) : Ctl × En → Prop
  | (.nx, Γ) => P Γ
  | (.ct, Γ) => P Γ
  | (.bk, Γ) => Q (.nx, Γ)
  | (.rt d fl, Γ) => Q (.rt d fl, Γ)
theorem okp_forD {as : D → En → Option En} {body : En → Out (Ctl × En)} {Q : Ctl × En → Prop} (P : Nat → En → Prop) : ∀ (ds : List D) (k : Nat) (Γ : En), P k Γ →
    (∀ i d Γ, ds[i]? = some d → P (k + i) Γ → ∃ Γ1, as d Γ = some Γ1 ∧ OkP (body Γ1) (ForP (P (k + i + 1)) Q)) → (∀ Γ, P (k + ds.length) Γ → Q (.nx, Γ)) → OkP (forOp as body ds Γ) Q
  | [], k, Γ, h0, _, he => okp_ok.mpr (he Γ h0)
  | d :: ds, k, Γ, h0, hs, he => by
    obtain ⟨Γ1, e1, q⟩ := hs 0 d Γ rfl h0
    have rest : ∀ Γ2, P (k + 1) Γ2 → OkP (forOp as body ds Γ2) Q := fun Γ2 h => okp_forD P ds (k + 1) Γ2 h (fun i d' Γ' hi hp => by
      have := hs (i + 1) d' Γ' (by simpa using hi) (by rw [show k + (i + 1) = k + 1 + i by omega]; exact hp)
      rwa [show k + (i + 1) + 1 = k + 1 + i + 1 by omega] at this) fun Γ' hp => he Γ' (by rw [List.length_cons, show k + (ds.length + 1) = k + 1 + ds.length by omega]; exact hp)
    unfold forOp
    rw [e1, up_some, ok_bind, okp_bind]
    refine q.mono fun r hr => ?_
    obtain ⟨c, Γ2⟩ := r
    cases c with
    | nx => exact rest Γ2 hr
    | ct => exact rest Γ2 hr
    | bk => exact okp_ok.mpr hr
    | rt d fl => exact okp_ok.mpr hr
/-- a for over the images of xs; i of them are behind -/
theorem okp_for {α : Type} {as : D → En → Option En} {body : En → Out (Ctl × En)} {Q : Ctl × En → Prop} {xs : List α} {f : α → D} {Γ : En} (P : Nat → En → Prop) (h0 : P 0 Γ)
    (hs : ∀ i x Γ, xs[i]? = some x → P i Γ → ∃ Γ1, as (f x) Γ = some Γ1 ∧ OkP (body Γ1) (ForP (P (i + 1)) Q)) (he : ∀ Γ, P xs.length Γ → Q (.nx, Γ)) : OkP (forOp as body (xs.map f) Γ) Q := by
  refine okp_forD P (xs.map f) 0 Γ h0 (fun i d Γ hi hp => ?_) fun Γ h => he Γ (by simpa using h)
  rw [List.getElem?_map] at hi
  obtain ⟨x, hx, rfl⟩ := Option.map_eq_some_iff.mp hi
  have := hs i x Γ hx (by simpa using hp)
  simpa using this
/-- a comprehension over the images of xs -/
theorem lc_map {α : Type} {as : D → En → Option En} {t : En → Out Bool} {e : En → R} {Γ : En} (f : α → D) (p : α → Bool) (g : α → D) : ∀ (xs : List α), (∀ x ∈ xs, ∃ Γ1, as (f x) Γ = some Γ1 ∧ t Γ1 = .ok (p x) ∧ (p x = true → ∃ fl, e Γ1 = .ok (g x, fl))) →
    lcOp as t e Γ (xs.map f) = .ok ((xs.filter p).map g)
  | [], _ => rfl
  | x :: xs, h => by
    obtain ⟨Γ1, e1, e2, e3⟩ := h x (by simp)
    have ih := lc_map f p g xs fun y hy => h y (by simp [hy])
    rw [List.map_cons]
    unfold lcOp
    rw [e1, up_some, ok_bind, e2, ok_bind, List.filter_cons]
    cases hp : p x with
    | false => rw [if_neg Bool.false_ne_true, if_neg Bool.false_ne_true, ih]
    | true =>
      obtain ⟨fl, e4⟩ := e3 hp
      rw [if_pos rfl, if_pos rfl, e4, ok_bind, ih, ok_bind, List.map_cons]
theorem lc_all {α : Type} {as : D → En → Option En} {e : En → R} {call : Str → List D → R} {Γ : En} (f : α → D) (g : α → D) (xs : List α) (h : ∀ x ∈ xs, ∃ Γ1, as (f x) Γ = some Γ1 ∧ ∃ fl, e Γ1 = .ok (g x, fl)) :
    lcOp as (evTo call none) e Γ (xs.map f) = .ok (xs.map g) := by
  have := lc_map (as := as) (t := evTo call none) (e := e) (Γ := Γ) f (fun _ => true) g xs fun x hx => by
    obtain ⟨Γ1, e1, e2⟩ := h x hx
    exact ⟨Γ1, e1, by unfold evTo; rfl, fun _ => e2⟩
  rw [this, List.filter_eq_self.mpr (fun _ _ => rfl)]

/-! ### operators at data -/
theorem b_add (i j : Int) (f g : Bool) : binD .Add (.int i) f (.int j) g = some (.int (i + j), false) := rfl
theorem b_sub (i j : Int) (f g : Bool) : binD .Sub (.int i) f (.int j) g = some (.int (i - j), false) := rfl
theorem b_mul {i j : Int} {f g : Bool} (h : CMul i j) : binD .Mult (.int i) f (.int j) g = some (.int (i * j), false) := by
  show (if mulOk i j then pbO (.int (i * j)) else none) = _
  have : mulOk i j = true := decide_eq_true h
  rw [if_pos this]; rfl
theorem b_mod {i j : Int} {f g : Bool} (h : 0 < j) : binD .Mod (.int i) f (.int j) g = some (.int (i % j), false) := by
  show (if decide (0 < j) then pbO (.int (i % j)) else none) = _
  rw [if_pos (decide_eq_true h)]; rfl
theorem b_div {i j : Int} {f g : Bool} (h : 0 < j ∧ j < 1073741824) : binD .FloorDiv (.int i) f (.int j) g = some (.int (i / j), false) := by
  show (if dvOk j then pbO (.int (i / j)) else none) = _
  have : dvOk j = true := decide_eq_true h
  rw [if_pos this]; rfl
theorem b_cat {xs ys : List D} {f g : Bool} (h : xs.length + ys.length ≤ sizeLine) : binD .Add (.tup xs) f (.tup ys) g = some (.tup (xs ++ ys), false) := by
  show (if szOk (xs.length + ys.length) then pbO (.tup (xs ++ ys)) else none) = _
  have : szOk (xs.length + ys.length) = true := decide_eq_true h
  rw [if_pos this]; rfl
theorem b_rep {xs : List D} {k : Int} {f g : Bool} (h : -(2 ^ 62) ≤ k ∧ k ≤ 1000 ∧ xs.length ≤ 1000) : binD .Mult (.tup xs) f (.int k) g = some (.tup (List.replicate k.toNat xs).flatten, false) := by
  show (if decide (-(2 ^ 62) ≤ k ∧ k ≤ 1000 ∧ xs.length ≤ 1000) then pbO (.tup (List.replicate k.toNat xs).flatten) else none) = _
  rw [if_pos (decide_eq_true h)]; rfl
theorem nl_ok {xs : List D} (h : ∀ x ∈ xs, nl x = true) (f : Bool) : eok f xs = true := by
  unfold eok
  rw [List.all_eq_true.mpr h, Bool.or_true]
theorem b_catL {xs ys : List D} {f g : Bool} (h : xs.length + ys.length ≤ sizeLine) (h1 : eok f xs = true) (h2 : eok g ys = true) : binD .Add (.lst xs) f (.lst ys) g = some (.lst (xs ++ ys), true) := by
  show (if szOk (xs.length + ys.length) && eok f xs && eok g ys then some (D.lst (xs ++ ys), true) else none) = _
  have : szOk (xs.length + ys.length) = true := decide_eq_true h
  rw [this, h1, h2]; rfl
theorem k_lt (i j : Int) : cmpD .Lt (.int i) (.int j) = some (decide (i < j)) := rfl
theorem k_le (i j : Int) : cmpD .LtE (.int i) (.int j) = some (decide (i ≤ j)) := rfl
theorem k_gt (i j : Int) : cmpD .Gt (.int i) (.int j) = some (decide (j < i)) := rfl
theorem k_ge (i j : Int) : cmpD .GtE (.int i) (.int j) = some (decide (j ≤ i)) := rfl
theorem eq_int (i j : Int) : eqD (.int i) (.int j) = some (decide (i = j)) := by
  show (if scal (.int i) (.int j) then some (decide (V.int i = V.int j)) else none) = _
  rw [if_pos (show scal _ _ = true from rfl)]
  simp
theorem eq_bl (i j : Bool) : eqD (.bl i) (.bl j) = some (decide (i = j)) := by
  show (if scal (.bl i) (.bl j) then some (decide (V.bl i = V.bl j)) else none) = _
  rw [if_pos (show scal _ _ = true from rfl)]
  simp
theorem k_eq (i j : Int) : cmpD .Eq (.int i) (.int j) = some (decide (i = j)) := eq_int i j
theorem k_ne (i j : Int) : cmpD .NotEq (.int i) (.int j) = some (!decide (i = j)) := by
  show (eqD (.int i) (.int j)).map (!·) = _
  rw [eq_int]; rfl
theorem k_eqB (i j : Bool) : cmpD .Eq (.bl i) (.bl j) = some (decide (i = j)) := eq_bl i j
theorem k_neB (i j : Bool) : cmpD .NotEq (.bl i) (.bl j) = some (!decide (i = j)) := by
  show (eqD (.bl i) (.bl j)).map (!·) = _
  rw [eq_bl]; rfl
theorem flat_ints (l : List Int) : flatDs (l.map D.int) = some (l.map V.int) := by
  induction l with
  | nil => rfl
  | cons x l ih =>
    rw [List.map_cons]
    unfold flatDs
    rw [ih]; rfl
theorem in_ints (i : Int) (l : List Int) : inV (.int i) (l.map V.int) = decide (i ∈ l) := by
  induction l with
  | nil => rfl
  | cons x l ih =>
    unfold inV at ih ⊢
    rw [List.map_cons, List.any_cons, ih]
    have : eqV (.int x) (.int i) = decide (i = x) := by
      show decide (x = i) = decide (i = x)
      exact decide_eq_decide.mpr ⟨Eq.symm, Eq.symm⟩
    rw [this]
    simp
theorem in_seq {y : D} {l : List Int} (i : Int) (h : y.seq = some (l.map D.int)) : inD (.int i) y = some (decide (i ∈ l)) := by
  unfold inD
  rw [h]
  show (match flatDs (l.map D.int) with
    | some vs => some (inV (.int i) vs)
    | none => none) = _
  rw [flat_ints]
  exact congrArg some (in_ints i l)
theorem k_in {y : D} {l : List Int} (i : Int) (h : y.seq = some (l.map D.int)) : cmpD .In (.int i) y = some (decide (i ∈ l)) := in_seq i h
theorem k_notIn {y : D} {l : List Int} (i : Int) (h : y.seq = some (l.map D.int)) : cmpD .NotIn (.int i) y = some (!decide (i ∈ l)) := by
  show (inD (.int i) y).map (!·) = _
  rw [in_seq i h]; rfl
theorem at_nat {α : Type} (l : List α) (k : Nat) : atI l (k : Int) = l[k]? := by
  unfold atI ixN
  rw [if_pos (by omega)]
  by_cases h : (k : Int) < (l.length : Nat)
  · rw [if_pos h]
    simp
  · rw [if_neg h]
    rw [List.getElem?_eq_none (by omega)]; rfl
theorem ix_seq {x : D} {ds : List D} {d : D} {k : Int} (f : Bool) (hs : x.seq = some ds) (hk : 0 ≤ k) (h : ds[k.toNat]? = some d) (hn : f = false ∨ nl d = true) : ixD x f (.int k) = some (d, false) := by
  have e : atI ds k = some d := by
    rw [show k = (k.toNat : Int) by omega, at_nat]; exact h
  have hc : (!f || nl d) = true := by rcases hn with q | q <;> simp [q]
  have : ixD x f (.int k) = (match x.seq with
      | some ds => match atI ds k with
        | some d => if !f || nl d then pbO d else none
        | none => none
      | none => none) := by
    cases x <;> first | rfl | cases hs
  rw [this, hs]
  simp only [e]
  rw [if_pos hc]; rfl
theorem len_seq {x : D} {ds : List D} (hs : x.seq = some ds) : fLen x = some (.int ds.length, false) := by
  cases x <;> first | (cases hs; rfl) | cases hs
theorem sz {n : Nat} (h : n ≤ 16777216) : szOk n = true := decide_eq_true h
theorem rng_nat (n : Nat) : rngD 0 (n : Int) = (List.range n).map fun i => D.int ((i : Nat) : Int) := by
  unfold rngD
  rw [show ((n : Int) - 0).toNat = n by omega]
  exact List.map_congr_left fun i _ => by rw [Int.zero_add]
theorem ints_of (l : List Int) : intsOf (l.map D.int) = some l := by
  induction l with
  | nil => rfl
  | cons x l ih =>
    rw [List.map_cons]
    show (intsOf (l.map D.int)).map (x :: ·) = _
    rw [ih]; rfl
theorem bls_of (l : List Bool) : blsOf (l.map D.bl) = some l := by
  induction l with
  | nil => rfl
  | cons x l ih =>
    rw [List.map_cons]
    show (blsOf (l.map D.bl)).map (x :: ·) = _
    rw [ih]; rfl
theorem nl_ints (l : List Int) (f : Bool) : eok f (l.map D.int) = true := nl_ok (fun x hx => by obtain ⟨i, _, rfl⟩ := List.mem_map.mp hx; rfl) f
end Cr
end

section
set_option maxHeartbeats 4000000
/-! The evaluator's equations, loops and branches kept closed until they are entered. -/
namespace Cr
open PySem PySem.Spec PyProof.Rows L2
section
variable (call : Str → List D → R) (Γ : En)
def LC (own : List Nat) (g : Gx) (t : Option Tx) (e : Ex) (ds : List D) : Out (List D) := noX (lcOp (asg g) (evTo call t) (evE call e) (wipeE Γ own) ds)
noncomputable def FOR (g : Gx) (body : List Sx) (ds : List D) : Out (Ctl × En) := forOp (asg g) (exSs call body) ds Γ
noncomputable def WHL (t : Tx) (body : List Sx) : Out (Ctl × En) := whlOp (evT call t) (exSs call body) Γ
noncomputable def IFS (a b : List Sx) (c : Bool) : Out (Ctl × En) := if c then exSs call a Γ else exSs call b Γ
def IFE (a b : Ex) (c : Bool) : R := if c then evE call a Γ else evE call b Γ
def ANDE (b : Ex) : D × Bool → R := fun x => match x.1 with
  | .bl c => if c then evE call b Γ else pb (.bl false)
  | _ => .bad
def ORE (b : Ex) : D × Bool → R := fun x => match x.1 with
  | .bl c => if c then pb (.bl true) else evE call b Γ
  | _ => .bad
def ANDT (b : Tx) (c : Bool) : Out Bool := if c then evT call b Γ else .ok false
def ORT (b : Tx) (c : Bool) : Out Bool := if c then .ok true else evT call b Γ
noncomputable def SEQ (ss : List Sx) : Ctl × En → Out (Ctl × En) := fun p => match p with
  | (.nx, Γ') => exSs call ss Γ'
  | q => .ok q
theorem e_var (i : Nat) : evE call (.var i) Γ = lookV Γ i := rfl
theorem e_non : evE call .non Γ = .ok (.non, false) := rfl
theorem e_bl (b : Bool) : evE call (.bl b) Γ = .ok (.bl b, false) := rfl
theorem e_int (n : Int) : evE call (.int n) Γ = .ok (.int n, false) := rfl
theorem e_str (s : Str) : evE call (.str s) Γ = .ok (.str s, false) := rfl
theorem e_glob (x : Str) (d : D) : evE call (.glob x d) Γ = .ok (d, false) := rfl
theorem e_bin (op : Operator) (a b : Ex) : evE call (.bin op a b) Γ = borOr a (evE call a Γ) Γ >>= fun x => borOr b (evE call b Γ) Γ >>= fun y => up <| binD op x.1 x.2 y.1 y.2 := rfl
theorem e_not (a : Ex) : evE call (.not a) Γ = borOr a (evE call a Γ) Γ >>= fun x => up (truD x.1) >>= fun b => .ok (.bl (!b), false) := rfl
theorem e_cmp (op : CmpOp) (a b : Ex) : evE call (.cmp op a b) Γ = borOr a (evE call a Γ) Γ >>= fun x => borOr b (evE call b Γ) Γ >>= fun y => up (cmpD op x.1 y.1) >>= fun r => .ok (.bl r, false) := rfl
theorem e_and (a b : Ex) : evE call (.and a b) Γ = evE call a Γ >>= ANDE call Γ b := rfl
theorem e_or (a b : Ex) : evE call (.or a b) Γ = evE call a Γ >>= ORE call Γ b := rfl
theorem e_ife (t : Tx) (a b : Ex) : evE call (.ife t a b) Γ = evT call t Γ >>= IFE call Γ a b := rfl
theorem e_tup (es : List Ex) : evE call (.tup es) Γ = evVs call es Γ >>= fun ds => if szOk ds.length then .ok (.tup ds, false) else .bad := rfl
theorem e_lst (es : List Ex) : evE call (.lst es) Γ = evVs call es Γ >>= fun ds => if szOk ds.length then .ok (.lst ds, true) else .bad := rfl
theorem e_ix (a i : Ex) : evE call (.ix a i) Γ = borOr a (evE call a Γ) Γ >>= fun x => evE call i Γ >>= fun y => up (ixD x.1 x.2 y.1) := rfl
theorem e_slc (a : Ex) (lo hi : Option Ex) : evE call (.slc a lo hi) Γ = borOr a (evE call a Γ) Γ >>= fun x => evO call lo Γ >>= fun l => evO call hi Γ >>= fun h => up (slcD x.1 x.2 l h) := rfl
theorem e_call (f : Str) (es : List Ex) : evE call (.call f es) Γ = evAs call es Γ >>= fun as => callOr as (call f (as.map (·.1))) := rfl
theorem e_blt (f : Bf) (es : List Ex) : evE call (.blt f es) Γ = evBs call es Γ >>= fun as => up (bltD f as) := rfl
theorem e_lc (own : List Nat) (g : Gx) (it : Ix) (t : Option Tx) (e : Ex) : evE call (.lc own g it t e) Γ = evI call it Γ >>= fun ds => LC call Γ own g t e ds >>= fun r => if szOk r.length && g.within own then .ok (.lst r, true) else .bad := rfl
theorem e_ssc (own : List Nat) (g : Gx) (it : Ix) (t : Option Tx) (e : Ex) : evE call (.ssc own g it t e) Γ = evI call it Γ >>= fun ds => LC call Γ own g t e ds >>= fun r => if g.within own then up (fSortedSet (.lst r)) else .bad := rfl
theorem e_rvs (a : Ex) : evE call (.rvs a) Γ = borOr a (evE call a Γ) Γ >>= fun x => up (rvsD x.1 x.2) := rfl
theorem v_nil : evVs call [] Γ = .ok [] := rfl
theorem v_cons (e : Ex) (es : List Ex) : evVs call (e :: es) Γ = evE call e Γ >>= fun x => evVs call es Γ >>= fun xs => .ok (x.1 :: xs) := rfl
theorem a_nil : evAs call [] Γ = .ok [] := rfl
theorem a_cons (e : Ex) (es : List Ex) : evAs call (e :: es) Γ = argOr e (evE call e Γ) Γ >>= fun x => evAs call es Γ >>= fun xs => .ok (x :: xs) := rfl
theorem bs_nil : evBs call [] Γ = .ok [] := rfl
theorem bs_cons (e : Ex) (es : List Ex) : evBs call (e :: es) Γ = borOr e (evE call e Γ) Γ >>= fun x => evBs call es Γ >>= fun xs => .ok (x :: xs) := rfl
def asO : D × Bool → Out (Option Int) := fun x => match x.1 with
  | .int i => .ok (some i)
  | _ => .bad
theorem asO_int (i : Int) (f : Bool) : asO (.int i, f) = .ok (some i) := rfl
theorem o_none : evO call none Γ = .ok none := rfl
theorem o_some (e : Ex) : evO call (some e) Γ = evE call e Γ >>= asO := rfl
theorem t_e (a : Ex) : evT call (.e a) Γ = borOr a (evE call a Γ) Γ >>= fun x => up (truD x.1) := rfl
theorem t_cmp (op : CmpOp) (a b : Ex) : evT call (.cmp op a b) Γ = borOr a (evE call a Γ) Γ >>= fun x => borOr b (evE call b Γ) Γ >>= fun y => up (cmpD op x.1 y.1) := rfl
theorem t_and (a b : Tx) : evT call (.and a b) Γ = evT call a Γ >>= ANDT call Γ b := rfl
theorem t_or (a b : Tx) : evT call (.or a b) Γ = evT call a Γ >>= ORT call Γ b := rfl
theorem t_not (a : Tx) : evT call (.not a) Γ = evT call a Γ >>= fun c => .ok (!c) := rfl
def inrD (neg : Bool) (x y : D) : Out Bool := match x, y with
  | .int i, .int j => .ok (xor neg (decide (0 ≤ i ∧ i < j)))
  | _, _ => .bad
theorem inr_int (neg : Bool) (i j : Int) : inrD neg (.int i) (.int j) = .ok (xor neg (decide (0 ≤ i ∧ i < j))) := rfl
theorem t_inr (neg : Bool) (a n : Ex) : evT call (.inr neg a n) Γ = evE call a Γ >>= fun x => evE call n Γ >>= fun y => inrD neg x.1 y.1 := rfl
theorem to_none : evTo call none Γ = .ok true := rfl
theorem to_some (t : Tx) : evTo call (some t) Γ = evT call t Γ := rfl
def asSeq (rev : Bool) : D × Bool → Out (List D) := fun x => match x.1.seq with
  | some ds => .ok (if rev then ds.reverse else ds)
  | none => .bad
theorem asSeq_tup (ds : List D) (f : Bool) : asSeq false (.tup ds, f) = .ok ds := rfl
theorem asSeq_lst (ds : List D) (f : Bool) : asSeq false (.lst ds, f) = .ok ds := rfl
theorem asSeq_fls (ds : List D) (f : Bool) : asSeq false (.fls ds, f) = .ok ds := rfl
theorem asSeq_of {x : D} {ds : List D} {f : Bool} (h : x.seq = some ds) : asSeq false (x, f) = .ok ds := by
  unfold asSeq
  simp only [h]
  rfl
theorem i_seq (e : Ex) : evI call (.seq e) Γ = evE call e Γ >>= asSeq false := by
  unfold evI
  refine congrArg (evE call e Γ >>= ·) (funext fun x => ?_)
  unfold asSeq
  cases x.1.seq <;> rfl
theorem i_rev (e : Ex) : evI call (.rev e) Γ = evE call e Γ >>= asSeq true := rfl
def asRng : D × Bool → Out (List D) := fun x => match x.1 with
  | .int j => if decide (-(2 ^ 62) ≤ j ∧ j < 2 ^ 62) then .ok (rngD 0 j) else .bad
  | _ => .bad
theorem asRng_nat (n : Nat) (h : n ≤ 16777216) (f : Bool) : asRng (.int n, f) = .ok ((List.range n).map fun i => D.int ((i : Nat) : Int)) := by
  have h2 : decide (-(2 ^ 62) ≤ (n : Int) ∧ (n : Int) < 2 ^ 62) = true := decide_eq_true (by omega)
  unfold asRng
  simp only [h2, ↓reduceIte, rng_nat]
theorem i_rng (e : Ex) : evI call (.rng e) Γ = evE call e Γ >>= asRng := rfl
def asRng2 (x y : D) : Out (List D) := match x, y with
    | .int i, .int j => if decide (-(2 ^ 62) ≤ i ∧ i < 2 ^ 62 ∧ -(2 ^ 62) ≤ j ∧ j < 2 ^ 62) then .ok (rngD i j) else .bad
    | _, _ => .bad
theorem i_rng2 (a b : Ex) : evI call (.rng2 a b) Γ = evE call a Γ >>= fun x => evE call b Γ >>= fun y => asRng2 x.1 y.1 := rfl
theorem s_nil : exSs call [] Γ = .ok (.nx, Γ) := rfl
theorem s_cons (s : Sx) (ss : List Sx) : exSs call (s :: ss) Γ = exS call s Γ >>= SEQ call ss := by
  unfold exSs
  refine congrArg (exS call s Γ >>= ·) (funext fun p => ?_)
  rcases p with ⟨c, Γ'⟩
  cases c <;> rfl
theorem seq_nx (ss : List Sx) : SEQ call ss (.nx, Γ) = exSs call ss Γ := rfl
theorem seq_rt (ss : List Sx) (d : D) (fl : Bool) : SEQ call ss (.rt d fl, Γ) = .ok (.rt d fl, Γ) := rfl
theorem seq_bk (ss : List Sx) : SEQ call ss (.bk, Γ) = .ok (.bk, Γ) := rfl
theorem seq_ct (ss : List Sx) : SEQ call ss (.ct, Γ) = .ok (.ct, Γ) := rfl
theorem x_set (g : Gx) (e : Ex) : exS call (.set g e) Γ = evE call e Γ >>= fun x => up (asg g x.1 Γ) >>= fun Γ' => .ok (.nx, Γ') := rfl
theorem x_own (i : Nat) (e : Ex) : exS call (.own i e) Γ = evE call e Γ >>= fun x => up (put Γ i x.1 x.2) >>= fun Γ' => .ok (.nx, Γ') := rfl
theorem x_ret (e : Ex) : exS call (.ret e) Γ = evE call e Γ >>= fun x => .ok (.rt x.1 x.2, Γ) := rfl
theorem x_retn : exS call .retn Γ = .ok (.rt .non false, Γ) := rfl
theorem x_retv (i : Nat) : exS call (.retv i) Γ = look Γ i >>= fun x => .ok (.rt x.1 x.2, Γ) := rfl
theorem x_ifs (t : Tx) (a b : List Sx) : exS call (.ifs t a b) Γ = evT call t Γ >>= IFS call Γ a b := rfl
theorem x_fors (g : Gx) (it : Ix) (body : List Sx) : exS call (.fors g it body) Γ = evI call it Γ >>= FOR call Γ g body := rfl
theorem x_whl (t : Tx) (body : List Sx) : exS call (.whl t body) Γ = WHL call Γ t body := rfl
theorem x_app (i : Nat) (e : Ex) : exS call (.app i e) Γ = ownL (look Γ i) >>= fun ds => evE call e Γ >>= fun x => if ds.length < sizeLine then .ok (.nx, Γ.set i (some (.lst (ds ++ [x.1]), true))) else .bad := rfl
theorem x_frz (i : Nat) : exS call (.frz i) Γ = look Γ i >>= fun x => .ok (.nx, Γ.set i (some (x.1, false))) := rfl
theorem x_aug (i : Nat) (op : Operator) (e : Ex) : exS call (.aug i op e) Γ = lookV Γ i >>= fun x => evE call e Γ >>= fun y => up (augD op x.1 y.1) >>= fun z => up (put Γ i z false) >>= fun Γ' => .ok (.nx, Γ') := rfl
theorem x_pass : exS call .pass Γ = .ok (.nx, Γ) := rfl
theorem x_brk : exS call .brk Γ = .ok (.bk, Γ) := rfl
theorem x_cont : exS call .cont Γ = .ok (.ct, Γ) := rfl
def seti_ (i : Nat) (ds : List D) (d : D) : D × Bool → Out (Ctl × En) := fun y => match y.1 with
    | .int j => match ixN ds.length j with
      | some n => if ds.all nl then .ok (.nx, Γ.set i (some (.lst (ds.set n d), true))) else .bad
      | none => .bad
    | _ => .bad
theorem x_seti (i : Nat) (k e : Ex) : exS call (.seti i k e) Γ = evE call e Γ >>= fun x => ownL (look Γ i) >>= fun ds => evE call k Γ >>= seti_ Γ i ds x.1 := rfl
theorem ifs_true (a b : List Sx) : IFS call Γ a b true = exSs call a Γ := rfl
theorem ifs_false (a b : List Sx) : IFS call Γ a b false = exSs call b Γ := rfl
theorem ife_true (a b : Ex) : IFE call Γ a b true = evE call a Γ := rfl
theorem ife_false (a b : Ex) : IFE call Γ a b false = evE call b Γ := rfl
theorem and_t (b : Ex) (f : Bool) : ANDE call Γ b (.bl true, f) = evE call b Γ := rfl
theorem and_f (b : Ex) (f : Bool) : ANDE call Γ b (.bl false, f) = .ok (.bl false, false) := rfl
theorem or_t (b : Ex) (f : Bool) : ORE call Γ b (.bl true, f) = .ok (.bl true, false) := rfl
theorem or_f (b : Ex) (f : Bool) : ORE call Γ b (.bl false, f) = evE call b Γ := rfl
theorem andt_t (b : Tx) : ANDT call Γ b true = evT call b Γ := rfl
theorem andt_f (b : Tx) : ANDT call Γ b false = .ok false := rfl
theorem ort_t (b : Tx) : ORT call Γ b true = .ok true := rfl
theorem ort_f (b : Tx) : ORT call Γ b false = evT call b Γ := rfl
theorem p_ifs {a b : List Sx} {c : Bool} {Q : Ctl × En → Prop} (h1 : c = true → OkP (exSs call a Γ) Q) (h2 : c = false → OkP (exSs call b Γ) Q) : OkP (IFS call Γ a b c) Q := by
  cases c
  · exact h2 rfl
  · exact h1 rfl
theorem p_ife {a b : Ex} {c : Bool} {Q : D × Bool → Prop} (h1 : c = true → OkP (evE call a Γ) Q) (h2 : c = false → OkP (evE call b Γ) Q) : OkP (IFE call Γ a b c) Q := by
  cases c
  · exact h2 rfl
  · exact h1 rfl
theorem p_and {b : Ex} {c f : Bool} {Q : D × Bool → Prop} (h1 : c = true → OkP (evE call b Γ) Q) (h2 : c = false → Q (.bl false, false)) : OkP (ANDE call Γ b (.bl c, f)) Q := by
  cases c
  · exact okp_ok.mpr (h2 rfl)
  · exact h1 rfl
theorem p_or {b : Ex} {c f : Bool} {Q : D × Bool → Prop} (h1 : c = false → OkP (evE call b Γ) Q) (h2 : c = true → Q (.bl true, false)) : OkP (ORE call Γ b (.bl c, f)) Q := by
  cases c
  · exact h1 rfl
  · exact okp_ok.mpr (h2 rfl)
theorem p_andt {b : Tx} {c : Bool} {Q : Bool → Prop} (h1 : c = true → OkP (evT call b Γ) Q) (h2 : c = false → Q false) : OkP (ANDT call Γ b c) Q := by
  cases c
  · exact okp_ok.mpr (h2 rfl)
  · exact h1 rfl
theorem p_ort {b : Tx} {c : Bool} {Q : Bool → Prop} (h1 : c = false → OkP (evT call b Γ) Q) (h2 : c = true → Q true) : OkP (ORT call Γ b c) Q := by
  cases c
  · exact h1 rfl
  · exact okp_ok.mpr (h2 rfl)
variable {call Γ}
theorem lcp {α : Type} {own : List Nat} {g : Gx} {t : Option Tx} {e : Ex} {xs : List α} (f : α → D) (p : α → Bool) (h : α → D) (H : ∀ x ∈ xs, ∃ Γ1, asg g (f x) (wipeE Γ own) = some Γ1 ∧ OkP (evTo call t Γ1) (fun b => b = p x) ∧ (p x = true → OkP (evE call e Γ1) fun r => r.1 = h x)) :
    LC call Γ own g t e (xs.map f) = .ok ((xs.filter p).map h) := by
  unfold LC
  rw [lc_map f p h xs fun x hx => ?_]
  · rfl
  · obtain ⟨Γ1, e1, e2, e3⟩ := H x hx
    refine ⟨Γ1, e1, okp_eq e2, fun hp => ?_⟩
    obtain ⟨⟨d, fl⟩, e4, e5⟩ := e3 hp
    subst e5
    exact ⟨fl, e4⟩
theorem lca {α : Type} {own : List Nat} {g : Gx} {e : Ex} {xs : List α} (f : α → D) (h : α → D) (H : ∀ x ∈ xs, ∃ Γ1, asg g (f x) (wipeE Γ own) = some Γ1 ∧ OkP (evE call e Γ1) fun r => r.1 = h x) :
    LC call Γ own g none e (xs.map f) = .ok (xs.map h) := by
  rw [lcp f (fun _ => true) h fun x hx => ?_, List.filter_eq_self.mpr (fun _ _ => rfl)]
  obtain ⟨Γ1, e1, e2⟩ := H x hx
  exact ⟨Γ1, e1, by rw [to_none, okp_ok], fun _ => e2⟩
theorem p_for {α : Type} {g : Gx} {body : List Sx} {Q : Ctl × En → Prop} {xs : List α} {f : α → D} (P : Nat → En → Prop) (h0 : P 0 Γ) (hs : ∀ i x Γ, xs[i]? = some x → P i Γ → ∃ Γ1, asg g (f x) Γ = some Γ1 ∧ OkP (exSs call body Γ1) (ForP (P (i + 1)) Q))
    (he : ∀ Γ, P xs.length Γ → Q (.nx, Γ)) : OkP (FOR call Γ g body (xs.map f)) Q := okp_for P h0 hs he
end
theorem callOr_val {as : List (D × Bool)} {r : R} {d : D} {fl : Bool} (h : r = .ok (d, fl)) (ha : as.all (fun a => !a.2) = true) : callOr as r = .ok (d, fl) := by
  unfold callOr
  rw [h, ok_bind, ha]
  rfl
theorem callOr_pure {as : List (D × Bool)} {r : R} {d : D} {fl : Bool} (h : r = .ok (d, fl)) (ha : pureD d = true) : callOr as r = .ok (d, fl) := by
  unfold callOr
  rw [h, ok_bind, ha, Bool.or_true]
  rfl
theorem bd_int (x : D) (f : Bool) : bltD .int [(x, f)] = fInt x := rfl
theorem bd_abs (x : D) (f : Bool) : bltD .abs [(x, f)] = fAbs x := rfl
theorem bd_len (x : D) (f : Bool) : bltD .len [(x, f)] = fLen x := rfl
theorem bd_list (x : D) (f : Bool) : bltD .list [(x, f)] = fList x f := rfl
theorem bd_tuple (x : D) (f : Bool) : bltD .tuple [(x, f)] = fTuple x f := rfl
theorem bd_sorted (x : D) (f : Bool) : bltD .sorted [(x, f)] = fSorted x := rfl
theorem bd_sortedSet (x : D) (f : Bool) : bltD .sortedSet [(x, f)] = fSortedSet x := rfl
theorem bd_any (x : D) (f : Bool) : bltD .any [(x, f)] = fAny x := rfl
theorem bd_all (x : D) (f : Bool) : bltD .all [(x, f)] = fAll x := rfl
theorem bd_sum (x : D) (f : Bool) : bltD .sum [(x, f)] = fSum x := rfl
theorem bd_isi (t : Ty) (x : D) (f : Bool) : bltD (.isi t) [(x, f)] = some (.bl (tyIs t x), false) := rfl
theorem bd_listRange (x : D) (f : Bool) : bltD .listRange [(x, f)] = fListRange x := rfl
theorem bd_min (x y : D) (f g : Bool) : bltD .min2 [(x, f), (y, g)] = fMin2 x y := rfl
theorem bd_max (x y : D) (f g : Bool) : bltD .max2 [(x, f), (y, g)] = fMax2 x y := rfl
theorem f_int (i : Int) : fInt (.int i) = some (.int i, false) := rfl
theorem f_abs (i : Int) : fAbs (.int i) = some (.int (if i < 0 then -i else i), false) := rfl
theorem f_lenT (ds : List D) : fLen (.tup ds) = some (.int ds.length, false) := rfl
theorem f_lenL (ds : List D) : fLen (.lst ds) = some (.int ds.length, false) := rfl
theorem f_lenF (ds : List D) : fLen (.fls ds) = some (.int ds.length, false) := rfl
theorem f_tuple {x : D} {ds : List D} {f : Bool} (h : x.seq = some ds) (e : eok f ds = true) : fTuple x f = some (.tup ds, false) := by
  unfold fTuple
  simp only [h, e, ↓reduceIte]
  rfl
theorem f_list {x : D} {ds : List D} {f : Bool} (h : x.seq = some ds) (e : eok f ds = true) : fList x f = some (.lst ds, true) := by
  unfold fList
  simp only [h, e, ↓reduceIte]
theorem f_all {α : Type} (l : List α) (f : α → Bool) : fAll (.lst (l.map fun x => D.bl (f x))) = some (.bl (l.all f), false) := by
  have e := bls_of (l.map f)
  rw [List.map_map] at e
  have e : blsOf (l.map fun x => D.bl (f x)) = some (l.map f) := e
  show (match blsOf (l.map fun x => D.bl (f x)) with
    | some bs => pbO (.bl (bs.all id))
    | none => none) = _
  rw [e]
  simp only [pbO, List.all_map, Function.comp_def, id]
theorem f_any {α : Type} (l : List α) (f : α → Bool) : fAny (.lst (l.map fun x => D.bl (f x))) = some (.bl (l.any f), false) := by
  have e := bls_of (l.map f)
  rw [List.map_map] at e
  have e : blsOf (l.map fun x => D.bl (f x)) = some (l.map f) := e
  show (match blsOf (l.map fun x => D.bl (f x)) with
    | some bs => pbO (.bl (bs.any id))
    | none => none) = _
  rw [e]
  simp only [pbO, List.any_map, Function.comp_def, id]
theorem f_sortedSet {x : D} (l : List Int) (h : x.seq = some (l.map D.int)) (hl : l.length < 64) : fSortedSet x = some (.lst ((usort l).map D.int), true) := by
  unfold fSortedSet
  simp only [h, ints_of, hl, ↓reduceIte]
theorem ix_at {x : D} {ds : List D} {d : D} {f : Bool} (k : Nat) (hs : x.seq = some ds) (h : ds[k]? = some d) (hn : f = false ∨ nl d = true) : ixD x f (.int k) = some (d, false) :=
  ix_seq f hs (Int.natCast_nonneg k) (by rw [Int.toNat_natCast]; exact h) hn
theorem ix_map {α : Type} {x : D} {l : List α} {g : α → D} {y : α} {f : Bool} (k : Nat) (hs : x.seq = some (l.map g)) (h : l[k]? = some y) (hn : f = false ∨ nl (g y) = true) : ixD x f (.int k) = some (g y, false) :=
  ix_at k hs (by rw [List.getElem?_map, h]; rfl) hn
theorem ix_mapI {α : Type} {x : D} {l : List α} {g : α → D} {y : α} {f : Bool} {k : Int} (hk : 0 ≤ k) (hs : x.seq = some (l.map g)) (h : l[k.toNat]? = some y) (hn : f = false ∨ nl (g y) = true) : ixD x f (.int k) = some (g y, false) :=
  ix_seq f hs hk (by rw [List.getElem?_map, h]; rfl) hn
theorem tr_bl (b : Bool) : truD (.bl b) = some b := rfl
theorem tr_lst (ds : List D) : truD (.lst ds) = some (!ds.isEmpty) := rfl
theorem tr_tup (ds : List D) : truD (.tup ds) = some (!ds.isEmpty) := rfl
theorem own_lst (ds : List D) : ownL (.ok (.lst ds, true)) = .ok ds := rfl
theorem if_sz {α : Type} {n : Nat} {a b : α} (h : n ≤ 16777216) : (if szOk n = true then a else b) = a := if_pos (sz h)
theorem if_szb {α : Type} {n : Nat} {c : Bool} {a b : α} (h : n ≤ 16777216) (hc : c = true) : (if (szOk n && c) = true then a else b) = a := if_pos (by rw [sz h, hc]; rfl)
theorem if_app {α : Type} {n : Nat} {a b : α} (h : n < 16777216) : (if n < sizeLine then a else b) = a := if_pos (by rw [sizeLine_eq]; exact h)
/-- a comprehension whose answers are known by what is true of them alone -/
theorem lcx {α β : Type} {call : Str → List D → R} {Γ : En} {own : List Nat} {g : Gx} {e : Ex} (f : α → D) (k : β → D) (S : α → β → Prop) : ∀ (xs : List α), (∀ x ∈ xs, ∃ Γ1, asg g (f x) (wipeE Γ own) = some Γ1 ∧ ∃ y, S x y ∧ OkP (evE call e Γ1) fun r => r.1 = k y) →
    ∃ ys : List β, LC call Γ own g none e (xs.map f) = .ok (ys.map k) ∧ ys.length = xs.length ∧ ∀ (i : Nat) (x : α), xs[i]? = some x → ∃ y, ys[i]? = some y ∧ S x y
  | [], _ => ⟨[], rfl, rfl, fun i x h => by simp at h⟩
  | x :: xs, H => by
    obtain ⟨ys, e1, e2, e3⟩ := lcx f k S xs fun y hy => H y (by simp [hy])
    obtain ⟨Γ1, h1, y, hS, ⟨d, fl⟩, h2, h3⟩ := H x (by simp)
    subst h3
    refine ⟨y :: ys, ?_, by simp [e2], fun i z hz => ?_⟩
    · unfold LC at e1 ⊢
      rw [List.map_cons]
      unfold lcOp
      rw [h1, up_some, ok_bind, to_none, ok_bind, if_pos rfl, h2, ok_bind]
      cases q : lcOp (asg g) (evTo call none) (evE call e) (wipeE Γ own) (xs.map f) with
      | ok r => rw [q, noX_ok] at e1; cases e1; rfl
      | exc z => rw [q] at e1; cases e1
      | bad => rw [q] at e1; cases e1
    · cases i with
      | zero => simp at hz; subst hz; exact ⟨y, rfl, hS⟩
      | succ i => exact e3 i z (by simpa using hz)
end Cr
end

section
set_option maxHeartbeats 4000000
/-! More of the evaluator at data. -/
namespace Cr
open PySem PySem.Spec PyProof.Rows L2
theorem okp_ex {α β : Type} {o : Out α} {k : β → α} {S : β → Prop} (h : OkP o fun p => ∃ r, p = k r ∧ S r) : ∃ r, o = .ok (k r) ∧ S r := by
  obtain ⟨a, e, r, rfl, hs⟩ := h
  exact ⟨r, e, hs⟩
theorem sIx_n (n d k : Nat) : HT.sIx n d (some (k : Int)) = min k n := by
  show (if (k : Int) < 0 then ((k : Int) + (n : Int)).toNat else min (k : Int).toNat n) = min k n
  rw [if_neg (by omega), Int.toNat_natCast]
theorem cut_to (ds : List D) (k : Nat) : cutD ds none (some (k : Int)) = ds.take k := by
  unfold cutD
  rw [sIx_n]
  show (ds.drop 0).take (min k ds.length - 0) = _
  rw [List.drop_zero, Nat.sub_zero]
  by_cases h : k ≤ ds.length
  · rw [Nat.min_eq_left h]
  · rw [Nat.min_eq_right (by omega), List.take_length, List.take_of_length_le (by omega)]
theorem cut_from (ds : List D) (k : Nat) : cutD ds (some (k : Int)) none = ds.drop k := by
  unfold cutD
  rw [sIx_n]
  show (ds.drop (min k ds.length)).take (ds.length - min k ds.length) = _
  by_cases h : k ≤ ds.length
  · rw [Nat.min_eq_left h, List.take_of_length_le (by rw [List.length_drop]; omega)]
  · rw [Nat.min_eq_right (by omega), List.drop_length, List.take_nil, List.drop_of_length_le (by omega)]
theorem sl_to (ds : List D) (f : Bool) (k : Nat) : slcD (.tup ds) f none (some (k : Int)) = some (.tup (ds.take k), false) := by
  show pbO (.tup (cutD ds none (some (k : Int)))) = _
  rw [cut_to]; rfl
theorem sl_from (ds : List D) (f : Bool) (k : Nat) : slcD (.tup ds) f (some (k : Int)) none = some (.tup (ds.drop k), false) := by
  show pbO (.tup (cutD ds (some (k : Int)) none)) = _
  rw [cut_from]; rfl
theorem sl_toL (ds : List D) (f : Bool) (k : Nat) (h : eok f ds = true) : slcD (.lst ds) f none (some (k : Int)) = some (.lst (ds.take k), true) := by
  show (if eok f ds then some (D.lst (cutD ds none (some (k : Int))), true) else none) = _
  rw [if_pos h, cut_to]
theorem sl_fromL (ds : List D) (f : Bool) (k : Nat) (h : eok f ds = true) : slcD (.lst ds) f (some (k : Int)) none = some (.lst (ds.drop k), true) := by
  show (if eok f ds then some (D.lst (cutD ds (some (k : Int)) none), true) else none) = _
  rw [if_pos h, cut_from]
theorem sl_toF (ds : List D) (f : Bool) (k : Nat) (h : eok f ds = true) : slcD (.fls ds) f none (some (k : Int)) = some (.lst (ds.take k), true) := by
  show (if eok f ds then some (D.lst (cutD ds none (some (k : Int))), true) else none) = _
  rw [if_pos h, cut_to]
/-- one entry of a row exchanged -/
theorem set_eq {α : Type} (l : List α) (k : Nat) (x : α) (h : k < l.length) : l.take k ++ [x] ++ l.drop (k + 1) = l.set k x := by
  rw [List.set_eq_take_append_cons_drop, if_pos h, List.append_assoc, List.singleton_append]
end Cr
end

section
open PySem PySem.Spec PyProof.Rows L2 Cr
local macro_rules | `(tactic| walk_at "cr.ev") => `(tactic| simp -implicitDefEqProofs only [env0, e_var, e_non, e_bl, e_int, e_str, e_glob, e_bin, e_not, e_cmp, e_and, e_or, e_ife, e_tup, e_lst, e_ix, e_slc, e_call, e_blt, e_lc, e_ssc, e_rvs, v_nil, v_cons, a_nil, a_cons, bs_nil, bs_cons, asO_int, o_none, o_some, t_e, t_cmp, t_and, t_or, t_not, t_inr, inr_int, to_none, to_some, asSeq_tup, asSeq_lst, asSeq_fls, i_seq, i_rev, i_rng, i_rng2, s_nil, s_cons, seq_nx, seq_rt, seq_bk, seq_ct, x_set, x_own, x_ret, x_retn, x_retv, x_ifs, x_fors, x_whl, x_app, x_frz, x_aug, x_pass, x_brk, x_cont, x_seti, ifs_true, ifs_false, ife_true, ife_false, and_t, and_f, or_t, or_f, andt_t, andt_f, ort_t, ort_f, ForP, RtP, borOr, argOr, isBor, lookV, look, put, asg, asgs, pb, pbO, up_some, up_none, ok_bind, okp_ok, okp_bind, okp_bad, List.getElem?_cons_zero, List.getElem?_cons_succ, List.set_cons_zero, List.set_cons_succ, List.length_cons, List.length_nil, List.map_cons, List.map_nil, List.cons_append, List.nil_append, List.length_map, List.replicate_succ, List.replicate_zero, wipeE, List.length_replicate, bd_int, bd_abs, bd_len, bd_list, bd_tuple, bd_sorted, bd_sortedSet, bd_any, bd_all, bd_sum, bd_isi, bd_listRange, bd_min, bd_max, f_int, f_abs, f_lenT, f_lenL, f_lenF, f_all, f_any, tr_bl, tr_lst, tr_tup, own_lst, Nat.reduceSub, Nat.reduceAdd, Nat.reduceLT, Nat.reduceLeDiff, Nat.zero_lt_succ, ↓reduceIte, b_add, b_sub, k_lt, k_le, k_gt, k_ge, k_eq, k_ne, k_eqB, k_neB, Gx.within, gWithin, List.contains_cons, beq_self_eq_true, Bool.true_or, Bool.and_true, Bool.true_and, Bool.and_self, Bool.not_true, Bool.not_false, List.elem_cons, List.contains_eq_mem, List.mem_cons, true_or, or_true, decide_true, Bool.false_eq_true, if_false, exists_eq_left', Option.some.injEq])
local macro_rules | `(tactic| walk_at "cr.om") => `(tactic| first | omega | (simp only [List.length_map, List.length_range, List.length_append, List.length_singleton, List.length_take, List.length_drop]; omega) | (simp; omega))
section
set_option maxHeartbeats 4000000
/-! Helpers that several laws share: drawn numbers. -/
namespace Cr
open PySem PySem.Spec PyProof.Rows L2
theorem rng_at {n i x : Nat} (h : (List.range n)[i]? = some x) : x = i ∧ i < n := by
  have := (List.getElem?_eq_some_iff.mp h).1
  rw [List.length_range] at this
  rw [List.getElem?_range this] at h
  exact ⟨(Option.some.inj h).symm, this⟩
theorem ixN_in {n : Nat} {j : Int} (h0 : 0 ≤ j) (h1 : j < n) : ixN n j = some j.toNat := by
  unfold ixN
  rw [if_pos h0, if_pos h1]
theorem seti_ok {Γ : En} {i : Nat} {ds : List D} {d : D} {j : Int} {f : Bool} (h0 : 0 ≤ j) (h1 : j < ds.length) (hn : ds.all nl = true) : seti_ Γ i ds d (.int j, f) = .ok (.nx, Γ.set i (some (.lst (ds.set j.toNat d), true))) := by
  unfold seti_
  simp only [ixN_in h0 h1, hn, ↓reduceIte]
theorem all_nl {α : Type} (l : List α) (g : α → D) (h : ∀ x, nl (g x) = true) : (l.map g).all nl = true := by
  rw [List.all_eq_true]
  intro x hx
  obtain ⟨y, _, rfl⟩ := List.mem_map.mp hx
  exact h y
/-- the draws: as many numbers below 1000 as asked -/
def drawsBody : List Sx := [
  .own 2 (.lc [6] (.nm 6) (.seq (.slc (.var 0) none (some (.int 63)))) none (.blt .abs [.blt .int [.var 6]])),
  .ifs (.cmp .Eq (.blt .len [.bor 2]) (.int 0)) [.own 2 (.lst [.int 0])] [],
  .own 3 (.lst []),
  .fors (.nm 4) (.rng (.var 1)) [.set (.nm 5) (.bin .Mod (.blt .int [.var 4]) (.blt .len [.bor 2])), .set (.nm 6) (.ix (.bor 2) (.var 5)), .ifs (.cmp .GtE (.var 6) (.int 1000000000000000000)) [.app 3 (.bin .Mod (.blt .int [.var 6]) (.int 1000)), .seti 2 (.var 5) (.bin .FloorDiv (.var 6) (.int 1000))] [.set (.nm 7) (.bin .Mod (.blt .int [.bin .Add (.bin .Add (.bin .Mult (.var 6) (.int 48271)) (.bin .Mult (.var 4) (.int 69621))) (.int 11)]) (.int 2147483647)), .set (.nm 7) (.bin .Mod (.blt .int [.bin .Add (.bin .Add (.bin .Mult (.var 7) (.int 16807)) (.bin .FloorDiv (.var 6) (.int 7))) (.bin .Mult (.bin .Mult (.var 4) (.var 4)) (.int 40014))]) (.int 2147483563)), .set (.nm 7) (.bin .Mod (.blt .int [.bin .Add (.bin .Mult (.var 7) (.bin .Add (.bin .Add (.bin .FloorDiv (.var 7) (.int 1024)) (.var 4)) (.int 1))) (.var 6)]) (.int 2147483629)), .app 3 (.bin .Mod (.blt .int [.bin .FloorDiv (.var 7) (.int 37)]) (.int 1000))]],
  .retv 3]
def Below (m : Int) (ds : List Int) : Prop := ∀ d ∈ ds, 0 ≤ d ∧ d < m
theorem draws_ok (call : Str → List D → R) (ns : List Int) (h63 : ns.length ≤ 63) (k : Nat) (hk : k ≤ 1000) :
    OkP (exSs call drawsBody (env0 ⟨"_law_draws", 2, 8, drawsBody⟩ [.fls (ns.map D.int), .int k])) (RtP fun p => ∃ ds : List Int, p = (.lst (ds.map D.int), true) ∧ ds.length = k ∧ Below 1000 ds) := by
  unfold drawsBody
  walk_at "cr.ev"
  rw [show (63 : Int) = ((63 : Nat) : Int) from rfl, sl_toF _ _ _ rfl, ← List.map_take, List.take_of_length_le h63]
  walk_at "cr.ev"
  rw [lca (f := D.int) (h := fun x => .int (if x < 0 then -x else x))]
  rotate_left
  · intro x hx
    walk_at "cr.ev"
  walk_at "cr.ev"
  rw [if_sz (by walk_at "cr.om")]
  walk_at "cr.ev"
  refine OkP.mono (Q := fun b => ∃ cells : List Int, b = (.nx, [some (.fls (ns.map D.int), false), some (.int k, false), some (.lst (cells.map D.int), true), none, none, none, none, none]) ∧ 0 < cells.length ∧ cells.length ≤ 63 ∧ ∀ c ∈ cells, 0 ≤ c) ?_ ?_
  · refine p_ifs _ _ (fun h1 => ?_) fun h1 => ?_
    · walk_at "cr.ev"
      rw [if_sz (by decide)]
      walk_at "cr.ev"
      exact ⟨[0], rfl, by decide, by decide, fun c hc => by rw [List.mem_singleton.mp hc]; decide⟩
    · walk_at "cr.ev"
      refine ⟨ns.map fun x => if x < 0 then -x else x, by rw [List.map_map]; rfl, ?_, by walk_at "cr.om", fun c hc => ?_⟩
      · have := of_decide_eq_false h1
        walk_at "cr.om"
      · obtain ⟨x, _, rfl⟩ := List.mem_map.mp hc
        split <;> omega
  · rintro b ⟨cells0, rfl, p1, p2, p3⟩
    walk_at "cr.ev"
    rw [if_sz (by decide)]
    walk_at "cr.ev"
    rw [asRng_nat _ (by omega)]
    walk_at "cr.ev"
    refine p_for (f := fun i : Nat => D.int i) (fun i Γ => ∃ d4 d5 d6 d7 cells draws, Γ = [some (.fls (ns.map D.int), false), some (.int k, false), some (.lst (cells.map D.int), true), some (.lst (draws.map D.int), true), d4, d5, d6, d7] ∧ 0 < cells.length ∧ cells.length ≤ 63 ∧ (∀ c ∈ cells, 0 ≤ c) ∧ draws.length = i ∧ Below 1000 draws)
      ⟨none, none, none, none, cells0, [], rfl, p1, p2, p3, rfl, fun d h => by cases h⟩ ?_ ?_
    · rintro i x Γ hx ⟨d4, d5, d6, d7, cells, draws, rfl, c1, c2, c3, l1, l2⟩
      obtain ⟨rfl, hi⟩ := rng_at hx
      have add : ∀ d : Int, 0 ≤ d ∧ d < 1000 → Below 1000 (draws ++ [d]) := fun d hd e he => by
        rcases List.mem_append.mp he with q | q
        · exact l2 e q
        · rw [List.mem_singleton.mp q]; exact hd
      walk_at "cr.ev"
      rw [b_mod (by omega)]
      walk_at "cr.ev"
      have a0 : 0 ≤ (x : Int) % (cells.length : Int) := Int.emod_nonneg _ (by omega)
      have a1 : (x : Int) % (cells.length : Int) < cells.length := Int.emod_lt_of_pos _ (by omega)
      generalize (x : Int) % (cells.length : Int) = at_ at a0 a1 ⊢
      have ec : cells[at_.toNat]? = some cells[at_.toNat] := List.getElem?_eq_getElem (by omega)
      have cc := c3 _ (List.mem_of_getElem? ec)
      generalize cells[at_.toNat] = cell at ec cc
      rw [ix_mapI (g := D.int) a0 rfl ec (.inr rfl)]
      walk_at "cr.ev"
      refine p_ifs _ _ (fun h1 => ?_) fun h1 => ?_
      · walk_at "cr.ev"
        rw [b_mod (by decide)]
        walk_at "cr.ev"
        rw [if_app (by walk_at "cr.om")]
        walk_at "cr.ev"
        rw [b_div (by decide)]
        walk_at "cr.ev"
        rw [seti_ok a0 (by walk_at "cr.om") (all_nl _ _ fun _ => rfl)]
        walk_at "cr.ev"
        refine ⟨_, _, _, _, cells.set at_.toNat (cell / 1000), draws ++ [cell % 1000], by rw [List.map_set, List.map_append]; rfl, by rw [List.length_set]; exact c1, by rw [List.length_set]; exact c2, fun c hc => ?_, by walk_at "cr.om", add _ ⟨by omega, by omega⟩⟩
        rcases List.mem_or_eq_of_mem_set hc with q | q
        · exact c3 c q
        · rw [q]; omega
      · have h1 := of_decide_eq_false h1
        have m1 : ∀ (j : Int) (h : 0 < j ∧ j < 1000000) (i : Int) (f g : Bool), binD .Mult (.int i) f (.int j) g = some (.int (i * j), false) := fun j h i f g => b_mul (.inr ⟨by omega, by omega⟩)
        walk_at "cr.ev"
        rw [m1 48271 (by decide), m1 69621 (by decide)]
        walk_at "cr.ev"
        rw [b_mod (by decide)]
        walk_at "cr.ev"
        generalize (cell * 48271 + (x : Int) * 69621 + 11) % 2147483647 = mixed
        rw [m1 16807 (by decide), b_div (by decide)]
        walk_at "cr.ev"
        rw [b_mul (i := (x : Int)) (j := (x : Int)) (.inl ⟨by omega, by omega⟩)]
        walk_at "cr.ev"
        rw [m1 40014 (by decide)]
        walk_at "cr.ev"
        rw [b_mod (by decide)]
        walk_at "cr.ev"
        have z1 : 0 ≤ (mixed * 16807 + cell / 7 + (x : Int) * (x : Int) * 40014) % 2147483563 := Int.emod_nonneg _ (by decide)
        have z2 : (mixed * 16807 + cell / 7 + (x : Int) * (x : Int) * 40014) % 2147483563 < 2147483563 := Int.emod_lt_of_pos _ (by decide)
        generalize (mixed * 16807 + cell / 7 + (x : Int) * (x : Int) * 40014) % 2147483563 = mixed2 at z1 z2 ⊢
        rw [b_div (by decide)]
        walk_at "cr.ev"
        rw [b_mul (.inl ⟨by omega, by omega⟩)]
        walk_at "cr.ev"
        rw [b_mod (by decide)]
        walk_at "cr.ev"
        rw [b_div (by decide)]
        walk_at "cr.ev"
        rw [b_mod (by decide)]
        walk_at "cr.ev"
        rw [if_app (by walk_at "cr.om")]
        walk_at "cr.ev"
        exact ⟨_, _, _, _, cells, _, by rw [List.map_append]; rfl, c1, c2, c3, by walk_at "cr.om", add _ ⟨by omega, by omega⟩⟩
    · rintro Γ ⟨d4, d5, d6, d7, cells, draws, rfl, c1, c2, c3, l1, l2⟩
      walk_at "cr.ev"
      exact ⟨draws, rfl, by rw [l1, List.length_range], l2⟩
end Cr
end

section
set_option maxHeartbeats 4000000
namespace K50
open PySem PySem.Spec PyProof.Rows L2 Cr

def fd_worths_seen : Fd := ⟨"worths_seen", 2, 4, [
  .ret (.lc [2] (.nm 2) (.rng (.blt .len [.ix (.var 0) (.int 0)])) none (.blt .tuple [.ssc [3] (.nm 3) (.seq (.var 1)) none (.ix (.ix (.var 0) (.var 3)) (.var 2))]))]⟩

def fd_holds : Fd := ⟨"holds", 2, 3, [
  .ret (.blt .all [.lc [2] (.nm 2) (.rng (.blt .len [.var 0])) none (.or (.cmp .Is (.ix (.var 0) (.var 2)) (.non)) (.cmp .Eq (.ix (.var 0) (.var 2)) (.ix (.var 1) (.var 2))))])]⟩

def fd_circuit_tells : Fd := ⟨"circuit_tells", 2, 3, [
  .ret (.blt .any [.lc [2] (.nm 2) (.seq (.var 0)) none (.call "holds" [.var 2, .var 1])])]⟩

def fd_failing_at : Fd := ⟨"failing_at", 3, 6, [
  .set (.nm 3) (.ix (.var 1) (.ix (.var 2) (.int 0))),
  .fors (.nm 4) (.rng (.blt .len [.var 0])) [.fors (.nm 5) (.seq (.var 2)) [.ifs (.and (.cmp .IsNot (.ix (.var 0) (.var 4)) (.non)) (.cmp .NotEq (.ix (.ix (.var 1) (.var 5)) (.var 4)) (.ix (.var 0) (.var 4)))) [.ret (.bin .Add (.bin .Add (.slc (.var 3) none (some (.var 4))) (.tup [.ix (.ix (.var 1) (.var 5)) (.var 4)])) (.slc (.var 3) (some (.bin .Add (.var 4) (.int 1))) none))] []]],
  .ret (.non)]⟩

def fd_holding_at : Fd := ⟨"holding_at", 3, 7, [
  .set (.nm 3) (.call "worths_seen" [.var 1, .var 2]),
  .own 4 (.lst []),
  .fors (.nm 5) (.rng (.blt .len [.var 0])) [.set (.nm 6) (.ix (.var 0) (.var 5)), .ifs (.cmp .Is (.var 6) (.non)) [.set (.nm 6) (.ix (.ix (.var 3) (.var 5)) (.int 0))] [], .ifs (.cmp .NotIn (.var 6) (.ix (.var 3) (.var 5))) [.ret (.non)] [], .app 4 (.var 6)],
  .ret (.blt .tuple [.bor 4])]⟩

def fd_silent_readings : Fd := ⟨"silent_readings", 3, 6, [
  .set (.nm 3) (.lc [4] (.nm 4) (.seq (.var 0)) none (.call "failing_at" [.var 4, .var 1, .var 2])),
  .ifs (.e (.blt .all [.lc [5] (.nm 5) (.seq (.var 3)) none (.cmp .IsNot (.var 5) (.non))])) [.ret (.blt .tuple [.var 3])] [],
  .ret (.non)]⟩

def fd_false_readings : Fd := ⟨"false_readings", 3, 5, [
  .fors (.nm 3) (.seq (.var 0)) [.set (.nm 4) (.call "holding_at" [.var 3, .var 1, .var 2]), .ifs (.cmp .IsNot (.var 4) (.non)) [.ret (.bin .Mult (.tup [.var 4]) (.blt .len [.var 0]))] []],
  .ret (.non)]⟩

def fd_unsteady_course : Fd := ⟨"unsteady_course", 4, 9, [
  .fors (.nm 4) (.rng (.blt .len [.var 2])) [.set (.nm 5) (.ix (.var 2) (.var 4)), .set (.nm 6) (.lc [8] (.nm 8) (.seq (.var 5)) (some (.cmp .In (.var 8) (.var 3))) (.var 8)), .set (.nm 7) (.non), .ifs (.cmp .Eq (.blt .len [.var 6]) (.blt .len [.var 5])) [.set (.nm 7) (.call "silent_readings" [.var 0, .var 1, .var 5])] [.ifs (.not (.e (.var 6))) [.set (.nm 7) (.call "false_readings" [.var 0, .var 1, .var 5])] []], .ifs (.cmp .IsNot (.var 7) (.non)) [.ret (.tup [.var 4, .var 7])] []],
  .ret (.non)]⟩

def fd_is_steady : Fd := ⟨"is_steady", 4, 4, [
  .ret (.cmp .Is (.call "unsteady_course" [.var 0, .var 1, .var 2, .var 3]) (.non))]⟩

def fd__law_draws : Fd := ⟨"_law_draws", 2, 8, [
  .own 2 (.lc [6] (.nm 6) (.seq (.slc (.var 0) none (some (.int 63)))) none (.blt .abs [.blt .int [.var 6]])),
  .ifs (.cmp .Eq (.blt .len [.bor 2]) (.int 0)) [.own 2 (.lst [.int 0])] [],
  .own 3 (.lst []),
  .fors (.nm 4) (.rng (.var 1)) [.set (.nm 5) (.bin .Mod (.blt .int [.var 4]) (.blt .len [.bor 2])), .set (.nm 6) (.ix (.bor 2) (.var 5)), .ifs (.cmp .GtE (.var 6) (.int 1000000000000000000)) [.app 3 (.bin .Mod (.blt .int [.var 6]) (.int 1000)), .seti 2 (.var 5) (.bin .FloorDiv (.var 6) (.int 1000))] [.set (.nm 7) (.bin .Mod (.blt .int [.bin .Add (.bin .Add (.bin .Mult (.var 6) (.int 48271)) (.bin .Mult (.var 4) (.int 69621))) (.int 11)]) (.int 2147483647)), .set (.nm 7) (.bin .Mod (.blt .int [.bin .Add (.bin .Add (.bin .Mult (.var 7) (.int 16807)) (.bin .FloorDiv (.var 6) (.int 7))) (.bin .Mult (.bin .Mult (.var 4) (.var 4)) (.int 40014))]) (.int 2147483563)), .set (.nm 7) (.bin .Mod (.blt .int [.bin .Add (.bin .Mult (.var 7) (.bin .Add (.bin .Add (.bin .FloorDiv (.var 7) (.int 1024)) (.var 4)) (.int 1))) (.var 6)]) (.int 2147483629)), .app 3 (.bin .Mod (.blt .int [.bin .FloorDiv (.var 7) (.int 37)]) (.int 1000))]],
  .retv 3]⟩

def fd__law_lot : Fd := ⟨"_law_lot", 2, 5, [
  .set (.nm 2) (.bin .Add (.int 1) (.bin .Mod (.blt .int [.var 0]) (.int 63))),
  .set (.nm 3) (.lc [4] (.nm 4) (.rng (.var 1)) (some (.cmp .Eq (.bin .Mod (.blt .int [.bin .FloorDiv (.var 2) (.ix (.tup [.int 1, .int 2, .int 4, .int 8, .int 16, .int 32]) (.var 4))]) (.int 2)) (.int 1))) (.var 4)),
  .ifs (.cmp .Eq (.blt .len [.var 3]) (.int 0)) [.set (.nm 3) (.lst [.bin .Mod (.blt .int [.var 0]) (.var 1)])] [],
  .ret (.blt .tuple [.var 3])]⟩

def fd__law_words : Fd := ⟨"_law_words", 5, 7, [
  .ret (.blt .tuple [.lc [5] (.nm 5) (.rng (.var 2)) none (.blt .tuple [.lc [6] (.nm 6) (.rng (.var 3)) none (.bin .Mod (.blt .int [.ix (.var 0) (.bin .Add (.bin .Add (.var 1) (.bin .Mult (.var 3) (.var 5))) (.var 6))]) (.var 4))])])]⟩

def fd__law_same : Fd := ⟨"_law_same", 2, 3, [
  .ifs (.cmp .Is (.var 1) (.non)) [.ret (.cmp .Is (.var 0) (.non))] [],
  .ifs (.or (.e (.blt (.isi .bool) [.var 1])) (.e (.blt (.isi .bool) [.var 0]))) [.ret (.and (.blt (.isi .bool) [.var 1]) (.and (.blt (.isi .bool) [.var 0]) (.cmp .Eq (.var 0) (.var 1))))] [],
  .ifs (.e (.blt (.isi .int) [.var 1])) [.ret (.and (.blt (.isi .int) [.var 0]) (.cmp .Eq (.var 0) (.var 1)))] [],
  .ifs (.e (.blt (.isi .str) [.var 1])) [.ret (.and (.blt (.isi .str) [.var 0]) (.cmp .Eq (.var 0) (.var 1)))] [],
  .ifs (.or (.and (.e (.blt (.isi .tuple) [.var 1])) (.not (.e (.blt (.isi .tuple) [.var 0])))) (.and (.e (.blt (.isi .list) [.var 1])) (.not (.e (.blt (.isi .list) [.var 0]))))) [.ret (.bl false)] [],
  .ifs (.e (.blt (.isi .dict) [.var 1])) [.ret (.and (.blt (.isi .dict) [.var 0]) (.call "_law_same_rows" [.var 0, .var 1]))] [],
  .ifs (.cmp .NotEq (.blt .len [.var 0]) (.blt .len [.var 1])) [.ret (.bl false)] [],
  .fors (.nm 2) (.rng (.blt .len [.var 1])) [.ifs (.not (.e (.call "_law_same" [.ix (.var 0) (.var 2), .ix (.var 1) (.var 2)]))) [.ret (.bl false)] []],
  .ret (.bl true)]⟩

def fd__law_same_rows : Fd := ⟨"_law_same_rows", 2, 4, [
  .ifs (.cmp .NotEq (.blt .len [.var 0]) (.blt .len [.var 1])) [.ret (.bl false)] [],
  .fors (.nm 2) (.seq (.var 1)) [.ifs (.or (.cmp .NotIn (.var 2) (.var 0)) (.not (.e (.call "_law_same" [.ix (.var 0) (.var 2), .ix (.var 1) (.var 2)])))) [.ret (.bl false)] []],
  .fors (.nm 2) (.seq (.var 0)) [.ifs (.or (.not (.e (.blt (.isi .tuple) [.var 2]))) (.e (.blt .any [.lc [3] (.nm 3) (.seq (.var 2)) none (.blt (.isi .bool) [.var 3])]))) [.ret (.bl false)] []],
  .ret (.bl true)]⟩

def fd__law_mixtures : Fd := ⟨"_law_mixtures", 2, 9, [
  .set (.nm 2) (.lst [.tup []]),
  .fors (.nm 3) (.rng (.blt .len [.ix (.var 0) (.int 0)])) [.set (.nm 4) (.blt .sortedSet [.lc [7] (.nm 7) (.seq (.var 1)) none (.ix (.ix (.var 0) (.var 7)) (.var 3))]), .set (.nm 5) (.lst []), .fors (.nm 6) (.seq (.var 2)) [.set (.nm 5) (.bin .Add (.var 5) (.lc [8] (.nm 8) (.seq (.var 4)) none (.bin .Add (.var 6) (.tup [.var 8]))))], .set (.nm 2) (.var 5)],
  .ret (.var 2)]⟩

def fd__law_holds : Fd := ⟨"_law_holds", 2, 3, [
  .fors (.nm 2) (.rng (.blt .len [.var 0])) [.ifs (.and (.cmp .IsNot (.ix (.var 0) (.var 2)) (.non)) (.cmp .NotEq (.ix (.var 0) (.var 2)) (.ix (.var 1) (.var 2)))) [.ret (.bl false)] []],
  .ret (.bl true)]⟩

def fd__law_goes_wrong : Fd := ⟨"_law_goes_wrong", 4, 9, [
  .set (.nm 4) (.lc [7] (.nm 7) (.seq (.var 2)) (some (.cmp .In (.var 7) (.var 3))) (.var 7)),
  .set (.nm 5) (.call "_law_mixtures" [.var 1, .var 2]),
  .ifs (.cmp .Eq (.blt .len [.var 4]) (.blt .len [.var 2])) [.fors (.nm 6) (.seq (.var 0)) [.ifs (.e (.blt .all [.lc [8] (.nm 8) (.seq (.var 5)) none (.call "_law_holds" [.var 6, .var 8])])) [.ret (.bl false)] []], .ret (.bl true)] [],
  .ifs (.cmp .Eq (.blt .len [.var 4]) (.int 0)) [.fors (.nm 6) (.seq (.var 0)) [.ifs (.e (.blt .any [.lc [8] (.nm 8) (.seq (.var 5)) none (.call "_law_holds" [.var 6, .var 8])])) [.ret (.bl true)] []]] [],
  .ret (.bl false)]⟩

def fd__law_term : Fd := ⟨"_law_term", 2, 5, [
  .set (.nm 2) (.lc [3] (.nm 3) (.rng (.var 1)) none (.bin .Mod (.blt .int [.bin .FloorDiv (.var 0) (.ix (.tup [.int 1, .int 3, .int 9, .int 27]) (.var 3))]) (.int 3))),
  .ret (.blt .tuple [.lc [4] (.nm 4) (.seq (.var 2)) none (.ife (.cmp .Eq (.var 4) (.int 2)) (.non) (.var 4))])]⟩

def fd__law_shared_term : Fd := ⟨"_law_shared_term", 2, 6, [
  .set (.nm 2) (.lc [3] (.nm 3) (.rng (.blt .len [.ix (.var 0) (.int 0)])) none (.blt .sortedSet [.lc [5] (.nm 5) (.seq (.var 1)) none (.ix (.ix (.var 0) (.var 5)) (.var 3))])),
  .ret (.blt .tuple [.lc [4] (.nm 4) (.seq (.var 2)) none (.ife (.cmp .Eq (.blt .len [.var 4]) (.int 1)) (.ix (.var 4) (.int 0)) (.non))])]⟩

def fd__law_circuit : Fd := ⟨"_law_circuit", 5, 17, [
  .set (.nm 5) (.bin .Mod (.blt .int [.ix (.var 0) (.int 4)]) (.int 6)),
  .set (.nm 6) (.bin .Add (.int 1) (.bin .Mod (.blt .int [.ix (.var 0) (.int 50)]) (.int 4))),
  .set (.nm 7) (.lc [13] (.nm 13) (.rng (.var 6)) none (.call "_law_term" [.blt .int [.ix (.var 0) (.bin .Add (.int 51) (.var 13))], .var 4])),
  .set (.nm 8) (.lc [14] (.nm 14) (.seq (.var 2)) (some (.cmp .Eq (.blt .len [.lc [16] (.nm 16) (.seq (.var 14)) (some (.cmp .NotIn (.var 16) (.var 3))) (.var 16)]) (.int 0))) (.var 14)),
  .set (.nm 9) (.lc [14] (.nm 14) (.seq (.var 8)) none (.call "_law_shared_term" [.var 1, .var 14])),
  .ifs (.cmp .Eq (.var 5) (.int 0)) [.ret (.lst [])] [],
  .ifs (.cmp .Eq (.var 5) (.int 1)) [.ret (.var 7)] [],
  .ifs (.cmp .Eq (.var 5) (.int 2)) [.ret (.var 9)] [],
  .ifs (.and (.cmp .Eq (.var 5) (.int 3)) (.cmp .Gt (.var 4) (.int 0))) [.set (.nm 10) (.bin .Mod (.blt .int [.ix (.var 0) (.int 56)]) (.var 4)), .ret (.bin .Add (.lc [15] (.nm 15) (.seq (.tup [.int 0, .int 1])) none (.bin .Add (.bin .Add (.slc (.ix (.var 7) (.int 0)) none (some (.var 10))) (.tup [.var 15])) (.slc (.ix (.var 7) (.int 0)) (some (.bin .Add (.var 10) (.int 1))) none))) (.slc (.var 7) (some (.int 1)) (some (.bin .Mod (.blt .int [.ix (.var 0) (.int 57)]) (.int 4)))))] [],
  .ifs (.and (.cmp .Eq (.var 5) (.int 5)) (.and (.cmp .Gt (.blt .len [.var 9]) (.int 0)) (.cmp .Gt (.var 4) (.int 0)))) [.set (.nm 10) (.bin .Mod (.blt .int [.ix (.var 0) (.int 56)]) (.blt .len [.var 9])), .set (.nm 11) (.bin .Mod (.blt .int [.ix (.var 0) (.int 57)]) (.var 4)), .set (.nm 12) (.ix (.tup [.non, .int 0, .int 1]) (.bin .Mod (.blt .int [.ix (.var 0) (.int 58)]) (.int 3))), .ret (.bin .Add (.bin .Add (.slc (.var 9) none (some (.var 10))) (.lst [.bin .Add (.bin .Add (.slc (.ix (.var 9) (.var 10)) none (some (.var 11))) (.tup [.var 12])) (.slc (.ix (.var 9) (.var 10)) (some (.bin .Add (.var 11) (.int 1))) none)])) (.slc (.var 9) (some (.bin .Add (.var 10) (.int 1))) none))] [],
  .ret (.slc (.var 7) none (some (.int 1)))]⟩

def fd__law_varied : Fd := ⟨"_law_varied", 4, 7, [
  .ifs (.cmp .Eq (.var 2) (.int 0)) [.ret (.slc (.var 0) none (some (.bin .Sub (.blt .len [.var 0]) (.int 1))))] [],
  .ifs (.cmp .Eq (.var 2) (.int 1)) [.ret (.bin .Add (.var 0) (.lst [.bin .Mult (.tup [.non]) (.var 1)]))] [],
  .ifs (.and (.cmp .Eq (.var 2) (.int 2)) (.and (.cmp .Gt (.blt .len [.var 0]) (.int 0)) (.cmp .Gt (.var 1) (.int 0)))) [.set (.nm 4) (.bin .Mod (.blt .int [.var 3]) (.blt .len [.var 0])), .set (.nm 5) (.bin .Mod (.blt .int [.bin .FloorDiv (.var 3) (.int 7)]) (.var 1)), .set (.nm 6) (.ix (.tup [.non, .int 0, .int 1]) (.bin .Mod (.blt .int [.bin .FloorDiv (.var 3) (.int 29)]) (.int 3))), .ret (.bin .Add (.bin .Add (.slc (.var 0) none (some (.var 4))) (.lst [.bin .Add (.bin .Add (.slc (.ix (.var 0) (.var 4)) none (some (.var 5))) (.tup [.var 6])) (.slc (.ix (.var 0) (.var 4)) (some (.bin .Add (.var 5) (.int 1))) none)])) (.slc (.var 0) (some (.bin .Add (.var 4) (.int 1))) none))] [],
  .ifs (.cmp .Eq (.var 2) (.int 3)) [.ret (.bin .Add (.slc (.var 0) none (some (.int 1))) (.var 0))] [],
  .ifs (.cmp .Eq (.var 2) (.int 4)) [.ret (.rvs (.var 0))] [],
  .ret (.bin .Add (.var 0) (.lst [.call "_law_term" [.var 3, .var 1]]))]⟩

def fd__law_padded : Fd := ⟨"_law_padded", 4, 4, [
  .ret (.bin .Add (.bin .Add (.slc (.var 0) none (some (.var 1))) (.bin .Mult (.tup [.var 3]) (.var 2))) (.slc (.var 0) (some (.var 1)) none))]⟩

def fd__law_is_wrong_view : Fd := ⟨"_law_is_wrong_view", 5, 12, [
  .ifs (.or (.not (.e (.blt (.isi .tuple) [.var 0]))) (.or (.cmp .NotEq (.blt .len [.var 0]) (.int 2)) (.or (.not (.e (.blt (.isi .tuple) [.ix (.var 0) (.int 1)]))) (.cmp .NotEq (.blt .len [.ix (.var 0) (.int 1)]) (.blt .len [.var 1]))))) [.ret (.bl false)] [],
  .ifs (.or (.e (.blt (.isi .bool) [.ix (.var 0) (.int 0)])) (.or (.not (.e (.blt (.isi .int) [.ix (.var 0) (.int 0)]))) (.inr true (.ix (.var 0) (.int 0)) (.blt .len [.var 3])))) [.ret (.bl false)] [],
  .set (.nm 5) (.ix (.var 3) (.ix (.var 0) (.int 0))),
  .fors (.nm 6) (.seq (.ix (.var 0) (.int 1))) [.ifs (.or (.not (.e (.blt (.isi .tuple) [.var 6]))) (.cmp .NotEq (.blt .len [.var 6]) (.blt .len [.ix (.var 2) (.int 0)]))) [.ret (.bl false)] [], .fors (.nm 9) (.rng (.blt .len [.var 6])) [.ifs (.or (.e (.blt (.isi .bool) [.ix (.var 6) (.var 9)])) (.not (.e (.blt (.isi .int) [.ix (.var 6) (.var 9)])))) [.ret (.bl false)] [], .ifs (.cmp .NotIn (.ix (.var 6) (.var 9)) (.lc [11] (.nm 11) (.seq (.var 5)) none (.ix (.ix (.var 2) (.var 11)) (.var 9)))) [.ret (.bl false)] []]],
  .set (.nm 7) (.lc [10] (.nm 10) (.rng (.blt .len [.var 1])) (some (.e (.call "_law_holds" [.ix (.var 1) (.var 10), .ix (.ix (.var 0) (.int 1)) (.var 10)]))) (.var 10)),
  .set (.nm 8) (.lc [11] (.nm 11) (.seq (.var 5)) (some (.cmp .In (.var 11) (.var 4))) (.var 11)),
  .ifs (.cmp .Eq (.blt .len [.var 8]) (.blt .len [.var 5])) [.ret (.cmp .Eq (.blt .len [.var 7]) (.int 0))] [],
  .ret (.and (.cmp .Eq (.blt .len [.var 8]) (.int 0)) (.cmp .Gt (.blt .len [.var 7]) (.int 0)))]⟩

def fd__law_asks : Fd := ⟨"_law_asks", 4, 11, [
  .set (.nm 4) (.lc [10] (.nm 10) (.seq (.var 2)) (some (.e (.call "_law_goes_wrong" [.var 0, .var 1, .var 10, .var 3]))) (.var 10)),
  .own 5 (.blt .list [.var 0]),
  .set (.nm 6) (.blt .list [.var 2]),
  .set (.nm 7) (.call "unsteady_course" [.bor 5, .var 1, .var 6, .var 3]),
  .ifs (.or (.not (.e (.call "_law_same" [.bor 5, .var 0]))) (.not (.e (.call "_law_same" [.var 6, .var 2])))) [.ret (.bl false)] [],
  .ifs (.cmp .NotEq (.cmp .Is (.var 7) (.non)) (.cmp .Eq (.blt .len [.var 4]) (.int 0))) [.ret (.bl false)] [],
  .ifs (.and (.cmp .IsNot (.var 7) (.non)) (.not (.e (.call "_law_is_wrong_view" [.var 7, .var 0, .var 1, .var 2, .var 3])))) [.ret (.bl false)] [],
  .ifs (.not (.e (.call "_law_same" [.call "is_steady" [.bor 5, .var 1, .var 6, .var 3], .cmp .Eq (.blt .len [.var 4]) (.int 0)]))) [.ret (.bl false)] [],
  .app 5 (.bin .Mult (.tup [.non]) (.blt .len [.ix (.var 1) (.int 0)])),
  .set (.nm 8) (.bin .Add (.blt .list [.var 0]) (.lst [.bin .Mult (.tup [.non]) (.blt .len [.ix (.var 1) (.int 0)])])),
  .set (.nm 9) (.lc [10] (.nm 10) (.seq (.var 2)) (some (.e (.call "_law_goes_wrong" [.var 8, .var 1, .var 10, .var 3]))) (.var 10)),
  .ifs (.not (.e (.call "_law_same" [.call "is_steady" [.bor 5, .var 1, .blt .tuple [.var 2], .var 3], .cmp .Eq (.blt .len [.var 9]) (.int 0)]))) [.ret (.bl false)] [],
  .ret (.call "_law_same" [.call "is_steady" [.blt .tuple [.var 0], .var 1, .blt .tuple [.var 2], .var 3], .cmp .Eq (.blt .len [.var 4]) (.int 0)])]⟩

def fd_law : Fd := ⟨"law", 1, 24, [
  .set (.nm 1) (.call "_law_draws" [.var 0, .int 70]),
  .set (.nm 2) (.bin .Add (.int 1) (.bin .Mod (.blt .int [.ix (.var 1) (.int 1)]) (.int 6))),
  .set (.nm 3) (.bin .Mod (.blt .int [.ix (.var 1) (.int 2)]) (.int 5)),
  .set (.nm 4) (.call "_law_words" [.var 1, .int 10, .var 2, .var 3, .int 2]),
  .set (.nm 5) (.lc [16] (.nm 16) (.rng (.bin .Mod (.blt .int [.ix (.var 1) (.int 7)]) (.int 7))) none (.call "_law_lot" [.ix (.var 1) (.bin .Add (.int 40) (.var 16)), .var 2])),
  .set (.nm 6) (.lc [20] (.nm 20) (.rng (.var 2)) (some (.cmp .Eq (.bin .Mod (.blt .int [.bin .FloorDiv (.bin .Mod (.blt .int [.ix (.var 1) (.int 8)]) (.int 64)) (.ix (.tup [.int 1, .int 2, .int 4, .int 8, .int 16, .int 32]) (.var 20))]) (.int 2)) (.int 1))) (.var 20)),
  .ifs (.cmp .Eq (.bin .Mod (.blt .int [.ix (.var 1) (.int 4)]) (.int 6)) (.int 4)) [.set (.nm 6) (.lc [20] (.nm 20) (.rng (.var 2)) (some (.e (.call "_law_holds" [.call "_law_term" [.blt .int [.ix (.var 1) (.int 51)], .var 3], .ix (.var 4) (.var 20)]))) (.var 20))] [],
  .set (.nm 6) (.blt .tuple [.var 6]),
  .set (.nm 7) (.call "_law_circuit" [.var 1, .var 4, .var 5, .var 6, .var 3]),
  .set (.nm 8) (.call "_law_varied" [.var 7, .var 3, .bin .Mod (.blt .int [.ix (.var 1) (.int 60)]) (.int 6), .blt .int [.ix (.var 1) (.int 61)]]),
  .set (.nm 9) (.int 0),
  .ifs (.cmp .Eq (.bin .Mod (.blt .int [.ix (.var 1) (.int 3)]) (.int 4)) (.int 0)) [.set (.nm 9) (.bin .Mod (.bin .FloorDiv (.blt .int [.ix (.var 1) (.int 3)]) (.int 4)) (.int 40))] [],
  .set (.nm 10) (.bin .Mod (.blt .int [.ix (.var 1) (.int 5)]) (.bin .Add (.var 3) (.int 1))),
  .set (.nm 11) (.bin .Mod (.blt .int [.ix (.var 1) (.int 6)]) (.int 2)),
  .set (.nm 12) (.ix (.tup [.non, .var 11, .var 11, .bin .Sub (.int 1) (.var 11)]) (.bin .Mod (.bin .FloorDiv (.blt .int [.ix (.var 1) (.int 6)]) (.int 2)) (.int 4))),
  .set (.nm 13) (.blt .tuple [.lc [22] (.nm 22) (.seq (.var 4)) none (.call "_law_padded" [.var 22, .var 10, .var 9, .var 11])]),
  .set (.nm 7) (.lc [21] (.nm 21) (.seq (.var 7)) none (.call "_law_padded" [.var 21, .var 10, .var 9, .var 12])),
  .set (.nm 8) (.lc [21] (.nm 21) (.seq (.var 8)) none (.call "_law_padded" [.var 21, .var 10, .var 9, .non])),
  .ifs (.or (.not (.e (.call "_law_asks" [.var 7, .var 13, .var 5, .var 6]))) (.not (.e (.call "_law_asks" [.var 8, .var 13, .var 5, .var 6])))) [.ret (.bl false)] [],
  .set (.nm 14) (.lst [.tup []]),
  .fors (.nm 15) (.rng (.var 3)) [.set (.nm 14) (.bin .Add (.lc [17] (.nm 17) (.seq (.var 14)) none (.bin .Add (.var 17) (.tup [.int 0]))) (.lc [17] (.nm 17) (.seq (.var 14)) none (.bin .Add (.var 17) (.tup [.int 1]))))],
  .fors (.nm 16) (.rng (.blt .len [.var 14])) [.set (.nm 17) (.call "_law_padded" [.ix (.var 14) (.var 16), .var 10, .var 9, .var 11]), .set (.nm 18) (.lc [21] (.nm 21) (.seq (.var 7)) none (.call "_law_holds" [.var 21, .var 17])), .ifs (.not (.e (.call "_law_same" [.call "circuit_tells" [.blt .list [.var 7], .var 17], .cmp .Gt (.blt .len [.lc [23] (.nm 23) (.seq (.var 18)) (some (.e (.var 23))) (.var 23)]) (.int 0)]))) [.ret (.bl false)] [], .ifs (.not (.e (.call "_law_same" [.call "circuit_tells" [.tup [], .var 17], .bl false]))) [.ret (.bl false)] [], .fors (.nm 19) (.rng (.blt .len [.var 7])) [.ifs (.not (.e (.call "_law_same" [.call "holds" [.ix (.var 7) (.var 19), .var 17], .ix (.var 18) (.var 19)]))) [.ret (.bl false)] []]],
  .ret (.bl true)]⟩

def tbl : List Fd := [fd_worths_seen, fd_holds, fd_circuit_tells, fd_failing_at, fd_holding_at, fd_silent_readings, fd_false_readings, fd_unsteady_course, fd_is_steady, fd__law_draws, fd__law_lot, fd__law_words, fd__law_same, fd__law_same_rows, fd__law_mixtures, fd__law_holds, fd__law_goes_wrong, fd__law_term, fd__law_shared_term, fd__law_circuit, fd__law_varied, fd__law_padded, fd__law_is_wrong_view, fd__law_asks, fd_law]

def G : Gi := ⟨funsOf tbl, []⟩

end K50
end

section
set_option maxHeartbeats 4000000
namespace K50
open PySem PySem.Spec PyProof.Rows L2 Cr

def eO : Option Int → D
  | none => .non
  | some i => .int i
abbrev eT (t : List (Option Int)) : D := .tup (t.map eO)
abbrev eI (l : List Int) : D := .tup (l.map D.int)
def eR : Option (List Int) → D
  | none => .non
  | some l => eI l
theorem eO_is (o : Option Int) : cmpD .Is (eO o) .non = some (decide (o = none)) := by cases o <;> rfl
theorem eO_isNot (o : Option Int) : cmpD .IsNot (eO o) .non = some (!decide (o = none)) := by cases o <;> rfl
theorem eR_isNot (o : Option (List Int)) : cmpD .IsNot (eR o) .non = some (!decide (o = none)) := by cases o <;> rfl
theorem nl_eO (o : Option Int) : nl (eO o) = true := by cases o <;> rfl
theorem nl_eR (o : Option (List Int)) : nl (eR o) = true := by cases o <;> rfl

/-- a term holds at a reading, at one field -/
def holdsAt (t : List (Option Int)) (r : List Int) (i : Nat) : Bool := match t[i]? with
  | some (some v) => decide (r[i]? = some v)
  | _ => true
def holdsP (t : List (Option Int)) (r : List Int) : Bool := (List.range t.length).all fun i => holdsAt t r i
theorem c_holds (n : Nat) (t : List (Option Int)) (r : List Int) (h : t.length ≤ r.length) (hz : t.length ≤ 1000) : callN tbl (n + 1) "holds" [eT t, eI r] = .ok (.bl (holdsP t r), false) := by
  refine call_eq fd_holds rfl rfl (by decide) ?_
  unfold fd_holds
  walk_at "cr.ev"
  rw [asRng_nat _ (by omega)]
  walk_at "cr.ev"
  rw [lca (f := fun i : Nat => D.int i) (h := fun i => .bl (holdsAt t r i))]
  · walk_at "cr.ev"
    rw [if_sz (by walk_at "cr.om")]
    walk_at "cr.ev"
    rfl
  · intro i hi
    have hi := List.mem_range.mp hi
    walk_at "cr.ev"
    rw [ix_map (l := t) (g := eO) i rfl (List.getElem?_eq_getElem hi) (.inl rfl)]
    walk_at "cr.ev"
    rw [eO_is]
    walk_at "cr.ev"
    refine p_or _ _ (fun h1 => ?_) fun h1 => ?_
    · walk_at "cr.ev"
      rw [ix_map (l := t) (g := eO) i rfl (List.getElem?_eq_getElem hi) (.inl rfl), ix_map (l := r) (g := D.int) i rfl (List.getElem?_eq_getElem (by omega)) (.inl rfl)]
      walk_at "cr.ev"
      cases e : t[i] with
      | none => rw [e] at h1; simp at h1
      | some v =>
        show OkP (up (cmpD .Eq (.int v) (.int r[i]))) _
        walk_at "cr.ev"
        unfold holdsAt
        rw [List.getElem?_eq_getElem hi, e, List.getElem?_eq_getElem (by omega)]
        simp [eq_comm]
    · unfold holdsAt
      have : t[i] = none := by simpa using h1
      rw [List.getElem?_eq_getElem hi, this]
theorem c_tells (n : Nat) (cD : D) (c : List (List (Option Int))) (r : List Int) (hc : cD.seq = some (c.map eT)) (hl : c.length ≤ 1000) (h : ∀ t ∈ c, t.length ≤ r.length) (hz : r.length ≤ 1000) :
    callN tbl (n + 2) "circuit_tells" [cD, eI r] = .ok (.bl (c.any fun t => holdsP t r), false) := by
  refine call_eq fd_circuit_tells rfl rfl (by decide) ?_
  unfold fd_circuit_tells
  walk_at "cr.ev"
  rw [asSeq_of hc]
  walk_at "cr.ev"
  rw [lca (f := eT) (h := fun t => .bl (holdsP t r))]
  · walk_at "cr.ev"
    rw [if_sz (by walk_at "cr.om")]
    walk_at "cr.ev"
  · intro t ht
    have h1 := h t ht
    walk_at "cr.ev"
    rw [callOr_val (c_holds n t r h1 (by omega)) rfl]
    walk_at "cr.ev"

/-! ### words, windows -/
structure OkW (words : List (List Int)) (F : Nat) : Prop where
  len : ∀ w ∈ words, w.length = F
  ne : words ≠ []
  F100 : F ≤ 100
structure OkWin (words : List (List Int)) (win : List Int) : Prop where
  ne : win ≠ []
  few : win.length < 64
  at_ : ∀ s ∈ win, 0 ≤ s ∧ s.toNat < words.length
abbrev eW (words : List (List Int)) : D := .tup (words.map eI)
def word (words : List (List Int)) (s : Int) : List Int := words.getD s.toNat []
def wf (words : List (List Int)) (i : Nat) (s : Int) : Int := (word words s).getD i 0
theorem ix_word {words : List (List Int)} {win : List Int} {F : Nat} (W : OkW words F) (O : OkWin words win) {s : Int} (hs : s ∈ win) : ixD (eW words) false (.int s) = some (eI (word words s), false) ∧ (word words s).length = F := by
  obtain ⟨h1, h2⟩ := O.at_ s hs
  have e : words[s.toNat]? = some (word words s) := by
    unfold word
    rw [List.getD_eq_getElem?_getD, List.getElem?_eq_getElem h2]; rfl
  exact ⟨ix_mapI h1 rfl e (.inl rfl), W.len _ (List.mem_of_getElem? e)⟩
theorem ix_wf {words : List (List Int)} {F : Nat} {s : Int} (h : (word words s).length = F) {i : Nat} (hi : i < F) : ixD (eI (word words s)) false (.int i) = some (.int (wf words i s), false) := by
  refine ix_map i rfl ?_ (.inl rfl)
  unfold wf
  rw [List.getD_eq_getElem?_getD, List.getElem?_eq_getElem (by omega)]; rfl
theorem len0 {words : List (List Int)} {F : Nat} (W : OkW words F) : ∃ w, words[0]? = some w ∧ w.length = F := by
  cases e : words with
  | nil => exact absurd e W.ne
  | cons w ws => exact ⟨w, rfl, W.len w (by rw [e]; simp)⟩
def seen (words : List (List Int)) (win : List Int) (i : Nat) : List Int := usort (win.map (wf words i))
theorem seen_mem {words : List (List Int)} {win : List Int} {i : Nat} {x : Int} : x ∈ seen words win i ↔ ∃ s ∈ win, wf words i s = x := by
  unfold seen
  rw [usort_mem, List.mem_map]
theorem usort_len : ∀ l : List Int, (usort l).length ≤ l.length
  | [] => Nat.le_refl _
  | x :: l => by
    have : ∀ (x : Int) (ys : List Int), (insU x ys).length ≤ ys.length + 1 := fun x ys => by
      induction ys with
      | nil => simp [insU]
      | cons y ys ih =>
        unfold insU
        split
        · simp
        · split
          · simp
          · simp; omega
    have h1 := this x (usort l)
    have h2 := usort_len l
    show (insU x (usort l)).length ≤ _
    rw [List.length_cons]
    omega
theorem seen_ne {words : List (List Int)} {win : List Int} {i : Nat} (h : win ≠ []) : seen words win i ≠ [] := fun e => by
  cases win with
  | nil => exact h rfl
  | cons s ss =>
    have : wf words i s ∈ seen words (s :: ss) i := seen_mem.mpr ⟨s, by simp, rfl⟩
    rw [e] at this
    cases this
theorem c_seen (n : Nat) {words : List (List Int)} {win : List Int} {F : Nat} (W : OkW words F) (O : OkWin words win) :
    callN tbl (n + 1) "worths_seen" [eW words, eI win] = .ok (.lst ((List.range F).map fun i => eI (seen words win i)), true) := by
  refine call_eq fd_worths_seen rfl rfl (by decide) ?_
  unfold fd_worths_seen
  obtain ⟨w0, e0, l0⟩ := len0 W
  have F1 := W.F100
  walk_at "cr.ev"
  rw [ix_mapI (l := words) (g := eI) (k := 0) (by decide) rfl e0 (.inl rfl)]
  walk_at "cr.ev"
  rw [l0, asRng_nat _ (by omega)]
  walk_at "cr.ev"
  rw [lca (f := fun i : Nat => D.int i) (h := fun i => eI (seen words win i))]
  · walk_at "cr.ev"
    rw [if_sz (by walk_at "cr.om")]
    walk_at "cr.ev"
  · intro i hi
    have hi := List.mem_range.mp hi
    walk_at "cr.ev"
    rw [lca (f := D.int) (h := fun s => .int (wf words i s))]
    · walk_at "cr.ev"
      have e : ((D.lst (win.map fun s => .int (wf words i s))).seq) = some ((win.map (wf words i)).map D.int) := by
        rw [List.map_map]; rfl
      rw [f_sortedSet _ e (by rw [List.length_map]; exact O.few)]
      walk_at "cr.ev"
      rw [f_tuple rfl (nl_ints _ _)]
      walk_at "cr.ev"
      rfl
    · intro s hs
      obtain ⟨e1, e2⟩ := ix_word W O hs
      walk_at "cr.ev"
      rw [e1]
      walk_at "cr.ev"
      rw [ix_wf e2 hi]
      walk_at "cr.ev"
end K50
end

section
set_option maxHeartbeats 4000000
namespace K50
open PySem PySem.Spec PyProof.Rows L2 Cr

/-- a reading each of whose entries some state of the window shows -/
def Mix (words : List (List Int)) (win : List Int) (F : Nat) (x : List Int) : Prop := x.length = F ∧ ∀ i v, x[i]? = some v → v ∈ seen words win i
def FailS (words : List (List Int)) (win : List Int) (F : Nat) (t : List (Option Int)) : Option (List Int) → Prop
  | none => ∀ i v, t[i]? = some (some v) → ∀ s ∈ win, wf words i s = v
  | some x => Mix words win F x ∧ holdsP t x = false
theorem holdsP_false {t : List (Option Int)} {x : List Int} {i : Nat} {v : Int} (h : t[i]? = some (some v)) (hx : x[i]? ≠ some v) : holdsP t x = false := by
  unfold holdsP
  rw [List.all_eq_false]
  refine ⟨i, List.mem_range.mpr (List.getElem?_eq_some_iff.mp h).1, ?_⟩
  unfold holdsAt
  rw [h]
  simpa using hx
theorem holdsP_true {t : List (Option Int)} {x : List Int} : holdsP t x = true ↔ ∀ (i : Nat) (v : Int), t[i]? = some (some v) → x[i]? = some v := by
  unfold holdsP
  rw [List.all_eq_true]
  constructor
  · intro h i v hv
    have := h i (List.mem_range.mpr (List.getElem?_eq_some_iff.mp hv).1)
    unfold holdsAt at this
    rw [hv] at this
    exact of_decide_eq_true this
  · intro h i _
    unfold holdsAt
    cases e : t[i]? with
    | none => rfl
    | some o =>
      cases o with
      | none => rfl
      | some v => exact decide_eq_true (h i v e)
theorem wf_get {words : List (List Int)} {F : Nat} {s : Int} (h : (word words s).length = F) {i : Nat} (hi : i < F) : (word words s)[i]? = some (wf words i s) := by
  unfold wf
  rw [List.getD_eq_getElem?_getD, List.getElem?_eq_getElem (by omega)]; rfl
theorem mix_set {words : List (List Int)} {win : List Int} {F : Nat} (W : OkW words F) (O : OkWin words win) {s0 s : Int} (h0 : s0 ∈ win) (h : s ∈ win) {i : Nat} (hi : i < F) : Mix words win F ((word words s0).set i (wf words i s)) := by
  obtain ⟨_, l0⟩ := ix_word W O h0
  refine ⟨by rw [List.length_set, l0], fun j v hj => ?_⟩
  rw [List.getElem?_set] at hj
  split at hj
  · rename_i e
    subst e
    split at hj
    · cases hj; exact seen_mem.mpr ⟨s, h, rfl⟩
    · cases hj
  · have hjF : j < F := by
      have := (List.getElem?_eq_some_iff.mp hj).1
      omega
    rw [wf_get l0 hjF] at hj
    cases hj
    exact seen_mem.mpr ⟨s0, h0, rfl⟩
theorem c_failing (n : Nat) {words : List (List Int)} {win : List Int} {F : Nat} {t : List (Option Int)} (W : OkW words F) (O : OkWin words win) (ht : t.length = F) : ∃ r, callN tbl (n + 1) "failing_at" [eT t, eW words, eI win] = .ok (eR r, false) ∧ FailS words win F t r := by
  refine okp_ex (k := fun r => (eR r, false)) (okp_call fd_failing_at rfl rfl (by decide) ?_)
  unfold fd_failing_at
  obtain ⟨s0, e0⟩ : ∃ s0, win[0]? = some s0 := by
    cases e : win with
    | nil => exact absurd e O.ne
    | cons s ss => exact ⟨s, rfl⟩
  have m0 : s0 ∈ win := List.mem_of_getElem? e0
  obtain ⟨e1, l1⟩ := ix_word W O m0
  have F1 := W.F100
  walk_at "cr.ev"
  rw [ix_mapI (l := win) (g := D.int) (k := 0) (by decide) rfl e0 (.inl rfl)]
  walk_at "cr.ev"
  rw [e1]
  walk_at "cr.ev"
  rw [asRng_nat _ (by omega)]
  walk_at "cr.ev"
  refine p_for (f := fun i : Nat => D.int i) (fun i Γ => (∃ d4 d5, Γ = [some (eT t, false), some (eW words, false), some (eI win, false), some (eI (word words s0), false), d4, d5]) ∧ ∀ j v, j < i → t[j]? = some (some v) → ∀ s ∈ win, wf words j s = v) ⟨⟨_, _, rfl⟩, fun j v h => by omega⟩ ?_ ?_
  · rintro i x Γ hx ⟨⟨d4, d5, rfl⟩, hb⟩
    have hi : i < F := by
      have := (List.getElem?_eq_some_iff.mp hx).1
      simp at this; omega
    rw [List.getElem?_range (by omega)] at hx
    cases hx
    walk_at "cr.ev"
    have hti : t[i]? = some t[i] := List.getElem?_eq_getElem (by omega)
    have ixt : ixD (eT t) false (.int i) = some (eO t[i], false) := ix_map i rfl hti (.inl rfl)
    refine p_for (f := D.int) (fun k Γ => (∃ d5, Γ = [some (eT t, false), some (eW words, false), some (eI win, false), some (eI (word words s0), false), some (.int i, false), d5]) ∧ ∀ j s, j < k → win[j]? = some s → ∀ v, t[i]? = some (some v) → wf words i s = v) ⟨⟨_, rfl⟩, fun j s h => by omega⟩ ?_ ?_
    · rintro k s Γ hs ⟨⟨d5, rfl⟩, hk⟩
      have ms : s ∈ win := List.mem_of_getElem? hs
      obtain ⟨e2, l2⟩ := ix_word W O ms
      walk_at "cr.ev"
      rw [ix_map (l := t) (g := eO) i rfl hti (.inl rfl)]
      walk_at "cr.ev"
      rw [eO_isNot]
      walk_at "cr.ev"
      refine p_andt _ _ (fun h1 => ?_) fun h1 => ?_
      · simp -implicitDefEqProofs only [env0, e_var, e_non, e_bl, e_int, e_str, e_glob, e_bin, e_not, e_cmp, e_and, e_or, e_ife, e_tup, e_lst, e_ix, e_slc, e_call, e_blt, e_lc, e_ssc, e_rvs, v_nil, v_cons, a_nil, a_cons, bs_nil, bs_cons, asO_int, o_none, o_some, t_e, t_cmp, t_and, t_or, t_not, t_inr, inr_int, to_none, to_some, asSeq_tup, asSeq_lst, asSeq_fls, i_seq, i_rev, i_rng, i_rng2, s_nil, s_cons, seq_nx, seq_rt, seq_bk, seq_ct, x_set, x_own, x_ret, x_retn, x_retv, x_ifs, x_fors, x_whl, x_app, x_frz, x_aug, x_pass, x_brk, x_cont, x_seti, ifs_true, ifs_false, ife_true, ife_false, and_t, and_f, or_t, or_f, andt_t, andt_f, ort_t, ort_f, ForP, RtP, borOr, argOr, isBor, lookV, look, put, asg, asgs, pb, pbO, up_some, up_none, ok_bind, okp_ok, okp_bind, okp_bad, List.getElem?_cons_zero, List.getElem?_cons_succ, List.set_cons_zero, List.set_cons_succ, List.length_cons, List.length_nil, List.map_cons, List.map_nil, List.cons_append, List.nil_append, List.length_map, List.replicate_succ, List.replicate_zero, wipeE, List.length_replicate, bd_int, bd_abs, bd_len, bd_list, bd_tuple, bd_sorted, bd_sortedSet, bd_any, bd_all, bd_sum, bd_isi, bd_listRange, bd_min, bd_max, f_int, f_abs, f_lenT, f_lenL, f_lenF, f_all, f_any, tr_bl, tr_lst, tr_tup, own_lst, Nat.reduceSub, Nat.reduceAdd, Nat.reduceLT, Nat.reduceLeDiff, Nat.zero_lt_succ, ↓reduceIte, b_add, b_sub, k_lt, k_le, k_gt, k_ge, k_eq, k_ne, k_eqB, k_neB, Gx.within, gWithin, List.contains_cons, beq_self_eq_true, Bool.true_or, Bool.and_true, Bool.true_and, Bool.and_self, Bool.not_true, Bool.not_false, List.elem_cons, List.contains_eq_mem, List.mem_cons, true_or, or_true, decide_true, Bool.false_eq_true, if_false, exists_eq_left', Option.some.injEq, e2, ix_wf l2 hi, ixt]
        cases e : t[i] with
        | none => rw [e] at h1; simp at h1
        | some v =>
          show OkP (up (cmpD .NotEq (.int _) (.int v))) _
          walk_at "cr.ev"
          refine p_ifs _ _ (fun h2 => ?_) fun h2 => ?_
          · simp -implicitDefEqProofs only [env0, e_var, e_non, e_bl, e_int, e_str, e_glob, e_bin, e_not, e_cmp, e_and, e_or, e_ife, e_tup, e_lst, e_ix, e_slc, e_call, e_blt, e_lc, e_ssc, e_rvs, v_nil, v_cons, a_nil, a_cons, bs_nil, bs_cons, asO_int, o_none, o_some, t_e, t_cmp, t_and, t_or, t_not, t_inr, inr_int, to_none, to_some, asSeq_tup, asSeq_lst, asSeq_fls, i_seq, i_rev, i_rng, i_rng2, s_nil, s_cons, seq_nx, seq_rt, seq_bk, seq_ct, x_set, x_own, x_ret, x_retn, x_retv, x_ifs, x_fors, x_whl, x_app, x_frz, x_aug, x_pass, x_brk, x_cont, x_seti, ifs_true, ifs_false, ife_true, ife_false, and_t, and_f, or_t, or_f, andt_t, andt_f, ort_t, ort_f, ForP, RtP, borOr, argOr, isBor, lookV, look, put, asg, asgs, pb, pbO, up_some, up_none, ok_bind, okp_ok, okp_bind, okp_bad, List.getElem?_cons_zero, List.getElem?_cons_succ, List.set_cons_zero, List.set_cons_succ, List.length_cons, List.length_nil, List.map_cons, List.map_nil, List.cons_append, List.nil_append, List.length_map, List.replicate_succ, List.replicate_zero, wipeE, List.length_replicate, bd_int, bd_abs, bd_len, bd_list, bd_tuple, bd_sorted, bd_sortedSet, bd_any, bd_all, bd_sum, bd_isi, bd_listRange, bd_min, bd_max, f_int, f_abs, f_lenT, f_lenL, f_lenF, f_all, f_any, tr_bl, tr_lst, tr_tup, own_lst, Nat.reduceSub, Nat.reduceAdd, Nat.reduceLT, Nat.reduceLeDiff, Nat.zero_lt_succ, ↓reduceIte, b_add, b_sub, k_lt, k_le, k_gt, k_ge, k_eq, k_ne, k_eqB, k_neB, Gx.within, gWithin, List.contains_cons, beq_self_eq_true, Bool.true_or, Bool.and_true, Bool.true_and, Bool.and_self, Bool.not_true, Bool.not_false, List.elem_cons, List.contains_eq_mem, List.mem_cons, true_or, or_true, decide_true, Bool.false_eq_true, if_false, exists_eq_left', Option.some.injEq, sl_to, e2, ix_wf l2 hi]
            rw [if_sz (by decide)]
            walk_at "cr.ev"
            rw [b_cat (by rw [sizeLine_eq]; walk_at "cr.om")]
            walk_at "cr.ev"
            rw [show ((i : Int) + 1) = ((i + 1 : Nat) : Int) from rfl, sl_from]
            walk_at "cr.ev"
            rw [b_cat (by rw [sizeLine_eq]; walk_at "cr.om")]
            walk_at "cr.ev"
            refine ⟨some ((word words s0).set i (wf words i s)), ?_, mix_set W O m0 ms hi, holdsP_false (hti.trans (by rw [e])) ?_⟩
            · rw [← set_eq _ _ _ (by omega)]
              simp [eR, List.map_take, List.map_drop]
            · rw [List.getElem?_set, if_pos rfl, if_pos (by omega)]
              intro h3
              simp at h2
              exact h2 (Option.some.inj h3)
          · walk_at "cr.ev"
            refine ⟨⟨_, rfl⟩, fun j s' hj hs' v' hv' => ?_⟩
            by_cases q : j < k
            · exact hk j s' q hs' v' hv'
            · obtain rfl : j = k := by omega
              rw [hs] at hs'
              cases hs'
              rw [hti, e] at hv'
              cases hv'
              simpa using h2
      · walk_at "cr.ev"
        refine ⟨⟨_, rfl⟩, fun j s' hj hs' v' hv' => ?_⟩
        rw [hti] at hv'
        rw [Option.some.inj hv'] at h1
        simp at h1
    · rintro Γ ⟨⟨d5, rfl⟩, hk⟩
      walk_at "cr.ev"
      refine ⟨⟨_, _, rfl⟩, fun j v hj hv s hs => ?_⟩
      by_cases q : j < i
      · exact hb j v q hv s hs
      · obtain rfl : j = i := by omega
        obtain ⟨m, hm, e⟩ := List.getElem_of_mem hs
        exact hk m s hm (by rw [List.getElem?_eq_getElem hm, e]) v hv
  · rintro Γ ⟨⟨d4, d5, rfl⟩, hb⟩
    walk_at "cr.ev"
    refine ⟨none, rfl, fun i v hv s hs => hb i v ?_ hv s hs⟩
    have := (List.getElem?_eq_some_iff.mp hv).1
    walk_at "cr.om"
end K50
end

section
set_option maxHeartbeats 4000000
namespace K50
open PySem PySem.Spec PyProof.Rows L2 Cr

def HoldS (words : List (List Int)) (win : List Int) (F : Nat) (t : List (Option Int)) : Option (List Int) → Prop
  | none => ∃ (i : Nat) (v : Int), t[i]? = some (some v) ∧ v ∉ seen words win i
  | some x => Mix words win F x ∧ holdsP t x = true
theorem c_holding (n : Nat) {words : List (List Int)} {win : List Int} {F : Nat} {t : List (Option Int)} (W : OkW words F) (O : OkWin words win) (ht : t.length = F) : ∃ r, callN tbl (n + 2) "holding_at" [eT t, eW words, eI win] = .ok (eR r, false) ∧ HoldS words win F t r := by
  refine okp_ex (k := fun r => (eR r, false)) (okp_call fd_holding_at rfl rfl (by decide) ?_)
  unfold fd_holding_at
  have F1 := W.F100
  simp -implicitDefEqProofs only [env0, e_var, e_non, e_bl, e_int, e_str, e_glob, e_bin, e_not, e_cmp, e_and, e_or, e_ife, e_tup, e_lst, e_ix, e_slc, e_call, e_blt, e_lc, e_ssc, e_rvs, v_nil, v_cons, a_nil, a_cons, bs_nil, bs_cons, asO_int, o_none, o_some, t_e, t_cmp, t_and, t_or, t_not, t_inr, inr_int, to_none, to_some, asSeq_tup, asSeq_lst, asSeq_fls, i_seq, i_rev, i_rng, i_rng2, s_nil, s_cons, seq_nx, seq_rt, seq_bk, seq_ct, x_set, x_own, x_ret, x_retn, x_retv, x_ifs, x_fors, x_whl, x_app, x_frz, x_aug, x_pass, x_brk, x_cont, x_seti, ifs_true, ifs_false, ife_true, ife_false, and_t, and_f, or_t, or_f, andt_t, andt_f, ort_t, ort_f, ForP, RtP, borOr, argOr, isBor, lookV, look, put, asg, asgs, pb, pbO, up_some, up_none, ok_bind, okp_ok, okp_bind, okp_bad, List.getElem?_cons_zero, List.getElem?_cons_succ, List.set_cons_zero, List.set_cons_succ, List.length_cons, List.length_nil, List.map_cons, List.map_nil, List.cons_append, List.nil_append, List.length_map, List.replicate_succ, List.replicate_zero, wipeE, List.length_replicate, bd_int, bd_abs, bd_len, bd_list, bd_tuple, bd_sorted, bd_sortedSet, bd_any, bd_all, bd_sum, bd_isi, bd_listRange, bd_min, bd_max, f_int, f_abs, f_lenT, f_lenL, f_lenF, f_all, f_any, tr_bl, tr_lst, tr_tup, own_lst, Nat.reduceSub, Nat.reduceAdd, Nat.reduceLT, Nat.reduceLeDiff, Nat.zero_lt_succ, ↓reduceIte, b_add, b_sub, k_lt, k_le, k_gt, k_ge, k_eq, k_ne, k_eqB, k_neB, Gx.within, gWithin, List.contains_cons, beq_self_eq_true, Bool.true_or, Bool.and_true, Bool.true_and, Bool.and_self, Bool.not_true, Bool.not_false, List.elem_cons, List.contains_eq_mem, List.mem_cons, true_or, or_true, decide_true, Bool.false_eq_true, if_false, exists_eq_left', Option.some.injEq, callOr_val (as := [(eW words, false), (eI win, false)]) (c_seen n W O) rfl]
  rw [if_sz (by decide)]
  walk_at "cr.ev"
  rw [asRng_nat _ (by omega)]
  walk_at "cr.ev"
  refine p_for (f := fun i : Nat => D.int i) (fun i Γ => ∃ d5 d6 rd, Γ = [some (eT t, false), some (eW words, false), some (eI win, false), some (.lst ((List.range F).map fun i => eI (seen words win i)), false), some (.lst (rd.map D.int), true), d5, d6] ∧ rd.length = i ∧
    ∀ (j : Nat) (v : Int), rd[j]? = some v → v ∈ seen words win j ∧ ∀ v' : Int, t[j]? = some (some v') → v = v') ⟨_, _, [], rfl, rfl, fun j v h => by simp at h⟩ ?_ ?_
  · rintro i x Γ hx ⟨d5, d6, rd, rfl, hl, hr⟩
    have hi : i < F := by
      have := (List.getElem?_eq_some_iff.mp hx).1
      simp at this; omega
    rw [List.getElem?_range (by omega)] at hx
    cases hx
    have hti : t[i]? = some t[i] := List.getElem?_eq_getElem (by omega)
    have ixt : ixD (eT t) false (.int i) = some (eO t[i], false) := ix_map i rfl hti (.inl rfl)
    have ixs : ixD (.lst ((List.range F).map fun i => eI (seen words win i))) false (.int i) = some (eI (seen words win i), false) := ix_map (g := fun i => eI (seen words win i)) i rfl (List.getElem?_range hi) (.inl rfl)
    obtain ⟨v0, e0⟩ : ∃ v0, (seen words win i)[0]? = some v0 := by
      cases e : seen words win i with
      | nil => exact absurd e (seen_ne O.ne)
      | cons v vs => exact ⟨v, rfl⟩
    have ix0 : ixD (eI (seen words win i)) false (.int 0) = some (.int v0, false) := ix_mapI (l := seen words win i) (g := D.int) (k := 0) (by decide) rfl e0 (.inl rfl)
    have m0 : v0 ∈ seen words win i := List.mem_of_getElem? e0
    have step : ∀ v : Int, v ∈ seen words win i → (∀ v' : Int, t[i]? = some (some v') → v = v') → ∀ (j : Nat) (u : Int), (rd ++ [v])[j]? = some u → u ∈ seen words win j ∧ ∀ v' : Int, t[j]? = some (some v') → u = v' := fun v h1 h2 j u hj => by
      by_cases q : j < rd.length
      · rw [List.getElem?_append_left q] at hj
        exact hr j u hj
      · rw [List.getElem?_append_right (by omega)] at hj
        have : j - rd.length = 0 := by
          have := (List.getElem?_eq_some_iff.mp hj).1
          simp at this; omega
        have e : j = i := by omega
        subst e
        rw [this] at hj
        cases hj
        exact ⟨h1, h2⟩
    simp -implicitDefEqProofs only [env0, e_var, e_non, e_bl, e_int, e_str, e_glob, e_bin, e_not, e_cmp, e_and, e_or, e_ife, e_tup, e_lst, e_ix, e_slc, e_call, e_blt, e_lc, e_ssc, e_rvs, v_nil, v_cons, a_nil, a_cons, bs_nil, bs_cons, asO_int, o_none, o_some, t_e, t_cmp, t_and, t_or, t_not, t_inr, inr_int, to_none, to_some, asSeq_tup, asSeq_lst, asSeq_fls, i_seq, i_rev, i_rng, i_rng2, s_nil, s_cons, seq_nx, seq_rt, seq_bk, seq_ct, x_set, x_own, x_ret, x_retn, x_retv, x_ifs, x_fors, x_whl, x_app, x_frz, x_aug, x_pass, x_brk, x_cont, x_seti, ifs_true, ifs_false, ife_true, ife_false, and_t, and_f, or_t, or_f, andt_t, andt_f, ort_t, ort_f, ForP, RtP, borOr, argOr, isBor, lookV, look, put, asg, asgs, pb, pbO, up_some, up_none, ok_bind, okp_ok, okp_bind, okp_bad, List.getElem?_cons_zero, List.getElem?_cons_succ, List.set_cons_zero, List.set_cons_succ, List.length_cons, List.length_nil, List.map_cons, List.map_nil, List.cons_append, List.nil_append, List.length_map, List.replicate_succ, List.replicate_zero, wipeE, List.length_replicate, bd_int, bd_abs, bd_len, bd_list, bd_tuple, bd_sorted, bd_sortedSet, bd_any, bd_all, bd_sum, bd_isi, bd_listRange, bd_min, bd_max, f_int, f_abs, f_lenT, f_lenL, f_lenF, f_all, f_any, tr_bl, tr_lst, tr_tup, own_lst, Nat.reduceSub, Nat.reduceAdd, Nat.reduceLT, Nat.reduceLeDiff, Nat.zero_lt_succ, ↓reduceIte, b_add, b_sub, k_lt, k_le, k_gt, k_ge, k_eq, k_ne, k_eqB, k_neB, Gx.within, gWithin, List.contains_cons, beq_self_eq_true, Bool.true_or, Bool.and_true, Bool.true_and, Bool.and_self, Bool.not_true, Bool.not_false, List.elem_cons, List.contains_eq_mem, List.mem_cons, true_or, or_true, decide_true, Bool.false_eq_true, if_false, exists_eq_left', Option.some.injEq, ixt, eO_is]
    refine p_ifs _ _ (fun h1 => ?_) fun h1 => ?_
    · have h1 : t[i] = none := by simpa using h1
      simp -implicitDefEqProofs only [env0, e_var, e_non, e_bl, e_int, e_str, e_glob, e_bin, e_not, e_cmp, e_and, e_or, e_ife, e_tup, e_lst, e_ix, e_slc, e_call, e_blt, e_lc, e_ssc, e_rvs, v_nil, v_cons, a_nil, a_cons, bs_nil, bs_cons, asO_int, o_none, o_some, t_e, t_cmp, t_and, t_or, t_not, t_inr, inr_int, to_none, to_some, asSeq_tup, asSeq_lst, asSeq_fls, i_seq, i_rev, i_rng, i_rng2, s_nil, s_cons, seq_nx, seq_rt, seq_bk, seq_ct, x_set, x_own, x_ret, x_retn, x_retv, x_ifs, x_fors, x_whl, x_app, x_frz, x_aug, x_pass, x_brk, x_cont, x_seti, ifs_true, ifs_false, ife_true, ife_false, and_t, and_f, or_t, or_f, andt_t, andt_f, ort_t, ort_f, ForP, RtP, borOr, argOr, isBor, lookV, look, put, asg, asgs, pb, pbO, up_some, up_none, ok_bind, okp_ok, okp_bind, okp_bad, List.getElem?_cons_zero, List.getElem?_cons_succ, List.set_cons_zero, List.set_cons_succ, List.length_cons, List.length_nil, List.map_cons, List.map_nil, List.cons_append, List.nil_append, List.length_map, List.replicate_succ, List.replicate_zero, wipeE, List.length_replicate, bd_int, bd_abs, bd_len, bd_list, bd_tuple, bd_sorted, bd_sortedSet, bd_any, bd_all, bd_sum, bd_isi, bd_listRange, bd_min, bd_max, f_int, f_abs, f_lenT, f_lenL, f_lenF, f_all, f_any, tr_bl, tr_lst, tr_tup, own_lst, Nat.reduceSub, Nat.reduceAdd, Nat.reduceLT, Nat.reduceLeDiff, Nat.zero_lt_succ, ↓reduceIte, b_add, b_sub, k_lt, k_le, k_gt, k_ge, k_eq, k_ne, k_eqB, k_neB, Gx.within, gWithin, List.contains_cons, beq_self_eq_true, Bool.true_or, Bool.and_true, Bool.true_and, Bool.and_self, Bool.not_true, Bool.not_false, List.elem_cons, List.contains_eq_mem, List.mem_cons, true_or, or_true, decide_true, Bool.false_eq_true, if_false, exists_eq_left', Option.some.injEq, ixs, ix0, k_notIn (y := eI (seen words win i)) v0 rfl]
      rw [decide_eq_true m0]
      walk_at "cr.ev"
      rw [if_app (by walk_at "cr.om")]
      walk_at "cr.ev"
      refine ⟨_, _, rd ++ [v0], by rw [List.map_append]; rfl, by simp [hl], step v0 m0 fun v' h => ?_⟩
      rw [hti, h1] at h
      cases h
    · obtain ⟨v, hv⟩ : ∃ v, t[i] = some v := by
        cases e : t[i] with
        | none => rw [e] at h1; simp at h1
        | some v => exact ⟨v, rfl⟩
      rw [hv]
      rw [show eO (some v) = D.int v from rfl]
      simp -implicitDefEqProofs only [env0, e_var, e_non, e_bl, e_int, e_str, e_glob, e_bin, e_not, e_cmp, e_and, e_or, e_ife, e_tup, e_lst, e_ix, e_slc, e_call, e_blt, e_lc, e_ssc, e_rvs, v_nil, v_cons, a_nil, a_cons, bs_nil, bs_cons, asO_int, o_none, o_some, t_e, t_cmp, t_and, t_or, t_not, t_inr, inr_int, to_none, to_some, asSeq_tup, asSeq_lst, asSeq_fls, i_seq, i_rev, i_rng, i_rng2, s_nil, s_cons, seq_nx, seq_rt, seq_bk, seq_ct, x_set, x_own, x_ret, x_retn, x_retv, x_ifs, x_fors, x_whl, x_app, x_frz, x_aug, x_pass, x_brk, x_cont, x_seti, ifs_true, ifs_false, ife_true, ife_false, and_t, and_f, or_t, or_f, andt_t, andt_f, ort_t, ort_f, ForP, RtP, borOr, argOr, isBor, lookV, look, put, asg, asgs, pb, pbO, up_some, up_none, ok_bind, okp_ok, okp_bind, okp_bad, List.getElem?_cons_zero, List.getElem?_cons_succ, List.set_cons_zero, List.set_cons_succ, List.length_cons, List.length_nil, List.map_cons, List.map_nil, List.cons_append, List.nil_append, List.length_map, List.replicate_succ, List.replicate_zero, wipeE, List.length_replicate, bd_int, bd_abs, bd_len, bd_list, bd_tuple, bd_sorted, bd_sortedSet, bd_any, bd_all, bd_sum, bd_isi, bd_listRange, bd_min, bd_max, f_int, f_abs, f_lenT, f_lenL, f_lenF, f_all, f_any, tr_bl, tr_lst, tr_tup, own_lst, Nat.reduceSub, Nat.reduceAdd, Nat.reduceLT, Nat.reduceLeDiff, Nat.zero_lt_succ, ↓reduceIte, b_add, b_sub, k_lt, k_le, k_gt, k_ge, k_eq, k_ne, k_eqB, k_neB, Gx.within, gWithin, List.contains_cons, beq_self_eq_true, Bool.true_or, Bool.and_true, Bool.true_and, Bool.and_self, Bool.not_true, Bool.not_false, List.elem_cons, List.contains_eq_mem, List.mem_cons, true_or, or_true, decide_true, Bool.false_eq_true, if_false, exists_eq_left', Option.some.injEq, ixs, k_notIn (y := eI (seen words win i)) v rfl]
      refine p_ifs _ _ (fun h2 => ?_) fun h2 => ?_
      · walk_at "cr.ev"
        exact ⟨none, rfl, i, v, by rw [hti, hv], by simpa using h2⟩
      · have h2 : v ∈ seen words win i := by simpa using h2
        walk_at "cr.ev"
        rw [if_app (by walk_at "cr.om")]
        walk_at "cr.ev"
        refine ⟨_, _, rd ++ [v], by rw [List.map_append]; rfl, by simp [hl], step v h2 fun v' h => ?_⟩
        rw [hti, hv] at h
        cases h
        rfl
  · rintro Γ ⟨d5, d6, rd, rfl, hl, hr⟩
    walk_at "cr.ev"
    rw [f_tuple rfl (nl_ints _ _)]
    walk_at "cr.ev"
    have hl : rd.length = F := by rw [hl]; simp [ht]
    refine ⟨some rd, rfl, ⟨hl, fun i v h => (hr i v h).1⟩, holdsP_true.mpr fun i v h => ?_⟩
    have hi := (List.getElem?_eq_some_iff.mp h).1
    have e : rd[i]? = some rd[i] := List.getElem?_eq_getElem (by omega)
    rw [e, (hr i _ e).2 v h]

/-- what a window's readings tell -/
def SilS (words : List (List Int)) (win : List Int) (F : Nat) (c : List (List (Option Int))) : Option (List (List Int)) → Prop
  | none => ∃ t ∈ c, FailS words win F t none
  | some xs => xs.length = c.length ∧ ∀ (i : Nat) t, c[i]? = some t → ∃ x, xs[i]? = some x ∧ Mix words win F x ∧ holdsP t x = false
def eRs : Option (List (List Int)) → D
  | none => .non
  | some l => .tup (l.map eI)
theorem eRs_isNot (o : Option (List (List Int))) : cmpD .IsNot (eRs o) .non = some (!decide (o = none)) := by cases o <;> rfl
theorem all_some {α : Type} : ∀ (ys : List (Option α)), (∀ y ∈ ys, y ≠ none) → ∃ xs : List α, ys = xs.map some
  | [], _ => ⟨[], rfl⟩
  | none :: ys, h => absurd rfl (h none (by simp))
  | some y :: ys, h => by
    obtain ⟨xs, e⟩ := all_some ys fun z hz => h z (by simp [hz])
    exact ⟨y :: xs, by rw [e]; rfl⟩
theorem c_silent (n : Nat) {words : List (List Int)} {win : List Int} {F : Nat} {c : List (List (Option Int))} {cD : D} (W : OkW words F) (O : OkWin words win) (hc : cD.seq = some (c.map eT)) (hl : c.length ≤ 1000) (ht : ∀ t ∈ c, t.length = F) :
    ∃ r, callN tbl (n + 2) "silent_readings" [cD, eW words, eI win] = .ok (eRs r, false) ∧ SilS words win F c r := by
  refine okp_ex (k := fun r => (eRs r, false)) (okp_call fd_silent_readings rfl rfl (by decide) ?_)
  unfold fd_silent_readings
  simp -implicitDefEqProofs only [env0, e_var, e_non, e_bl, e_int, e_str, e_glob, e_bin, e_not, e_cmp, e_and, e_or, e_ife, e_tup, e_lst, e_ix, e_slc, e_call, e_blt, e_lc, e_ssc, e_rvs, v_nil, v_cons, a_nil, a_cons, bs_nil, bs_cons, asO_int, o_none, o_some, t_e, t_cmp, t_and, t_or, t_not, t_inr, inr_int, to_none, to_some, asSeq_tup, asSeq_lst, asSeq_fls, i_seq, i_rev, i_rng, i_rng2, s_nil, s_cons, seq_nx, seq_rt, seq_bk, seq_ct, x_set, x_own, x_ret, x_retn, x_retv, x_ifs, x_fors, x_whl, x_app, x_frz, x_aug, x_pass, x_brk, x_cont, x_seti, ifs_true, ifs_false, ife_true, ife_false, and_t, and_f, or_t, or_f, andt_t, andt_f, ort_t, ort_f, ForP, RtP, borOr, argOr, isBor, lookV, look, put, asg, asgs, pb, pbO, up_some, up_none, ok_bind, okp_ok, okp_bind, okp_bad, List.getElem?_cons_zero, List.getElem?_cons_succ, List.set_cons_zero, List.set_cons_succ, List.length_cons, List.length_nil, List.map_cons, List.map_nil, List.cons_append, List.nil_append, List.length_map, List.replicate_succ, List.replicate_zero, wipeE, List.length_replicate, bd_int, bd_abs, bd_len, bd_list, bd_tuple, bd_sorted, bd_sortedSet, bd_any, bd_all, bd_sum, bd_isi, bd_listRange, bd_min, bd_max, f_int, f_abs, f_lenT, f_lenL, f_lenF, f_all, f_any, tr_bl, tr_lst, tr_tup, own_lst, Nat.reduceSub, Nat.reduceAdd, Nat.reduceLT, Nat.reduceLeDiff, Nat.zero_lt_succ, ↓reduceIte, b_add, b_sub, k_lt, k_le, k_gt, k_ge, k_eq, k_ne, k_eqB, k_neB, Gx.within, gWithin, List.contains_cons, beq_self_eq_true, Bool.true_or, Bool.and_true, Bool.true_and, Bool.and_self, Bool.not_true, Bool.not_false, List.elem_cons, List.contains_eq_mem, List.mem_cons, true_or, or_true, decide_true, Bool.false_eq_true, if_false, exists_eq_left', Option.some.injEq, asSeq_of hc]
  obtain ⟨ys, e1, e2, e3⟩ := lcx (call := callN tbl (n + 1)) (Γ := [some (cD, false), some (eW words, false), some (eI win, false), none, none, none]) (own := [4]) (g := .nm 4) (e := .call "failing_at" [.var 4, .var 1, .var 2]) eT eR (FailS words win F) c fun t h => by
    obtain ⟨r, q1, q2⟩ := c_failing n W O (ht t h)
    simp -implicitDefEqProofs only [env0, e_var, e_non, e_bl, e_int, e_str, e_glob, e_bin, e_not, e_cmp, e_and, e_or, e_ife, e_tup, e_lst, e_ix, e_slc, e_call, e_blt, e_lc, e_ssc, e_rvs, v_nil, v_cons, a_nil, a_cons, bs_nil, bs_cons, asO_int, o_none, o_some, t_e, t_cmp, t_and, t_or, t_not, t_inr, inr_int, to_none, to_some, asSeq_tup, asSeq_lst, asSeq_fls, i_seq, i_rev, i_rng, i_rng2, s_nil, s_cons, seq_nx, seq_rt, seq_bk, seq_ct, x_set, x_own, x_ret, x_retn, x_retv, x_ifs, x_fors, x_whl, x_app, x_frz, x_aug, x_pass, x_brk, x_cont, x_seti, ifs_true, ifs_false, ife_true, ife_false, and_t, and_f, or_t, or_f, andt_t, andt_f, ort_t, ort_f, ForP, RtP, borOr, argOr, isBor, lookV, look, put, asg, asgs, pb, pbO, up_some, up_none, ok_bind, okp_ok, okp_bind, okp_bad, List.getElem?_cons_zero, List.getElem?_cons_succ, List.set_cons_zero, List.set_cons_succ, List.length_cons, List.length_nil, List.map_cons, List.map_nil, List.cons_append, List.nil_append, List.length_map, List.replicate_succ, List.replicate_zero, wipeE, List.length_replicate, bd_int, bd_abs, bd_len, bd_list, bd_tuple, bd_sorted, bd_sortedSet, bd_any, bd_all, bd_sum, bd_isi, bd_listRange, bd_min, bd_max, f_int, f_abs, f_lenT, f_lenL, f_lenF, f_all, f_any, tr_bl, tr_lst, tr_tup, own_lst, Nat.reduceSub, Nat.reduceAdd, Nat.reduceLT, Nat.reduceLeDiff, Nat.zero_lt_succ, ↓reduceIte, b_add, b_sub, k_lt, k_le, k_gt, k_ge, k_eq, k_ne, k_eqB, k_neB, Gx.within, gWithin, List.contains_cons, beq_self_eq_true, Bool.true_or, Bool.and_true, Bool.true_and, Bool.and_self, Bool.not_true, Bool.not_false, List.elem_cons, List.contains_eq_mem, List.mem_cons, true_or, or_true, decide_true, Bool.false_eq_true, if_false, exists_eq_left', Option.some.injEq, callOr_val (as := [(eT t, false), (eW words, false), (eI win, false)]) q1 rfl]
    exact ⟨r, q2, rfl⟩
  rw [e1]
  walk_at "cr.ev"
  rw [if_sz (by walk_at "cr.om")]
  walk_at "cr.ev"
  rw [lca (f := eR) (h := fun o => .bl (!decide (o = none)))]
  · walk_at "cr.ev"
    rw [if_sz (by walk_at "cr.om")]
    walk_at "cr.ev"
    refine p_ifs _ _ (fun h1 => ?_) fun h1 => ?_
    · rw [List.all_eq_true] at h1
      obtain ⟨xs, rfl⟩ := all_some ys fun y hy h => by simpa [h] using h1 y hy
      walk_at "cr.ev"
      rw [f_tuple rfl (nl_ok (fun x hx => by obtain ⟨i, _, rfl⟩ := List.mem_map.mp hx; exact nl_eR i) _)]
      walk_at "cr.ev"
      refine ⟨some xs, by simp [eRs, eR], by simpa using e2, fun i t hi => ?_⟩
      obtain ⟨y, h2, h3⟩ := e3 i t hi
      rw [List.getElem?_map] at h2
      obtain ⟨x, h4, rfl⟩ := Option.map_eq_some_iff.mp h2
      exact ⟨x, h4, h3⟩
    · walk_at "cr.ev"
      refine ⟨none, rfl, ?_⟩
      rw [List.all_eq_false] at h1
      obtain ⟨y, hy, hn⟩ := h1
      have hn : y = none := by simpa using hn
      subst hn
      obtain ⟨i, hi, e⟩ := List.getElem_of_mem hy
      have hic : c[i]? = some c[i] := List.getElem?_eq_getElem (by omega)
      obtain ⟨y, h2, h3⟩ := e3 i _ hic
      rw [List.getElem?_eq_getElem hi, e] at h2
      cases h2
      exact ⟨_, List.mem_of_getElem? hic, h3⟩
  · intro o ho
    simp -implicitDefEqProofs only [env0, e_var, e_non, e_bl, e_int, e_str, e_glob, e_bin, e_not, e_cmp, e_and, e_or, e_ife, e_tup, e_lst, e_ix, e_slc, e_call, e_blt, e_lc, e_ssc, e_rvs, v_nil, v_cons, a_nil, a_cons, bs_nil, bs_cons, asO_int, o_none, o_some, t_e, t_cmp, t_and, t_or, t_not, t_inr, inr_int, to_none, to_some, asSeq_tup, asSeq_lst, asSeq_fls, i_seq, i_rev, i_rng, i_rng2, s_nil, s_cons, seq_nx, seq_rt, seq_bk, seq_ct, x_set, x_own, x_ret, x_retn, x_retv, x_ifs, x_fors, x_whl, x_app, x_frz, x_aug, x_pass, x_brk, x_cont, x_seti, ifs_true, ifs_false, ife_true, ife_false, and_t, and_f, or_t, or_f, andt_t, andt_f, ort_t, ort_f, ForP, RtP, borOr, argOr, isBor, lookV, look, put, asg, asgs, pb, pbO, up_some, up_none, ok_bind, okp_ok, okp_bind, okp_bad, List.getElem?_cons_zero, List.getElem?_cons_succ, List.set_cons_zero, List.set_cons_succ, List.length_cons, List.length_nil, List.map_cons, List.map_nil, List.cons_append, List.nil_append, List.length_map, List.replicate_succ, List.replicate_zero, wipeE, List.length_replicate, bd_int, bd_abs, bd_len, bd_list, bd_tuple, bd_sorted, bd_sortedSet, bd_any, bd_all, bd_sum, bd_isi, bd_listRange, bd_min, bd_max, f_int, f_abs, f_lenT, f_lenL, f_lenF, f_all, f_any, tr_bl, tr_lst, tr_tup, own_lst, Nat.reduceSub, Nat.reduceAdd, Nat.reduceLT, Nat.reduceLeDiff, Nat.zero_lt_succ, ↓reduceIte, b_add, b_sub, k_lt, k_le, k_gt, k_ge, k_eq, k_ne, k_eqB, k_neB, Gx.within, gWithin, List.contains_cons, beq_self_eq_true, Bool.true_or, Bool.and_true, Bool.true_and, Bool.and_self, Bool.not_true, Bool.not_false, List.elem_cons, List.contains_eq_mem, List.mem_cons, true_or, or_true, decide_true, Bool.false_eq_true, if_false, exists_eq_left', Option.some.injEq, eR_isNot]
def FalS (words : List (List Int)) (win : List Int) (F : Nat) (c : List (List (Option Int))) : Option (List (List Int)) → Prop
  | none => ∀ t ∈ c, HoldS words win F t none
  | some xs => xs.length = c.length ∧ (∀ x ∈ xs, Mix words win F x) ∧ ∃ (i : Nat) (t : List (Option Int)) (x : List Int), c[i]? = some t ∧ xs[i]? = some x ∧ holdsP t x = true
theorem rep_flat {α : Type} (n : Nat) (x : α) : (List.replicate n [x]).flatten = List.replicate n x := by
  induction n with
  | zero => rfl
  | succ n ih => rw [List.replicate_succ, List.flatten_cons, ih]; rfl
theorem c_false (n : Nat) {words : List (List Int)} {win : List Int} {F : Nat} {c : List (List (Option Int))} {cD : D} (W : OkW words F) (O : OkWin words win) (hc : cD.seq = some (c.map eT)) (hl : c.length ≤ 1000) (ht : ∀ t ∈ c, t.length = F) :
    ∃ r, callN tbl (n + 3) "false_readings" [cD, eW words, eI win] = .ok (eRs r, false) ∧ FalS words win F c r := by
  refine okp_ex (k := fun r => (eRs r, false)) (okp_call fd_false_readings rfl rfl (by decide) ?_)
  unfold fd_false_readings
  simp -implicitDefEqProofs only [env0, e_var, e_non, e_bl, e_int, e_str, e_glob, e_bin, e_not, e_cmp, e_and, e_or, e_ife, e_tup, e_lst, e_ix, e_slc, e_call, e_blt, e_lc, e_ssc, e_rvs, v_nil, v_cons, a_nil, a_cons, bs_nil, bs_cons, asO_int, o_none, o_some, t_e, t_cmp, t_and, t_or, t_not, t_inr, inr_int, to_none, to_some, asSeq_tup, asSeq_lst, asSeq_fls, i_seq, i_rev, i_rng, i_rng2, s_nil, s_cons, seq_nx, seq_rt, seq_bk, seq_ct, x_set, x_own, x_ret, x_retn, x_retv, x_ifs, x_fors, x_whl, x_app, x_frz, x_aug, x_pass, x_brk, x_cont, x_seti, ifs_true, ifs_false, ife_true, ife_false, and_t, and_f, or_t, or_f, andt_t, andt_f, ort_t, ort_f, ForP, RtP, borOr, argOr, isBor, lookV, look, put, asg, asgs, pb, pbO, up_some, up_none, ok_bind, okp_ok, okp_bind, okp_bad, List.getElem?_cons_zero, List.getElem?_cons_succ, List.set_cons_zero, List.set_cons_succ, List.length_cons, List.length_nil, List.map_cons, List.map_nil, List.cons_append, List.nil_append, List.length_map, List.replicate_succ, List.replicate_zero, wipeE, List.length_replicate, bd_int, bd_abs, bd_len, bd_list, bd_tuple, bd_sorted, bd_sortedSet, bd_any, bd_all, bd_sum, bd_isi, bd_listRange, bd_min, bd_max, f_int, f_abs, f_lenT, f_lenL, f_lenF, f_all, f_any, tr_bl, tr_lst, tr_tup, own_lst, Nat.reduceSub, Nat.reduceAdd, Nat.reduceLT, Nat.reduceLeDiff, Nat.zero_lt_succ, ↓reduceIte, b_add, b_sub, k_lt, k_le, k_gt, k_ge, k_eq, k_ne, k_eqB, k_neB, Gx.within, gWithin, List.contains_cons, beq_self_eq_true, Bool.true_or, Bool.and_true, Bool.true_and, Bool.and_self, Bool.not_true, Bool.not_false, List.elem_cons, List.contains_eq_mem, List.mem_cons, true_or, or_true, decide_true, Bool.false_eq_true, if_false, exists_eq_left', Option.some.injEq, asSeq_of hc]
  refine p_for (f := eT) (fun i Γ => (∃ d3 d4, Γ = [some (cD, false), some (eW words, false), some (eI win, false), d3, d4]) ∧ ∀ (j : Nat) t, j < i → c[j]? = some t → HoldS words win F t none) ⟨⟨_, _, rfl⟩, fun j t h => by omega⟩ ?_ ?_
  · rintro i t Γ hi ⟨⟨d3, d4, rfl⟩, hb⟩
    have hm := List.mem_of_getElem? hi
    obtain ⟨r, q1, q2⟩ := c_holding n W O (ht t hm)
    simp -implicitDefEqProofs only [env0, e_var, e_non, e_bl, e_int, e_str, e_glob, e_bin, e_not, e_cmp, e_and, e_or, e_ife, e_tup, e_lst, e_ix, e_slc, e_call, e_blt, e_lc, e_ssc, e_rvs, v_nil, v_cons, a_nil, a_cons, bs_nil, bs_cons, asO_int, o_none, o_some, t_e, t_cmp, t_and, t_or, t_not, t_inr, inr_int, to_none, to_some, asSeq_tup, asSeq_lst, asSeq_fls, i_seq, i_rev, i_rng, i_rng2, s_nil, s_cons, seq_nx, seq_rt, seq_bk, seq_ct, x_set, x_own, x_ret, x_retn, x_retv, x_ifs, x_fors, x_whl, x_app, x_frz, x_aug, x_pass, x_brk, x_cont, x_seti, ifs_true, ifs_false, ife_true, ife_false, and_t, and_f, or_t, or_f, andt_t, andt_f, ort_t, ort_f, ForP, RtP, borOr, argOr, isBor, lookV, look, put, asg, asgs, pb, pbO, up_some, up_none, ok_bind, okp_ok, okp_bind, okp_bad, List.getElem?_cons_zero, List.getElem?_cons_succ, List.set_cons_zero, List.set_cons_succ, List.length_cons, List.length_nil, List.map_cons, List.map_nil, List.cons_append, List.nil_append, List.length_map, List.replicate_succ, List.replicate_zero, wipeE, List.length_replicate, bd_int, bd_abs, bd_len, bd_list, bd_tuple, bd_sorted, bd_sortedSet, bd_any, bd_all, bd_sum, bd_isi, bd_listRange, bd_min, bd_max, f_int, f_abs, f_lenT, f_lenL, f_lenF, f_all, f_any, tr_bl, tr_lst, tr_tup, own_lst, Nat.reduceSub, Nat.reduceAdd, Nat.reduceLT, Nat.reduceLeDiff, Nat.zero_lt_succ, ↓reduceIte, b_add, b_sub, k_lt, k_le, k_gt, k_ge, k_eq, k_ne, k_eqB, k_neB, Gx.within, gWithin, List.contains_cons, beq_self_eq_true, Bool.true_or, Bool.and_true, Bool.true_and, Bool.and_self, Bool.not_true, Bool.not_false, List.elem_cons, List.contains_eq_mem, List.mem_cons, true_or, or_true, decide_true, Bool.false_eq_true, if_false, exists_eq_left', Option.some.injEq, callOr_val (as := [(eT t, false), (eW words, false), (eI win, false)]) q1 rfl, eR_isNot]
    refine p_ifs _ _ (fun h1 => ?_) fun h1 => ?_
    · cases r with
      | none => simp at h1
      | some x =>
        have il := (List.getElem?_eq_some_iff.mp hi).1
        walk_at "cr.ev"
        rw [if_sz (by decide)]
        simp -implicitDefEqProofs only [env0, e_var, e_non, e_bl, e_int, e_str, e_glob, e_bin, e_not, e_cmp, e_and, e_or, e_ife, e_tup, e_lst, e_ix, e_slc, e_call, e_blt, e_lc, e_ssc, e_rvs, v_nil, v_cons, a_nil, a_cons, bs_nil, bs_cons, asO_int, o_none, o_some, t_e, t_cmp, t_and, t_or, t_not, t_inr, inr_int, to_none, to_some, asSeq_tup, asSeq_lst, asSeq_fls, i_seq, i_rev, i_rng, i_rng2, s_nil, s_cons, seq_nx, seq_rt, seq_bk, seq_ct, x_set, x_own, x_ret, x_retn, x_retv, x_ifs, x_fors, x_whl, x_app, x_frz, x_aug, x_pass, x_brk, x_cont, x_seti, ifs_true, ifs_false, ife_true, ife_false, and_t, and_f, or_t, or_f, andt_t, andt_f, ort_t, ort_f, ForP, RtP, borOr, argOr, isBor, lookV, look, put, asg, asgs, pb, pbO, up_some, up_none, ok_bind, okp_ok, okp_bind, okp_bad, List.getElem?_cons_zero, List.getElem?_cons_succ, List.set_cons_zero, List.set_cons_succ, List.length_cons, List.length_nil, List.map_cons, List.map_nil, List.cons_append, List.nil_append, List.length_map, List.replicate_succ, List.replicate_zero, wipeE, List.length_replicate, bd_int, bd_abs, bd_len, bd_list, bd_tuple, bd_sorted, bd_sortedSet, bd_any, bd_all, bd_sum, bd_isi, bd_listRange, bd_min, bd_max, f_int, f_abs, f_lenT, f_lenL, f_lenF, f_all, f_any, tr_bl, tr_lst, tr_tup, own_lst, Nat.reduceSub, Nat.reduceAdd, Nat.reduceLT, Nat.reduceLeDiff, Nat.zero_lt_succ, ↓reduceIte, b_add, b_sub, k_lt, k_le, k_gt, k_ge, k_eq, k_ne, k_eqB, k_neB, Gx.within, gWithin, List.contains_cons, beq_self_eq_true, Bool.true_or, Bool.and_true, Bool.true_and, Bool.and_self, Bool.not_true, Bool.not_false, List.elem_cons, List.contains_eq_mem, List.mem_cons, true_or, or_true, decide_true, Bool.false_eq_true, if_false, exists_eq_left', Option.some.injEq, len_seq hc]
        rw [b_rep ⟨by omega, by omega, by simp⟩]
        walk_at "cr.ev"
        refine ⟨some (List.replicate c.length x), ?_, by simp, fun y hy => ?_, i, t, x, hi, ?_, q2.2⟩
        · rw [Int.toNat_natCast, rep_flat]
          simp [eRs, eR]
        · rw [List.eq_of_mem_replicate hy]; exact q2.1
        · rw [List.getElem?_replicate, if_pos il]
    · have hn : r = none := by simpa using h1
      subst hn
      walk_at "cr.ev"
      refine ⟨⟨_, _, rfl⟩, fun j t' hj ht' => ?_⟩
      by_cases q : j < i
      · exact hb j t' q ht'
      · obtain rfl : j = i := by omega
        rw [hi] at ht'
        cases ht'
        exact q2
  · rintro Γ ⟨⟨d3, d4, rfl⟩, hb⟩
    walk_at "cr.ev"
    refine ⟨none, rfl, fun t h => ?_⟩
    obtain ⟨i, hi, e⟩ := List.getElem_of_mem h
    exact hb i t hi (by rw [List.getElem?_eq_getElem hi, e])
end K50
end

section
set_option maxHeartbeats 4000000
namespace K50
open PySem PySem.Spec PyProof.Rows L2 Cr

/-- a circuit as it is handed: its container, its terms -/
structure OkC (c : List (List (Option Int))) (cD : D) (F : Nat) : Prop where
  seq : cD.seq = some (c.map eT)
  few : c.length ≤ 1000
  len : ∀ t ∈ c, t.length = F
def inP (win yes : List Int) : List Int := win.filter fun s => decide (s ∈ yes)
structure ViewS (words : List (List Int)) (win yes : List Int) (F : Nat) (c : List (List (Option Int))) (xs : List (List Int)) : Prop where
  len : xs.length = c.length
  mix : ∀ x ∈ xs, Mix words win F x
  isIn : (inP win yes).length = win.length → ∀ (i : Nat) t x, c[i]? = some t → xs[i]? = some x → holdsP t x = false
  isOut : (inP win yes).length ≠ win.length → inP win yes = [] ∧ ∃ (i : Nat) (t : List (Option Int)) (x : List Int), c[i]? = some t ∧ xs[i]? = some x ∧ holdsP t x = true
structure RightS (words : List (List Int)) (win yes : List Int) (F : Nat) (c : List (List (Option Int))) : Prop where
  isIn : (inP win yes).length = win.length → ∃ t ∈ c, FailS words win F t none
  isOut : (inP win yes).length ≠ win.length → inP win yes = [] → ∀ t ∈ c, HoldS words win F t none
def eU : Option (Nat × List (List Int)) → D
  | none => .non
  | some (k, xs) => .tup [.int k, .tup (xs.map eI)]
theorem eU_is (o : Option (Nat × List (List Int))) : cmpD .Is (eU o) .non = some (decide (o = none)) := by rcases o with _ | ⟨k, xs⟩ <;> rfl
theorem eU_isNot (o : Option (Nat × List (List Int))) : cmpD .IsNot (eU o) .non = some (!decide (o = none)) := by rcases o with _ | ⟨k, xs⟩ <;> rfl
def UnS (words : List (List Int)) (windows : List (List Int)) (yes : List Int) (F : Nat) (c : List (List (Option Int))) : Option (Nat × List (List Int)) → Prop
  | none => ∀ win ∈ windows, RightS words win yes F c
  | some (k, xs) => ∃ win, windows[k]? = some win ∧ ViewS words win yes F c xs
/-- windows as they are handed -/
structure OkWs (words : List (List Int)) (windows : List (List Int)) (wD : D) : Prop where
  seq : wD.seq = some (windows.map eI)
  few : windows.length ≤ 1000
  win : ∀ win ∈ windows, OkWin words win
theorem in_lc {call : Str → List D → R} {Γ : En} {own : List Nat} {i j : Nat} {win yes : List Int} (h1 : i < (wipeE Γ own).length) (h3 : i ≠ j) (h2 : lookV (wipeE Γ own) j = .ok (eI yes, false)) :
    LC call Γ own (.nm i) (some (.cmp .In (.var i) (.var j))) (.var i) (win.map D.int) = .ok ((inP win yes).map D.int) := by
  unfold inP
  refine lcp (f := D.int) (p := fun s => decide (s ∈ yes)) (h := D.int) fun s hs => ?_
  refine ⟨(wipeE Γ own).set i (some (.int s, false)), ?_, ?_, fun _ => ?_⟩
  · unfold asg put
    rw [if_pos h1]
  · have e1 : lookV ((wipeE Γ own).set i (some (.int s, false))) i = .ok (.int s, false) := by
      unfold lookV
      rw [List.getElem?_set_self h1]
    have e2 : lookV ((wipeE Γ own).set i (some (.int s, false))) j = .ok (eI yes, false) := by
      unfold lookV at h2 ⊢
      rw [List.getElem?_set_ne h3]
      exact h2
    simp -implicitDefEqProofs only [env0, e_var, e_non, e_bl, e_int, e_str, e_glob, e_bin, e_not, e_cmp, e_and, e_or, e_ife, e_tup, e_lst, e_ix, e_slc, e_call, e_blt, e_lc, e_ssc, e_rvs, v_nil, v_cons, a_nil, a_cons, bs_nil, bs_cons, asO_int, o_none, o_some, t_e, t_cmp, t_and, t_or, t_not, t_inr, inr_int, to_none, to_some, asSeq_tup, asSeq_lst, asSeq_fls, i_seq, i_rev, i_rng, i_rng2, s_nil, s_cons, seq_nx, seq_rt, seq_bk, seq_ct, x_set, x_own, x_ret, x_retn, x_retv, x_ifs, x_fors, x_whl, x_app, x_frz, x_aug, x_pass, x_brk, x_cont, x_seti, ifs_true, ifs_false, ife_true, ife_false, and_t, and_f, or_t, or_f, andt_t, andt_f, ort_t, ort_f, ForP, RtP, borOr, argOr, isBor, lookV, look, put, asg, asgs, pb, pbO, up_some, up_none, ok_bind, okp_ok, okp_bind, okp_bad, List.getElem?_cons_zero, List.getElem?_cons_succ, List.set_cons_zero, List.set_cons_succ, List.length_cons, List.length_nil, List.map_cons, List.map_nil, List.cons_append, List.nil_append, List.length_map, List.replicate_succ, List.replicate_zero, wipeE, List.length_replicate, bd_int, bd_abs, bd_len, bd_list, bd_tuple, bd_sorted, bd_sortedSet, bd_any, bd_all, bd_sum, bd_isi, bd_listRange, bd_min, bd_max, f_int, f_abs, f_lenT, f_lenL, f_lenF, f_all, f_any, tr_bl, tr_lst, tr_tup, own_lst, Nat.reduceSub, Nat.reduceAdd, Nat.reduceLT, Nat.reduceLeDiff, Nat.zero_lt_succ, ↓reduceIte, b_add, b_sub, k_lt, k_le, k_gt, k_ge, k_eq, k_ne, k_eqB, k_neB, Gx.within, gWithin, List.contains_cons, beq_self_eq_true, Bool.true_or, Bool.and_true, Bool.true_and, Bool.and_self, Bool.not_true, Bool.not_false, List.elem_cons, List.contains_eq_mem, List.mem_cons, true_or, or_true, decide_true, Bool.false_eq_true, if_false, exists_eq_left', Option.some.injEq, e1, e2, k_in (y := eI yes) s rfl]
    unfold lookV at e1 e2
    rw [e1, e2]
    simp -implicitDefEqProofs only [env0, e_var, e_non, e_bl, e_int, e_str, e_glob, e_bin, e_not, e_cmp, e_and, e_or, e_ife, e_tup, e_lst, e_ix, e_slc, e_call, e_blt, e_lc, e_ssc, e_rvs, v_nil, v_cons, a_nil, a_cons, bs_nil, bs_cons, asO_int, o_none, o_some, t_e, t_cmp, t_and, t_or, t_not, t_inr, inr_int, to_none, to_some, asSeq_tup, asSeq_lst, asSeq_fls, i_seq, i_rev, i_rng, i_rng2, s_nil, s_cons, seq_nx, seq_rt, seq_bk, seq_ct, x_set, x_own, x_ret, x_retn, x_retv, x_ifs, x_fors, x_whl, x_app, x_frz, x_aug, x_pass, x_brk, x_cont, x_seti, ifs_true, ifs_false, ife_true, ife_false, and_t, and_f, or_t, or_f, andt_t, andt_f, ort_t, ort_f, ForP, RtP, borOr, argOr, isBor, lookV, look, put, asg, asgs, pb, pbO, up_some, up_none, ok_bind, okp_ok, okp_bind, okp_bad, List.getElem?_cons_zero, List.getElem?_cons_succ, List.set_cons_zero, List.set_cons_succ, List.length_cons, List.length_nil, List.map_cons, List.map_nil, List.cons_append, List.nil_append, List.length_map, List.replicate_succ, List.replicate_zero, wipeE, List.length_replicate, bd_int, bd_abs, bd_len, bd_list, bd_tuple, bd_sorted, bd_sortedSet, bd_any, bd_all, bd_sum, bd_isi, bd_listRange, bd_min, bd_max, f_int, f_abs, f_lenT, f_lenL, f_lenF, f_all, f_any, tr_bl, tr_lst, tr_tup, own_lst, Nat.reduceSub, Nat.reduceAdd, Nat.reduceLT, Nat.reduceLeDiff, Nat.zero_lt_succ, ↓reduceIte, b_add, b_sub, k_lt, k_le, k_gt, k_ge, k_eq, k_ne, k_eqB, k_neB, Gx.within, gWithin, List.contains_cons, beq_self_eq_true, Bool.true_or, Bool.and_true, Bool.true_and, Bool.and_self, Bool.not_true, Bool.not_false, List.elem_cons, List.contains_eq_mem, List.mem_cons, true_or, or_true, decide_true, Bool.false_eq_true, if_false, exists_eq_left', Option.some.injEq, k_in (y := eI yes) s rfl]
  · have e1 : lookV ((wipeE Γ own).set i (some (.int s, false))) i = .ok (.int s, false) := by
      unfold lookV
      rw [List.getElem?_set_self h1]
    rw [e_var, e1, okp_ok]
theorem c_unsteady (n : Nat) {words windows : List (List Int)} {yes : List Int} {F : Nat} {c : List (List (Option Int))} {cD wD : D} (W : OkW words F) (C : OkC c cD F) (Ws : OkWs words windows wD) :
    ∃ r, callN tbl (n + 4) "unsteady_course" [cD, eW words, wD, eI yes] = .ok (eU r, false) ∧ UnS words windows yes F c r := by
  refine okp_ex (k := fun r => (eU r, false)) (okp_call fd_unsteady_course rfl rfl (by decide) ?_)
  unfold fd_unsteady_course
  simp -implicitDefEqProofs only [env0, e_var, e_non, e_bl, e_int, e_str, e_glob, e_bin, e_not, e_cmp, e_and, e_or, e_ife, e_tup, e_lst, e_ix, e_slc, e_call, e_blt, e_lc, e_ssc, e_rvs, v_nil, v_cons, a_nil, a_cons, bs_nil, bs_cons, asO_int, o_none, o_some, t_e, t_cmp, t_and, t_or, t_not, t_inr, inr_int, to_none, to_some, asSeq_tup, asSeq_lst, asSeq_fls, i_seq, i_rev, i_rng, i_rng2, s_nil, s_cons, seq_nx, seq_rt, seq_bk, seq_ct, x_set, x_own, x_ret, x_retn, x_retv, x_ifs, x_fors, x_whl, x_app, x_frz, x_aug, x_pass, x_brk, x_cont, x_seti, ifs_true, ifs_false, ife_true, ife_false, and_t, and_f, or_t, or_f, andt_t, andt_f, ort_t, ort_f, ForP, RtP, borOr, argOr, isBor, lookV, look, put, asg, asgs, pb, pbO, up_some, up_none, ok_bind, okp_ok, okp_bind, okp_bad, List.getElem?_cons_zero, List.getElem?_cons_succ, List.set_cons_zero, List.set_cons_succ, List.length_cons, List.length_nil, List.map_cons, List.map_nil, List.cons_append, List.nil_append, List.length_map, List.replicate_succ, List.replicate_zero, wipeE, List.length_replicate, bd_int, bd_abs, bd_len, bd_list, bd_tuple, bd_sorted, bd_sortedSet, bd_any, bd_all, bd_sum, bd_isi, bd_listRange, bd_min, bd_max, f_int, f_abs, f_lenT, f_lenL, f_lenF, f_all, f_any, tr_bl, tr_lst, tr_tup, own_lst, Nat.reduceSub, Nat.reduceAdd, Nat.reduceLT, Nat.reduceLeDiff, Nat.zero_lt_succ, ↓reduceIte, b_add, b_sub, k_lt, k_le, k_gt, k_ge, k_eq, k_ne, k_eqB, k_neB, Gx.within, gWithin, List.contains_cons, beq_self_eq_true, Bool.true_or, Bool.and_true, Bool.true_and, Bool.and_self, Bool.not_true, Bool.not_false, List.elem_cons, List.contains_eq_mem, List.mem_cons, true_or, or_true, decide_true, Bool.false_eq_true, if_false, exists_eq_left', Option.some.injEq, len_seq Ws.seq]
  have wf1 := Ws.few
  rw [asRng_nat _ (by walk_at "cr.om")]
  walk_at "cr.ev"
  refine p_for (f := fun i : Nat => D.int i) (fun i Γ => (∃ d4 d5 d6 d7 d8, Γ = [some (cD, false), some (eW words, false), some (wD, false), some (eI yes, false), d4, d5, d6, d7, d8]) ∧ ∀ (j : Nat) win, j < i → windows[j]? = some win → RightS words win yes F c) ⟨⟨_, _, _, _, _, rfl⟩, fun j w h => by omega⟩ ?_ ?_
  · rintro i x Γ hx ⟨⟨d4, d5, d6, d7, d8, rfl⟩, hb⟩
    have hi : i < windows.length := by
      have := (List.getElem?_eq_some_iff.mp hx).1
      simp at this; omega
    rw [List.getElem?_range (by walk_at "cr.om")] at hx
    cases hx
    have hw : windows[i]? = some windows[i] := List.getElem?_eq_getElem hi
    have O := Ws.win _ (List.mem_of_getElem? hw)
    generalize windows[i] = win at hw O
    have ixw : ixD wD false (.int i) = some (eI win, false) := ix_map (g := eI) i Ws.seq hw (.inl rfl)
    have right : ∀ (r : Option (List (List Int))), r = none → ((inP win yes).length = win.length → SilS words win F c r) → ((inP win yes).length ≠ win.length → inP win yes = [] → FalS words win F c r) → ∀ (j : Nat) win', j < i + 1 → windows[j]? = some win' → RightS words win' yes F c := fun r hr h1 h2 j win' hj hw' => by
      by_cases q : j < i
      · exact hb j win' q hw'
      · obtain rfl : j = i := by omega
        rw [hw] at hw'
        cases hw'
        subst hr
        exact ⟨h1, h2⟩
    simp -implicitDefEqProofs only [env0, e_var, e_non, e_bl, e_int, e_str, e_glob, e_bin, e_not, e_cmp, e_and, e_or, e_ife, e_tup, e_lst, e_ix, e_slc, e_call, e_blt, e_lc, e_ssc, e_rvs, v_nil, v_cons, a_nil, a_cons, bs_nil, bs_cons, asO_int, o_none, o_some, t_e, t_cmp, t_and, t_or, t_not, t_inr, inr_int, to_none, to_some, asSeq_tup, asSeq_lst, asSeq_fls, i_seq, i_rev, i_rng, i_rng2, s_nil, s_cons, seq_nx, seq_rt, seq_bk, seq_ct, x_set, x_own, x_ret, x_retn, x_retv, x_ifs, x_fors, x_whl, x_app, x_frz, x_aug, x_pass, x_brk, x_cont, x_seti, ifs_true, ifs_false, ife_true, ife_false, and_t, and_f, or_t, or_f, andt_t, andt_f, ort_t, ort_f, ForP, RtP, borOr, argOr, isBor, lookV, look, put, asg, asgs, pb, pbO, up_some, up_none, ok_bind, okp_ok, okp_bind, okp_bad, List.getElem?_cons_zero, List.getElem?_cons_succ, List.set_cons_zero, List.set_cons_succ, List.length_cons, List.length_nil, List.map_cons, List.map_nil, List.cons_append, List.nil_append, List.length_map, List.replicate_succ, List.replicate_zero, wipeE, List.length_replicate, bd_int, bd_abs, bd_len, bd_list, bd_tuple, bd_sorted, bd_sortedSet, bd_any, bd_all, bd_sum, bd_isi, bd_listRange, bd_min, bd_max, f_int, f_abs, f_lenT, f_lenL, f_lenF, f_all, f_any, tr_bl, tr_lst, tr_tup, own_lst, Nat.reduceSub, Nat.reduceAdd, Nat.reduceLT, Nat.reduceLeDiff, Nat.zero_lt_succ, ↓reduceIte, b_add, b_sub, k_lt, k_le, k_gt, k_ge, k_eq, k_ne, k_eqB, k_neB, Gx.within, gWithin, List.contains_cons, beq_self_eq_true, Bool.true_or, Bool.and_true, Bool.true_and, Bool.and_self, Bool.not_true, Bool.not_false, List.elem_cons, List.contains_eq_mem, List.mem_cons, true_or, or_true, decide_true, Bool.false_eq_true, if_false, exists_eq_left', Option.some.injEq, ixw]
    rw [in_lc (by simp [wipeE]) (by decide) rfl]
    walk_at "cr.ev"
    rw [if_sz (by have := O.few; have : (inP win yes).length ≤ win.length := List.length_filter_le _ _; walk_at "cr.om")]
    walk_at "cr.ev"
    have cut : OkP (IFS (callN tbl (n + 3)) [some (cD, false), some (eW words, false), some (wD, false), some (eI yes, false), some (D.int i, false), some (eI win, false), some (.lst ((inP win yes).map D.int), false), some (D.non, false), d8]
        [.set (.nm 7) (.call "silent_readings" [.var 0, .var 1, .var 5])] [.ifs (.not (.e (.var 6))) [.set (.nm 7) (.call "false_readings" [.var 0, .var 1, .var 5])] []] (decide (((inP win yes).length : Int) = (win.length : Int))))
        fun b => ∃ r, b = (.nx, [some (cD, false), some (eW words, false), some (wD, false), some (eI yes, false), some (D.int i, false), some (eI win, false), some (.lst ((inP win yes).map D.int), false), some (eRs r, false), d8]) ∧
          ((inP win yes).length = win.length → SilS words win F c r) ∧ ((inP win yes).length ≠ win.length → inP win yes = [] → FalS words win F c r) ∧ ((inP win yes).length ≠ win.length → inP win yes ≠ [] → r = none) := by
      refine p_ifs _ _ (fun h1 => ?_) fun h1 => ?_
      · have h1 : (inP win yes).length = win.length := by have := of_decide_eq_true h1; omega
        obtain ⟨r, q1, q2⟩ := c_silent (n + 1) W O C.seq C.few C.len
        simp -implicitDefEqProofs only [env0, e_var, e_non, e_bl, e_int, e_str, e_glob, e_bin, e_not, e_cmp, e_and, e_or, e_ife, e_tup, e_lst, e_ix, e_slc, e_call, e_blt, e_lc, e_ssc, e_rvs, v_nil, v_cons, a_nil, a_cons, bs_nil, bs_cons, asO_int, o_none, o_some, t_e, t_cmp, t_and, t_or, t_not, t_inr, inr_int, to_none, to_some, asSeq_tup, asSeq_lst, asSeq_fls, i_seq, i_rev, i_rng, i_rng2, s_nil, s_cons, seq_nx, seq_rt, seq_bk, seq_ct, x_set, x_own, x_ret, x_retn, x_retv, x_ifs, x_fors, x_whl, x_app, x_frz, x_aug, x_pass, x_brk, x_cont, x_seti, ifs_true, ifs_false, ife_true, ife_false, and_t, and_f, or_t, or_f, andt_t, andt_f, ort_t, ort_f, ForP, RtP, borOr, argOr, isBor, lookV, look, put, asg, asgs, pb, pbO, up_some, up_none, ok_bind, okp_ok, okp_bind, okp_bad, List.getElem?_cons_zero, List.getElem?_cons_succ, List.set_cons_zero, List.set_cons_succ, List.length_cons, List.length_nil, List.map_cons, List.map_nil, List.cons_append, List.nil_append, List.length_map, List.replicate_succ, List.replicate_zero, wipeE, List.length_replicate, bd_int, bd_abs, bd_len, bd_list, bd_tuple, bd_sorted, bd_sortedSet, bd_any, bd_all, bd_sum, bd_isi, bd_listRange, bd_min, bd_max, f_int, f_abs, f_lenT, f_lenL, f_lenF, f_all, f_any, tr_bl, tr_lst, tr_tup, own_lst, Nat.reduceSub, Nat.reduceAdd, Nat.reduceLT, Nat.reduceLeDiff, Nat.zero_lt_succ, ↓reduceIte, b_add, b_sub, k_lt, k_le, k_gt, k_ge, k_eq, k_ne, k_eqB, k_neB, Gx.within, gWithin, List.contains_cons, beq_self_eq_true, Bool.true_or, Bool.and_true, Bool.true_and, Bool.and_self, Bool.not_true, Bool.not_false, List.elem_cons, List.contains_eq_mem, List.mem_cons, true_or, or_true, decide_true, Bool.false_eq_true, if_false, exists_eq_left', Option.some.injEq, callOr_val (as := [(cD, false), (eW words, false), (eI win, false)]) q1 rfl]
        exact ⟨r, rfl, fun _ => q2, fun h => absurd h1 h, fun h => absurd h1 h⟩
      · have h1 : (inP win yes).length ≠ win.length := by have := of_decide_eq_false h1; omega
        walk_at "cr.ev"
        refine p_ifs _ _ (fun h2 => ?_) fun h2 => ?_
        · have h2 : inP win yes = [] := by
            cases e : inP win yes with
            | nil => rfl
            | cons x xs => rw [e] at h2; simp at h2
          obtain ⟨r, q1, q2⟩ := c_false n W O C.seq C.few C.len
          simp -implicitDefEqProofs only [env0, e_var, e_non, e_bl, e_int, e_str, e_glob, e_bin, e_not, e_cmp, e_and, e_or, e_ife, e_tup, e_lst, e_ix, e_slc, e_call, e_blt, e_lc, e_ssc, e_rvs, v_nil, v_cons, a_nil, a_cons, bs_nil, bs_cons, asO_int, o_none, o_some, t_e, t_cmp, t_and, t_or, t_not, t_inr, inr_int, to_none, to_some, asSeq_tup, asSeq_lst, asSeq_fls, i_seq, i_rev, i_rng, i_rng2, s_nil, s_cons, seq_nx, seq_rt, seq_bk, seq_ct, x_set, x_own, x_ret, x_retn, x_retv, x_ifs, x_fors, x_whl, x_app, x_frz, x_aug, x_pass, x_brk, x_cont, x_seti, ifs_true, ifs_false, ife_true, ife_false, and_t, and_f, or_t, or_f, andt_t, andt_f, ort_t, ort_f, ForP, RtP, borOr, argOr, isBor, lookV, look, put, asg, asgs, pb, pbO, up_some, up_none, ok_bind, okp_ok, okp_bind, okp_bad, List.getElem?_cons_zero, List.getElem?_cons_succ, List.set_cons_zero, List.set_cons_succ, List.length_cons, List.length_nil, List.map_cons, List.map_nil, List.cons_append, List.nil_append, List.length_map, List.replicate_succ, List.replicate_zero, wipeE, List.length_replicate, bd_int, bd_abs, bd_len, bd_list, bd_tuple, bd_sorted, bd_sortedSet, bd_any, bd_all, bd_sum, bd_isi, bd_listRange, bd_min, bd_max, f_int, f_abs, f_lenT, f_lenL, f_lenF, f_all, f_any, tr_bl, tr_lst, tr_tup, own_lst, Nat.reduceSub, Nat.reduceAdd, Nat.reduceLT, Nat.reduceLeDiff, Nat.zero_lt_succ, ↓reduceIte, b_add, b_sub, k_lt, k_le, k_gt, k_ge, k_eq, k_ne, k_eqB, k_neB, Gx.within, gWithin, List.contains_cons, beq_self_eq_true, Bool.true_or, Bool.and_true, Bool.true_and, Bool.and_self, Bool.not_true, Bool.not_false, List.elem_cons, List.contains_eq_mem, List.mem_cons, true_or, or_true, decide_true, Bool.false_eq_true, if_false, exists_eq_left', Option.some.injEq, callOr_val (as := [(cD, false), (eW words, false), (eI win, false)]) q1 rfl]
          exact ⟨r, rfl, fun h => absurd h h1, fun _ _ => q2, fun _ h => absurd h2 h⟩
        · have h2 : inP win yes ≠ [] := fun e => by rw [e] at h2; simp at h2
          walk_at "cr.ev"
          exact ⟨none, rfl, fun h => absurd h h1, fun _ h => absurd h h2, fun _ _ => rfl⟩
    refine cut.mono fun b hb2 => ?_
    obtain ⟨r, rfl, k1, k2, k3⟩ := hb2
    simp -implicitDefEqProofs only [env0, e_var, e_non, e_bl, e_int, e_str, e_glob, e_bin, e_not, e_cmp, e_and, e_or, e_ife, e_tup, e_lst, e_ix, e_slc, e_call, e_blt, e_lc, e_ssc, e_rvs, v_nil, v_cons, a_nil, a_cons, bs_nil, bs_cons, asO_int, o_none, o_some, t_e, t_cmp, t_and, t_or, t_not, t_inr, inr_int, to_none, to_some, asSeq_tup, asSeq_lst, asSeq_fls, i_seq, i_rev, i_rng, i_rng2, s_nil, s_cons, seq_nx, seq_rt, seq_bk, seq_ct, x_set, x_own, x_ret, x_retn, x_retv, x_ifs, x_fors, x_whl, x_app, x_frz, x_aug, x_pass, x_brk, x_cont, x_seti, ifs_true, ifs_false, ife_true, ife_false, and_t, and_f, or_t, or_f, andt_t, andt_f, ort_t, ort_f, ForP, RtP, borOr, argOr, isBor, lookV, look, put, asg, asgs, pb, pbO, up_some, up_none, ok_bind, okp_ok, okp_bind, okp_bad, List.getElem?_cons_zero, List.getElem?_cons_succ, List.set_cons_zero, List.set_cons_succ, List.length_cons, List.length_nil, List.map_cons, List.map_nil, List.cons_append, List.nil_append, List.length_map, List.replicate_succ, List.replicate_zero, wipeE, List.length_replicate, bd_int, bd_abs, bd_len, bd_list, bd_tuple, bd_sorted, bd_sortedSet, bd_any, bd_all, bd_sum, bd_isi, bd_listRange, bd_min, bd_max, f_int, f_abs, f_lenT, f_lenL, f_lenF, f_all, f_any, tr_bl, tr_lst, tr_tup, own_lst, Nat.reduceSub, Nat.reduceAdd, Nat.reduceLT, Nat.reduceLeDiff, Nat.zero_lt_succ, ↓reduceIte, b_add, b_sub, k_lt, k_le, k_gt, k_ge, k_eq, k_ne, k_eqB, k_neB, Gx.within, gWithin, List.contains_cons, beq_self_eq_true, Bool.true_or, Bool.and_true, Bool.true_and, Bool.and_self, Bool.not_true, Bool.not_false, List.elem_cons, List.contains_eq_mem, List.mem_cons, true_or, or_true, decide_true, Bool.false_eq_true, if_false, exists_eq_left', Option.some.injEq, eRs_isNot]
    refine p_ifs _ _ (fun h1 => ?_) fun h1 => ?_
    · cases r with
      | none => simp at h1
      | some xs =>
        walk_at "cr.ev"
        rw [if_sz (by simp)]
        walk_at "cr.ev"
        refine ⟨some (i, xs), rfl, win, hw, ?_⟩
        by_cases q : (inP win yes).length = win.length
        · obtain ⟨s1, s2⟩ := k1 q
          refine ⟨s1, fun x hx => ?_, fun _ j t x hj hxj => ?_, fun h => absurd q h⟩
          · obtain ⟨j, hj, e⟩ := List.getElem_of_mem hx
            have hcj : c[j]? = some c[j] := List.getElem?_eq_getElem (by omega)
            obtain ⟨y, y1, y2, _⟩ := s2 j _ hcj
            rw [List.getElem?_eq_getElem hj, e] at y1
            cases y1
            exact y2
          · obtain ⟨y, y1, _, y3⟩ := s2 j t hj
            rw [y1] at hxj
            cases hxj
            exact y3
        · by_cases q2 : inP win yes = []
          · obtain ⟨s1, s2, s3⟩ := k2 q q2
            exact ⟨s1, s2, fun h => absurd h q, fun _ => ⟨q2, s3⟩⟩
          · exact absurd (k3 q q2) (by simp)
    · have hn : r = none := by simpa using h1
      subst hn
      walk_at "cr.ev"
      exact ⟨⟨_, _, _, _, _, rfl⟩, right none rfl k1 k2⟩
  · rintro Γ ⟨⟨d4, d5, d6, d7, d8, rfl⟩, hb⟩
    walk_at "cr.ev"
    refine ⟨none, rfl, fun win hw => ?_⟩
    obtain ⟨i, hi, e⟩ := List.getElem_of_mem hw
    exact hb i win (by walk_at "cr.om") (by rw [List.getElem?_eq_getElem hi, e])
theorem c_steady (n : Nat) {cD wD words yes : D} {r : Option (Nat × List (List Int))} (h : callN tbl n "unsteady_course" [cD, words, wD, yes] = .ok (eU r, false)) : callN tbl (n + 1) "is_steady" [cD, words, wD, yes] = .ok (.bl (decide (r = none)), false) := by
  refine call_eq fd_is_steady rfl rfl (by decide) ?_
  unfold fd_is_steady
  simp -implicitDefEqProofs only [env0, e_var, e_non, e_bl, e_int, e_str, e_glob, e_bin, e_not, e_cmp, e_and, e_or, e_ife, e_tup, e_lst, e_ix, e_slc, e_call, e_blt, e_lc, e_ssc, e_rvs, v_nil, v_cons, a_nil, a_cons, bs_nil, bs_cons, asO_int, o_none, o_some, t_e, t_cmp, t_and, t_or, t_not, t_inr, inr_int, to_none, to_some, asSeq_tup, asSeq_lst, asSeq_fls, i_seq, i_rev, i_rng, i_rng2, s_nil, s_cons, seq_nx, seq_rt, seq_bk, seq_ct, x_set, x_own, x_ret, x_retn, x_retv, x_ifs, x_fors, x_whl, x_app, x_frz, x_aug, x_pass, x_brk, x_cont, x_seti, ifs_true, ifs_false, ife_true, ife_false, and_t, and_f, or_t, or_f, andt_t, andt_f, ort_t, ort_f, ForP, RtP, borOr, argOr, isBor, lookV, look, put, asg, asgs, pb, pbO, up_some, up_none, ok_bind, okp_ok, okp_bind, okp_bad, List.getElem?_cons_zero, List.getElem?_cons_succ, List.set_cons_zero, List.set_cons_succ, List.length_cons, List.length_nil, List.map_cons, List.map_nil, List.cons_append, List.nil_append, List.length_map, List.replicate_succ, List.replicate_zero, wipeE, List.length_replicate, bd_int, bd_abs, bd_len, bd_list, bd_tuple, bd_sorted, bd_sortedSet, bd_any, bd_all, bd_sum, bd_isi, bd_listRange, bd_min, bd_max, f_int, f_abs, f_lenT, f_lenL, f_lenF, f_all, f_any, tr_bl, tr_lst, tr_tup, own_lst, Nat.reduceSub, Nat.reduceAdd, Nat.reduceLT, Nat.reduceLeDiff, Nat.zero_lt_succ, ↓reduceIte, b_add, b_sub, k_lt, k_le, k_gt, k_ge, k_eq, k_ne, k_eqB, k_neB, Gx.within, gWithin, List.contains_cons, beq_self_eq_true, Bool.true_or, Bool.and_true, Bool.true_and, Bool.and_self, Bool.not_true, Bool.not_false, List.elem_cons, List.contains_eq_mem, List.mem_cons, true_or, or_true, decide_true, Bool.false_eq_true, if_false, exists_eq_left', Option.some.injEq, callOr_val (as := [(cD, false), (words, false), (wD, false), (yes, false)]) h rfl, eU_is]
end K50
end

section
set_option maxHeartbeats 4000000
namespace K50
open PySem PySem.Spec PyProof.Rows L2 Cr

theorem rng_at {n i x : Nat} (h : (List.range n)[i]? = some x) : x = i ∧ i < n := by
  have := (List.getElem?_eq_some_iff.mp h).1
  rw [List.length_range] at this
  rw [List.getElem?_range this] at h
  exact ⟨(Option.some.inj h).symm, this⟩
theorem c_lholds (n : Nat) (t : List (Option Int)) (r : List Int) (h : t.length ≤ r.length) (hz : t.length ≤ 1000) : callN tbl (n + 1) "_law_holds" [eT t, eI r] = .ok (.bl (holdsP t r), false) := by
  refine call_eq fd__law_holds rfl rfl (by decide) ?_
  unfold fd__law_holds
  walk_at "cr.ev"
  rw [asRng_nat _ (by walk_at "cr.om")]
  walk_at "cr.ev"
  refine p_for (f := fun i : Nat => D.int i) (fun i Γ => (∃ d2, Γ = [some (eT t, false), some (eI r, false), d2]) ∧ ∀ j, j < i → holdsAt t r j = true) ⟨⟨_, rfl⟩, fun j h => by omega⟩ ?_ ?_
  · rintro i x Γ hx ⟨⟨d2, rfl⟩, hb⟩
    obtain ⟨rfl, hi⟩ := rng_at hx
    have hti : t[x]? = some t[x] := List.getElem?_eq_getElem hi
    have hri : r[x]? = some r[x] := List.getElem?_eq_getElem (by omega)
    have ixt : ixD (eT t) false (.int x) = some (eO t[x], false) := ix_map x rfl hti (.inl rfl)
    have ixr : ixD (eI r) false (.int x) = some (.int r[x], false) := ix_map (g := D.int) x rfl hri (.inl rfl)
    have next : holdsAt t r x = true → ∀ j, j < x + 1 → holdsAt t r j = true := fun h j hj => by
      by_cases q : j < x
      · exact hb j q
      · obtain rfl : j = x := by omega
        exact h
    simp -implicitDefEqProofs only [env0, e_var, e_non, e_bl, e_int, e_str, e_glob, e_bin, e_not, e_cmp, e_and, e_or, e_ife, e_tup, e_lst, e_ix, e_slc, e_call, e_blt, e_lc, e_ssc, e_rvs, v_nil, v_cons, a_nil, a_cons, bs_nil, bs_cons, asO_int, o_none, o_some, t_e, t_cmp, t_and, t_or, t_not, t_inr, inr_int, to_none, to_some, asSeq_tup, asSeq_lst, asSeq_fls, i_seq, i_rev, i_rng, i_rng2, s_nil, s_cons, seq_nx, seq_rt, seq_bk, seq_ct, x_set, x_own, x_ret, x_retn, x_retv, x_ifs, x_fors, x_whl, x_app, x_frz, x_aug, x_pass, x_brk, x_cont, x_seti, ifs_true, ifs_false, ife_true, ife_false, and_t, and_f, or_t, or_f, andt_t, andt_f, ort_t, ort_f, ForP, RtP, borOr, argOr, isBor, lookV, look, put, asg, asgs, pb, pbO, up_some, up_none, ok_bind, okp_ok, okp_bind, okp_bad, List.getElem?_cons_zero, List.getElem?_cons_succ, List.set_cons_zero, List.set_cons_succ, List.length_cons, List.length_nil, List.map_cons, List.map_nil, List.cons_append, List.nil_append, List.length_map, List.replicate_succ, List.replicate_zero, wipeE, List.length_replicate, bd_int, bd_abs, bd_len, bd_list, bd_tuple, bd_sorted, bd_sortedSet, bd_any, bd_all, bd_sum, bd_isi, bd_listRange, bd_min, bd_max, f_int, f_abs, f_lenT, f_lenL, f_lenF, f_all, f_any, tr_bl, tr_lst, tr_tup, own_lst, Nat.reduceSub, Nat.reduceAdd, Nat.reduceLT, Nat.reduceLeDiff, Nat.zero_lt_succ, ↓reduceIte, b_add, b_sub, k_lt, k_le, k_gt, k_ge, k_eq, k_ne, k_eqB, k_neB, Gx.within, gWithin, List.contains_cons, beq_self_eq_true, Bool.true_or, Bool.and_true, Bool.true_and, Bool.and_self, Bool.not_true, Bool.not_false, List.elem_cons, List.contains_eq_mem, List.mem_cons, true_or, or_true, decide_true, Bool.false_eq_true, if_false, exists_eq_left', Option.some.injEq, ixt, eO_isNot]
    refine p_andt _ _ (fun h1 => ?_) fun h1 => ?_
    · simp -implicitDefEqProofs only [env0, e_var, e_non, e_bl, e_int, e_str, e_glob, e_bin, e_not, e_cmp, e_and, e_or, e_ife, e_tup, e_lst, e_ix, e_slc, e_call, e_blt, e_lc, e_ssc, e_rvs, v_nil, v_cons, a_nil, a_cons, bs_nil, bs_cons, asO_int, o_none, o_some, t_e, t_cmp, t_and, t_or, t_not, t_inr, inr_int, to_none, to_some, asSeq_tup, asSeq_lst, asSeq_fls, i_seq, i_rev, i_rng, i_rng2, s_nil, s_cons, seq_nx, seq_rt, seq_bk, seq_ct, x_set, x_own, x_ret, x_retn, x_retv, x_ifs, x_fors, x_whl, x_app, x_frz, x_aug, x_pass, x_brk, x_cont, x_seti, ifs_true, ifs_false, ife_true, ife_false, and_t, and_f, or_t, or_f, andt_t, andt_f, ort_t, ort_f, ForP, RtP, borOr, argOr, isBor, lookV, look, put, asg, asgs, pb, pbO, up_some, up_none, ok_bind, okp_ok, okp_bind, okp_bad, List.getElem?_cons_zero, List.getElem?_cons_succ, List.set_cons_zero, List.set_cons_succ, List.length_cons, List.length_nil, List.map_cons, List.map_nil, List.cons_append, List.nil_append, List.length_map, List.replicate_succ, List.replicate_zero, wipeE, List.length_replicate, bd_int, bd_abs, bd_len, bd_list, bd_tuple, bd_sorted, bd_sortedSet, bd_any, bd_all, bd_sum, bd_isi, bd_listRange, bd_min, bd_max, f_int, f_abs, f_lenT, f_lenL, f_lenF, f_all, f_any, tr_bl, tr_lst, tr_tup, own_lst, Nat.reduceSub, Nat.reduceAdd, Nat.reduceLT, Nat.reduceLeDiff, Nat.zero_lt_succ, ↓reduceIte, b_add, b_sub, k_lt, k_le, k_gt, k_ge, k_eq, k_ne, k_eqB, k_neB, Gx.within, gWithin, List.contains_cons, beq_self_eq_true, Bool.true_or, Bool.and_true, Bool.true_and, Bool.and_self, Bool.not_true, Bool.not_false, List.elem_cons, List.contains_eq_mem, List.mem_cons, true_or, or_true, decide_true, Bool.false_eq_true, if_false, exists_eq_left', Option.some.injEq, ixt, ixr]
      cases e : t[x] with
      | none => rw [e] at h1; simp at h1
      | some v =>
        rw [show eO (some v) = D.int v from rfl]
        walk_at "cr.ev"
        refine p_ifs _ _ (fun h2 => ?_) fun h2 => ?_
        · walk_at "cr.ev"
          have : holdsP t r = false := holdsP_false (i := x) (v := v) (by rw [hti, e]) (by rw [hri]; simp at h2; exact fun h3 => h2 (Option.some.inj h3).symm)
          rw [this]
        · walk_at "cr.ev"
          refine ⟨⟨_, rfl⟩, next ?_⟩
          unfold holdsAt
          rw [hti, e, hri]
          simp at h2
          simp [h2]
    · walk_at "cr.ev"
      refine ⟨⟨_, rfl⟩, next ?_⟩
      unfold holdsAt
      have : t[x] = none := by simpa using h1
      rw [hti, this]
  · rintro Γ ⟨⟨d2, rfl⟩, hb⟩
    walk_at "cr.ev"
    have : holdsP t r = true := List.all_eq_true.mpr fun i hi => hb i (by simpa using hi)
    rw [this]

/-! ### mixtures -/
def longer (words : List (List Int)) (win : List Int) (i : Nat) (r : List Int) : List (List Int) := (seen words win i).map fun v => r ++ [v]
def mixF (words : List (List Int)) (win : List Int) : Nat → List (List Int)
  | 0 => [[]]
  | i + 1 => (mixF words win i).flatMap (longer words win i)
theorem mixF_mem {words : List (List Int)} {win : List Int} : ∀ (F : Nat) (x : List Int), x ∈ mixF words win F ↔ Mix words win F x
  | 0, x => by
    unfold mixF Mix
    constructor
    · intro h
      simp at h
      subst h
      exact ⟨rfl, fun i v h => by simp at h⟩
    · rintro ⟨h, _⟩
      simp [List.eq_nil_of_length_eq_zero h]
  | F + 1, x => by
    unfold mixF
    rw [List.mem_flatMap]
    constructor
    · rintro ⟨r, hr, hx⟩
      obtain ⟨h1, h2⟩ := (mixF_mem F r).mp hr
      unfold longer at hx
      obtain ⟨v, hv, rfl⟩ := List.mem_map.mp hx
      refine ⟨by simp [h1], fun i u hu => ?_⟩
      by_cases q : i < r.length
      · rw [List.getElem?_append_left q] at hu
        exact h2 i u hu
      · rw [List.getElem?_append_right (by omega)] at hu
        have h0 : i - r.length = 0 := by
          have := (List.getElem?_eq_some_iff.mp hu).1
          simp at this; omega
        rw [h0] at hu
        have e : i = F := by omega
        subst e
        cases hu
        exact hv
    · rintro ⟨h1, h2⟩
      have hF : x[F]? = some x[F] := List.getElem?_eq_getElem (by omega)
      refine ⟨x.take F, (mixF_mem F _).mpr ⟨by simp; omega, fun i v h => h2 i v ?_⟩, ?_⟩
      · rw [List.getElem?_take] at h
        split at h
        · exact h
        · cases h
      · unfold longer
        refine List.mem_map.mpr ⟨x[F], h2 F _ hF, ?_⟩
        rw [List.take_append_getElem, ← h1]
        exact List.take_length
theorem flat_len {words : List (List Int)} {win : List Int} {i : Nat} : ∀ l : List (List Int), (l.flatMap (longer words win i)).length = l.length * (seen words win i).length
  | [] => by simp
  | x :: l => by
    rw [List.flatMap_cons, List.length_append, flat_len l, List.length_cons, Nat.succ_mul]
    simp [longer]
    omega
theorem seen_few {words : List (List Int)} {win : List Int} {i : Nat} (O : OkWin words win) : (seen words win i).length < 64 := by
  have h := usort_len (win.map (wf words i))
  rw [List.length_map] at h
  have := O.few
  unfold seen
  omega
def OkM (words : List (List Int)) (win : List Int) (F : Nat) : Prop := ∀ i, i ≤ F → (mixF words win i).length ≤ 1000
theorem c_mixtures (n : Nat) {words : List (List Int)} {win : List Int} {F : Nat} (W : OkW words F) (O : OkWin words win) (M : OkM words win F) :
    callN tbl (n + 1) "_law_mixtures" [eW words, eI win] = .ok (.lst ((mixF words win F).map eI), false) := by
  refine call_eq fd__law_mixtures rfl rfl (by decide) ?_
  unfold fd__law_mixtures
  obtain ⟨w0, e0, l0⟩ := len0 W
  have F1 := W.F100
  walk_at "cr.ev"
  rw [if_sz (by decide)]
  walk_at "cr.ev"
  rw [if_sz (by simp)]
  walk_at "cr.ev"
  rw [ix_mapI (l := words) (g := eI) (k := 0) (by decide) rfl e0 (.inl rfl)]
  walk_at "cr.ev"
  rw [l0, asRng_nat _ (by omega)]
  walk_at "cr.ev"
  refine p_for (f := fun i : Nat => D.int i) (fun i Γ => ∃ d3 d4 d5 d6 d7 d8, Γ = [some (eW words, false), some (eI win, false), some (.lst ((mixF words win i).map eI), false), d3, d4, d5, d6, d7, d8]) ⟨_, _, _, _, _, _, rfl⟩ ?_ ?_
  · rintro i x Γ hx ⟨d3, d4, d5, d6, d7, d8, rfl⟩
    obtain ⟨rfl, hi⟩ := rng_at hx
    have m0 := M x (by omega)
    have few := seen_few (i := x) O
    walk_at "cr.ev"
    rw [lca (f := D.int) (h := fun s => .int (wf words x s))]
    · walk_at "cr.ev"
      rw [if_sz (by have := O.few; walk_at "cr.om")]
      have e : ((D.lst (win.map fun s => .int (wf words x s))).seq) = some ((win.map (wf words x)).map D.int) := by
        rw [List.map_map]; rfl
      simp -implicitDefEqProofs only [env0, e_var, e_non, e_bl, e_int, e_str, e_glob, e_bin, e_not, e_cmp, e_and, e_or, e_ife, e_tup, e_lst, e_ix, e_slc, e_call, e_blt, e_lc, e_ssc, e_rvs, v_nil, v_cons, a_nil, a_cons, bs_nil, bs_cons, asO_int, o_none, o_some, t_e, t_cmp, t_and, t_or, t_not, t_inr, inr_int, to_none, to_some, asSeq_tup, asSeq_lst, asSeq_fls, i_seq, i_rev, i_rng, i_rng2, s_nil, s_cons, seq_nx, seq_rt, seq_bk, seq_ct, x_set, x_own, x_ret, x_retn, x_retv, x_ifs, x_fors, x_whl, x_app, x_frz, x_aug, x_pass, x_brk, x_cont, x_seti, ifs_true, ifs_false, ife_true, ife_false, and_t, and_f, or_t, or_f, andt_t, andt_f, ort_t, ort_f, ForP, RtP, borOr, argOr, isBor, lookV, look, put, asg, asgs, pb, pbO, up_some, up_none, ok_bind, okp_ok, okp_bind, okp_bad, List.getElem?_cons_zero, List.getElem?_cons_succ, List.set_cons_zero, List.set_cons_succ, List.length_cons, List.length_nil, List.map_cons, List.map_nil, List.cons_append, List.nil_append, List.length_map, List.replicate_succ, List.replicate_zero, wipeE, List.length_replicate, bd_int, bd_abs, bd_len, bd_list, bd_tuple, bd_sorted, bd_sortedSet, bd_any, bd_all, bd_sum, bd_isi, bd_listRange, bd_min, bd_max, f_int, f_abs, f_lenT, f_lenL, f_lenF, f_all, f_any, tr_bl, tr_lst, tr_tup, own_lst, Nat.reduceSub, Nat.reduceAdd, Nat.reduceLT, Nat.reduceLeDiff, Nat.zero_lt_succ, ↓reduceIte, b_add, b_sub, k_lt, k_le, k_gt, k_ge, k_eq, k_ne, k_eqB, k_neB, Gx.within, gWithin, List.contains_cons, beq_self_eq_true, Bool.true_or, Bool.and_true, Bool.true_and, Bool.and_self, Bool.not_true, Bool.not_false, List.elem_cons, List.contains_eq_mem, List.mem_cons, true_or, or_true, decide_true, Bool.false_eq_true, if_false, exists_eq_left', Option.some.injEq, f_sortedSet _ e (by rw [List.length_map]; exact O.few)]
      rw [if_sz (by decide)]
      walk_at "cr.ev"
      show OkP (FOR _ [_, _, _, _, some (.lst ((seen words win x).map D.int), false), _, _, _, _] _ _ _) _
      refine p_for (f := eI) (fun k Γ => ∃ d6 d7 d8, Γ = [some (eW words, false), some (eI win, false), some (.lst ((mixF words win x).map eI), false), some (.int x, false), some (.lst ((seen words win x).map D.int), false), some (.lst ((((mixF words win x).take k).flatMap (longer words win x)).map eI), false), d6, d7, d8]) ⟨_, _, _, rfl⟩ ?_ ?_
      · rintro k r Γ hk ⟨d6, d7, d8, rfl⟩
        have hkl := (List.getElem?_eq_some_iff.mp hk).1
        have hr := (mixF_mem x r).mp (List.mem_of_getElem? hk)
        walk_at "cr.ev"
        rw [lca (f := D.int) (h := fun v => eI (r ++ [v]))]
        · walk_at "cr.ev"
          rw [if_sz (by walk_at "cr.om")]
          walk_at "cr.ev"
          rw [b_catL (by
              rw [sizeLine_eq, List.length_map, flat_len, List.length_map, List.length_take]
              have : min k (mixF words win x).length * (seen words win x).length ≤ 1000 * 64 := Nat.mul_le_mul (by omega) (by omega)
              omega) (nl_ok (fun y hy => by obtain ⟨z, _, rfl⟩ := List.mem_map.mp hy; rfl) _) (nl_ok (fun y hy => by obtain ⟨z, _, rfl⟩ := List.mem_map.mp hy; rfl) _)]
          walk_at "cr.ev"
          have e3 : ((mixF words win x).take k |>.flatMap (longer words win x)).map eI ++ (seen words win x).map (fun v => eI (r ++ [v])) = (((mixF words win x).take (k + 1)).flatMap (longer words win x)).map eI := by
            rw [List.take_add_one, hk, List.flatMap_append, List.map_append]
            simp [longer]
          rw [e3]
          exact ⟨_, _, _, rfl⟩
        · intro v hv
          walk_at "cr.ev"
          rw [if_sz (by decide)]
          walk_at "cr.ev"
          rw [b_cat (by rw [sizeLine_eq]; have := hr.1; walk_at "cr.om")]
          walk_at "cr.ev"
          simp
      · rintro Γ ⟨d6, d7, d8, rfl⟩
        walk_at "cr.ev"
        rw [List.take_length]
        exact ⟨_, _, _, _, _, _, rfl⟩
    · intro s hs
      obtain ⟨e1, e2⟩ := ix_word W O hs
      simp -implicitDefEqProofs only [env0, e_var, e_non, e_bl, e_int, e_str, e_glob, e_bin, e_not, e_cmp, e_and, e_or, e_ife, e_tup, e_lst, e_ix, e_slc, e_call, e_blt, e_lc, e_ssc, e_rvs, v_nil, v_cons, a_nil, a_cons, bs_nil, bs_cons, asO_int, o_none, o_some, t_e, t_cmp, t_and, t_or, t_not, t_inr, inr_int, to_none, to_some, asSeq_tup, asSeq_lst, asSeq_fls, i_seq, i_rev, i_rng, i_rng2, s_nil, s_cons, seq_nx, seq_rt, seq_bk, seq_ct, x_set, x_own, x_ret, x_retn, x_retv, x_ifs, x_fors, x_whl, x_app, x_frz, x_aug, x_pass, x_brk, x_cont, x_seti, ifs_true, ifs_false, ife_true, ife_false, and_t, and_f, or_t, or_f, andt_t, andt_f, ort_t, ort_f, ForP, RtP, borOr, argOr, isBor, lookV, look, put, asg, asgs, pb, pbO, up_some, up_none, ok_bind, okp_ok, okp_bind, okp_bad, List.getElem?_cons_zero, List.getElem?_cons_succ, List.set_cons_zero, List.set_cons_succ, List.length_cons, List.length_nil, List.map_cons, List.map_nil, List.cons_append, List.nil_append, List.length_map, List.replicate_succ, List.replicate_zero, wipeE, List.length_replicate, bd_int, bd_abs, bd_len, bd_list, bd_tuple, bd_sorted, bd_sortedSet, bd_any, bd_all, bd_sum, bd_isi, bd_listRange, bd_min, bd_max, f_int, f_abs, f_lenT, f_lenL, f_lenF, f_all, f_any, tr_bl, tr_lst, tr_tup, own_lst, Nat.reduceSub, Nat.reduceAdd, Nat.reduceLT, Nat.reduceLeDiff, Nat.zero_lt_succ, ↓reduceIte, b_add, b_sub, k_lt, k_le, k_gt, k_ge, k_eq, k_ne, k_eqB, k_neB, Gx.within, gWithin, List.contains_cons, beq_self_eq_true, Bool.true_or, Bool.and_true, Bool.true_and, Bool.and_self, Bool.not_true, Bool.not_false, List.elem_cons, List.contains_eq_mem, List.mem_cons, true_or, or_true, decide_true, Bool.false_eq_true, if_false, exists_eq_left', Option.some.injEq, e1, ix_wf e2 hi]
  · rintro Γ ⟨d3, d4, d5, d6, d7, d8, rfl⟩
    walk_at "cr.ev"
    rw [List.length_range]
end K50
end

section
set_option maxHeartbeats 4000000
namespace K50
open PySem PySem.Spec PyProof.Rows L2 Cr

def allM (words : List (List Int)) (win : List Int) (F : Nat) (t : List (Option Int)) : Bool := (mixF words win F).all fun x => holdsP t x
def anyM (words : List (List Int)) (win : List Int) (F : Nat) (t : List (Option Int)) : Bool := (mixF words win F).any fun x => holdsP t x
def wrongB (words : List (List Int)) (win yes : List Int) (F : Nat) (c : List (List (Option Int))) : Bool :=
  if (inP win yes).length = win.length then !(c.any fun t => allM words win F t) else if (inP win yes).length = 0 then c.any (fun t => anyM words win F t) else false
theorem c_goes_wrong (n : Nat) {words : List (List Int)} {win yes : List Int} {F : Nat} {c : List (List (Option Int))} {cD : D} (W : OkW words F) (O : OkWin words win) (M : OkM words win F) (C : OkC c cD F) :
    callN tbl (n + 2) "_law_goes_wrong" [cD, eW words, eI win, eI yes] = .ok (.bl (wrongB words win yes F c), false) := by
  refine call_eq fd__law_goes_wrong rfl rfl (by decide) ?_
  unfold fd__law_goes_wrong
  have m0 := M F (Nat.le_refl _)
  have F1 := W.F100
  walk_at "cr.ev"
  rw [in_lc (by simp [wipeE]) (by decide) rfl]
  walk_at "cr.ev"
  rw [if_sz (by have := O.few; have : (inP win yes).length ≤ win.length := List.length_filter_le _ _; walk_at "cr.om")]
  simp -implicitDefEqProofs only [env0, e_var, e_non, e_bl, e_int, e_str, e_glob, e_bin, e_not, e_cmp, e_and, e_or, e_ife, e_tup, e_lst, e_ix, e_slc, e_call, e_blt, e_lc, e_ssc, e_rvs, v_nil, v_cons, a_nil, a_cons, bs_nil, bs_cons, asO_int, o_none, o_some, t_e, t_cmp, t_and, t_or, t_not, t_inr, inr_int, to_none, to_some, asSeq_tup, asSeq_lst, asSeq_fls, i_seq, i_rev, i_rng, i_rng2, s_nil, s_cons, seq_nx, seq_rt, seq_bk, seq_ct, x_set, x_own, x_ret, x_retn, x_retv, x_ifs, x_fors, x_whl, x_app, x_frz, x_aug, x_pass, x_brk, x_cont, x_seti, ifs_true, ifs_false, ife_true, ife_false, and_t, and_f, or_t, or_f, andt_t, andt_f, ort_t, ort_f, ForP, RtP, borOr, argOr, isBor, lookV, look, put, asg, asgs, pb, pbO, up_some, up_none, ok_bind, okp_ok, okp_bind, okp_bad, List.getElem?_cons_zero, List.getElem?_cons_succ, List.set_cons_zero, List.set_cons_succ, List.length_cons, List.length_nil, List.map_cons, List.map_nil, List.cons_append, List.nil_append, List.length_map, List.replicate_succ, List.replicate_zero, wipeE, List.length_replicate, bd_int, bd_abs, bd_len, bd_list, bd_tuple, bd_sorted, bd_sortedSet, bd_any, bd_all, bd_sum, bd_isi, bd_listRange, bd_min, bd_max, f_int, f_abs, f_lenT, f_lenL, f_lenF, f_all, f_any, tr_bl, tr_lst, tr_tup, own_lst, Nat.reduceSub, Nat.reduceAdd, Nat.reduceLT, Nat.reduceLeDiff, Nat.zero_lt_succ, ↓reduceIte, b_add, b_sub, k_lt, k_le, k_gt, k_ge, k_eq, k_ne, k_eqB, k_neB, Gx.within, gWithin, List.contains_cons, beq_self_eq_true, Bool.true_or, Bool.and_true, Bool.true_and, Bool.and_self, Bool.not_true, Bool.not_false, List.elem_cons, List.contains_eq_mem, List.mem_cons, true_or, or_true, decide_true, Bool.false_eq_true, if_false, exists_eq_left', Option.some.injEq, callOr_val (as := [(eW words, false), (eI win, false)]) (c_mixtures (n := n) W O M) rfl]
  have lc : ∀ (t : List (Option Int)), t ∈ c → ∀ d8, LC (callN tbl (n + 1)) [some (cD, false), some (eW words, false), some (eI win, false), some (eI yes, false), some (.lst ((inP win yes).map D.int), false), some (.lst ((mixF words win F).map eI), false), some (eT t, false), none, d8] [8] (.nm 8) none (.call "_law_holds" [.var 6, .var 8]) ((mixF words win F).map eI)
      = .ok ((mixF words win F).map fun x => .bl (holdsP t x)) := fun t ht d8 => by
    refine lca (f := eI) (h := fun x => .bl (holdsP t x)) fun x hx => ?_
    have hm := (mixF_mem F x).mp hx
    have l1 := C.len t ht
    simp -implicitDefEqProofs only [env0, e_var, e_non, e_bl, e_int, e_str, e_glob, e_bin, e_not, e_cmp, e_and, e_or, e_ife, e_tup, e_lst, e_ix, e_slc, e_call, e_blt, e_lc, e_ssc, e_rvs, v_nil, v_cons, a_nil, a_cons, bs_nil, bs_cons, asO_int, o_none, o_some, t_e, t_cmp, t_and, t_or, t_not, t_inr, inr_int, to_none, to_some, asSeq_tup, asSeq_lst, asSeq_fls, i_seq, i_rev, i_rng, i_rng2, s_nil, s_cons, seq_nx, seq_rt, seq_bk, seq_ct, x_set, x_own, x_ret, x_retn, x_retv, x_ifs, x_fors, x_whl, x_app, x_frz, x_aug, x_pass, x_brk, x_cont, x_seti, ifs_true, ifs_false, ife_true, ife_false, and_t, and_f, or_t, or_f, andt_t, andt_f, ort_t, ort_f, ForP, RtP, borOr, argOr, isBor, lookV, look, put, asg, asgs, pb, pbO, up_some, up_none, ok_bind, okp_ok, okp_bind, okp_bad, List.getElem?_cons_zero, List.getElem?_cons_succ, List.set_cons_zero, List.set_cons_succ, List.length_cons, List.length_nil, List.map_cons, List.map_nil, List.cons_append, List.nil_append, List.length_map, List.replicate_succ, List.replicate_zero, wipeE, List.length_replicate, bd_int, bd_abs, bd_len, bd_list, bd_tuple, bd_sorted, bd_sortedSet, bd_any, bd_all, bd_sum, bd_isi, bd_listRange, bd_min, bd_max, f_int, f_abs, f_lenT, f_lenL, f_lenF, f_all, f_any, tr_bl, tr_lst, tr_tup, own_lst, Nat.reduceSub, Nat.reduceAdd, Nat.reduceLT, Nat.reduceLeDiff, Nat.zero_lt_succ, ↓reduceIte, b_add, b_sub, k_lt, k_le, k_gt, k_ge, k_eq, k_ne, k_eqB, k_neB, Gx.within, gWithin, List.contains_cons, beq_self_eq_true, Bool.true_or, Bool.and_true, Bool.true_and, Bool.and_self, Bool.not_true, Bool.not_false, List.elem_cons, List.contains_eq_mem, List.mem_cons, true_or, or_true, decide_true, Bool.false_eq_true, if_false, exists_eq_left', Option.some.injEq, callOr_val (as := [(eT t, false), (eI x, false)]) (c_lholds n t x (by have := hm.1; omega) (by omega)) rfl]
  refine p_ifs _ _ (fun h1 => ?_) fun h1 => ?_
  · have h1 : (inP win yes).length = win.length := by have := of_decide_eq_true h1; omega
    simp -implicitDefEqProofs only [env0, e_var, e_non, e_bl, e_int, e_str, e_glob, e_bin, e_not, e_cmp, e_and, e_or, e_ife, e_tup, e_lst, e_ix, e_slc, e_call, e_blt, e_lc, e_ssc, e_rvs, v_nil, v_cons, a_nil, a_cons, bs_nil, bs_cons, asO_int, o_none, o_some, t_e, t_cmp, t_and, t_or, t_not, t_inr, inr_int, to_none, to_some, asSeq_tup, asSeq_lst, asSeq_fls, i_seq, i_rev, i_rng, i_rng2, s_nil, s_cons, seq_nx, seq_rt, seq_bk, seq_ct, x_set, x_own, x_ret, x_retn, x_retv, x_ifs, x_fors, x_whl, x_app, x_frz, x_aug, x_pass, x_brk, x_cont, x_seti, ifs_true, ifs_false, ife_true, ife_false, and_t, and_f, or_t, or_f, andt_t, andt_f, ort_t, ort_f, ForP, RtP, borOr, argOr, isBor, lookV, look, put, asg, asgs, pb, pbO, up_some, up_none, ok_bind, okp_ok, okp_bind, okp_bad, List.getElem?_cons_zero, List.getElem?_cons_succ, List.set_cons_zero, List.set_cons_succ, List.length_cons, List.length_nil, List.map_cons, List.map_nil, List.cons_append, List.nil_append, List.length_map, List.replicate_succ, List.replicate_zero, wipeE, List.length_replicate, bd_int, bd_abs, bd_len, bd_list, bd_tuple, bd_sorted, bd_sortedSet, bd_any, bd_all, bd_sum, bd_isi, bd_listRange, bd_min, bd_max, f_int, f_abs, f_lenT, f_lenL, f_lenF, f_all, f_any, tr_bl, tr_lst, tr_tup, own_lst, Nat.reduceSub, Nat.reduceAdd, Nat.reduceLT, Nat.reduceLeDiff, Nat.zero_lt_succ, ↓reduceIte, b_add, b_sub, k_lt, k_le, k_gt, k_ge, k_eq, k_ne, k_eqB, k_neB, Gx.within, gWithin, List.contains_cons, beq_self_eq_true, Bool.true_or, Bool.and_true, Bool.true_and, Bool.and_self, Bool.not_true, Bool.not_false, List.elem_cons, List.contains_eq_mem, List.mem_cons, true_or, or_true, decide_true, Bool.false_eq_true, if_false, exists_eq_left', Option.some.injEq, asSeq_of C.seq]
    refine p_for (f := eT) (fun i Γ => (∃ d6 d8, Γ = [some (cD, false), some (eW words, false), some (eI win, false), some (eI yes, false), some (.lst ((inP win yes).map D.int), false), some (.lst ((mixF words win F).map eI), false), d6, none, d8]) ∧ ∀ (j : Nat) t, j < i → c[j]? = some t → allM words win F t = false) ⟨⟨_, _, rfl⟩, fun j t h => by omega⟩ ?_ ?_
    · rintro i t Γ hi ⟨⟨d6, d8, rfl⟩, hb⟩
      have hm := List.mem_of_getElem? hi
      walk_at "cr.ev"
      rw [lc t hm]
      walk_at "cr.ev"
      rw [if_sz (by walk_at "cr.om")]
      walk_at "cr.ev"
      refine p_ifs _ _ (fun h2 => ?_) fun h2 => ?_
      · walk_at "cr.ev"
        have : wrongB words win yes F c = false := by
          unfold wrongB
          rw [if_pos h1]
          have : (c.any fun t => allM words win F t) = true := List.any_eq_true.mpr ⟨t, hm, h2⟩
          rw [this]; rfl
        rw [this]
      · walk_at "cr.ev"
        refine ⟨⟨_, _, rfl⟩, fun j t' hj ht' => ?_⟩
        by_cases q : j < i
        · exact hb j t' q ht'
        · obtain rfl : j = i := by omega
          rw [hi] at ht'
          cases ht'
          exact h2
    · rintro Γ ⟨⟨d6, d8, rfl⟩, hb⟩
      walk_at "cr.ev"
      have : wrongB words win yes F c = true := by
        unfold wrongB
        rw [if_pos h1]
        have : (c.any fun t => allM words win F t) = false := by
          rw [List.any_eq_false]
          intro t ht
          obtain ⟨i, hi, e⟩ := List.getElem_of_mem ht
          rw [hb i t hi (by rw [List.getElem?_eq_getElem hi, e])]
          exact Bool.false_ne_true
        rw [this]; rfl
      rw [this]
  · have h1 : (inP win yes).length ≠ win.length := by have := of_decide_eq_false h1; omega
    walk_at "cr.ev"
    refine p_ifs _ _ (fun h3 => ?_) fun h3 => ?_
    · have h3 : (inP win yes).length = 0 := by have := of_decide_eq_true h3; omega
      simp -implicitDefEqProofs only [env0, e_var, e_non, e_bl, e_int, e_str, e_glob, e_bin, e_not, e_cmp, e_and, e_or, e_ife, e_tup, e_lst, e_ix, e_slc, e_call, e_blt, e_lc, e_ssc, e_rvs, v_nil, v_cons, a_nil, a_cons, bs_nil, bs_cons, asO_int, o_none, o_some, t_e, t_cmp, t_and, t_or, t_not, t_inr, inr_int, to_none, to_some, asSeq_tup, asSeq_lst, asSeq_fls, i_seq, i_rev, i_rng, i_rng2, s_nil, s_cons, seq_nx, seq_rt, seq_bk, seq_ct, x_set, x_own, x_ret, x_retn, x_retv, x_ifs, x_fors, x_whl, x_app, x_frz, x_aug, x_pass, x_brk, x_cont, x_seti, ifs_true, ifs_false, ife_true, ife_false, and_t, and_f, or_t, or_f, andt_t, andt_f, ort_t, ort_f, ForP, RtP, borOr, argOr, isBor, lookV, look, put, asg, asgs, pb, pbO, up_some, up_none, ok_bind, okp_ok, okp_bind, okp_bad, List.getElem?_cons_zero, List.getElem?_cons_succ, List.set_cons_zero, List.set_cons_succ, List.length_cons, List.length_nil, List.map_cons, List.map_nil, List.cons_append, List.nil_append, List.length_map, List.replicate_succ, List.replicate_zero, wipeE, List.length_replicate, bd_int, bd_abs, bd_len, bd_list, bd_tuple, bd_sorted, bd_sortedSet, bd_any, bd_all, bd_sum, bd_isi, bd_listRange, bd_min, bd_max, f_int, f_abs, f_lenT, f_lenL, f_lenF, f_all, f_any, tr_bl, tr_lst, tr_tup, own_lst, Nat.reduceSub, Nat.reduceAdd, Nat.reduceLT, Nat.reduceLeDiff, Nat.zero_lt_succ, ↓reduceIte, b_add, b_sub, k_lt, k_le, k_gt, k_ge, k_eq, k_ne, k_eqB, k_neB, Gx.within, gWithin, List.contains_cons, beq_self_eq_true, Bool.true_or, Bool.and_true, Bool.true_and, Bool.and_self, Bool.not_true, Bool.not_false, List.elem_cons, List.contains_eq_mem, List.mem_cons, true_or, or_true, decide_true, Bool.false_eq_true, if_false, exists_eq_left', Option.some.injEq, asSeq_of C.seq]
      refine p_for (f := eT) (fun i Γ => (∃ d6 d8, Γ = [some (cD, false), some (eW words, false), some (eI win, false), some (eI yes, false), some (.lst ((inP win yes).map D.int), false), some (.lst ((mixF words win F).map eI), false), d6, none, d8]) ∧ ∀ (j : Nat) t, j < i → c[j]? = some t → anyM words win F t = false) ⟨⟨_, _, rfl⟩, fun j t h => by omega⟩ ?_ ?_
      · rintro i t Γ hi ⟨⟨d6, d8, rfl⟩, hb⟩
        have hm := List.mem_of_getElem? hi
        walk_at "cr.ev"
        rw [lc t hm]
        walk_at "cr.ev"
        rw [if_sz (by walk_at "cr.om")]
        walk_at "cr.ev"
        refine p_ifs _ _ (fun h2 => ?_) fun h2 => ?_
        · walk_at "cr.ev"
          have : wrongB words win yes F c = true := by
            unfold wrongB
            rw [if_neg h1, if_pos h3]
            exact List.any_eq_true.mpr ⟨t, hm, h2⟩
          rw [this]
        · walk_at "cr.ev"
          refine ⟨⟨_, _, rfl⟩, fun j t' hj ht' => ?_⟩
          by_cases q : j < i
          · exact hb j t' q ht'
          · obtain rfl : j = i := by omega
            rw [hi] at ht'
            cases ht'
            exact h2
      · rintro Γ ⟨⟨d6, d8, rfl⟩, hb⟩
        walk_at "cr.ev"
        have : wrongB words win yes F c = false := by
          unfold wrongB
          rw [if_neg h1, if_pos h3, List.any_eq_false]
          intro t ht
          obtain ⟨i, hi, e⟩ := List.getElem_of_mem ht
          rw [hb i t hi (by rw [List.getElem?_eq_getElem hi, e])]
          exact Bool.false_ne_true
        rw [this]
    · have h3 : (inP win yes).length ≠ 0 := by have := of_decide_eq_false h3; omega
      walk_at "cr.ev"
      have : wrongB words win yes F c = false := by
        unfold wrongB
        rw [if_neg h1, if_neg h3]
      rw [this]
theorem right_not {words : List (List Int)} {win yes : List Int} {F : Nat} {c : List (List (Option Int))} (hl : ∀ t ∈ c, t.length = F) (h : RightS words win yes F c) : wrongB words win yes F c = false := by
  unfold wrongB
  split
  · rename_i h1
    obtain ⟨t, ht, f⟩ := h.isIn h1
    have : (c.any fun t => allM words win F t) = true := by
      refine List.any_eq_true.mpr ⟨t, ht, List.all_eq_true.mpr fun x hx => holdsP_true.mpr fun i v hv => ?_⟩
      obtain ⟨m1, m2⟩ := (mixF_mem F x).mp hx
      have hi := (List.getElem?_eq_some_iff.mp hv).1
      rw [hl t ht] at hi
      have e : x[i]? = some x[i] := List.getElem?_eq_getElem (by omega)
      obtain ⟨s, hs, q⟩ := seen_mem.mp (m2 i _ e)
      rw [e, ← q, f i v hv s hs]
    rw [this]; rfl
  · rename_i h1
    split
    · rename_i h2
      rw [List.any_eq_false]
      intro t ht hany
      obtain ⟨i, v, h3, h4⟩ := h.isOut h1 (List.eq_nil_of_length_eq_zero h2) t ht
      obtain ⟨x, hx, h5⟩ := List.any_eq_true.mp hany
      exact h4 (((mixF_mem F x).mp hx).2 i v (holdsP_true.mp h5 i v h3))
    · rfl
theorem view_wrong {words : List (List Int)} {win yes : List Int} {F : Nat} {c : List (List (Option Int))} {xs : List (List Int)} (h : ViewS words win yes F c xs) : wrongB words win yes F c = true := by
  unfold wrongB
  split
  · rename_i h1
    have : (c.any fun t => allM words win F t) = false := by
      rw [List.any_eq_false]
      intro t ht hall
      obtain ⟨i, hi, e⟩ := List.getElem_of_mem ht
      have hix : i < xs.length := by rw [h.len]; exact hi
      have hx : xs[i]? = some xs[i] := List.getElem?_eq_getElem hix
      have h2 := h.isIn h1 i t xs[i] (by rw [List.getElem?_eq_getElem hi, e]) hx
      have h3 := List.all_eq_true.mp hall xs[i] ((mixF_mem F _).mpr (h.mix _ (List.mem_of_getElem? hx)))
      rw [h2] at h3
      cases h3
    rw [this]; rfl
  · rename_i h1
    obtain ⟨h2, i, t, x, h3, h4, h5⟩ := h.isOut h1
    rw [if_pos (by rw [h2]; rfl)]
    exact List.any_eq_true.mpr ⟨t, List.mem_of_getElem? h3, List.any_eq_true.mpr ⟨x, (mixF_mem F x).mpr (h.mix x (List.mem_of_getElem? h4)), h5⟩⟩
end K50
end

section
set_option maxHeartbeats 4000000
namespace K50
open PySem PySem.Spec PyProof.Rows L2 Cr

theorem ty_tt (ds : List D) : tyIs .tuple (.tup ds) = true := rfl
theorem ty_bt (ds : List D) : tyIs .bool (.tup ds) = false := rfl
theorem ty_it (ds : List D) : tyIs .int (.tup ds) = false := rfl
theorem ty_st (ds : List D) : tyIs .str (.tup ds) = false := rfl
theorem ty_lt (ds : List D) : tyIs .list (.tup ds) = false := rfl
theorem ty_dt (ds : List D) : tyIs .dict (.tup ds) = false := rfl
theorem ty_tl (ds : List D) : tyIs .tuple (.lst ds) = false := rfl
theorem ty_bl (ds : List D) : tyIs .bool (.lst ds) = false := rfl
theorem ty_il (ds : List D) : tyIs .int (.lst ds) = false := rfl
theorem ty_sl (ds : List D) : tyIs .str (.lst ds) = false := rfl
theorem ty_ll (ds : List D) : tyIs .list (.lst ds) = true := rfl
theorem ty_dl (ds : List D) : tyIs .dict (.lst ds) = false := rfl
theorem ty_bi (i : Int) : tyIs .bool (.int i) = false := rfl
theorem ty_ii (i : Int) : tyIs .int (.int i) = true := rfl
theorem ty_bb (i : Bool) : tyIs .bool (.bl i) = true := rfl
theorem is_tup (ds : List D) : cmpD .Is (.tup ds) .non = some false := rfl
theorem is_lst (ds : List D) : cmpD .Is (.lst ds) .non = some false := rfl
theorem is_int (i : Int) : cmpD .Is (.int i) .non = some false := rfl
theorem is_bl (i : Bool) : cmpD .Is (.bl i) .non = some false := rfl
theorem is_non : cmpD .Is .non .non = some true := rfl
/-- equal things are the same -/
def SameOk (n : Nat) (d : D) : Prop := callN tbl n "_law_same" [d, d] = .ok (.bl true, false)
theorem same_non (n : Nat) : SameOk (n + 1) .non := by
  refine call_eq fd__law_same rfl rfl (by decide) ?_
  unfold fd__law_same
  simp -implicitDefEqProofs only [env0, e_var, e_non, e_bl, e_int, e_str, e_glob, e_bin, e_not, e_cmp, e_and, e_or, e_ife, e_tup, e_lst, e_ix, e_slc, e_call, e_blt, e_lc, e_ssc, e_rvs, v_nil, v_cons, a_nil, a_cons, bs_nil, bs_cons, asO_int, o_none, o_some, t_e, t_cmp, t_and, t_or, t_not, t_inr, inr_int, to_none, to_some, asSeq_tup, asSeq_lst, asSeq_fls, i_seq, i_rev, i_rng, i_rng2, s_nil, s_cons, seq_nx, seq_rt, seq_bk, seq_ct, x_set, x_own, x_ret, x_retn, x_retv, x_ifs, x_fors, x_whl, x_app, x_frz, x_aug, x_pass, x_brk, x_cont, x_seti, ifs_true, ifs_false, ife_true, ife_false, and_t, and_f, or_t, or_f, andt_t, andt_f, ort_t, ort_f, ForP, RtP, borOr, argOr, isBor, lookV, look, put, asg, asgs, pb, pbO, up_some, up_none, ok_bind, okp_ok, okp_bind, okp_bad, List.getElem?_cons_zero, List.getElem?_cons_succ, List.set_cons_zero, List.set_cons_succ, List.length_cons, List.length_nil, List.map_cons, List.map_nil, List.cons_append, List.nil_append, List.length_map, List.replicate_succ, List.replicate_zero, wipeE, List.length_replicate, bd_int, bd_abs, bd_len, bd_list, bd_tuple, bd_sorted, bd_sortedSet, bd_any, bd_all, bd_sum, bd_isi, bd_listRange, bd_min, bd_max, f_int, f_abs, f_lenT, f_lenL, f_lenF, f_all, f_any, tr_bl, tr_lst, tr_tup, own_lst, Nat.reduceSub, Nat.reduceAdd, Nat.reduceLT, Nat.reduceLeDiff, Nat.zero_lt_succ, ↓reduceIte, b_add, b_sub, k_lt, k_le, k_gt, k_ge, k_eq, k_ne, k_eqB, k_neB, Gx.within, gWithin, List.contains_cons, beq_self_eq_true, Bool.true_or, Bool.and_true, Bool.true_and, Bool.and_self, Bool.not_true, Bool.not_false, List.elem_cons, List.contains_eq_mem, List.mem_cons, true_or, or_true, decide_true, Bool.false_eq_true, if_false, exists_eq_left', Option.some.injEq, ty_tt, ty_bt, ty_it, ty_st, ty_lt, ty_dt, ty_tl, ty_bl, ty_il, ty_sl, ty_ll, ty_dl, ty_bi, ty_ii, ty_bb, is_tup, is_lst, is_int, is_bl, is_non, eq_self]
theorem same_bl (n : Nat) (b : Bool) : SameOk (n + 1) (.bl b) := by
  refine call_eq fd__law_same rfl rfl (by decide) ?_
  unfold fd__law_same
  simp -implicitDefEqProofs only [env0, e_var, e_non, e_bl, e_int, e_str, e_glob, e_bin, e_not, e_cmp, e_and, e_or, e_ife, e_tup, e_lst, e_ix, e_slc, e_call, e_blt, e_lc, e_ssc, e_rvs, v_nil, v_cons, a_nil, a_cons, bs_nil, bs_cons, asO_int, o_none, o_some, t_e, t_cmp, t_and, t_or, t_not, t_inr, inr_int, to_none, to_some, asSeq_tup, asSeq_lst, asSeq_fls, i_seq, i_rev, i_rng, i_rng2, s_nil, s_cons, seq_nx, seq_rt, seq_bk, seq_ct, x_set, x_own, x_ret, x_retn, x_retv, x_ifs, x_fors, x_whl, x_app, x_frz, x_aug, x_pass, x_brk, x_cont, x_seti, ifs_true, ifs_false, ife_true, ife_false, and_t, and_f, or_t, or_f, andt_t, andt_f, ort_t, ort_f, ForP, RtP, borOr, argOr, isBor, lookV, look, put, asg, asgs, pb, pbO, up_some, up_none, ok_bind, okp_ok, okp_bind, okp_bad, List.getElem?_cons_zero, List.getElem?_cons_succ, List.set_cons_zero, List.set_cons_succ, List.length_cons, List.length_nil, List.map_cons, List.map_nil, List.cons_append, List.nil_append, List.length_map, List.replicate_succ, List.replicate_zero, wipeE, List.length_replicate, bd_int, bd_abs, bd_len, bd_list, bd_tuple, bd_sorted, bd_sortedSet, bd_any, bd_all, bd_sum, bd_isi, bd_listRange, bd_min, bd_max, f_int, f_abs, f_lenT, f_lenL, f_lenF, f_all, f_any, tr_bl, tr_lst, tr_tup, own_lst, Nat.reduceSub, Nat.reduceAdd, Nat.reduceLT, Nat.reduceLeDiff, Nat.zero_lt_succ, ↓reduceIte, b_add, b_sub, k_lt, k_le, k_gt, k_ge, k_eq, k_ne, k_eqB, k_neB, Gx.within, gWithin, List.contains_cons, beq_self_eq_true, Bool.true_or, Bool.and_true, Bool.true_and, Bool.and_self, Bool.not_true, Bool.not_false, List.elem_cons, List.contains_eq_mem, List.mem_cons, true_or, or_true, decide_true, Bool.false_eq_true, if_false, exists_eq_left', Option.some.injEq, ty_tt, ty_bt, ty_it, ty_st, ty_lt, ty_dt, ty_tl, ty_bl, ty_il, ty_sl, ty_ll, ty_dl, ty_bi, ty_ii, ty_bb, is_tup, is_lst, is_int, is_bl, is_non, eq_self]
theorem same_int (n : Nat) (i : Int) : SameOk (n + 1) (.int i) := by
  refine call_eq fd__law_same rfl rfl (by decide) ?_
  unfold fd__law_same
  simp -implicitDefEqProofs only [env0, e_var, e_non, e_bl, e_int, e_str, e_glob, e_bin, e_not, e_cmp, e_and, e_or, e_ife, e_tup, e_lst, e_ix, e_slc, e_call, e_blt, e_lc, e_ssc, e_rvs, v_nil, v_cons, a_nil, a_cons, bs_nil, bs_cons, asO_int, o_none, o_some, t_e, t_cmp, t_and, t_or, t_not, t_inr, inr_int, to_none, to_some, asSeq_tup, asSeq_lst, asSeq_fls, i_seq, i_rev, i_rng, i_rng2, s_nil, s_cons, seq_nx, seq_rt, seq_bk, seq_ct, x_set, x_own, x_ret, x_retn, x_retv, x_ifs, x_fors, x_whl, x_app, x_frz, x_aug, x_pass, x_brk, x_cont, x_seti, ifs_true, ifs_false, ife_true, ife_false, and_t, and_f, or_t, or_f, andt_t, andt_f, ort_t, ort_f, ForP, RtP, borOr, argOr, isBor, lookV, look, put, asg, asgs, pb, pbO, up_some, up_none, ok_bind, okp_ok, okp_bind, okp_bad, List.getElem?_cons_zero, List.getElem?_cons_succ, List.set_cons_zero, List.set_cons_succ, List.length_cons, List.length_nil, List.map_cons, List.map_nil, List.cons_append, List.nil_append, List.length_map, List.replicate_succ, List.replicate_zero, wipeE, List.length_replicate, bd_int, bd_abs, bd_len, bd_list, bd_tuple, bd_sorted, bd_sortedSet, bd_any, bd_all, bd_sum, bd_isi, bd_listRange, bd_min, bd_max, f_int, f_abs, f_lenT, f_lenL, f_lenF, f_all, f_any, tr_bl, tr_lst, tr_tup, own_lst, Nat.reduceSub, Nat.reduceAdd, Nat.reduceLT, Nat.reduceLeDiff, Nat.zero_lt_succ, ↓reduceIte, b_add, b_sub, k_lt, k_le, k_gt, k_ge, k_eq, k_ne, k_eqB, k_neB, Gx.within, gWithin, List.contains_cons, beq_self_eq_true, Bool.true_or, Bool.and_true, Bool.true_and, Bool.and_self, Bool.not_true, Bool.not_false, List.elem_cons, List.contains_eq_mem, List.mem_cons, true_or, or_true, decide_true, Bool.false_eq_true, if_false, exists_eq_left', Option.some.injEq, ty_tt, ty_bt, ty_it, ty_st, ty_lt, ty_dt, ty_tl, ty_bl, ty_il, ty_sl, ty_ll, ty_dl, ty_bi, ty_ii, ty_bb, is_tup, is_lst, is_int, is_bl, is_non, eq_self]
theorem same_seq (n : Nat) {d : D} {ds : List D} (hd : d = .tup ds ∨ d = .lst ds) (hl : ds.length ≤ 1000) (h : ∀ x ∈ ds, SameOk n x) : SameOk (n + 1) d := by
  have hs : d.seq = some ds := by rcases hd with rfl | rfl <;> rfl
  refine call_eq fd__law_same rfl rfl (by decide) ?_
  have loop : OkP (FOR (callN tbl n) [some (d, false), some (d, false), none] (.nm 2) [.ifs (.not (.e (.call "_law_same" [.ix (.var 0) (.var 2), .ix (.var 1) (.var 2)]))) [.ret (.bl false)] []] ((List.range ds.length).map fun i => D.int ((i : Nat) : Int)))
      fun b => ∃ d2, b = (.nx, [some (d, false), some (d, false), d2]) := by
    refine p_for (f := fun i : Nat => D.int i) (fun i Γ => ∃ d2, Γ = [some (d, false), some (d, false), d2]) ⟨_, rfl⟩ ?_ ?_
    · rintro i x Γ hx ⟨d2, rfl⟩
      obtain ⟨rfl, hi⟩ := rng_at hx
      have e : ds[x]? = some ds[x] := List.getElem?_eq_getElem hi
      have hx : ixD d false (.int x) = some (ds[x], false) := ix_at x hs e (.inl rfl)
      simp -implicitDefEqProofs only [env0, e_var, e_non, e_bl, e_int, e_str, e_glob, e_bin, e_not, e_cmp, e_and, e_or, e_ife, e_tup, e_lst, e_ix, e_slc, e_call, e_blt, e_lc, e_ssc, e_rvs, v_nil, v_cons, a_nil, a_cons, bs_nil, bs_cons, asO_int, o_none, o_some, t_e, t_cmp, t_and, t_or, t_not, t_inr, inr_int, to_none, to_some, asSeq_tup, asSeq_lst, asSeq_fls, i_seq, i_rev, i_rng, i_rng2, s_nil, s_cons, seq_nx, seq_rt, seq_bk, seq_ct, x_set, x_own, x_ret, x_retn, x_retv, x_ifs, x_fors, x_whl, x_app, x_frz, x_aug, x_pass, x_brk, x_cont, x_seti, ifs_true, ifs_false, ife_true, ife_false, and_t, and_f, or_t, or_f, andt_t, andt_f, ort_t, ort_f, ForP, RtP, borOr, argOr, isBor, lookV, look, put, asg, asgs, pb, pbO, up_some, up_none, ok_bind, okp_ok, okp_bind, okp_bad, List.getElem?_cons_zero, List.getElem?_cons_succ, List.set_cons_zero, List.set_cons_succ, List.length_cons, List.length_nil, List.map_cons, List.map_nil, List.cons_append, List.nil_append, List.length_map, List.replicate_succ, List.replicate_zero, wipeE, List.length_replicate, bd_int, bd_abs, bd_len, bd_list, bd_tuple, bd_sorted, bd_sortedSet, bd_any, bd_all, bd_sum, bd_isi, bd_listRange, bd_min, bd_max, f_int, f_abs, f_lenT, f_lenL, f_lenF, f_all, f_any, tr_bl, tr_lst, tr_tup, own_lst, Nat.reduceSub, Nat.reduceAdd, Nat.reduceLT, Nat.reduceLeDiff, Nat.zero_lt_succ, ↓reduceIte, b_add, b_sub, k_lt, k_le, k_gt, k_ge, k_eq, k_ne, k_eqB, k_neB, Gx.within, gWithin, List.contains_cons, beq_self_eq_true, Bool.true_or, Bool.and_true, Bool.true_and, Bool.and_self, Bool.not_true, Bool.not_false, List.elem_cons, List.contains_eq_mem, List.mem_cons, true_or, or_true, decide_true, Bool.false_eq_true, if_false, exists_eq_left', Option.some.injEq, ty_tt, ty_bt, ty_it, ty_st, ty_lt, ty_dt, ty_tl, ty_bl, ty_il, ty_sl, ty_ll, ty_dl, ty_bi, ty_ii, ty_bb, is_tup, is_lst, is_int, is_bl, is_non, eq_self, hx, callOr_val (as := [(ds[x], false), (ds[x], false)]) (h _ (List.mem_of_getElem? e)) rfl]
      exact ⟨_, rfl⟩
    · rintro Γ ⟨d2, rfl⟩
      exact ⟨_, rfl⟩
  unfold fd__law_same
  rcases hd with rfl | rfl
  · simp -implicitDefEqProofs only [env0, e_var, e_non, e_bl, e_int, e_str, e_glob, e_bin, e_not, e_cmp, e_and, e_or, e_ife, e_tup, e_lst, e_ix, e_slc, e_call, e_blt, e_lc, e_ssc, e_rvs, v_nil, v_cons, a_nil, a_cons, bs_nil, bs_cons, asO_int, o_none, o_some, t_e, t_cmp, t_and, t_or, t_not, t_inr, inr_int, to_none, to_some, asSeq_tup, asSeq_lst, asSeq_fls, i_seq, i_rev, i_rng, i_rng2, s_nil, s_cons, seq_nx, seq_rt, seq_bk, seq_ct, x_set, x_own, x_ret, x_retn, x_retv, x_ifs, x_fors, x_whl, x_app, x_frz, x_aug, x_pass, x_brk, x_cont, x_seti, ifs_true, ifs_false, ife_true, ife_false, and_t, and_f, or_t, or_f, andt_t, andt_f, ort_t, ort_f, ForP, RtP, borOr, argOr, isBor, lookV, look, put, asg, asgs, pb, pbO, up_some, up_none, ok_bind, okp_ok, okp_bind, okp_bad, List.getElem?_cons_zero, List.getElem?_cons_succ, List.set_cons_zero, List.set_cons_succ, List.length_cons, List.length_nil, List.map_cons, List.map_nil, List.cons_append, List.nil_append, List.length_map, List.replicate_succ, List.replicate_zero, wipeE, List.length_replicate, bd_int, bd_abs, bd_len, bd_list, bd_tuple, bd_sorted, bd_sortedSet, bd_any, bd_all, bd_sum, bd_isi, bd_listRange, bd_min, bd_max, f_int, f_abs, f_lenT, f_lenL, f_lenF, f_all, f_any, tr_bl, tr_lst, tr_tup, own_lst, Nat.reduceSub, Nat.reduceAdd, Nat.reduceLT, Nat.reduceLeDiff, Nat.zero_lt_succ, ↓reduceIte, b_add, b_sub, k_lt, k_le, k_gt, k_ge, k_eq, k_ne, k_eqB, k_neB, Gx.within, gWithin, List.contains_cons, beq_self_eq_true, Bool.true_or, Bool.and_true, Bool.true_and, Bool.and_self, Bool.not_true, Bool.not_false, List.elem_cons, List.contains_eq_mem, List.mem_cons, true_or, or_true, decide_true, Bool.false_eq_true, if_false, exists_eq_left', Option.some.injEq, ty_tt, ty_bt, ty_it, ty_st, ty_lt, ty_dt, ty_tl, ty_bl, ty_il, ty_sl, ty_ll, ty_dl, ty_bi, ty_ii, ty_bb, is_tup, is_lst, is_int, is_bl, is_non, eq_self]
    rw [asRng_nat _ (by omega)]
    walk_at "cr.ev"
    refine loop.mono fun b hb => ?_
    obtain ⟨d2, rfl⟩ := hb
    walk_at "cr.ev"
  · simp -implicitDefEqProofs only [env0, e_var, e_non, e_bl, e_int, e_str, e_glob, e_bin, e_not, e_cmp, e_and, e_or, e_ife, e_tup, e_lst, e_ix, e_slc, e_call, e_blt, e_lc, e_ssc, e_rvs, v_nil, v_cons, a_nil, a_cons, bs_nil, bs_cons, asO_int, o_none, o_some, t_e, t_cmp, t_and, t_or, t_not, t_inr, inr_int, to_none, to_some, asSeq_tup, asSeq_lst, asSeq_fls, i_seq, i_rev, i_rng, i_rng2, s_nil, s_cons, seq_nx, seq_rt, seq_bk, seq_ct, x_set, x_own, x_ret, x_retn, x_retv, x_ifs, x_fors, x_whl, x_app, x_frz, x_aug, x_pass, x_brk, x_cont, x_seti, ifs_true, ifs_false, ife_true, ife_false, and_t, and_f, or_t, or_f, andt_t, andt_f, ort_t, ort_f, ForP, RtP, borOr, argOr, isBor, lookV, look, put, asg, asgs, pb, pbO, up_some, up_none, ok_bind, okp_ok, okp_bind, okp_bad, List.getElem?_cons_zero, List.getElem?_cons_succ, List.set_cons_zero, List.set_cons_succ, List.length_cons, List.length_nil, List.map_cons, List.map_nil, List.cons_append, List.nil_append, List.length_map, List.replicate_succ, List.replicate_zero, wipeE, List.length_replicate, bd_int, bd_abs, bd_len, bd_list, bd_tuple, bd_sorted, bd_sortedSet, bd_any, bd_all, bd_sum, bd_isi, bd_listRange, bd_min, bd_max, f_int, f_abs, f_lenT, f_lenL, f_lenF, f_all, f_any, tr_bl, tr_lst, tr_tup, own_lst, Nat.reduceSub, Nat.reduceAdd, Nat.reduceLT, Nat.reduceLeDiff, Nat.zero_lt_succ, ↓reduceIte, b_add, b_sub, k_lt, k_le, k_gt, k_ge, k_eq, k_ne, k_eqB, k_neB, Gx.within, gWithin, List.contains_cons, beq_self_eq_true, Bool.true_or, Bool.and_true, Bool.true_and, Bool.and_self, Bool.not_true, Bool.not_false, List.elem_cons, List.contains_eq_mem, List.mem_cons, true_or, or_true, decide_true, Bool.false_eq_true, if_false, exists_eq_left', Option.some.injEq, ty_tt, ty_bt, ty_it, ty_st, ty_lt, ty_dt, ty_tl, ty_bl, ty_il, ty_sl, ty_ll, ty_dl, ty_bi, ty_ii, ty_bb, is_tup, is_lst, is_int, is_bl, is_non, eq_self]
    rw [asRng_nat _ (by omega)]
    walk_at "cr.ev"
    refine loop.mono fun b hb => ?_
    obtain ⟨d2, rfl⟩ := hb
    walk_at "cr.ev"
theorem same_eT (n : Nat) {t : List (Option Int)} (h : t.length ≤ 1000) : SameOk (n + 2) (eT t) := by
  refine same_seq (n + 1) (.inl rfl) (by walk_at "cr.om") fun x hx => ?_
  obtain ⟨o, _, rfl⟩ := List.mem_map.mp hx
  cases o
  · exact same_non n
  · exact same_int n _
theorem same_eI (n : Nat) {t : List Int} (h : t.length ≤ 1000) : SameOk (n + 2) (eI t) := by
  refine same_seq (n + 1) (.inl rfl) (by walk_at "cr.om") fun x hx => ?_
  obtain ⟨o, _, rfl⟩ := List.mem_map.mp hx
  exact same_int n _

def hAt (c : List (List (Option Int))) (xs : List (List Int)) (i : Nat) : Bool := holdsP (c.getD i []) (xs.getD i [])
theorem c_view (n : Nat) {words windows : List (List Int)} {yes : List Int} {F k : Nat} {c : List (List (Option Int))} {cD wD : D} {win : List Int} {xs : List (List Int)} (W : OkW words F) (C : OkC c cD F) (Ws : OkWs words windows wD) (hw : windows[k]? = some win) (V : ViewS words win yes F c xs) :
    callN tbl (n + 2) "_law_is_wrong_view" [eU (some (k, xs)), cD, eW words, wD, eI yes] = .ok (.bl true, false) := by
  refine call_eq fd__law_is_wrong_view rfl rfl (by decide) ?_
  unfold fd__law_is_wrong_view
  have O := Ws.win _ (List.mem_of_getElem? hw)
  have F1 := W.F100
  have C1 := C.few
  have W1 := Ws.few
  have V1 := V.len
  obtain ⟨w0, e0, l0⟩ := len0 W
  have hk := (List.getElem?_eq_some_iff.mp hw).1
  generalize hT : eU (some (k, xs)) = T
  have T0 : ixD T false (.int 0) = some (.int k, false) := by subst hT; exact ix_seq false rfl (by decide) rfl (.inl rfl)
  have T1 : ixD T false (.int 1) = some (.tup (xs.map eI), false) := by subst hT; exact ix_seq false rfl (by decide) rfl (.inl rfl)
  have TT : tyIs .tuple T = true := by subst hT; rfl
  have TL : fLen T = some (.int 2, false) := by subst hT; rfl
  have ixw : ixD wD false (.int k) = some (eI win, false) := ix_map (g := eI) k Ws.seq hw (.inl rfl)
  have ixW0 : ixD (eW words) false (.int 0) = some (eI w0, false) := ix_mapI (l := words) (g := eI) (k := 0) (by decide) rfl e0 (.inl rfl)
  have dk : decide ((0 : Int) ≤ (k : Int) ∧ (k : Int) < ((windows.length : Nat) : Int)) = true := decide_eq_true (by omega)
  have dl : decide (((xs.length : Nat) : Int) = ((c.length : Nat) : Int)) = true := decide_eq_true (by omega)
  simp -implicitDefEqProofs only [env0, e_var, e_non, e_bl, e_int, e_str, e_glob, e_bin, e_not, e_cmp, e_and, e_or, e_ife, e_tup, e_lst, e_ix, e_slc, e_call, e_blt, e_lc, e_ssc, e_rvs, v_nil, v_cons, a_nil, a_cons, bs_nil, bs_cons, asO_int, o_none, o_some, t_e, t_cmp, t_and, t_or, t_not, t_inr, inr_int, to_none, to_some, asSeq_tup, asSeq_lst, asSeq_fls, i_seq, i_rev, i_rng, i_rng2, s_nil, s_cons, seq_nx, seq_rt, seq_bk, seq_ct, x_set, x_own, x_ret, x_retn, x_retv, x_ifs, x_fors, x_whl, x_app, x_frz, x_aug, x_pass, x_brk, x_cont, x_seti, ifs_true, ifs_false, ife_true, ife_false, and_t, and_f, or_t, or_f, andt_t, andt_f, ort_t, ort_f, ForP, RtP, borOr, argOr, isBor, lookV, look, put, asg, asgs, pb, pbO, up_some, up_none, ok_bind, okp_ok, okp_bind, okp_bad, List.getElem?_cons_zero, List.getElem?_cons_succ, List.set_cons_zero, List.set_cons_succ, List.length_cons, List.length_nil, List.map_cons, List.map_nil, List.cons_append, List.nil_append, List.length_map, List.replicate_succ, List.replicate_zero, wipeE, List.length_replicate, bd_int, bd_abs, bd_len, bd_list, bd_tuple, bd_sorted, bd_sortedSet, bd_any, bd_all, bd_sum, bd_isi, bd_listRange, bd_min, bd_max, f_int, f_abs, f_lenT, f_lenL, f_lenF, f_all, f_any, tr_bl, tr_lst, tr_tup, own_lst, Nat.reduceSub, Nat.reduceAdd, Nat.reduceLT, Nat.reduceLeDiff, Nat.zero_lt_succ, ↓reduceIte, b_add, b_sub, k_lt, k_le, k_gt, k_ge, k_eq, k_ne, k_eqB, k_neB, Gx.within, gWithin, List.contains_cons, beq_self_eq_true, Bool.true_or, Bool.and_true, Bool.true_and, Bool.and_self, Bool.not_true, Bool.not_false, List.elem_cons, List.contains_eq_mem, List.mem_cons, true_or, or_true, decide_true, Bool.false_eq_true, if_false, exists_eq_left', Option.some.injEq, ty_tt, ty_bt, ty_it, ty_st, ty_lt, ty_dt, ty_tl, ty_bl, ty_il, ty_sl, ty_ll, ty_dl, ty_bi, ty_ii, ty_bb, is_tup, is_lst, is_int, is_bl, is_non, eq_self, T0, T1, TT, TL, len_seq C.seq, len_seq Ws.seq, dk, dl, Bool.true_xor, Bool.not_true, ixw]
  refine OkP.mono (Q := fun b => ∃ d6 d9, b = (.nx, [some (T, false), some (cD, false), some (eW words, false), some (wD, false), some (eI yes, false), some (eI win, false), d6, none, none, d9, none, none])) ?_ ?_
  · refine p_for (f := eI) (fun i Γ => ∃ d6 d9, Γ = [some (T, false), some (cD, false), some (eW words, false), some (wD, false), some (eI yes, false), some (eI win, false), d6, none, none, d9, none, none]) ⟨_, _, rfl⟩ ?_ ?_
    · rintro i x Γ hx ⟨d6, d9, rfl⟩
      have mx := V.mix x (List.mem_of_getElem? hx)
      have dm : decide (((x.length : Nat) : Int) = ((w0.length : Nat) : Int)) = true := decide_eq_true (by have := mx.1; omega)
      simp -implicitDefEqProofs only [env0, e_var, e_non, e_bl, e_int, e_str, e_glob, e_bin, e_not, e_cmp, e_and, e_or, e_ife, e_tup, e_lst, e_ix, e_slc, e_call, e_blt, e_lc, e_ssc, e_rvs, v_nil, v_cons, a_nil, a_cons, bs_nil, bs_cons, asO_int, o_none, o_some, t_e, t_cmp, t_and, t_or, t_not, t_inr, inr_int, to_none, to_some, asSeq_tup, asSeq_lst, asSeq_fls, i_seq, i_rev, i_rng, i_rng2, s_nil, s_cons, seq_nx, seq_rt, seq_bk, seq_ct, x_set, x_own, x_ret, x_retn, x_retv, x_ifs, x_fors, x_whl, x_app, x_frz, x_aug, x_pass, x_brk, x_cont, x_seti, ifs_true, ifs_false, ife_true, ife_false, and_t, and_f, or_t, or_f, andt_t, andt_f, ort_t, ort_f, ForP, RtP, borOr, argOr, isBor, lookV, look, put, asg, asgs, pb, pbO, up_some, up_none, ok_bind, okp_ok, okp_bind, okp_bad, List.getElem?_cons_zero, List.getElem?_cons_succ, List.set_cons_zero, List.set_cons_succ, List.length_cons, List.length_nil, List.map_cons, List.map_nil, List.cons_append, List.nil_append, List.length_map, List.replicate_succ, List.replicate_zero, wipeE, List.length_replicate, bd_int, bd_abs, bd_len, bd_list, bd_tuple, bd_sorted, bd_sortedSet, bd_any, bd_all, bd_sum, bd_isi, bd_listRange, bd_min, bd_max, f_int, f_abs, f_lenT, f_lenL, f_lenF, f_all, f_any, tr_bl, tr_lst, tr_tup, own_lst, Nat.reduceSub, Nat.reduceAdd, Nat.reduceLT, Nat.reduceLeDiff, Nat.zero_lt_succ, ↓reduceIte, b_add, b_sub, k_lt, k_le, k_gt, k_ge, k_eq, k_ne, k_eqB, k_neB, Gx.within, gWithin, List.contains_cons, beq_self_eq_true, Bool.true_or, Bool.and_true, Bool.true_and, Bool.and_self, Bool.not_true, Bool.not_false, List.elem_cons, List.contains_eq_mem, List.mem_cons, true_or, or_true, decide_true, Bool.false_eq_true, if_false, exists_eq_left', Option.some.injEq, ty_tt, ty_bt, ty_it, ty_st, ty_lt, ty_dt, ty_tl, ty_bl, ty_il, ty_sl, ty_ll, ty_dl, ty_bi, ty_ii, ty_bb, is_tup, is_lst, is_int, is_bl, is_non, eq_self, ixW0, dm]
      rw [asRng_nat _ (by have := mx.1; omega)]
      walk_at "cr.ev"
      refine p_for (f := fun i : Nat => D.int i) (fun j Γ => ∃ d9, Γ = [some (T, false), some (cD, false), some (eW words, false), some (wD, false), some (eI yes, false), some (eI win, false), some (eI x, false), none, none, d9, none, none]) ⟨_, rfl⟩ ?_ ?_
      · rintro j y Γ hy ⟨d9, rfl⟩
        obtain ⟨rfl, hj⟩ := rng_at hy
        have exj : x[y]? = some x[y] := List.getElem?_eq_getElem hj
        have ixx : ixD (eI x) false (.int y) = some (.int x[y], false) := ix_map (g := D.int) y rfl exj (.inl rfl)
        have hm := seen_mem.mp (mx.2 y _ exj)
        simp -implicitDefEqProofs only [env0, e_var, e_non, e_bl, e_int, e_str, e_glob, e_bin, e_not, e_cmp, e_and, e_or, e_ife, e_tup, e_lst, e_ix, e_slc, e_call, e_blt, e_lc, e_ssc, e_rvs, v_nil, v_cons, a_nil, a_cons, bs_nil, bs_cons, asO_int, o_none, o_some, t_e, t_cmp, t_and, t_or, t_not, t_inr, inr_int, to_none, to_some, asSeq_tup, asSeq_lst, asSeq_fls, i_seq, i_rev, i_rng, i_rng2, s_nil, s_cons, seq_nx, seq_rt, seq_bk, seq_ct, x_set, x_own, x_ret, x_retn, x_retv, x_ifs, x_fors, x_whl, x_app, x_frz, x_aug, x_pass, x_brk, x_cont, x_seti, ifs_true, ifs_false, ife_true, ife_false, and_t, and_f, or_t, or_f, andt_t, andt_f, ort_t, ort_f, ForP, RtP, borOr, argOr, isBor, lookV, look, put, asg, asgs, pb, pbO, up_some, up_none, ok_bind, okp_ok, okp_bind, okp_bad, List.getElem?_cons_zero, List.getElem?_cons_succ, List.set_cons_zero, List.set_cons_succ, List.length_cons, List.length_nil, List.map_cons, List.map_nil, List.cons_append, List.nil_append, List.length_map, List.replicate_succ, List.replicate_zero, wipeE, List.length_replicate, bd_int, bd_abs, bd_len, bd_list, bd_tuple, bd_sorted, bd_sortedSet, bd_any, bd_all, bd_sum, bd_isi, bd_listRange, bd_min, bd_max, f_int, f_abs, f_lenT, f_lenL, f_lenF, f_all, f_any, tr_bl, tr_lst, tr_tup, own_lst, Nat.reduceSub, Nat.reduceAdd, Nat.reduceLT, Nat.reduceLeDiff, Nat.zero_lt_succ, ↓reduceIte, b_add, b_sub, k_lt, k_le, k_gt, k_ge, k_eq, k_ne, k_eqB, k_neB, Gx.within, gWithin, List.contains_cons, beq_self_eq_true, Bool.true_or, Bool.and_true, Bool.true_and, Bool.and_self, Bool.not_true, Bool.not_false, List.elem_cons, List.contains_eq_mem, List.mem_cons, true_or, or_true, decide_true, Bool.false_eq_true, if_false, exists_eq_left', Option.some.injEq, ty_tt, ty_bt, ty_it, ty_st, ty_lt, ty_dt, ty_tl, ty_bl, ty_il, ty_sl, ty_ll, ty_dl, ty_bi, ty_ii, ty_bb, is_tup, is_lst, is_int, is_bl, is_non, eq_self, ixx]
        rw [lca (f := D.int) (h := fun s => .int (wf words y s))]
        · walk_at "cr.ev"
          rw [if_sz (by have := O.few; walk_at "cr.om")]
          simp -implicitDefEqProofs only [env0, e_var, e_non, e_bl, e_int, e_str, e_glob, e_bin, e_not, e_cmp, e_and, e_or, e_ife, e_tup, e_lst, e_ix, e_slc, e_call, e_blt, e_lc, e_ssc, e_rvs, v_nil, v_cons, a_nil, a_cons, bs_nil, bs_cons, asO_int, o_none, o_some, t_e, t_cmp, t_and, t_or, t_not, t_inr, inr_int, to_none, to_some, asSeq_tup, asSeq_lst, asSeq_fls, i_seq, i_rev, i_rng, i_rng2, s_nil, s_cons, seq_nx, seq_rt, seq_bk, seq_ct, x_set, x_own, x_ret, x_retn, x_retv, x_ifs, x_fors, x_whl, x_app, x_frz, x_aug, x_pass, x_brk, x_cont, x_seti, ifs_true, ifs_false, ife_true, ife_false, and_t, and_f, or_t, or_f, andt_t, andt_f, ort_t, ort_f, ForP, RtP, borOr, argOr, isBor, lookV, look, put, asg, asgs, pb, pbO, up_some, up_none, ok_bind, okp_ok, okp_bind, okp_bad, List.getElem?_cons_zero, List.getElem?_cons_succ, List.set_cons_zero, List.set_cons_succ, List.length_cons, List.length_nil, List.map_cons, List.map_nil, List.cons_append, List.nil_append, List.length_map, List.replicate_succ, List.replicate_zero, wipeE, List.length_replicate, bd_int, bd_abs, bd_len, bd_list, bd_tuple, bd_sorted, bd_sortedSet, bd_any, bd_all, bd_sum, bd_isi, bd_listRange, bd_min, bd_max, f_int, f_abs, f_lenT, f_lenL, f_lenF, f_all, f_any, tr_bl, tr_lst, tr_tup, own_lst, Nat.reduceSub, Nat.reduceAdd, Nat.reduceLT, Nat.reduceLeDiff, Nat.zero_lt_succ, ↓reduceIte, b_add, b_sub, k_lt, k_le, k_gt, k_ge, k_eq, k_ne, k_eqB, k_neB, Gx.within, gWithin, List.contains_cons, beq_self_eq_true, Bool.true_or, Bool.and_true, Bool.true_and, Bool.and_self, Bool.not_true, Bool.not_false, List.elem_cons, List.contains_eq_mem, List.mem_cons, true_or, or_true, decide_true, Bool.false_eq_true, if_false, exists_eq_left', Option.some.injEq, ixx]
          have e : ((D.lst (win.map fun s => .int (wf words y s))).seq) = some ((win.map (wf words y)).map D.int) := by
            rw [List.map_map]; rfl
          rw [k_notIn _ e, decide_eq_true (List.mem_map.mpr hm)]
          walk_at "cr.ev"
          exact ⟨_, rfl⟩
        · intro s hs
          obtain ⟨e1, e2⟩ := ix_word W O hs
          simp -implicitDefEqProofs only [env0, e_var, e_non, e_bl, e_int, e_str, e_glob, e_bin, e_not, e_cmp, e_and, e_or, e_ife, e_tup, e_lst, e_ix, e_slc, e_call, e_blt, e_lc, e_ssc, e_rvs, v_nil, v_cons, a_nil, a_cons, bs_nil, bs_cons, asO_int, o_none, o_some, t_e, t_cmp, t_and, t_or, t_not, t_inr, inr_int, to_none, to_some, asSeq_tup, asSeq_lst, asSeq_fls, i_seq, i_rev, i_rng, i_rng2, s_nil, s_cons, seq_nx, seq_rt, seq_bk, seq_ct, x_set, x_own, x_ret, x_retn, x_retv, x_ifs, x_fors, x_whl, x_app, x_frz, x_aug, x_pass, x_brk, x_cont, x_seti, ifs_true, ifs_false, ife_true, ife_false, and_t, and_f, or_t, or_f, andt_t, andt_f, ort_t, ort_f, ForP, RtP, borOr, argOr, isBor, lookV, look, put, asg, asgs, pb, pbO, up_some, up_none, ok_bind, okp_ok, okp_bind, okp_bad, List.getElem?_cons_zero, List.getElem?_cons_succ, List.set_cons_zero, List.set_cons_succ, List.length_cons, List.length_nil, List.map_cons, List.map_nil, List.cons_append, List.nil_append, List.length_map, List.replicate_succ, List.replicate_zero, wipeE, List.length_replicate, bd_int, bd_abs, bd_len, bd_list, bd_tuple, bd_sorted, bd_sortedSet, bd_any, bd_all, bd_sum, bd_isi, bd_listRange, bd_min, bd_max, f_int, f_abs, f_lenT, f_lenL, f_lenF, f_all, f_any, tr_bl, tr_lst, tr_tup, own_lst, Nat.reduceSub, Nat.reduceAdd, Nat.reduceLT, Nat.reduceLeDiff, Nat.zero_lt_succ, ↓reduceIte, b_add, b_sub, k_lt, k_le, k_gt, k_ge, k_eq, k_ne, k_eqB, k_neB, Gx.within, gWithin, List.contains_cons, beq_self_eq_true, Bool.true_or, Bool.and_true, Bool.true_and, Bool.and_self, Bool.not_true, Bool.not_false, List.elem_cons, List.contains_eq_mem, List.mem_cons, true_or, or_true, decide_true, Bool.false_eq_true, if_false, exists_eq_left', Option.some.injEq, e1, ix_wf e2 (show y < F by have := mx.1; omega)]
      · rintro Γ ⟨d9, rfl⟩
        walk_at "cr.ev"
        exact ⟨_, _, rfl⟩
    · rintro Γ ⟨d6, d9, rfl⟩
      exact ⟨_, _, rfl⟩
  · rintro b ⟨d6, d9, rfl⟩
    simp -implicitDefEqProofs only [env0, e_var, e_non, e_bl, e_int, e_str, e_glob, e_bin, e_not, e_cmp, e_and, e_or, e_ife, e_tup, e_lst, e_ix, e_slc, e_call, e_blt, e_lc, e_ssc, e_rvs, v_nil, v_cons, a_nil, a_cons, bs_nil, bs_cons, asO_int, o_none, o_some, t_e, t_cmp, t_and, t_or, t_not, t_inr, inr_int, to_none, to_some, asSeq_tup, asSeq_lst, asSeq_fls, i_seq, i_rev, i_rng, i_rng2, s_nil, s_cons, seq_nx, seq_rt, seq_bk, seq_ct, x_set, x_own, x_ret, x_retn, x_retv, x_ifs, x_fors, x_whl, x_app, x_frz, x_aug, x_pass, x_brk, x_cont, x_seti, ifs_true, ifs_false, ife_true, ife_false, and_t, and_f, or_t, or_f, andt_t, andt_f, ort_t, ort_f, ForP, RtP, borOr, argOr, isBor, lookV, look, put, asg, asgs, pb, pbO, up_some, up_none, ok_bind, okp_ok, okp_bind, okp_bad, List.getElem?_cons_zero, List.getElem?_cons_succ, List.set_cons_zero, List.set_cons_succ, List.length_cons, List.length_nil, List.map_cons, List.map_nil, List.cons_append, List.nil_append, List.length_map, List.replicate_succ, List.replicate_zero, wipeE, List.length_replicate, bd_int, bd_abs, bd_len, bd_list, bd_tuple, bd_sorted, bd_sortedSet, bd_any, bd_all, bd_sum, bd_isi, bd_listRange, bd_min, bd_max, f_int, f_abs, f_lenT, f_lenL, f_lenF, f_all, f_any, tr_bl, tr_lst, tr_tup, own_lst, Nat.reduceSub, Nat.reduceAdd, Nat.reduceLT, Nat.reduceLeDiff, Nat.zero_lt_succ, ↓reduceIte, b_add, b_sub, k_lt, k_le, k_gt, k_ge, k_eq, k_ne, k_eqB, k_neB, Gx.within, gWithin, List.contains_cons, beq_self_eq_true, Bool.true_or, Bool.and_true, Bool.true_and, Bool.and_self, Bool.not_true, Bool.not_false, List.elem_cons, List.contains_eq_mem, List.mem_cons, true_or, or_true, decide_true, Bool.false_eq_true, if_false, exists_eq_left', Option.some.injEq, len_seq C.seq]
    rw [asRng_nat _ (by omega)]
    walk_at "cr.ev"
    rw [lcp (f := fun i : Nat => D.int i) (p := hAt c xs) (h := fun i => .int i)]
    · walk_at "cr.ev"
      rw [if_sz (by have : ((List.range c.length).filter (hAt c xs)).length ≤ (List.range c.length).length := List.length_filter_le _ _; rw [List.length_range] at this; walk_at "cr.om")]
      walk_at "cr.ev"
      rw [in_lc (by simp [wipeE]) (by decide) rfl]
      walk_at "cr.ev"
      rw [if_sz (by have := O.few; have : (inP win yes).length ≤ win.length := List.length_filter_le _ _; walk_at "cr.om")]
      walk_at "cr.ev"
      refine p_ifs _ _ (fun h1 => ?_) fun h1 => ?_
      · have h1 : (inP win yes).length = win.length := by have := of_decide_eq_true h1; omega
        walk_at "cr.ev"
        have : ((List.range c.length).filter (hAt c xs)) = [] := by
          rw [List.filter_eq_nil_iff]
          intro i hi
          have hi := List.mem_range.mp hi
          have hix : i < xs.length := by omega
          unfold hAt
          rw [List.getD_eq_getElem?_getD, List.getD_eq_getElem?_getD, List.getElem?_eq_getElem hi, List.getElem?_eq_getElem hix]
          have := V.isIn h1 i c[i] xs[i] (List.getElem?_eq_getElem hi) (List.getElem?_eq_getElem hix)
          simp [this]
        rw [this]
        rfl
      · have h1 : (inP win yes).length ≠ win.length := by have := of_decide_eq_false h1; omega
        obtain ⟨h2, i, t, x, h3, h4, h5⟩ := V.isOut h1
        have hi := (List.getElem?_eq_some_iff.mp h3).1
        have : i ∈ ((List.range c.length).filter (hAt c xs)) := by
          rw [List.mem_filter]
          refine ⟨List.mem_range.mpr hi, ?_⟩
          unfold hAt
          rw [List.getD_eq_getElem?_getD, List.getD_eq_getElem?_getD, h3, h4]
          exact h5
        have pos := List.length_pos_of_mem this
        rw [h2]
        walk_at "cr.ev"
        have d1 : decide (((0 : Nat) : Int) = 0) = true := rfl
        simp -implicitDefEqProofs only [env0, e_var, e_non, e_bl, e_int, e_str, e_glob, e_bin, e_not, e_cmp, e_and, e_or, e_ife, e_tup, e_lst, e_ix, e_slc, e_call, e_blt, e_lc, e_ssc, e_rvs, v_nil, v_cons, a_nil, a_cons, bs_nil, bs_cons, asO_int, o_none, o_some, t_e, t_cmp, t_and, t_or, t_not, t_inr, inr_int, to_none, to_some, asSeq_tup, asSeq_lst, asSeq_fls, i_seq, i_rev, i_rng, i_rng2, s_nil, s_cons, seq_nx, seq_rt, seq_bk, seq_ct, x_set, x_own, x_ret, x_retn, x_retv, x_ifs, x_fors, x_whl, x_app, x_frz, x_aug, x_pass, x_brk, x_cont, x_seti, ifs_true, ifs_false, ife_true, ife_false, and_t, and_f, or_t, or_f, andt_t, andt_f, ort_t, ort_f, ForP, RtP, borOr, argOr, isBor, lookV, look, put, asg, asgs, pb, pbO, up_some, up_none, ok_bind, okp_ok, okp_bind, okp_bad, List.getElem?_cons_zero, List.getElem?_cons_succ, List.set_cons_zero, List.set_cons_succ, List.length_cons, List.length_nil, List.map_cons, List.map_nil, List.cons_append, List.nil_append, List.length_map, List.replicate_succ, List.replicate_zero, wipeE, List.length_replicate, bd_int, bd_abs, bd_len, bd_list, bd_tuple, bd_sorted, bd_sortedSet, bd_any, bd_all, bd_sum, bd_isi, bd_listRange, bd_min, bd_max, f_int, f_abs, f_lenT, f_lenL, f_lenF, f_all, f_any, tr_bl, tr_lst, tr_tup, own_lst, Nat.reduceSub, Nat.reduceAdd, Nat.reduceLT, Nat.reduceLeDiff, Nat.zero_lt_succ, ↓reduceIte, b_add, b_sub, k_lt, k_le, k_gt, k_ge, k_eq, k_ne, k_eqB, k_neB, Gx.within, gWithin, List.contains_cons, beq_self_eq_true, Bool.true_or, Bool.and_true, Bool.true_and, Bool.and_self, Bool.not_true, Bool.not_false, List.elem_cons, List.contains_eq_mem, List.mem_cons, true_or, or_true, decide_true, Bool.false_eq_true, if_false, exists_eq_left', Option.some.injEq, d1, eq_self]
        rw [decide_eq_true (by omega)]
    · intro i hi
      have hi := List.mem_range.mp hi
      have hix : i < xs.length := by omega
      have ec : c[i]? = some c[i] := List.getElem?_eq_getElem hi
      have ex : xs[i]? = some xs[i] := List.getElem?_eq_getElem hix
      have i1 : ixD cD false (.int i) = some (eT c[i], false) := ix_map i C.seq ec (.inl rfl)
      have i2 : ixD (.tup (xs.map eI)) false (.int i) = some (eI xs[i], false) := ix_map (g := eI) i rfl ex (.inl rfl)
      have l1 := C.len _ (List.mem_of_getElem? ec)
      have l2 := (V.mix _ (List.mem_of_getElem? ex)).1
      simp -implicitDefEqProofs only [env0, e_var, e_non, e_bl, e_int, e_str, e_glob, e_bin, e_not, e_cmp, e_and, e_or, e_ife, e_tup, e_lst, e_ix, e_slc, e_call, e_blt, e_lc, e_ssc, e_rvs, v_nil, v_cons, a_nil, a_cons, bs_nil, bs_cons, asO_int, o_none, o_some, t_e, t_cmp, t_and, t_or, t_not, t_inr, inr_int, to_none, to_some, asSeq_tup, asSeq_lst, asSeq_fls, i_seq, i_rev, i_rng, i_rng2, s_nil, s_cons, seq_nx, seq_rt, seq_bk, seq_ct, x_set, x_own, x_ret, x_retn, x_retv, x_ifs, x_fors, x_whl, x_app, x_frz, x_aug, x_pass, x_brk, x_cont, x_seti, ifs_true, ifs_false, ife_true, ife_false, and_t, and_f, or_t, or_f, andt_t, andt_f, ort_t, ort_f, ForP, RtP, borOr, argOr, isBor, lookV, look, put, asg, asgs, pb, pbO, up_some, up_none, ok_bind, okp_ok, okp_bind, okp_bad, List.getElem?_cons_zero, List.getElem?_cons_succ, List.set_cons_zero, List.set_cons_succ, List.length_cons, List.length_nil, List.map_cons, List.map_nil, List.cons_append, List.nil_append, List.length_map, List.replicate_succ, List.replicate_zero, wipeE, List.length_replicate, bd_int, bd_abs, bd_len, bd_list, bd_tuple, bd_sorted, bd_sortedSet, bd_any, bd_all, bd_sum, bd_isi, bd_listRange, bd_min, bd_max, f_int, f_abs, f_lenT, f_lenL, f_lenF, f_all, f_any, tr_bl, tr_lst, tr_tup, own_lst, Nat.reduceSub, Nat.reduceAdd, Nat.reduceLT, Nat.reduceLeDiff, Nat.zero_lt_succ, ↓reduceIte, b_add, b_sub, k_lt, k_le, k_gt, k_ge, k_eq, k_ne, k_eqB, k_neB, Gx.within, gWithin, List.contains_cons, beq_self_eq_true, Bool.true_or, Bool.and_true, Bool.true_and, Bool.and_self, Bool.not_true, Bool.not_false, List.elem_cons, List.contains_eq_mem, List.mem_cons, true_or, or_true, decide_true, Bool.false_eq_true, if_false, exists_eq_left', Option.some.injEq, i1, T1, i2, callOr_val (as := [(eT c[i], false), (eI xs[i], false)]) (c_lholds n c[i] xs[i] (by omega) (by omega)) rfl]
      unfold hAt
      rw [List.getD_eq_getElem?_getD, List.getD_eq_getElem?_getD, ec, ex]
      simp
end K50
end

section
set_option maxHeartbeats 4000000
namespace K50
open PySem PySem.Spec PyProof.Rows L2 Cr

theorem pure_ints : ∀ l : List Int, pureDs (l.map D.int) = true
  | [] => rfl
  | x :: l => by
    rw [List.map_cons]
    unfold pureDs
    rw [pure_ints l]; rfl
theorem pure_eIs : ∀ l : List (List Int), pureDs (l.map eI) = true
  | [] => rfl
  | x :: l => by
    rw [List.map_cons]
    unfold pureDs
    rw [pure_eIs l, Bool.and_true]
    unfold pureD
    exact pure_ints x
theorem pure_eU (r : Option (Nat × List (List Int))) : pureD (eU r) = true := by
  rcases r with _ | ⟨k, xs⟩
  · rfl
  · show (true && (pureDs (xs.map eI) && true)) = true
    rw [pure_eIs]; rfl
theorem nl_eT (l : List (List (Option Int))) (f : Bool) : eok f (l.map eT) = true := nl_ok (fun x hx => by obtain ⟨i, _, rfl⟩ := List.mem_map.mp hx; rfl) f
theorem nl_eI (l : List (List Int)) (f : Bool) : eok f (l.map eI) = true := nl_ok (fun x hx => by obtain ⟨i, _, rfl⟩ := List.mem_map.mp hx; rfl) f
def wrongs (words windows : List (List Int)) (yes : List Int) (F : Nat) (c : List (List (Option Int))) : List (List Int) := windows.filter fun win => wrongB words win yes F c
theorem un_none {words windows : List (List Int)} {yes : List Int} {F : Nat} {c : List (List (Option Int))} {r : Option (Nat × List (List Int))} (hl : ∀ t ∈ c, t.length = F) (h : UnS words windows yes F c r) : decide (((wrongs words windows yes F c).length : Int) = 0) = decide (r = none) := by
  rcases r with _ | ⟨k, xs⟩
  · have : wrongs words windows yes F c = [] := by
      unfold wrongs
      rw [List.filter_eq_nil_iff]
      intro win hw
      rw [right_not hl (h win hw)]
      exact Bool.false_ne_true
    rw [this]; rfl
  · obtain ⟨win, hw, hv⟩ := h
    have : win ∈ wrongs words windows yes F c := List.mem_filter.mpr ⟨List.mem_of_getElem? hw, view_wrong hv⟩
    have pos := List.length_pos_of_mem this
    rw [decide_eq_false (by omega), decide_eq_false (by simp)]
theorem rep_non (F : Nat) : (List.replicate F [D.non]).flatten = (List.replicate F (none : Option Int)).map eO := by
  rw [rep_flat, List.map_replicate]; rfl
theorem lc_wrongs {n : Nat} {Γ : En} {words windows : List (List Int)} {yes : List Int} {F : Nat} {c : List (List (Option Int))} {cD : D} {j : Nat} (W : OkW words F) (C : OkC c cD F) (Ws : OkWs words windows (.lst (windows.map eI))) (M : ∀ win ∈ windows, OkM words win F)
    (hl : 10 < (wipeE Γ [10]).length) (hj : j ≠ 10) (g0 : lookV (wipeE Γ [10]) j = .ok (cD, false)) (g1 : lookV (wipeE Γ [10]) 1 = .ok (eW words, false)) (g3 : lookV (wipeE Γ [10]) 3 = .ok (eI yes, false)) :
    LC (callN tbl (n + 2)) Γ [10] (.nm 10) (some (.e (.call "_law_goes_wrong" [.var j, .var 1, .var 10, .var 3]))) (.var 10) (windows.map eI) = .ok ((wrongs words windows yes F c).map eI) := by
  unfold wrongs
  refine lcp (f := eI) (p := fun win => wrongB words win yes F c) (h := eI) fun win hw => ?_
  have e10 : lookV ((wipeE Γ [10]).set 10 (some (eI win, false))) 10 = .ok (eI win, false) := by
    unfold lookV
    rw [List.getElem?_set_self hl]
  have eo : ∀ {k : Nat} {d : D}, k ≠ 10 → lookV (wipeE Γ [10]) k = .ok (d, false) → lookV ((wipeE Γ [10]).set 10 (some (eI win, false))) k = .ok (d, false) := fun {k d} hk h => by
    unfold lookV at h ⊢
    rw [List.getElem?_set_ne (Ne.symm hk)]
    exact h
  refine ⟨_, by unfold asg put; rw [if_pos hl], ?_, fun _ => ?_⟩
  · rw [to_some, t_e]
    unfold borOr
    rw [show isBor (.call "_law_goes_wrong" [.var j, .var 1, .var 10, .var 3]) = none from rfl]
    show OkP (evE _ _ _ >>= _) _
    rw [e_call, a_cons, a_cons, a_cons, a_cons, a_nil, e_var, e_var, e_var, e_var, eo hj g0, eo (by decide) g1, e10, eo (by decide) g3]
    simp -implicitDefEqProofs only [env0, e_var, e_non, e_bl, e_int, e_str, e_glob, e_bin, e_not, e_cmp, e_and, e_or, e_ife, e_tup, e_lst, e_ix, e_slc, e_call, e_blt, e_lc, e_ssc, e_rvs, v_nil, v_cons, a_nil, a_cons, bs_nil, bs_cons, asO_int, o_none, o_some, t_e, t_cmp, t_and, t_or, t_not, t_inr, inr_int, to_none, to_some, asSeq_tup, asSeq_lst, asSeq_fls, i_seq, i_rev, i_rng, i_rng2, s_nil, s_cons, seq_nx, seq_rt, seq_bk, seq_ct, x_set, x_own, x_ret, x_retn, x_retv, x_ifs, x_fors, x_whl, x_app, x_frz, x_aug, x_pass, x_brk, x_cont, x_seti, ifs_true, ifs_false, ife_true, ife_false, and_t, and_f, or_t, or_f, andt_t, andt_f, ort_t, ort_f, ForP, RtP, borOr, argOr, isBor, lookV, look, put, asg, asgs, pb, pbO, up_some, up_none, ok_bind, okp_ok, okp_bind, okp_bad, List.getElem?_cons_zero, List.getElem?_cons_succ, List.set_cons_zero, List.set_cons_succ, List.length_cons, List.length_nil, List.map_cons, List.map_nil, List.cons_append, List.nil_append, List.length_map, List.replicate_succ, List.replicate_zero, wipeE, List.length_replicate, bd_int, bd_abs, bd_len, bd_list, bd_tuple, bd_sorted, bd_sortedSet, bd_any, bd_all, bd_sum, bd_isi, bd_listRange, bd_min, bd_max, f_int, f_abs, f_lenT, f_lenL, f_lenF, f_all, f_any, tr_bl, tr_lst, tr_tup, own_lst, Nat.reduceSub, Nat.reduceAdd, Nat.reduceLT, Nat.reduceLeDiff, Nat.zero_lt_succ, ↓reduceIte, b_add, b_sub, k_lt, k_le, k_gt, k_ge, k_eq, k_ne, k_eqB, k_neB, Gx.within, gWithin, List.contains_cons, beq_self_eq_true, Bool.true_or, Bool.and_true, Bool.true_and, Bool.and_self, Bool.not_true, Bool.not_false, List.elem_cons, List.contains_eq_mem, List.mem_cons, true_or, or_true, decide_true, Bool.false_eq_true, if_false, exists_eq_left', Option.some.injEq, callOr_val (as := [(cD, false), (eW words, false), (eI win, false), (eI yes, false)]) (c_goes_wrong n W (Ws.win win hw) (M win hw) C) rfl]
  · rw [e_var, e10, okp_ok]
theorem c_asks (n : Nat) {words windows : List (List Int)} {yes : List Int} {F : Nat} {c : List (List (Option Int))} (W : OkW words F) (C : OkC c (.lst (c.map eT)) F) (hc : c.length ≤ 999) (Ws : OkWs words windows (.lst (windows.map eI))) (M : ∀ win ∈ windows, OkM words win F) :
    callN tbl (n + 6) "_law_asks" [.lst (c.map eT), eW words, .lst (windows.map eI), eI yes] = .ok (.bl true, false) := by
  refine call_eq fd__law_asks rfl rfl (by decide) ?_
  unfold fd__law_asks
  have F1 := W.F100
  have W1 := Ws.few
  have C1 := C.few
  have wl : ∀ c, (wrongs words windows yes F c).length ≤ 1000 := fun c => Nat.le_trans (List.length_filter_le _ _) W1
  obtain ⟨w0, e0, l0⟩ := len0 W
  have ixW0 : ixD (eW words) false (.int 0) = some (eI w0, false) := ix_mapI (l := words) (g := eI) (k := 0) (by decide) rfl e0 (.inl rfl)
  walk_at "cr.ev"
  rw [lc_wrongs (n := n + 3) W C Ws M (by simp [wipeE]) (by decide) rfl rfl rfl]
  walk_at "cr.ev"
  rw [if_sz (by have := wl c; walk_at "cr.om")]
  simp -implicitDefEqProofs only [env0, e_var, e_non, e_bl, e_int, e_str, e_glob, e_bin, e_not, e_cmp, e_and, e_or, e_ife, e_tup, e_lst, e_ix, e_slc, e_call, e_blt, e_lc, e_ssc, e_rvs, v_nil, v_cons, a_nil, a_cons, bs_nil, bs_cons, asO_int, o_none, o_some, t_e, t_cmp, t_and, t_or, t_not, t_inr, inr_int, to_none, to_some, asSeq_tup, asSeq_lst, asSeq_fls, i_seq, i_rev, i_rng, i_rng2, s_nil, s_cons, seq_nx, seq_rt, seq_bk, seq_ct, x_set, x_own, x_ret, x_retn, x_retv, x_ifs, x_fors, x_whl, x_app, x_frz, x_aug, x_pass, x_brk, x_cont, x_seti, ifs_true, ifs_false, ife_true, ife_false, and_t, and_f, or_t, or_f, andt_t, andt_f, ort_t, ort_f, ForP, RtP, borOr, argOr, isBor, lookV, look, put, asg, asgs, pb, pbO, up_some, up_none, ok_bind, okp_ok, okp_bind, okp_bad, List.getElem?_cons_zero, List.getElem?_cons_succ, List.set_cons_zero, List.set_cons_succ, List.length_cons, List.length_nil, List.map_cons, List.map_nil, List.cons_append, List.nil_append, List.length_map, List.replicate_succ, List.replicate_zero, wipeE, List.length_replicate, bd_int, bd_abs, bd_len, bd_list, bd_tuple, bd_sorted, bd_sortedSet, bd_any, bd_all, bd_sum, bd_isi, bd_listRange, bd_min, bd_max, f_int, f_abs, f_lenT, f_lenL, f_lenF, f_all, f_any, tr_bl, tr_lst, tr_tup, own_lst, Nat.reduceSub, Nat.reduceAdd, Nat.reduceLT, Nat.reduceLeDiff, Nat.zero_lt_succ, ↓reduceIte, b_add, b_sub, k_lt, k_le, k_gt, k_ge, k_eq, k_ne, k_eqB, k_neB, Gx.within, gWithin, List.contains_cons, beq_self_eq_true, Bool.true_or, Bool.and_true, Bool.true_and, Bool.and_self, Bool.not_true, Bool.not_false, List.elem_cons, List.contains_eq_mem, List.mem_cons, true_or, or_true, decide_true, Bool.false_eq_true, if_false, exists_eq_left', Option.some.injEq, f_list (x := .lst (c.map eT)) (f := false) rfl rfl, f_list (x := .lst (windows.map eI)) (f := false) rfl rfl]
  obtain ⟨r, q1, q2⟩ := c_unsteady (n + 1) W C Ws (yes := yes)
  have un := un_none C.len q2
  have s1 : SameOk (n + 5) (.lst (c.map eT)) := same_seq (n + 4) (.inr rfl) (by walk_at "cr.om") fun x hx => by
    obtain ⟨t, ht, rfl⟩ := List.mem_map.mp hx
    exact same_eT (n + 2) (by have := C.len t ht; omega)
  have s2 : SameOk (n + 5) (.lst (windows.map eI)) := same_seq (n + 4) (.inr rfl) (by walk_at "cr.om") fun x hx => by
    obtain ⟨t, ht, rfl⟩ := List.mem_map.mp hx
    exact same_eI (n + 2) (by have := (Ws.win t ht).few; omega)
  simp -implicitDefEqProofs only [env0, e_var, e_non, e_bl, e_int, e_str, e_glob, e_bin, e_not, e_cmp, e_and, e_or, e_ife, e_tup, e_lst, e_ix, e_slc, e_call, e_blt, e_lc, e_ssc, e_rvs, v_nil, v_cons, a_nil, a_cons, bs_nil, bs_cons, asO_int, o_none, o_some, t_e, t_cmp, t_and, t_or, t_not, t_inr, inr_int, to_none, to_some, asSeq_tup, asSeq_lst, asSeq_fls, i_seq, i_rev, i_rng, i_rng2, s_nil, s_cons, seq_nx, seq_rt, seq_bk, seq_ct, x_set, x_own, x_ret, x_retn, x_retv, x_ifs, x_fors, x_whl, x_app, x_frz, x_aug, x_pass, x_brk, x_cont, x_seti, ifs_true, ifs_false, ife_true, ife_false, and_t, and_f, or_t, or_f, andt_t, andt_f, ort_t, ort_f, ForP, RtP, borOr, argOr, isBor, lookV, look, put, asg, asgs, pb, pbO, up_some, up_none, ok_bind, okp_ok, okp_bind, okp_bad, List.getElem?_cons_zero, List.getElem?_cons_succ, List.set_cons_zero, List.set_cons_succ, List.length_cons, List.length_nil, List.map_cons, List.map_nil, List.cons_append, List.nil_append, List.length_map, List.replicate_succ, List.replicate_zero, wipeE, List.length_replicate, bd_int, bd_abs, bd_len, bd_list, bd_tuple, bd_sorted, bd_sortedSet, bd_any, bd_all, bd_sum, bd_isi, bd_listRange, bd_min, bd_max, f_int, f_abs, f_lenT, f_lenL, f_lenF, f_all, f_any, tr_bl, tr_lst, tr_tup, own_lst, Nat.reduceSub, Nat.reduceAdd, Nat.reduceLT, Nat.reduceLeDiff, Nat.zero_lt_succ, ↓reduceIte, b_add, b_sub, k_lt, k_le, k_gt, k_ge, k_eq, k_ne, k_eqB, k_neB, Gx.within, gWithin, List.contains_cons, beq_self_eq_true, Bool.true_or, Bool.and_true, Bool.true_and, Bool.and_self, Bool.not_true, Bool.not_false, List.elem_cons, List.contains_eq_mem, List.mem_cons, true_or, or_true, decide_true, Bool.false_eq_true, if_false, exists_eq_left', Option.some.injEq, callOr_pure (as := [(.lst (c.map eT), true), (eW words, false), (.lst (windows.map eI), false), (eI yes, false)]) q1 (pure_eU r), callOr_pure (as := [(.lst (c.map eT), true), (.lst (c.map eT), false)]) s1 rfl, callOr_val (as := [(.lst (windows.map eI), false), (.lst (windows.map eI), false)]) s2 rfl, eU_is, un, eq_self, eU_isNot]
  have steady : ∀ (r : Option (Nat × List (List Int))) (as : List (D × Bool)) (cD wD : D), callN tbl (n + 4) "unsteady_course" [cD, eW words, wD, eI yes] = .ok (eU r, false) → callOr as (callN tbl (n + 5) "is_steady" [cD, eW words, wD, eI yes]) = .ok (.bl (decide (r = none)), false) := fun r as cD wD h => callOr_pure (c_steady (n + 4) h) rfl
  have sB : ∀ b, callOr [(.bl b, false), (.bl b, false)] (callN tbl (n + 5) "_law_same" [.bl b, .bl b]) = .ok (.bl true, false) := fun b => callOr_val (same_bl (n + 4) b) rfl
  -- is_steady of the same
  obtain ⟨r2, p1, p2⟩ := c_unsteady n W C Ws (yes := yes)
  have un2 := un_none C.len p2
  -- behind the wider circuit
  have C' : OkC (c ++ [List.replicate F none]) (.lst (c.map eT ++ [eT (List.replicate F none)])) F := ⟨by simp [D.seq], by simp; omega, fun t ht => by
    rcases List.mem_append.mp ht with h | h
    · exact C.len t h
    · rw [List.mem_singleton.mp h, List.length_replicate]⟩
  have Wt : OkWs words windows (.tup (windows.map eI)) := ⟨rfl, Ws.few, Ws.win⟩
  have Ct : OkC c (.tup (c.map eT)) F := ⟨rfl, C.few, C.len⟩
  obtain ⟨r3, u1, u2⟩ := c_unsteady n W C' Wt (yes := yes)
  have un3 := un_none C'.len u2
  obtain ⟨r4, v1, v2⟩ := c_unsteady n W Ct Wt (yes := yes)
  have un4 := un_none Ct.len v2
  have rest : OkP (SEQ (callN tbl (n + 5)) [
      .ifs (.not (.e (.call "_law_same" [.call "is_steady" [.bor 5, .var 1, .var 6, .var 3], .cmp .Eq (.blt .len [.var 4]) (.int 0)]))) [.ret (.bl false)] [],
      .app 5 (.bin .Mult (.tup [.non]) (.blt .len [.ix (.var 1) (.int 0)])),
      .set (.nm 8) (.bin .Add (.blt .list [.var 0]) (.lst [.bin .Mult (.tup [.non]) (.blt .len [.ix (.var 1) (.int 0)])])),
      .set (.nm 9) (.lc [10] (.nm 10) (.seq (.var 2)) (some (.e (.call "_law_goes_wrong" [.var 8, .var 1, .var 10, .var 3]))) (.var 10)),
      .ifs (.not (.e (.call "_law_same" [.call "is_steady" [.bor 5, .var 1, .blt .tuple [.var 2], .var 3], .cmp .Eq (.blt .len [.var 9]) (.int 0)]))) [.ret (.bl false)] [],
      .ret (.call "_law_same" [.call "is_steady" [.blt .tuple [.var 0], .var 1, .blt .tuple [.var 2], .var 3], .cmp .Eq (.blt .len [.var 4]) (.int 0)])]
      (.nx, [some (.lst (c.map eT), false), some (eW words, false), some (.lst (windows.map eI), false), some (eI yes, false), some (.lst ((wrongs words windows yes F c).map eI), false), some (.lst (c.map eT), true), some (.lst (windows.map eI), false), some (eU r, false), none, none, none])) (RtP fun p => p = (D.bl true, false)) := by
    simp -implicitDefEqProofs only [env0, e_var, e_non, e_bl, e_int, e_str, e_glob, e_bin, e_not, e_cmp, e_and, e_or, e_ife, e_tup, e_lst, e_ix, e_slc, e_call, e_blt, e_lc, e_ssc, e_rvs, v_nil, v_cons, a_nil, a_cons, bs_nil, bs_cons, asO_int, o_none, o_some, t_e, t_cmp, t_and, t_or, t_not, t_inr, inr_int, to_none, to_some, asSeq_tup, asSeq_lst, asSeq_fls, i_seq, i_rev, i_rng, i_rng2, s_nil, s_cons, seq_nx, seq_rt, seq_bk, seq_ct, x_set, x_own, x_ret, x_retn, x_retv, x_ifs, x_fors, x_whl, x_app, x_frz, x_aug, x_pass, x_brk, x_cont, x_seti, ifs_true, ifs_false, ife_true, ife_false, and_t, and_f, or_t, or_f, andt_t, andt_f, ort_t, ort_f, ForP, RtP, borOr, argOr, isBor, lookV, look, put, asg, asgs, pb, pbO, up_some, up_none, ok_bind, okp_ok, okp_bind, okp_bad, List.getElem?_cons_zero, List.getElem?_cons_succ, List.set_cons_zero, List.set_cons_succ, List.length_cons, List.length_nil, List.map_cons, List.map_nil, List.cons_append, List.nil_append, List.length_map, List.replicate_succ, List.replicate_zero, wipeE, List.length_replicate, bd_int, bd_abs, bd_len, bd_list, bd_tuple, bd_sorted, bd_sortedSet, bd_any, bd_all, bd_sum, bd_isi, bd_listRange, bd_min, bd_max, f_int, f_abs, f_lenT, f_lenL, f_lenF, f_all, f_any, tr_bl, tr_lst, tr_tup, own_lst, Nat.reduceSub, Nat.reduceAdd, Nat.reduceLT, Nat.reduceLeDiff, Nat.zero_lt_succ, ↓reduceIte, b_add, b_sub, k_lt, k_le, k_gt, k_ge, k_eq, k_ne, k_eqB, k_neB, Gx.within, gWithin, List.contains_cons, beq_self_eq_true, Bool.true_or, Bool.and_true, Bool.true_and, Bool.and_self, Bool.not_true, Bool.not_false, List.elem_cons, List.contains_eq_mem, List.mem_cons, true_or, or_true, decide_true, Bool.false_eq_true, if_false, exists_eq_left', Option.some.injEq, steady r2 [(.lst (c.map eT), true), (eW words, false), (.lst (windows.map eI), false), (eI yes, false)] _ _ p1, un2, sB]
    rw [if_sz (by decide)]
    simp -implicitDefEqProofs only [env0, e_var, e_non, e_bl, e_int, e_str, e_glob, e_bin, e_not, e_cmp, e_and, e_or, e_ife, e_tup, e_lst, e_ix, e_slc, e_call, e_blt, e_lc, e_ssc, e_rvs, v_nil, v_cons, a_nil, a_cons, bs_nil, bs_cons, asO_int, o_none, o_some, t_e, t_cmp, t_and, t_or, t_not, t_inr, inr_int, to_none, to_some, asSeq_tup, asSeq_lst, asSeq_fls, i_seq, i_rev, i_rng, i_rng2, s_nil, s_cons, seq_nx, seq_rt, seq_bk, seq_ct, x_set, x_own, x_ret, x_retn, x_retv, x_ifs, x_fors, x_whl, x_app, x_frz, x_aug, x_pass, x_brk, x_cont, x_seti, ifs_true, ifs_false, ife_true, ife_false, and_t, and_f, or_t, or_f, andt_t, andt_f, ort_t, ort_f, ForP, RtP, borOr, argOr, isBor, lookV, look, put, asg, asgs, pb, pbO, up_some, up_none, ok_bind, okp_ok, okp_bind, okp_bad, List.getElem?_cons_zero, List.getElem?_cons_succ, List.set_cons_zero, List.set_cons_succ, List.length_cons, List.length_nil, List.map_cons, List.map_nil, List.cons_append, List.nil_append, List.length_map, List.replicate_succ, List.replicate_zero, wipeE, List.length_replicate, bd_int, bd_abs, bd_len, bd_list, bd_tuple, bd_sorted, bd_sortedSet, bd_any, bd_all, bd_sum, bd_isi, bd_listRange, bd_min, bd_max, f_int, f_abs, f_lenT, f_lenL, f_lenF, f_all, f_any, tr_bl, tr_lst, tr_tup, own_lst, Nat.reduceSub, Nat.reduceAdd, Nat.reduceLT, Nat.reduceLeDiff, Nat.zero_lt_succ, ↓reduceIte, b_add, b_sub, k_lt, k_le, k_gt, k_ge, k_eq, k_ne, k_eqB, k_neB, Gx.within, gWithin, List.contains_cons, beq_self_eq_true, Bool.true_or, Bool.and_true, Bool.true_and, Bool.and_self, Bool.not_true, Bool.not_false, List.elem_cons, List.contains_eq_mem, List.mem_cons, true_or, or_true, decide_true, Bool.false_eq_true, if_false, exists_eq_left', Option.some.injEq, ixW0]
    rw [l0, b_rep ⟨by omega, by omega, by decide⟩]
    walk_at "cr.ev"
    rw [if_app (by walk_at "cr.om")]
    walk_at "cr.ev"
    rw [Int.toNat_natCast, rep_non]
    simp -implicitDefEqProofs only [env0, e_var, e_non, e_bl, e_int, e_str, e_glob, e_bin, e_not, e_cmp, e_and, e_or, e_ife, e_tup, e_lst, e_ix, e_slc, e_call, e_blt, e_lc, e_ssc, e_rvs, v_nil, v_cons, a_nil, a_cons, bs_nil, bs_cons, asO_int, o_none, o_some, t_e, t_cmp, t_and, t_or, t_not, t_inr, inr_int, to_none, to_some, asSeq_tup, asSeq_lst, asSeq_fls, i_seq, i_rev, i_rng, i_rng2, s_nil, s_cons, seq_nx, seq_rt, seq_bk, seq_ct, x_set, x_own, x_ret, x_retn, x_retv, x_ifs, x_fors, x_whl, x_app, x_frz, x_aug, x_pass, x_brk, x_cont, x_seti, ifs_true, ifs_false, ife_true, ife_false, and_t, and_f, or_t, or_f, andt_t, andt_f, ort_t, ort_f, ForP, RtP, borOr, argOr, isBor, lookV, look, put, asg, asgs, pb, pbO, up_some, up_none, ok_bind, okp_ok, okp_bind, okp_bad, List.getElem?_cons_zero, List.getElem?_cons_succ, List.set_cons_zero, List.set_cons_succ, List.length_cons, List.length_nil, List.map_cons, List.map_nil, List.cons_append, List.nil_append, List.length_map, List.replicate_succ, List.replicate_zero, wipeE, List.length_replicate, bd_int, bd_abs, bd_len, bd_list, bd_tuple, bd_sorted, bd_sortedSet, bd_any, bd_all, bd_sum, bd_isi, bd_listRange, bd_min, bd_max, f_int, f_abs, f_lenT, f_lenL, f_lenF, f_all, f_any, tr_bl, tr_lst, tr_tup, own_lst, Nat.reduceSub, Nat.reduceAdd, Nat.reduceLT, Nat.reduceLeDiff, Nat.zero_lt_succ, ↓reduceIte, b_add, b_sub, k_lt, k_le, k_gt, k_ge, k_eq, k_ne, k_eqB, k_neB, Gx.within, gWithin, List.contains_cons, beq_self_eq_true, Bool.true_or, Bool.and_true, Bool.true_and, Bool.and_self, Bool.not_true, Bool.not_false, List.elem_cons, List.contains_eq_mem, List.mem_cons, true_or, or_true, decide_true, Bool.false_eq_true, if_false, exists_eq_left', Option.some.injEq, f_list (x := .lst (c.map eT)) (f := false) rfl rfl]
    rw [if_sz (by decide)]
    simp -implicitDefEqProofs only [env0, e_var, e_non, e_bl, e_int, e_str, e_glob, e_bin, e_not, e_cmp, e_and, e_or, e_ife, e_tup, e_lst, e_ix, e_slc, e_call, e_blt, e_lc, e_ssc, e_rvs, v_nil, v_cons, a_nil, a_cons, bs_nil, bs_cons, asO_int, o_none, o_some, t_e, t_cmp, t_and, t_or, t_not, t_inr, inr_int, to_none, to_some, asSeq_tup, asSeq_lst, asSeq_fls, i_seq, i_rev, i_rng, i_rng2, s_nil, s_cons, seq_nx, seq_rt, seq_bk, seq_ct, x_set, x_own, x_ret, x_retn, x_retv, x_ifs, x_fors, x_whl, x_app, x_frz, x_aug, x_pass, x_brk, x_cont, x_seti, ifs_true, ifs_false, ife_true, ife_false, and_t, and_f, or_t, or_f, andt_t, andt_f, ort_t, ort_f, ForP, RtP, borOr, argOr, isBor, lookV, look, put, asg, asgs, pb, pbO, up_some, up_none, ok_bind, okp_ok, okp_bind, okp_bad, List.getElem?_cons_zero, List.getElem?_cons_succ, List.set_cons_zero, List.set_cons_succ, List.length_cons, List.length_nil, List.map_cons, List.map_nil, List.cons_append, List.nil_append, List.length_map, List.replicate_succ, List.replicate_zero, wipeE, List.length_replicate, bd_int, bd_abs, bd_len, bd_list, bd_tuple, bd_sorted, bd_sortedSet, bd_any, bd_all, bd_sum, bd_isi, bd_listRange, bd_min, bd_max, f_int, f_abs, f_lenT, f_lenL, f_lenF, f_all, f_any, tr_bl, tr_lst, tr_tup, own_lst, Nat.reduceSub, Nat.reduceAdd, Nat.reduceLT, Nat.reduceLeDiff, Nat.zero_lt_succ, ↓reduceIte, b_add, b_sub, k_lt, k_le, k_gt, k_ge, k_eq, k_ne, k_eqB, k_neB, Gx.within, gWithin, List.contains_cons, beq_self_eq_true, Bool.true_or, Bool.and_true, Bool.true_and, Bool.and_self, Bool.not_true, Bool.not_false, List.elem_cons, List.contains_eq_mem, List.mem_cons, true_or, or_true, decide_true, Bool.false_eq_true, if_false, exists_eq_left', Option.some.injEq, ixW0]
    rw [l0, b_rep ⟨by omega, by omega, by decide⟩]
    walk_at "cr.ev"
    rw [Int.toNat_natCast, rep_non]
    rw [if_sz (by simp)]
    walk_at "cr.ev"
    rw [b_catL (by rw [sizeLine_eq]; walk_at "cr.om") (nl_eT _ _) (nl_ok (fun x hx => by rw [List.mem_singleton.mp hx]; rfl) _)]
    walk_at "cr.ev"
    rw [lc_wrongs (n := n + 3) W C' Ws M (by simp [wipeE]) (by decide) rfl rfl rfl]
    walk_at "cr.ev"
    rw [if_sz (by have := wl (c ++ [List.replicate F none]); walk_at "cr.om")]
    simp -implicitDefEqProofs only [env0, e_var, e_non, e_bl, e_int, e_str, e_glob, e_bin, e_not, e_cmp, e_and, e_or, e_ife, e_tup, e_lst, e_ix, e_slc, e_call, e_blt, e_lc, e_ssc, e_rvs, v_nil, v_cons, a_nil, a_cons, bs_nil, bs_cons, asO_int, o_none, o_some, t_e, t_cmp, t_and, t_or, t_not, t_inr, inr_int, to_none, to_some, asSeq_tup, asSeq_lst, asSeq_fls, i_seq, i_rev, i_rng, i_rng2, s_nil, s_cons, seq_nx, seq_rt, seq_bk, seq_ct, x_set, x_own, x_ret, x_retn, x_retv, x_ifs, x_fors, x_whl, x_app, x_frz, x_aug, x_pass, x_brk, x_cont, x_seti, ifs_true, ifs_false, ife_true, ife_false, and_t, and_f, or_t, or_f, andt_t, andt_f, ort_t, ort_f, ForP, RtP, borOr, argOr, isBor, lookV, look, put, asg, asgs, pb, pbO, up_some, up_none, ok_bind, okp_ok, okp_bind, okp_bad, List.getElem?_cons_zero, List.getElem?_cons_succ, List.set_cons_zero, List.set_cons_succ, List.length_cons, List.length_nil, List.map_cons, List.map_nil, List.cons_append, List.nil_append, List.length_map, List.replicate_succ, List.replicate_zero, wipeE, List.length_replicate, bd_int, bd_abs, bd_len, bd_list, bd_tuple, bd_sorted, bd_sortedSet, bd_any, bd_all, bd_sum, bd_isi, bd_listRange, bd_min, bd_max, f_int, f_abs, f_lenT, f_lenL, f_lenF, f_all, f_any, tr_bl, tr_lst, tr_tup, own_lst, Nat.reduceSub, Nat.reduceAdd, Nat.reduceLT, Nat.reduceLeDiff, Nat.zero_lt_succ, ↓reduceIte, b_add, b_sub, k_lt, k_le, k_gt, k_ge, k_eq, k_ne, k_eqB, k_neB, Gx.within, gWithin, List.contains_cons, beq_self_eq_true, Bool.true_or, Bool.and_true, Bool.true_and, Bool.and_self, Bool.not_true, Bool.not_false, List.elem_cons, List.contains_eq_mem, List.mem_cons, true_or, or_true, decide_true, Bool.false_eq_true, if_false, exists_eq_left', Option.some.injEq, f_tuple (x := .lst (windows.map eI)) (f := false) rfl rfl, steady r3 [(.lst (c.map eT ++ [eT (List.replicate F none)]), true), (eW words, false), (.tup (windows.map eI), false), (eI yes, false)] _ _ u1, un3, sB, f_tuple (x := .lst (c.map eT)) (f := false) rfl rfl, steady r4 [(.tup (c.map eT), false), (eW words, false), (.tup (windows.map eI), false), (eI yes, false)] _ _ v1, un4]
  refine OkP.mono (Q := fun b => b = false) ?_ ?_
  · refine p_andt _ _ (fun h1 => ?_) fun h1 => rfl
    rcases r with _ | ⟨k, xs⟩
    · simp at h1
    · obtain ⟨win, hw, V⟩ := q2
      simp -implicitDefEqProofs only [env0, e_var, e_non, e_bl, e_int, e_str, e_glob, e_bin, e_not, e_cmp, e_and, e_or, e_ife, e_tup, e_lst, e_ix, e_slc, e_call, e_blt, e_lc, e_ssc, e_rvs, v_nil, v_cons, a_nil, a_cons, bs_nil, bs_cons, asO_int, o_none, o_some, t_e, t_cmp, t_and, t_or, t_not, t_inr, inr_int, to_none, to_some, asSeq_tup, asSeq_lst, asSeq_fls, i_seq, i_rev, i_rng, i_rng2, s_nil, s_cons, seq_nx, seq_rt, seq_bk, seq_ct, x_set, x_own, x_ret, x_retn, x_retv, x_ifs, x_fors, x_whl, x_app, x_frz, x_aug, x_pass, x_brk, x_cont, x_seti, ifs_true, ifs_false, ife_true, ife_false, and_t, and_f, or_t, or_f, andt_t, andt_f, ort_t, ort_f, ForP, RtP, borOr, argOr, isBor, lookV, look, put, asg, asgs, pb, pbO, up_some, up_none, ok_bind, okp_ok, okp_bind, okp_bad, List.getElem?_cons_zero, List.getElem?_cons_succ, List.set_cons_zero, List.set_cons_succ, List.length_cons, List.length_nil, List.map_cons, List.map_nil, List.cons_append, List.nil_append, List.length_map, List.replicate_succ, List.replicate_zero, wipeE, List.length_replicate, bd_int, bd_abs, bd_len, bd_list, bd_tuple, bd_sorted, bd_sortedSet, bd_any, bd_all, bd_sum, bd_isi, bd_listRange, bd_min, bd_max, f_int, f_abs, f_lenT, f_lenL, f_lenF, f_all, f_any, tr_bl, tr_lst, tr_tup, own_lst, Nat.reduceSub, Nat.reduceAdd, Nat.reduceLT, Nat.reduceLeDiff, Nat.zero_lt_succ, ↓reduceIte, b_add, b_sub, k_lt, k_le, k_gt, k_ge, k_eq, k_ne, k_eqB, k_neB, Gx.within, gWithin, List.contains_cons, beq_self_eq_true, Bool.true_or, Bool.and_true, Bool.true_and, Bool.and_self, Bool.not_true, Bool.not_false, List.elem_cons, List.contains_eq_mem, List.mem_cons, true_or, or_true, decide_true, Bool.false_eq_true, if_false, exists_eq_left', Option.some.injEq, callOr_val (as := [(eU (some (k, xs)), false), (.lst (c.map eT), false), (eW words, false), (.lst (windows.map eI), false), (eI yes, false)]) (c_view (n + 3) W C Ws hw V) rfl]
  · rintro b rfl
    rw [ifs_false, s_nil, okp_ok]
    exact rest
end K50
end

section
set_option maxHeartbeats 4000000
namespace K50
open PySem PySem.Spec PyProof.Rows L2 Cr

theorem c_draws (n : Nat) (ns : List Int) (h : ns.length ≤ 63) : ∃ ds : List Int, callN tbl (n + 1) "_law_draws" [.fls (ns.map D.int), .int 70] = .ok (.lst (ds.map D.int), true) ∧ ds.length = 70 ∧ Below 1000 ds :=
  okp_ex (k := fun ds : List Int => (D.lst (ds.map D.int), true)) (okp_call fd__law_draws rfl rfl (by decide) (draws_ok (callN tbl n) ns h 70 (by decide)))
def p2 : List Int := [1, 2, 4, 8, 16, 32]
def p3 : List Int := [1, 3, 9, 27]
theorem p2_ok {k : Nat} (h : k < 6) : ∃ q, p2[k]? = some q ∧ 0 < q ∧ q < 1073741824 := by
  have : k = 0 ∨ k = 1 ∨ k = 2 ∨ k = 3 ∨ k = 4 ∨ k = 5 := by omega
  rcases this with rfl | rfl | rfl | rfl | rfl | rfl <;> exact ⟨_, rfl, by decide, by decide⟩
theorem p3_ok {k : Nat} (h : k < 4) : ∃ q, p3[k]? = some q ∧ 0 < q ∧ q < 1073741824 := by
  have : k = 0 ∨ k = 1 ∨ k = 2 ∨ k = 3 := by omega
  rcases this with rfl | rfl | rfl | rfl <;> exact ⟨_, rfl, by decide, by decide⟩
def bit (b : Int) (k : Nat) : Bool := decide (b / (p2.getD k 1) % 2 = 1)
abbrev t2 : Ex := .tup [.int 1, .int 2, .int 4, .int 8, .int 16, .int 32]
/-- the bits of a number below 64 choose states -/
theorem lc_bits {call : Str → List D → R} {Γ : En} {own : List Nat} {i : Nat} {b : Ex} {v : Int} {s : Nat} (hs : s ≤ 6) (h1 : i < (wipeE Γ own).length) (hb : ∀ d, evE call b ((wipeE Γ own).set i (some (d, false))) = .ok (.int v, false)) (hn : isBor b = none) :
    LC call Γ own (.nm i) (some (.cmp .Eq (.bin .Mod (.blt .int [.bin .FloorDiv b (.ix t2 (.var i))]) (.int 2)) (.int 1))) (.var i) ((List.range s).map fun k => D.int ((k : Nat) : Int)) = .ok (((List.range s).filter (bit v)).map fun k => D.int ((k : Nat) : Int)) := by
  refine lcp (f := fun k : Nat => D.int k) (p := bit v) (h := fun k => D.int k) fun k hk => ?_
  have hk := List.mem_range.mp hk
  obtain ⟨q, q1, q2, q3⟩ := p2_ok (k := k) (by omega)
  have e1 : lookV ((wipeE Γ own).set i (some (.int (k : Int), false))) i = .ok (.int k, false) := by
    unfold lookV
    rw [List.getElem?_set_self h1]
  refine ⟨(wipeE Γ own).set i (some (.int k, false)), by unfold asg put; rw [if_pos h1], ?_, fun _ => ?_⟩
  · have ix : ixD (.tup [.int 1, .int 2, .int 4, .int 8, .int 16, .int 32]) false (.int k) = some (.int q, false) := ix_map (l := p2) (g := D.int) k rfl q1 (.inl rfl)
    have e3 : evE call (.ix t2 (.var i)) ((wipeE Γ own).set i (some (.int (k : Int), false))) = .ok (.int q, false) := by
      refine okp_eq ?_
      rw [e_ix, e_var, e1]
      walk_at "cr.ev"
      rw [if_sz (by decide)]
      simp -implicitDefEqProofs only [env0, e_var, e_non, e_bl, e_int, e_str, e_glob, e_bin, e_not, e_cmp, e_and, e_or, e_ife, e_tup, e_lst, e_ix, e_slc, e_call, e_blt, e_lc, e_ssc, e_rvs, v_nil, v_cons, a_nil, a_cons, bs_nil, bs_cons, asO_int, o_none, o_some, t_e, t_cmp, t_and, t_or, t_not, t_inr, inr_int, to_none, to_some, asSeq_tup, asSeq_lst, asSeq_fls, i_seq, i_rev, i_rng, i_rng2, s_nil, s_cons, seq_nx, seq_rt, seq_bk, seq_ct, x_set, x_own, x_ret, x_retn, x_retv, x_ifs, x_fors, x_whl, x_app, x_frz, x_aug, x_pass, x_brk, x_cont, x_seti, ifs_true, ifs_false, ife_true, ife_false, and_t, and_f, or_t, or_f, andt_t, andt_f, ort_t, ort_f, ForP, RtP, borOr, argOr, isBor, lookV, look, put, asg, asgs, pb, pbO, up_some, up_none, ok_bind, okp_ok, okp_bind, okp_bad, List.getElem?_cons_zero, List.getElem?_cons_succ, List.set_cons_zero, List.set_cons_succ, List.length_cons, List.length_nil, List.map_cons, List.map_nil, List.cons_append, List.nil_append, List.length_map, List.replicate_succ, List.replicate_zero, wipeE, List.length_replicate, bd_int, bd_abs, bd_len, bd_list, bd_tuple, bd_sorted, bd_sortedSet, bd_any, bd_all, bd_sum, bd_isi, bd_listRange, bd_min, bd_max, f_int, f_abs, f_lenT, f_lenL, f_lenF, f_all, f_any, tr_bl, tr_lst, tr_tup, own_lst, Nat.reduceSub, Nat.reduceAdd, Nat.reduceLT, Nat.reduceLeDiff, Nat.zero_lt_succ, ↓reduceIte, b_add, b_sub, k_lt, k_le, k_gt, k_ge, k_eq, k_ne, k_eqB, k_neB, Gx.within, gWithin, List.contains_cons, beq_self_eq_true, Bool.true_or, Bool.and_true, Bool.true_and, Bool.and_self, Bool.not_true, Bool.not_false, List.elem_cons, List.contains_eq_mem, List.mem_cons, true_or, or_true, decide_true, Bool.false_eq_true, if_false, exists_eq_left', Option.some.injEq, ix]
    have e4 : evE call (.bin .FloorDiv b (.ix t2 (.var i))) ((wipeE Γ own).set i (some (.int (k : Int), false))) = .ok (.int (v / q), false) := by
      refine okp_eq ?_
      rw [e_bin, e3, hb]
      unfold borOr
      rw [hn]
      simp -implicitDefEqProofs only [env0, e_var, e_non, e_bl, e_int, e_str, e_glob, e_bin, e_not, e_cmp, e_and, e_or, e_ife, e_tup, e_lst, e_ix, e_slc, e_call, e_blt, e_lc, e_ssc, e_rvs, v_nil, v_cons, a_nil, a_cons, bs_nil, bs_cons, asO_int, o_none, o_some, t_e, t_cmp, t_and, t_or, t_not, t_inr, inr_int, to_none, to_some, asSeq_tup, asSeq_lst, asSeq_fls, i_seq, i_rev, i_rng, i_rng2, s_nil, s_cons, seq_nx, seq_rt, seq_bk, seq_ct, x_set, x_own, x_ret, x_retn, x_retv, x_ifs, x_fors, x_whl, x_app, x_frz, x_aug, x_pass, x_brk, x_cont, x_seti, ifs_true, ifs_false, ife_true, ife_false, and_t, and_f, or_t, or_f, andt_t, andt_f, ort_t, ort_f, ForP, RtP, borOr, argOr, isBor, lookV, look, put, asg, asgs, pb, pbO, up_some, up_none, ok_bind, okp_ok, okp_bind, okp_bad, List.getElem?_cons_zero, List.getElem?_cons_succ, List.set_cons_zero, List.set_cons_succ, List.length_cons, List.length_nil, List.map_cons, List.map_nil, List.cons_append, List.nil_append, List.length_map, List.replicate_succ, List.replicate_zero, wipeE, List.length_replicate, bd_int, bd_abs, bd_len, bd_list, bd_tuple, bd_sorted, bd_sortedSet, bd_any, bd_all, bd_sum, bd_isi, bd_listRange, bd_min, bd_max, f_int, f_abs, f_lenT, f_lenL, f_lenF, f_all, f_any, tr_bl, tr_lst, tr_tup, own_lst, Nat.reduceSub, Nat.reduceAdd, Nat.reduceLT, Nat.reduceLeDiff, Nat.zero_lt_succ, ↓reduceIte, b_add, b_sub, k_lt, k_le, k_gt, k_ge, k_eq, k_ne, k_eqB, k_neB, Gx.within, gWithin, List.contains_cons, beq_self_eq_true, Bool.true_or, Bool.and_true, Bool.true_and, Bool.and_self, Bool.not_true, Bool.not_false, List.elem_cons, List.contains_eq_mem, List.mem_cons, true_or, or_true, decide_true, Bool.false_eq_true, if_false, exists_eq_left', Option.some.injEq, b_div ⟨q2, q3⟩]
    rw [to_some, t_cmp, e_bin, e_blt, bs_cons, bs_nil, e4]
    walk_at "cr.ev"
    rw [b_mod (by decide)]
    walk_at "cr.ev"
    unfold bit
    rw [List.getD_eq_getElem?_getD, q1]
    rfl
  · rw [e_var, e1, okp_ok]
def bitsOf (v : Int) (s : Nat) : List Int := ((List.range s).filter (bit v)).map fun k => ((k : Nat) : Int)
theorem bitsOf_ok {v : Int} {s : Nat} : (bitsOf v s).length ≤ s ∧ ∀ x ∈ bitsOf v s, 0 ≤ x ∧ x.toNat < s := by
  constructor
  · unfold bitsOf
    have := List.length_filter_le (bit v) (List.range s)
    rw [List.length_range] at this
    walk_at "cr.om"
  · intro x hx
    obtain ⟨k, hk, rfl⟩ := List.mem_map.mp hx
    have := List.mem_range.mp (List.mem_filter.mp hk).1
    exact ⟨by omega, by omega⟩
structure WinOk (s : Nat) (win : List Int) : Prop where
  ne : win ≠ []
  few : win.length ≤ 6
  at_ : ∀ x ∈ win, 0 ≤ x ∧ x.toNat < s
theorem c_lot (n : Nat) {d : Int} {s : Nat} (h1 : 1 ≤ s) (h6 : s ≤ 6) : ∃ win : List Int, callN tbl (n + 1) "_law_lot" [.int d, .int s] = .ok (eI win, false) ∧ WinOk s win := by
  refine okp_ex (k := fun win : List Int => (eI win, false)) (okp_call fd__law_lot rfl rfl (by decide) ?_)
  unfold fd__law_lot
  walk_at "cr.ev"
  rw [b_mod (by decide)]
  walk_at "cr.ev"
  rw [asRng_nat _ (by omega)]
  walk_at "cr.ev"
  rw [lc_bits (v := 1 + d % 63) h6 (by simp [wipeE]) (fun _ => rfl) rfl]
  walk_at "cr.ev"
  obtain ⟨l1, l2⟩ := bitsOf_ok (v := 1 + d % 63) (s := s)
  have e : ((List.range s).filter (bit (1 + d % 63))).map (fun k => D.int ((k : Nat) : Int)) = (bitsOf (1 + d % 63) s).map D.int := by
    unfold bitsOf
    rw [List.map_map]; rfl
  have ln : ((List.range s).filter (bit (1 + d % 63))).length = (bitsOf (1 + d % 63) s).length := by
    unfold bitsOf
    rw [List.length_map]
  rw [e, if_sz (by omega)]
  walk_at "cr.ev"
  refine p_ifs _ _ (fun h2 => ?_) fun h2 => ?_
  · walk_at "cr.ev"
    rw [b_mod (by omega)]
    walk_at "cr.ev"
    rw [if_sz (by decide)]
    walk_at "cr.ev"
    rw [f_tuple rfl rfl]
    walk_at "cr.ev"
    have a0 : 0 ≤ d % (s : Int) := Int.emod_nonneg _ (by omega)
    have a1 : d % (s : Int) < s := Int.emod_lt_of_pos _ (by omega)
    exact ⟨[d % s], rfl, by simp, by simp, fun x hx => by rw [List.mem_singleton.mp hx]; omega⟩
  · walk_at "cr.ev"
    rw [f_tuple rfl (nl_ints _ _)]
    walk_at "cr.ev"
    have h2 := of_decide_eq_false h2
    exact ⟨_, rfl, fun e => h2 (by rw [e]; rfl), by omega, l2⟩
def dr (ds : List Int) (k : Nat) : Int := ds.getD k 0
theorem ix_dr {ds : List Int} {k : Nat} (h : k < ds.length) : ixD (.lst (ds.map D.int)) false (.int k) = some (.int (dr ds k), false) := by
  refine ix_map (g := D.int) k rfl ?_ (.inl rfl)
  unfold dr
  rw [List.getD_eq_getElem?_getD, List.getElem?_eq_getElem h]; rfl
def rowsOf (ds : List Int) (s f : Nat) : List (List Int) := (List.range s).map fun i => (List.range f).map fun k => dr ds (10 + f * i + k) % 2
theorem c_words (n : Nat) {ds : List Int} {s f : Nat} (hl : ds.length = 70) (h6 : s ≤ 6) (h4 : f ≤ 4) : callN tbl (n + 1) "_law_words" [.lst (ds.map D.int), .int 10, .int s, .int f, .int 2] = .ok (eW (rowsOf ds s f), false) := by
  refine call_eq fd__law_words rfl rfl (by decide) ?_
  unfold fd__law_words
  walk_at "cr.ev"
  rw [asRng_nat _ (by omega)]
  walk_at "cr.ev"
  rw [lca (f := fun i : Nat => D.int i) (h := fun i => eI ((List.range f).map fun k => dr ds (10 + f * i + k) % 2))]
  · walk_at "cr.ev"
    rw [if_sz (by walk_at "cr.om")]
    walk_at "cr.ev"
    rw [f_tuple rfl (nl_ok (fun x hx => by obtain ⟨i, _, rfl⟩ := List.mem_map.mp hx; rfl) _)]
    walk_at "cr.ev"
    show (D.tup _, false) = (D.tup (List.map _ (List.map _ _)), false)
    rw [List.map_map]
    rfl
  · intro i hi
    have hi := List.mem_range.mp hi
    walk_at "cr.ev"
    rw [asRng_nat _ (by omega)]
    walk_at "cr.ev"
    rw [lca (f := fun i : Nat => D.int i) (h := fun k => .int (dr ds (10 + f * i + k) % 2))]
    · walk_at "cr.ev"
      rw [if_sz (by walk_at "cr.om")]
      walk_at "cr.ev"
      rw [f_tuple rfl (nl_ok (fun x hx => by obtain ⟨i, _, rfl⟩ := List.mem_map.mp hx; rfl) _)]
      walk_at "cr.ev"
      show D.tup _ = D.tup (List.map _ (List.map _ _))
      rw [List.map_map]
      rfl
    · intro k hk
      have hk := List.mem_range.mp hk
      have hb : f * i ≤ 4 * 5 := Nat.mul_le_mul h4 (by omega)
      walk_at "cr.ev"
      rw [b_mul (.inl ⟨by omega, by omega⟩)]
      walk_at "cr.ev"
      rw [show (10 + (f : Int) * (i : Int) + (k : Int)) = ((10 + f * i + k : Nat) : Int) by push_cast; rfl, ix_dr (by omega)]
      walk_at "cr.ev"
      rw [b_mod (by decide)]
      walk_at "cr.ev"
def digit (d : Int) (k : Nat) : Int := d / (p3.getD k 1) % 3
def termOf (d : Int) (f : Nat) : List (Option Int) := (List.range f).map fun k => if digit d k = 2 then none else some (digit d k)
theorem c_term (n : Nat) {d : Int} {f : Nat} (h4 : f ≤ 4) : callN tbl (n + 1) "_law_term" [.int d, .int f] = .ok (eT (termOf d f), false) := by
  refine call_eq fd__law_term rfl rfl (by decide) ?_
  unfold fd__law_term
  walk_at "cr.ev"
  rw [asRng_nat _ (by omega)]
  walk_at "cr.ev"
  rw [lca (f := fun i : Nat => D.int i) (h := fun k => .int (digit d k))]
  · walk_at "cr.ev"
    rw [if_sz (by walk_at "cr.om")]
    walk_at "cr.ev"
    rw [lca (f := fun k => .int (digit d k)) (h := fun k => eO (if digit d k = 2 then none else some (digit d k)))]
    · walk_at "cr.ev"
      rw [if_sz (by walk_at "cr.om")]
      walk_at "cr.ev"
      rw [f_tuple rfl (nl_ok (fun x hx => by obtain ⟨i, _, rfl⟩ := List.mem_map.mp hx; exact nl_eO _) _)]
      walk_at "cr.ev"
      show (D.tup _, false) = (D.tup (List.map _ (List.map _ _)), false)
      rw [List.map_map]
      rfl
    · intro k hk
      walk_at "cr.ev"
      refine p_ife _ _ (fun h1 => ?_) fun h1 => ?_
      · walk_at "cr.ev"
        rw [if_pos (of_decide_eq_true h1)]; rfl
      · walk_at "cr.ev"
        rw [if_neg (of_decide_eq_false h1)]; rfl
  · intro k hk
    have hk := List.mem_range.mp hk
    obtain ⟨q, q1, q2, q3⟩ := p3_ok (k := k) (by omega)
    have ix : ixD (.tup [.int 1, .int 3, .int 9, .int 27]) false (.int k) = some (.int q, false) := ix_map (l := p3) (g := D.int) k rfl q1 (.inl rfl)
    walk_at "cr.ev"
    rw [if_sz (by decide)]
    simp -implicitDefEqProofs only [env0, e_var, e_non, e_bl, e_int, e_str, e_glob, e_bin, e_not, e_cmp, e_and, e_or, e_ife, e_tup, e_lst, e_ix, e_slc, e_call, e_blt, e_lc, e_ssc, e_rvs, v_nil, v_cons, a_nil, a_cons, bs_nil, bs_cons, asO_int, o_none, o_some, t_e, t_cmp, t_and, t_or, t_not, t_inr, inr_int, to_none, to_some, asSeq_tup, asSeq_lst, asSeq_fls, i_seq, i_rev, i_rng, i_rng2, s_nil, s_cons, seq_nx, seq_rt, seq_bk, seq_ct, x_set, x_own, x_ret, x_retn, x_retv, x_ifs, x_fors, x_whl, x_app, x_frz, x_aug, x_pass, x_brk, x_cont, x_seti, ifs_true, ifs_false, ife_true, ife_false, and_t, and_f, or_t, or_f, andt_t, andt_f, ort_t, ort_f, ForP, RtP, borOr, argOr, isBor, lookV, look, put, asg, asgs, pb, pbO, up_some, up_none, ok_bind, okp_ok, okp_bind, okp_bad, List.getElem?_cons_zero, List.getElem?_cons_succ, List.set_cons_zero, List.set_cons_succ, List.length_cons, List.length_nil, List.map_cons, List.map_nil, List.cons_append, List.nil_append, List.length_map, List.replicate_succ, List.replicate_zero, wipeE, List.length_replicate, bd_int, bd_abs, bd_len, bd_list, bd_tuple, bd_sorted, bd_sortedSet, bd_any, bd_all, bd_sum, bd_isi, bd_listRange, bd_min, bd_max, f_int, f_abs, f_lenT, f_lenL, f_lenF, f_all, f_any, tr_bl, tr_lst, tr_tup, own_lst, Nat.reduceSub, Nat.reduceAdd, Nat.reduceLT, Nat.reduceLeDiff, Nat.zero_lt_succ, ↓reduceIte, b_add, b_sub, k_lt, k_le, k_gt, k_ge, k_eq, k_ne, k_eqB, k_neB, Gx.within, gWithin, List.contains_cons, beq_self_eq_true, Bool.true_or, Bool.and_true, Bool.true_and, Bool.and_self, Bool.not_true, Bool.not_false, List.elem_cons, List.contains_eq_mem, List.mem_cons, true_or, or_true, decide_true, Bool.false_eq_true, if_false, exists_eq_left', Option.some.injEq, ix, b_div ⟨q2, q3⟩]
    rw [b_mod (by decide)]
    walk_at "cr.ev"
    unfold digit
    rw [List.getD_eq_getElem?_getD, q1]
    rfl
theorem c_padded (n : Nat) {ds : List D} {cut wide : Nat} {e : D} (hl : ds.length ≤ 100) (hw : wide ≤ 100) : callN tbl (n + 1) "_law_padded" [.tup ds, .int cut, .int wide, e] = .ok (.tup (ds.take cut ++ List.replicate wide e ++ ds.drop cut), false) := by
  refine call_eq fd__law_padded rfl rfl (by decide) ?_
  unfold fd__law_padded
  simp -implicitDefEqProofs only [env0, e_var, e_non, e_bl, e_int, e_str, e_glob, e_bin, e_not, e_cmp, e_and, e_or, e_ife, e_tup, e_lst, e_ix, e_slc, e_call, e_blt, e_lc, e_ssc, e_rvs, v_nil, v_cons, a_nil, a_cons, bs_nil, bs_cons, asO_int, o_none, o_some, t_e, t_cmp, t_and, t_or, t_not, t_inr, inr_int, to_none, to_some, asSeq_tup, asSeq_lst, asSeq_fls, i_seq, i_rev, i_rng, i_rng2, s_nil, s_cons, seq_nx, seq_rt, seq_bk, seq_ct, x_set, x_own, x_ret, x_retn, x_retv, x_ifs, x_fors, x_whl, x_app, x_frz, x_aug, x_pass, x_brk, x_cont, x_seti, ifs_true, ifs_false, ife_true, ife_false, and_t, and_f, or_t, or_f, andt_t, andt_f, ort_t, ort_f, ForP, RtP, borOr, argOr, isBor, lookV, look, put, asg, asgs, pb, pbO, up_some, up_none, ok_bind, okp_ok, okp_bind, okp_bad, List.getElem?_cons_zero, List.getElem?_cons_succ, List.set_cons_zero, List.set_cons_succ, List.length_cons, List.length_nil, List.map_cons, List.map_nil, List.cons_append, List.nil_append, List.length_map, List.replicate_succ, List.replicate_zero, wipeE, List.length_replicate, bd_int, bd_abs, bd_len, bd_list, bd_tuple, bd_sorted, bd_sortedSet, bd_any, bd_all, bd_sum, bd_isi, bd_listRange, bd_min, bd_max, f_int, f_abs, f_lenT, f_lenL, f_lenF, f_all, f_any, tr_bl, tr_lst, tr_tup, own_lst, Nat.reduceSub, Nat.reduceAdd, Nat.reduceLT, Nat.reduceLeDiff, Nat.zero_lt_succ, ↓reduceIte, b_add, b_sub, k_lt, k_le, k_gt, k_ge, k_eq, k_ne, k_eqB, k_neB, Gx.within, gWithin, List.contains_cons, beq_self_eq_true, Bool.true_or, Bool.and_true, Bool.true_and, Bool.and_self, Bool.not_true, Bool.not_false, List.elem_cons, List.contains_eq_mem, List.mem_cons, true_or, or_true, decide_true, Bool.false_eq_true, if_false, exists_eq_left', Option.some.injEq, sl_to]
  rw [if_sz (by decide)]
  walk_at "cr.ev"
  rw [b_rep ⟨by omega, by omega, by simp⟩]
  simp -implicitDefEqProofs only [env0, e_var, e_non, e_bl, e_int, e_str, e_glob, e_bin, e_not, e_cmp, e_and, e_or, e_ife, e_tup, e_lst, e_ix, e_slc, e_call, e_blt, e_lc, e_ssc, e_rvs, v_nil, v_cons, a_nil, a_cons, bs_nil, bs_cons, asO_int, o_none, o_some, t_e, t_cmp, t_and, t_or, t_not, t_inr, inr_int, to_none, to_some, asSeq_tup, asSeq_lst, asSeq_fls, i_seq, i_rev, i_rng, i_rng2, s_nil, s_cons, seq_nx, seq_rt, seq_bk, seq_ct, x_set, x_own, x_ret, x_retn, x_retv, x_ifs, x_fors, x_whl, x_app, x_frz, x_aug, x_pass, x_brk, x_cont, x_seti, ifs_true, ifs_false, ife_true, ife_false, and_t, and_f, or_t, or_f, andt_t, andt_f, ort_t, ort_f, ForP, RtP, borOr, argOr, isBor, lookV, look, put, asg, asgs, pb, pbO, up_some, up_none, ok_bind, okp_ok, okp_bind, okp_bad, List.getElem?_cons_zero, List.getElem?_cons_succ, List.set_cons_zero, List.set_cons_succ, List.length_cons, List.length_nil, List.map_cons, List.map_nil, List.cons_append, List.nil_append, List.length_map, List.replicate_succ, List.replicate_zero, wipeE, List.length_replicate, bd_int, bd_abs, bd_len, bd_list, bd_tuple, bd_sorted, bd_sortedSet, bd_any, bd_all, bd_sum, bd_isi, bd_listRange, bd_min, bd_max, f_int, f_abs, f_lenT, f_lenL, f_lenF, f_all, f_any, tr_bl, tr_lst, tr_tup, own_lst, Nat.reduceSub, Nat.reduceAdd, Nat.reduceLT, Nat.reduceLeDiff, Nat.zero_lt_succ, ↓reduceIte, b_add, b_sub, k_lt, k_le, k_gt, k_ge, k_eq, k_ne, k_eqB, k_neB, Gx.within, gWithin, List.contains_cons, beq_self_eq_true, Bool.true_or, Bool.and_true, Bool.true_and, Bool.and_self, Bool.not_true, Bool.not_false, List.elem_cons, List.contains_eq_mem, List.mem_cons, true_or, or_true, decide_true, Bool.false_eq_true, if_false, exists_eq_left', Option.some.injEq, sl_from]
  rw [Int.toNat_natCast, rep_flat, b_cat (by rw [sizeLine_eq]; walk_at "cr.om")]
  walk_at "cr.ev"
  rw [b_cat (by rw [sizeLine_eq]; walk_at "cr.om")]
  walk_at "cr.ev"
end K50
end

section
set_option maxHeartbeats 4000000
namespace K50
open PySem PySem.Spec PyProof.Rows L2 Cr

/-- a drawn circuit: few terms, each with an entry for each field -/
structure Cir (f : Nat) (c : List (List (Option Int))) : Prop where
  few : c.length ≤ 20
  len : ∀ t ∈ c, t.length = f
theorem Cir.app {f : Nat} {c c' : List (List (Option Int))} (h : ∀ t ∈ c, t.length = f) (h' : ∀ t ∈ c', t.length = f) (hz : c.length + c'.length ≤ 20) : Cir f (c ++ c') :=
  ⟨by walk_at "cr.om", fun t ht => (List.mem_append.mp ht).elim (h t) (h' t)⟩
theorem rowsOf_ok {ds : List Int} {s f : Nat} (h1 : 1 ≤ s) (h4 : f ≤ 4) : OkW (rowsOf ds s f) f := by
  refine ⟨fun w hw => ?_, fun e => ?_, by omega⟩
  · obtain ⟨i, _, rfl⟩ := List.mem_map.mp hw
    rw [List.length_map, List.length_range]
  · have h := congrArg List.length e
    unfold rowsOf at h
    rw [List.length_map, List.length_range, List.length_nil] at h
    omega
theorem WinOk.win {words : List (List Int)} {win : List Int} (h : WinOk words.length win) : OkWin words win := ⟨h.ne, Nat.lt_of_le_of_lt h.few (by decide), h.at_⟩
def shTerm (words : List (List Int)) (win : List Int) (f : Nat) : List (Option Int) := (List.range f).map fun i => if (seen words win i).length = 1 then (seen words win i)[0]? else none
theorem c_shared (n : Nat) {words : List (List Int)} {win : List Int} {F : Nat} (W : OkW words F) (O : OkWin words win) : callN tbl (n + 1) "_law_shared_term" [eW words, eI win] = .ok (eT (shTerm words win F), false) := by
  refine call_eq fd__law_shared_term rfl rfl (by decide) ?_
  unfold fd__law_shared_term
  obtain ⟨w0, e0, l0⟩ := len0 W
  have F1 := W.F100
  walk_at "cr.ev"
  rw [ix_mapI (l := words) (g := eI) (k := 0) (by decide) rfl e0 (.inl rfl)]
  walk_at "cr.ev"
  rw [l0, asRng_nat _ (by omega)]
  walk_at "cr.ev"
  rw [lca (f := fun i : Nat => D.int i) (h := fun i => .lst ((seen words win i).map D.int))]
  · walk_at "cr.ev"
    rw [if_sz (by walk_at "cr.om")]
    walk_at "cr.ev"
    rw [lca (f := fun i => .lst ((seen words win i).map D.int)) (h := fun i => eO (if (seen words win i).length = 1 then (seen words win i)[0]? else none))]
    · walk_at "cr.ev"
      rw [if_sz (by walk_at "cr.om")]
      walk_at "cr.ev"
      rw [f_tuple rfl (nl_ok (fun x hx => by obtain ⟨i, _, rfl⟩ := List.mem_map.mp hx; exact nl_eO _) _)]
      walk_at "cr.ev"
      show (D.tup _, false) = (D.tup (List.map _ (List.map _ _)), false)
      rw [List.map_map]
      rfl
    · intro i hi
      walk_at "cr.ev"
      refine p_ife _ _ (fun h1 => ?_) fun h1 => ?_
      · have h1 : (seen words win i).length = 1 := by have := of_decide_eq_true h1; omega
        have e : (seen words win i)[0]? = some (seen words win i)[0] := List.getElem?_eq_getElem (by omega)
        walk_at "cr.ev"
        rw [ix_mapI (g := D.int) (k := 0) (by decide) rfl e (.inl rfl)]
        walk_at "cr.ev"
        rw [if_pos h1, e]; rfl
      · walk_at "cr.ev"
        rw [if_neg (by have := of_decide_eq_false h1; omega)]; rfl
  · intro i hi
    have hi := List.mem_range.mp hi
    walk_at "cr.ev"
    rw [lca (f := D.int) (h := fun s => .int (wf words i s))]
    · walk_at "cr.ev"
      rw [if_sz (by have := O.few; walk_at "cr.om")]
      have e : ((D.lst (win.map fun s => .int (wf words i s))).seq) = some ((win.map (wf words i)).map D.int) := by
        rw [List.map_map]; rfl
      simp -implicitDefEqProofs only [env0, e_var, e_non, e_bl, e_int, e_str, e_glob, e_bin, e_not, e_cmp, e_and, e_or, e_ife, e_tup, e_lst, e_ix, e_slc, e_call, e_blt, e_lc, e_ssc, e_rvs, v_nil, v_cons, a_nil, a_cons, bs_nil, bs_cons, asO_int, o_none, o_some, t_e, t_cmp, t_and, t_or, t_not, t_inr, inr_int, to_none, to_some, asSeq_tup, asSeq_lst, asSeq_fls, i_seq, i_rev, i_rng, i_rng2, s_nil, s_cons, seq_nx, seq_rt, seq_bk, seq_ct, x_set, x_own, x_ret, x_retn, x_retv, x_ifs, x_fors, x_whl, x_app, x_frz, x_aug, x_pass, x_brk, x_cont, x_seti, ifs_true, ifs_false, ife_true, ife_false, and_t, and_f, or_t, or_f, andt_t, andt_f, ort_t, ort_f, ForP, RtP, borOr, argOr, isBor, lookV, look, put, asg, asgs, pb, pbO, up_some, up_none, ok_bind, okp_ok, okp_bind, okp_bad, List.getElem?_cons_zero, List.getElem?_cons_succ, List.set_cons_zero, List.set_cons_succ, List.length_cons, List.length_nil, List.map_cons, List.map_nil, List.cons_append, List.nil_append, List.length_map, List.replicate_succ, List.replicate_zero, wipeE, List.length_replicate, bd_int, bd_abs, bd_len, bd_list, bd_tuple, bd_sorted, bd_sortedSet, bd_any, bd_all, bd_sum, bd_isi, bd_listRange, bd_min, bd_max, f_int, f_abs, f_lenT, f_lenL, f_lenF, f_all, f_any, tr_bl, tr_lst, tr_tup, own_lst, Nat.reduceSub, Nat.reduceAdd, Nat.reduceLT, Nat.reduceLeDiff, Nat.zero_lt_succ, ↓reduceIte, b_add, b_sub, k_lt, k_le, k_gt, k_ge, k_eq, k_ne, k_eqB, k_neB, Gx.within, gWithin, List.contains_cons, beq_self_eq_true, Bool.true_or, Bool.and_true, Bool.true_and, Bool.and_self, Bool.not_true, Bool.not_false, List.elem_cons, List.contains_eq_mem, List.mem_cons, true_or, or_true, decide_true, Bool.false_eq_true, if_false, exists_eq_left', Option.some.injEq, f_sortedSet _ e (by rw [List.length_map]; exact O.few)]
      rfl
    · intro s hs
      obtain ⟨e1, e2⟩ := ix_word W O hs
      simp -implicitDefEqProofs only [env0, e_var, e_non, e_bl, e_int, e_str, e_glob, e_bin, e_not, e_cmp, e_and, e_or, e_ife, e_tup, e_lst, e_ix, e_slc, e_call, e_blt, e_lc, e_ssc, e_rvs, v_nil, v_cons, a_nil, a_cons, bs_nil, bs_cons, asO_int, o_none, o_some, t_e, t_cmp, t_and, t_or, t_not, t_inr, inr_int, to_none, to_some, asSeq_tup, asSeq_lst, asSeq_fls, i_seq, i_rev, i_rng, i_rng2, s_nil, s_cons, seq_nx, seq_rt, seq_bk, seq_ct, x_set, x_own, x_ret, x_retn, x_retv, x_ifs, x_fors, x_whl, x_app, x_frz, x_aug, x_pass, x_brk, x_cont, x_seti, ifs_true, ifs_false, ife_true, ife_false, and_t, and_f, or_t, or_f, andt_t, andt_f, ort_t, ort_f, ForP, RtP, borOr, argOr, isBor, lookV, look, put, asg, asgs, pb, pbO, up_some, up_none, ok_bind, okp_ok, okp_bind, okp_bad, List.getElem?_cons_zero, List.getElem?_cons_succ, List.set_cons_zero, List.set_cons_succ, List.length_cons, List.length_nil, List.map_cons, List.map_nil, List.cons_append, List.nil_append, List.length_map, List.replicate_succ, List.replicate_zero, wipeE, List.length_replicate, bd_int, bd_abs, bd_len, bd_list, bd_tuple, bd_sorted, bd_sortedSet, bd_any, bd_all, bd_sum, bd_isi, bd_listRange, bd_min, bd_max, f_int, f_abs, f_lenT, f_lenL, f_lenF, f_all, f_any, tr_bl, tr_lst, tr_tup, own_lst, Nat.reduceSub, Nat.reduceAdd, Nat.reduceLT, Nat.reduceLeDiff, Nat.zero_lt_succ, ↓reduceIte, b_add, b_sub, k_lt, k_le, k_gt, k_ge, k_eq, k_ne, k_eqB, k_neB, Gx.within, gWithin, List.contains_cons, beq_self_eq_true, Bool.true_or, Bool.and_true, Bool.true_and, Bool.and_self, Bool.not_true, Bool.not_false, List.elem_cons, List.contains_eq_mem, List.mem_cons, true_or, or_true, decide_true, Bool.false_eq_true, if_false, exists_eq_left', Option.some.injEq, e1, ix_wf e2 hi]
theorem sl_mid (ds : List D) (f : Bool) (a b : Nat) (h : eok f ds = true) : ∃ k, slcD (.lst ds) f (some (a : Int)) (some (b : Int)) = some (.lst ((ds.drop (min a ds.length)).take k), true) := by
  refine ⟨min b ds.length - min a ds.length, ?_⟩
  show (if eok f ds then some (D.lst (cutD ds (some (a : Int)) (some (b : Int))), true) else none) = _
  rw [if_pos h]
  unfold Cr.cutD
  rw [sIx_n, sIx_n]
theorem o3 {k : Int} (h0 : 0 ≤ k) (h1 : k < 3) : ∃ o : Option Int, ixD (.tup [.non, .int 0, .int 1]) false (.int k) = some (eO o, false) := by
  have : k = 0 ∨ k = 1 ∨ k = 2 := by omega
  rcases this with rfl | rfl | rfl
  · exact ⟨none, rfl⟩
  · exact ⟨some 0, rfl⟩
  · exact ⟨some 1, rfl⟩
theorem md {a b : Int} (h : 0 < b) : ∃ k : Nat, a % b = k ∧ (k : Int) < b := ⟨(a % b).toNat, by have := Int.emod_nonneg a (show b ≠ 0 by omega); omega, by have := Int.emod_nonneg a (show b ≠ 0 by omega); have := Int.emod_lt_of_pos a h; omega⟩
theorem c_varied (n : Nat) {c : List (List (Option Int))} {f : Nat} (C : Cir f c) (hc : c.length ≤ 10) (h4 : f ≤ 4) {kind d : Int} : ∃ r : List (List (Option Int)) × Bool, callN tbl (n + 2) "_law_varied" [.lst (c.map eT), .int f, .int kind, .int d] = .ok (.lst (r.1.map eT), r.2) ∧ Cir f r.1 := by
  refine okp_ex (k := fun r : List (List (Option Int)) × Bool => (D.lst (r.1.map eT), r.2)) (okp_call fd__law_varied rfl rfl (by decide) ?_)
  unfold fd__law_varied
  have rep : (.tup (List.replicate (f : Int).toNat [D.non]).flatten : D) = eT (List.replicate f none) := by rw [Int.toNat_natCast, rep_non]
  walk_at "cr.ev"
  refine p_ifs _ _ (fun h1 => ?_) fun h1 => ?_
  · walk_at "cr.ev"
    cases e : c with
    | nil =>
      walk_at "cr.ev"
      show OkP (up (slcD (.lst []) false none (some (-1)))) _
      exact ⟨_, rfl, ⟨([], true), rfl, by rw [← e]; exact ⟨by rw [e]; decide, fun t h => C.len t h⟩⟩⟩
    | cons t ts =>
      walk_at "cr.ev"
      rw [show (((ts.length + 1 : Nat) : Int) - 1) = ((ts.length : Nat) : Int) by omega]
      have q := sl_toL ((t :: ts).map eT) false ts.length rfl
      rw [List.map_cons] at q
      rw [q]
      walk_at "cr.ev"
      refine ⟨((t :: ts).take ts.length, true), by rw [← List.map_cons, ← List.map_take], ?_⟩
      rw [← e]
      exact ⟨by have := C.few; walk_at "cr.om", fun t h => C.len t (List.mem_of_mem_take h)⟩
  walk_at "cr.ev"
  refine p_ifs _ _ (fun h1 => ?_) fun h1 => ?_
  · walk_at "cr.ev"
    rw [if_sz (by simp)]
    walk_at "cr.ev"
    rw [b_rep ⟨by omega, by omega, by simp⟩, rep]
    walk_at "cr.ev"
    rw [if_sz (by simp)]
    walk_at "cr.ev"
    rw [b_catL (by rw [sizeLine_eq]; walk_at "cr.om") rfl (nl_ok (fun x hx => by rw [List.mem_singleton.mp hx]; rfl) _)]
    walk_at "cr.ev"
    refine ⟨(c ++ [List.replicate f none], true), by simp, Cir.app C.len (fun t h => by rw [List.mem_singleton.mp h, List.length_replicate]) (by simp; omega)⟩
  walk_at "cr.ev"
  refine OkP.mono (Q := fun b => b = true → 0 < c.length ∧ 0 < f) ?_ ?_
  · refine p_andt _ _ (fun h2 => ?_) (fun _ h => by cases h)
    walk_at "cr.ev"
    refine p_andt _ _ (fun h3 => ?_) (fun _ h => by cases h)
    walk_at "cr.ev"
    intro h4
    exact ⟨by have := of_decide_eq_true h3; omega, by have := of_decide_eq_true h4; omega⟩
  intro b hb
  refine p_ifs _ _ (fun h2 => ?_) fun h2 => ?_
  · obtain ⟨g1, g2⟩ := hb h2
    obtain ⟨k, k1, k2⟩ := md (a := d) (b := (c.length : Int)) (by omega)
    obtain ⟨i, i1, i2⟩ := md (a := d / 7) (b := (f : Int)) (by omega)
    obtain ⟨m, m1, m2⟩ := md (a := d / 29) (b := 3) (by decide)
    obtain ⟨o, o1⟩ := o3 (k := m) (by omega) m2
    have ek : c[k]? = some c[k] := List.getElem?_eq_getElem (by omega)
    have tl := C.len _ (List.mem_of_getElem? ek)
    generalize c[k] = t at ek tl
    have ixt : ixD (.lst (c.map eT)) false (.int k) = some (eT t, false) := ix_map (g := eT) k rfl ek (.inl rfl)
    walk_at "cr.ev"
    rw [b_mod (by omega), k1]
    walk_at "cr.ev"
    rw [b_div (by decide)]
    walk_at "cr.ev"
    rw [b_mod (by omega), i1]
    walk_at "cr.ev"
    rw [if_sz (by decide)]
    walk_at "cr.ev"
    rw [b_div (by decide)]
    walk_at "cr.ev"
    rw [b_mod (by decide), m1]
    simp -implicitDefEqProofs only [env0, e_var, e_non, e_bl, e_int, e_str, e_glob, e_bin, e_not, e_cmp, e_and, e_or, e_ife, e_tup, e_lst, e_ix, e_slc, e_call, e_blt, e_lc, e_ssc, e_rvs, v_nil, v_cons, a_nil, a_cons, bs_nil, bs_cons, asO_int, o_none, o_some, t_e, t_cmp, t_and, t_or, t_not, t_inr, inr_int, to_none, to_some, asSeq_tup, asSeq_lst, asSeq_fls, i_seq, i_rev, i_rng, i_rng2, s_nil, s_cons, seq_nx, seq_rt, seq_bk, seq_ct, x_set, x_own, x_ret, x_retn, x_retv, x_ifs, x_fors, x_whl, x_app, x_frz, x_aug, x_pass, x_brk, x_cont, x_seti, ifs_true, ifs_false, ife_true, ife_false, and_t, and_f, or_t, or_f, andt_t, andt_f, ort_t, ort_f, ForP, RtP, borOr, argOr, isBor, lookV, look, put, asg, asgs, pb, pbO, up_some, up_none, ok_bind, okp_ok, okp_bind, okp_bad, List.getElem?_cons_zero, List.getElem?_cons_succ, List.set_cons_zero, List.set_cons_succ, List.length_cons, List.length_nil, List.map_cons, List.map_nil, List.cons_append, List.nil_append, List.length_map, List.replicate_succ, List.replicate_zero, wipeE, List.length_replicate, bd_int, bd_abs, bd_len, bd_list, bd_tuple, bd_sorted, bd_sortedSet, bd_any, bd_all, bd_sum, bd_isi, bd_listRange, bd_min, bd_max, f_int, f_abs, f_lenT, f_lenL, f_lenF, f_all, f_any, tr_bl, tr_lst, tr_tup, own_lst, Nat.reduceSub, Nat.reduceAdd, Nat.reduceLT, Nat.reduceLeDiff, Nat.zero_lt_succ, ↓reduceIte, b_add, b_sub, k_lt, k_le, k_gt, k_ge, k_eq, k_ne, k_eqB, k_neB, Gx.within, gWithin, List.contains_cons, beq_self_eq_true, Bool.true_or, Bool.and_true, Bool.true_and, Bool.and_self, Bool.not_true, Bool.not_false, List.elem_cons, List.contains_eq_mem, List.mem_cons, true_or, or_true, decide_true, Bool.false_eq_true, if_false, exists_eq_left', Option.some.injEq, o1]
    rw [sl_toL _ _ _ rfl]
    simp -implicitDefEqProofs only [env0, e_var, e_non, e_bl, e_int, e_str, e_glob, e_bin, e_not, e_cmp, e_and, e_or, e_ife, e_tup, e_lst, e_ix, e_slc, e_call, e_blt, e_lc, e_ssc, e_rvs, v_nil, v_cons, a_nil, a_cons, bs_nil, bs_cons, asO_int, o_none, o_some, t_e, t_cmp, t_and, t_or, t_not, t_inr, inr_int, to_none, to_some, asSeq_tup, asSeq_lst, asSeq_fls, i_seq, i_rev, i_rng, i_rng2, s_nil, s_cons, seq_nx, seq_rt, seq_bk, seq_ct, x_set, x_own, x_ret, x_retn, x_retv, x_ifs, x_fors, x_whl, x_app, x_frz, x_aug, x_pass, x_brk, x_cont, x_seti, ifs_true, ifs_false, ife_true, ife_false, and_t, and_f, or_t, or_f, andt_t, andt_f, ort_t, ort_f, ForP, RtP, borOr, argOr, isBor, lookV, look, put, asg, asgs, pb, pbO, up_some, up_none, ok_bind, okp_ok, okp_bind, okp_bad, List.getElem?_cons_zero, List.getElem?_cons_succ, List.set_cons_zero, List.set_cons_succ, List.length_cons, List.length_nil, List.map_cons, List.map_nil, List.cons_append, List.nil_append, List.length_map, List.replicate_succ, List.replicate_zero, wipeE, List.length_replicate, bd_int, bd_abs, bd_len, bd_list, bd_tuple, bd_sorted, bd_sortedSet, bd_any, bd_all, bd_sum, bd_isi, bd_listRange, bd_min, bd_max, f_int, f_abs, f_lenT, f_lenL, f_lenF, f_all, f_any, tr_bl, tr_lst, tr_tup, own_lst, Nat.reduceSub, Nat.reduceAdd, Nat.reduceLT, Nat.reduceLeDiff, Nat.zero_lt_succ, ↓reduceIte, b_add, b_sub, k_lt, k_le, k_gt, k_ge, k_eq, k_ne, k_eqB, k_neB, Gx.within, gWithin, List.contains_cons, beq_self_eq_true, Bool.true_or, Bool.and_true, Bool.true_and, Bool.and_self, Bool.not_true, Bool.not_false, List.elem_cons, List.contains_eq_mem, List.mem_cons, true_or, or_true, decide_true, Bool.false_eq_true, if_false, exists_eq_left', Option.some.injEq, ixt, sl_to]
    rw [if_sz (by simp)]
    walk_at "cr.ev"
    rw [b_cat (by rw [sizeLine_eq]; walk_at "cr.om")]
    simp -implicitDefEqProofs only [env0, e_var, e_non, e_bl, e_int, e_str, e_glob, e_bin, e_not, e_cmp, e_and, e_or, e_ife, e_tup, e_lst, e_ix, e_slc, e_call, e_blt, e_lc, e_ssc, e_rvs, v_nil, v_cons, a_nil, a_cons, bs_nil, bs_cons, asO_int, o_none, o_some, t_e, t_cmp, t_and, t_or, t_not, t_inr, inr_int, to_none, to_some, asSeq_tup, asSeq_lst, asSeq_fls, i_seq, i_rev, i_rng, i_rng2, s_nil, s_cons, seq_nx, seq_rt, seq_bk, seq_ct, x_set, x_own, x_ret, x_retn, x_retv, x_ifs, x_fors, x_whl, x_app, x_frz, x_aug, x_pass, x_brk, x_cont, x_seti, ifs_true, ifs_false, ife_true, ife_false, and_t, and_f, or_t, or_f, andt_t, andt_f, ort_t, ort_f, ForP, RtP, borOr, argOr, isBor, lookV, look, put, asg, asgs, pb, pbO, up_some, up_none, ok_bind, okp_ok, okp_bind, okp_bad, List.getElem?_cons_zero, List.getElem?_cons_succ, List.set_cons_zero, List.set_cons_succ, List.length_cons, List.length_nil, List.map_cons, List.map_nil, List.cons_append, List.nil_append, List.length_map, List.replicate_succ, List.replicate_zero, wipeE, List.length_replicate, bd_int, bd_abs, bd_len, bd_list, bd_tuple, bd_sorted, bd_sortedSet, bd_any, bd_all, bd_sum, bd_isi, bd_listRange, bd_min, bd_max, f_int, f_abs, f_lenT, f_lenL, f_lenF, f_all, f_any, tr_bl, tr_lst, tr_tup, own_lst, Nat.reduceSub, Nat.reduceAdd, Nat.reduceLT, Nat.reduceLeDiff, Nat.zero_lt_succ, ↓reduceIte, b_add, b_sub, k_lt, k_le, k_gt, k_ge, k_eq, k_ne, k_eqB, k_neB, Gx.within, gWithin, List.contains_cons, beq_self_eq_true, Bool.true_or, Bool.and_true, Bool.true_and, Bool.and_self, Bool.not_true, Bool.not_false, List.elem_cons, List.contains_eq_mem, List.mem_cons, true_or, or_true, decide_true, Bool.false_eq_true, if_false, exists_eq_left', Option.some.injEq, ixt]
    rw [show ((i : Int) + 1) = ((i + 1 : Nat) : Int) from rfl]
    simp -implicitDefEqProofs only [env0, e_var, e_non, e_bl, e_int, e_str, e_glob, e_bin, e_not, e_cmp, e_and, e_or, e_ife, e_tup, e_lst, e_ix, e_slc, e_call, e_blt, e_lc, e_ssc, e_rvs, v_nil, v_cons, a_nil, a_cons, bs_nil, bs_cons, asO_int, o_none, o_some, t_e, t_cmp, t_and, t_or, t_not, t_inr, inr_int, to_none, to_some, asSeq_tup, asSeq_lst, asSeq_fls, i_seq, i_rev, i_rng, i_rng2, s_nil, s_cons, seq_nx, seq_rt, seq_bk, seq_ct, x_set, x_own, x_ret, x_retn, x_retv, x_ifs, x_fors, x_whl, x_app, x_frz, x_aug, x_pass, x_brk, x_cont, x_seti, ifs_true, ifs_false, ife_true, ife_false, and_t, and_f, or_t, or_f, andt_t, andt_f, ort_t, ort_f, ForP, RtP, borOr, argOr, isBor, lookV, look, put, asg, asgs, pb, pbO, up_some, up_none, ok_bind, okp_ok, okp_bind, okp_bad, List.getElem?_cons_zero, List.getElem?_cons_succ, List.set_cons_zero, List.set_cons_succ, List.length_cons, List.length_nil, List.map_cons, List.map_nil, List.cons_append, List.nil_append, List.length_map, List.replicate_succ, List.replicate_zero, wipeE, List.length_replicate, bd_int, bd_abs, bd_len, bd_list, bd_tuple, bd_sorted, bd_sortedSet, bd_any, bd_all, bd_sum, bd_isi, bd_listRange, bd_min, bd_max, f_int, f_abs, f_lenT, f_lenL, f_lenF, f_all, f_any, tr_bl, tr_lst, tr_tup, own_lst, Nat.reduceSub, Nat.reduceAdd, Nat.reduceLT, Nat.reduceLeDiff, Nat.zero_lt_succ, ↓reduceIte, b_add, b_sub, k_lt, k_le, k_gt, k_ge, k_eq, k_ne, k_eqB, k_neB, Gx.within, gWithin, List.contains_cons, beq_self_eq_true, Bool.true_or, Bool.and_true, Bool.true_and, Bool.and_self, Bool.not_true, Bool.not_false, List.elem_cons, List.contains_eq_mem, List.mem_cons, true_or, or_true, decide_true, Bool.false_eq_true, if_false, exists_eq_left', Option.some.injEq, sl_from]
    rw [b_cat (by rw [sizeLine_eq]; walk_at "cr.om"), set_eq _ _ _ (by walk_at "cr.om"), ← List.map_set]
    walk_at "cr.ev"
    rw [if_sz (by simp)]
    walk_at "cr.ev"
    rw [b_catL (by rw [sizeLine_eq]; have := C.few; walk_at "cr.om") (nl_ok (fun x hx => by obtain ⟨i, _, rfl⟩ := List.mem_map.mp (List.mem_of_mem_take hx); rfl) _) (nl_ok (fun x hx => by rw [List.mem_singleton.mp hx]; rfl) _)]
    walk_at "cr.ev"
    rw [show ((k : Int) + 1) = ((k + 1 : Nat) : Int) from rfl, sl_fromL _ _ _ rfl]
    walk_at "cr.ev"
    rw [b_catL (by rw [sizeLine_eq]; have := C.few; walk_at "cr.om") (nl_ok (fun x hx => by
        rcases List.mem_append.mp hx with hx | hx
        · obtain ⟨i, _, rfl⟩ := List.mem_map.mp (List.mem_of_mem_take hx); rfl
        · rw [List.mem_singleton.mp hx]; rfl) _) (nl_ok (fun x hx => by obtain ⟨i, _, rfl⟩ := List.mem_map.mp (List.mem_of_mem_drop hx); rfl) _)]
    walk_at "cr.ev"
    refine ⟨(c.set k (t.set i o), true), by rw [set_eq _ _ _ (by walk_at "cr.om"), ← List.map_set], by have := C.few; walk_at "cr.om", fun t' h => ?_⟩
    rcases List.mem_or_eq_of_mem_set h with q | q
    · exact C.len t' q
    · rw [q, List.length_set, tl]
  walk_at "cr.ev"
  refine p_ifs _ _ (fun h3 => ?_) fun h3 => ?_
  · walk_at "cr.ev"
    have q := sl_toL (c.map eT) false 1 rfl
    rw [show (1 : Int) = ((1 : Nat) : Int) from rfl, q]
    walk_at "cr.ev"
    rw [b_catL (by rw [sizeLine_eq]; have := C.few; walk_at "cr.om") (nl_ok (fun x hx => by obtain ⟨i, _, rfl⟩ := List.mem_map.mp (List.mem_of_mem_take hx); rfl) _) rfl]
    walk_at "cr.ev"
    exact ⟨(c.take 1 ++ c, true), by rw [List.map_append, List.map_take], Cir.app (fun t h => C.len t (List.mem_of_mem_take h)) C.len (by walk_at "cr.om")⟩
  walk_at "cr.ev"
  refine p_ifs _ _ (fun h4' => ?_) fun h4' => ?_
  · walk_at "cr.ev"
    show OkP (up (some (D.lst (c.map eT).reverse, true))) _
    walk_at "cr.ev"
    exact ⟨(c.reverse, true), by rw [List.map_reverse], by have := C.few; simp; omega, fun t h => C.len t (List.mem_reverse.mp h)⟩
  walk_at "cr.ev"
  rw [callOr_val (as := [(.int d, false), (.int f, false)]) (c_term n h4) rfl]
  walk_at "cr.ev"
  rw [if_sz (by simp)]
  walk_at "cr.ev"
  rw [b_catL (by rw [sizeLine_eq]; walk_at "cr.om") rfl (nl_ok (fun x hx => by rw [List.mem_singleton.mp hx]; rfl) _)]
  walk_at "cr.ev"
  exact ⟨(c ++ [termOf d f], true), by simp, Cir.app C.len (fun t h => by rw [List.mem_singleton.mp h]; simp [termOf]) (by simp; omega)⟩
end K50
end

section
set_option maxHeartbeats 4000000
namespace K50
open PySem PySem.Spec PyProof.Rows L2 Cr

def outP (win yes : List Int) : List Int := win.filter fun s => !decide (s ∈ yes)
theorem c_circuit (n : Nat) {ds : List Int} {words windows : List (List Int)} {yes : List Int} {f : Nat} (hl : ds.length = 70) (W : OkW words f) (h4 : f ≤ 4) (hw : windows.length ≤ 6) (Ws : ∀ win ∈ windows, OkWin words win) :
    ∃ r : List (List (Option Int)) × Bool, callN tbl (n + 2) "_law_circuit" [.lst (ds.map D.int), eW words, .lst (windows.map eI), eI yes, .int f] = .ok (.lst (r.1.map eT), r.2) ∧ Cir f r.1 ∧ r.1.length ≤ 9 := by
  refine okp_ex (k := fun r : List (List (Option Int)) × Bool => (D.lst (r.1.map eT), r.2)) (okp_call fd__law_circuit rfl rfl (by decide) ?_)
  unfold fd__law_circuit
  have ix : ∀ k : Nat, k < 70 → ixD (.lst (ds.map D.int)) false (.int k) = some (.int (dr ds k), false) := fun k hk => ix_dr (by omega)
  have ix4 : ixD (.lst (ds.map D.int)) false (.int 4) = some (.int (dr ds 4), false) := ix 4 (by decide)
  have ix50 : ixD (.lst (ds.map D.int)) false (.int 50) = some (.int (dr ds 50), false) := ix 50 (by decide)
  have ix56 : ixD (.lst (ds.map D.int)) false (.int 56) = some (.int (dr ds 56), false) := ix 56 (by decide)
  have ix57 : ixD (.lst (ds.map D.int)) false (.int 57) = some (.int (dr ds 57), false) := ix 57 (by decide)
  have ix58 : ixD (.lst (ds.map D.int)) false (.int 58) = some (.int (dr ds 58), false) := ix 58 (by decide)
  obtain ⟨m, m1, m2⟩ := md (a := dr ds 50) (b := 4) (by decide)
  simp -implicitDefEqProofs only [env0, e_var, e_non, e_bl, e_int, e_str, e_glob, e_bin, e_not, e_cmp, e_and, e_or, e_ife, e_tup, e_lst, e_ix, e_slc, e_call, e_blt, e_lc, e_ssc, e_rvs, v_nil, v_cons, a_nil, a_cons, bs_nil, bs_cons, asO_int, o_none, o_some, t_e, t_cmp, t_and, t_or, t_not, t_inr, inr_int, to_none, to_some, asSeq_tup, asSeq_lst, asSeq_fls, i_seq, i_rev, i_rng, i_rng2, s_nil, s_cons, seq_nx, seq_rt, seq_bk, seq_ct, x_set, x_own, x_ret, x_retn, x_retv, x_ifs, x_fors, x_whl, x_app, x_frz, x_aug, x_pass, x_brk, x_cont, x_seti, ifs_true, ifs_false, ife_true, ife_false, and_t, and_f, or_t, or_f, andt_t, andt_f, ort_t, ort_f, ForP, RtP, borOr, argOr, isBor, lookV, look, put, asg, asgs, pb, pbO, up_some, up_none, ok_bind, okp_ok, okp_bind, okp_bad, List.getElem?_cons_zero, List.getElem?_cons_succ, List.set_cons_zero, List.set_cons_succ, List.length_cons, List.length_nil, List.map_cons, List.map_nil, List.cons_append, List.nil_append, List.length_map, List.replicate_succ, List.replicate_zero, wipeE, List.length_replicate, bd_int, bd_abs, bd_len, bd_list, bd_tuple, bd_sorted, bd_sortedSet, bd_any, bd_all, bd_sum, bd_isi, bd_listRange, bd_min, bd_max, f_int, f_abs, f_lenT, f_lenL, f_lenF, f_all, f_any, tr_bl, tr_lst, tr_tup, own_lst, Nat.reduceSub, Nat.reduceAdd, Nat.reduceLT, Nat.reduceLeDiff, Nat.zero_lt_succ, ↓reduceIte, b_add, b_sub, k_lt, k_le, k_gt, k_ge, k_eq, k_ne, k_eqB, k_neB, Gx.within, gWithin, List.contains_cons, beq_self_eq_true, Bool.true_or, Bool.and_true, Bool.true_and, Bool.and_self, Bool.not_true, Bool.not_false, List.elem_cons, List.contains_eq_mem, List.mem_cons, true_or, or_true, decide_true, Bool.false_eq_true, if_false, exists_eq_left', Option.some.injEq, ix4]
  rw [b_mod (by decide)]
  simp -implicitDefEqProofs only [env0, e_var, e_non, e_bl, e_int, e_str, e_glob, e_bin, e_not, e_cmp, e_and, e_or, e_ife, e_tup, e_lst, e_ix, e_slc, e_call, e_blt, e_lc, e_ssc, e_rvs, v_nil, v_cons, a_nil, a_cons, bs_nil, bs_cons, asO_int, o_none, o_some, t_e, t_cmp, t_and, t_or, t_not, t_inr, inr_int, to_none, to_some, asSeq_tup, asSeq_lst, asSeq_fls, i_seq, i_rev, i_rng, i_rng2, s_nil, s_cons, seq_nx, seq_rt, seq_bk, seq_ct, x_set, x_own, x_ret, x_retn, x_retv, x_ifs, x_fors, x_whl, x_app, x_frz, x_aug, x_pass, x_brk, x_cont, x_seti, ifs_true, ifs_false, ife_true, ife_false, and_t, and_f, or_t, or_f, andt_t, andt_f, ort_t, ort_f, ForP, RtP, borOr, argOr, isBor, lookV, look, put, asg, asgs, pb, pbO, up_some, up_none, ok_bind, okp_ok, okp_bind, okp_bad, List.getElem?_cons_zero, List.getElem?_cons_succ, List.set_cons_zero, List.set_cons_succ, List.length_cons, List.length_nil, List.map_cons, List.map_nil, List.cons_append, List.nil_append, List.length_map, List.replicate_succ, List.replicate_zero, wipeE, List.length_replicate, bd_int, bd_abs, bd_len, bd_list, bd_tuple, bd_sorted, bd_sortedSet, bd_any, bd_all, bd_sum, bd_isi, bd_listRange, bd_min, bd_max, f_int, f_abs, f_lenT, f_lenL, f_lenF, f_all, f_any, tr_bl, tr_lst, tr_tup, own_lst, Nat.reduceSub, Nat.reduceAdd, Nat.reduceLT, Nat.reduceLeDiff, Nat.zero_lt_succ, ↓reduceIte, b_add, b_sub, k_lt, k_le, k_gt, k_ge, k_eq, k_ne, k_eqB, k_neB, Gx.within, gWithin, List.contains_cons, beq_self_eq_true, Bool.true_or, Bool.and_true, Bool.true_and, Bool.and_self, Bool.not_true, Bool.not_false, List.elem_cons, List.contains_eq_mem, List.mem_cons, true_or, or_true, decide_true, Bool.false_eq_true, if_false, exists_eq_left', Option.some.injEq, ix50]
  rw [b_mod (by decide), m1]
  walk_at "cr.ev"
  rw [show (1 + (m : Int)) = ((1 + m : Nat) : Int) by push_cast; rfl, asRng_nat _ (by omega)]
  walk_at "cr.ev"
  rw [lca (f := fun i : Nat => D.int i) (h := fun k => eT (termOf (dr ds (51 + k)) f))]
  rotate_left
  · intro k hk
    have hk := List.mem_range.mp hk
    walk_at "cr.ev"
    rw [show (51 + (k : Int)) = ((51 + k : Nat) : Int) by push_cast; rfl]
    simp -implicitDefEqProofs only [env0, e_var, e_non, e_bl, e_int, e_str, e_glob, e_bin, e_not, e_cmp, e_and, e_or, e_ife, e_tup, e_lst, e_ix, e_slc, e_call, e_blt, e_lc, e_ssc, e_rvs, v_nil, v_cons, a_nil, a_cons, bs_nil, bs_cons, asO_int, o_none, o_some, t_e, t_cmp, t_and, t_or, t_not, t_inr, inr_int, to_none, to_some, asSeq_tup, asSeq_lst, asSeq_fls, i_seq, i_rev, i_rng, i_rng2, s_nil, s_cons, seq_nx, seq_rt, seq_bk, seq_ct, x_set, x_own, x_ret, x_retn, x_retv, x_ifs, x_fors, x_whl, x_app, x_frz, x_aug, x_pass, x_brk, x_cont, x_seti, ifs_true, ifs_false, ife_true, ife_false, and_t, and_f, or_t, or_f, andt_t, andt_f, ort_t, ort_f, ForP, RtP, borOr, argOr, isBor, lookV, look, put, asg, asgs, pb, pbO, up_some, up_none, ok_bind, okp_ok, okp_bind, okp_bad, List.getElem?_cons_zero, List.getElem?_cons_succ, List.set_cons_zero, List.set_cons_succ, List.length_cons, List.length_nil, List.map_cons, List.map_nil, List.cons_append, List.nil_append, List.length_map, List.replicate_succ, List.replicate_zero, wipeE, List.length_replicate, bd_int, bd_abs, bd_len, bd_list, bd_tuple, bd_sorted, bd_sortedSet, bd_any, bd_all, bd_sum, bd_isi, bd_listRange, bd_min, bd_max, f_int, f_abs, f_lenT, f_lenL, f_lenF, f_all, f_any, tr_bl, tr_lst, tr_tup, own_lst, Nat.reduceSub, Nat.reduceAdd, Nat.reduceLT, Nat.reduceLeDiff, Nat.zero_lt_succ, ↓reduceIte, b_add, b_sub, k_lt, k_le, k_gt, k_ge, k_eq, k_ne, k_eqB, k_neB, Gx.within, gWithin, List.contains_cons, beq_self_eq_true, Bool.true_or, Bool.and_true, Bool.true_and, Bool.and_self, Bool.not_true, Bool.not_false, List.elem_cons, List.contains_eq_mem, List.mem_cons, true_or, or_true, decide_true, Bool.false_eq_true, if_false, exists_eq_left', Option.some.injEq, ix (51 + k) (by omega), callOr_val (as := [(.int (dr ds (51 + k)), false), (.int f, false)]) (c_term (n := n) h4) rfl]
  walk_at "cr.ev"
  rw [if_sz (by walk_at "cr.om")]
  have ed : (List.range (1 + m)).map (fun k => eT (termOf (dr ds (51 + k)) f)) = ((List.range (1 + m)).map fun k => termOf (dr ds (51 + k)) f).map eT := by rw [List.map_map]; rfl
  rw [ed]
  have D1 : ∀ t ∈ ((List.range (1 + m)).map fun k => termOf (dr ds (51 + k)) f), t.length = f := fun t ht => by
    obtain ⟨k, _, rfl⟩ := List.mem_map.mp ht
    simp [termOf]
  have D2 : ((List.range (1 + m)).map fun k => termOf (dr ds (51 + k)) f).length = 1 + m := by simp
  generalize ((List.range (1 + m)).map fun k => termOf (dr ds (51 + k)) f) = drawn at D1 D2 ⊢
  walk_at "cr.ev"
  rw [lcp (f := eI) (p := fun win => decide ((outP win yes).length = 0)) (h := eI)]
  rotate_left
  · intro win hwin
    have O := Ws win hwin
    walk_at "cr.ev"
    rw [lcp (f := D.int) (p := fun s => !decide (s ∈ yes)) (h := D.int)]
    · have hz : (win.filter fun s => !decide (s ∈ yes)).length ≤ 16777216 := Nat.le_trans (List.length_filter_le _ _) (by have := O.few; omega)
      walk_at "cr.ev"
      rw [if_sz hz]
      walk_at "cr.ev"
      refine ⟨?_, fun _ => trivial⟩
      unfold outP
      exact decide_eq_decide.mpr (by omega)
    · intro s hs
      simp -implicitDefEqProofs only [env0, e_var, e_non, e_bl, e_int, e_str, e_glob, e_bin, e_not, e_cmp, e_and, e_or, e_ife, e_tup, e_lst, e_ix, e_slc, e_call, e_blt, e_lc, e_ssc, e_rvs, v_nil, v_cons, a_nil, a_cons, bs_nil, bs_cons, asO_int, o_none, o_some, t_e, t_cmp, t_and, t_or, t_not, t_inr, inr_int, to_none, to_some, asSeq_tup, asSeq_lst, asSeq_fls, i_seq, i_rev, i_rng, i_rng2, s_nil, s_cons, seq_nx, seq_rt, seq_bk, seq_ct, x_set, x_own, x_ret, x_retn, x_retv, x_ifs, x_fors, x_whl, x_app, x_frz, x_aug, x_pass, x_brk, x_cont, x_seti, ifs_true, ifs_false, ife_true, ife_false, and_t, and_f, or_t, or_f, andt_t, andt_f, ort_t, ort_f, ForP, RtP, borOr, argOr, isBor, lookV, look, put, asg, asgs, pb, pbO, up_some, up_none, ok_bind, okp_ok, okp_bind, okp_bad, List.getElem?_cons_zero, List.getElem?_cons_succ, List.set_cons_zero, List.set_cons_succ, List.length_cons, List.length_nil, List.map_cons, List.map_nil, List.cons_append, List.nil_append, List.length_map, List.replicate_succ, List.replicate_zero, wipeE, List.length_replicate, bd_int, bd_abs, bd_len, bd_list, bd_tuple, bd_sorted, bd_sortedSet, bd_any, bd_all, bd_sum, bd_isi, bd_listRange, bd_min, bd_max, f_int, f_abs, f_lenT, f_lenL, f_lenF, f_all, f_any, tr_bl, tr_lst, tr_tup, own_lst, Nat.reduceSub, Nat.reduceAdd, Nat.reduceLT, Nat.reduceLeDiff, Nat.zero_lt_succ, ↓reduceIte, b_add, b_sub, k_lt, k_le, k_gt, k_ge, k_eq, k_ne, k_eqB, k_neB, Gx.within, gWithin, List.contains_cons, beq_self_eq_true, Bool.true_or, Bool.and_true, Bool.true_and, Bool.and_self, Bool.not_true, Bool.not_false, List.elem_cons, List.contains_eq_mem, List.mem_cons, true_or, or_true, decide_true, Bool.false_eq_true, if_false, exists_eq_left', Option.some.injEq, k_notIn (y := eI yes) s rfl]
      exact ⟨trivial, fun _ => trivial⟩
  walk_at "cr.ev"
  have hin : (windows.filter fun win => decide ((outP win yes).length = 0)).length ≤ 6 := Nat.le_trans (List.length_filter_le _ _) hw
  have hinm : ∀ win ∈ (windows.filter fun win => decide ((outP win yes).length = 0)), OkWin words win := fun win h => Ws win (List.mem_filter.mp h).1
  generalize (windows.filter fun win => decide ((outP win yes).length = 0)) = inner at hin hinm ⊢
  rw [if_sz (by walk_at "cr.om")]
  walk_at "cr.ev"
  rw [lca (f := eI) (h := fun win => eT (shTerm words win f))]
  rotate_left
  · intro win hwin
    simp -implicitDefEqProofs only [env0, e_var, e_non, e_bl, e_int, e_str, e_glob, e_bin, e_not, e_cmp, e_and, e_or, e_ife, e_tup, e_lst, e_ix, e_slc, e_call, e_blt, e_lc, e_ssc, e_rvs, v_nil, v_cons, a_nil, a_cons, bs_nil, bs_cons, asO_int, o_none, o_some, t_e, t_cmp, t_and, t_or, t_not, t_inr, inr_int, to_none, to_some, asSeq_tup, asSeq_lst, asSeq_fls, i_seq, i_rev, i_rng, i_rng2, s_nil, s_cons, seq_nx, seq_rt, seq_bk, seq_ct, x_set, x_own, x_ret, x_retn, x_retv, x_ifs, x_fors, x_whl, x_app, x_frz, x_aug, x_pass, x_brk, x_cont, x_seti, ifs_true, ifs_false, ife_true, ife_false, and_t, and_f, or_t, or_f, andt_t, andt_f, ort_t, ort_f, ForP, RtP, borOr, argOr, isBor, lookV, look, put, asg, asgs, pb, pbO, up_some, up_none, ok_bind, okp_ok, okp_bind, okp_bad, List.getElem?_cons_zero, List.getElem?_cons_succ, List.set_cons_zero, List.set_cons_succ, List.length_cons, List.length_nil, List.map_cons, List.map_nil, List.cons_append, List.nil_append, List.length_map, List.replicate_succ, List.replicate_zero, wipeE, List.length_replicate, bd_int, bd_abs, bd_len, bd_list, bd_tuple, bd_sorted, bd_sortedSet, bd_any, bd_all, bd_sum, bd_isi, bd_listRange, bd_min, bd_max, f_int, f_abs, f_lenT, f_lenL, f_lenF, f_all, f_any, tr_bl, tr_lst, tr_tup, own_lst, Nat.reduceSub, Nat.reduceAdd, Nat.reduceLT, Nat.reduceLeDiff, Nat.zero_lt_succ, ↓reduceIte, b_add, b_sub, k_lt, k_le, k_gt, k_ge, k_eq, k_ne, k_eqB, k_neB, Gx.within, gWithin, List.contains_cons, beq_self_eq_true, Bool.true_or, Bool.and_true, Bool.true_and, Bool.and_self, Bool.not_true, Bool.not_false, List.elem_cons, List.contains_eq_mem, List.mem_cons, true_or, or_true, decide_true, Bool.false_eq_true, if_false, exists_eq_left', Option.some.injEq, callOr_val (as := [(eW words, false), (eI win, false)]) (c_shared (n := n) W (hinm win hwin)) rfl]
  walk_at "cr.ev"
  rw [if_sz (by walk_at "cr.om")]
  have es : inner.map (fun win => eT (shTerm words win f)) = (inner.map fun win => shTerm words win f).map eT := by rw [List.map_map]; rfl
  rw [es]
  have S1 : ∀ t ∈ (inner.map fun win => shTerm words win f), t.length = f := fun t ht => by
    obtain ⟨k, _, rfl⟩ := List.mem_map.mp ht
    simp [shTerm]
  have S2 : (inner.map fun win => shTerm words win f).length ≤ 6 := by walk_at "cr.om"
  generalize (inner.map fun win => shTerm words win f) = shared at S1 S2 ⊢
  walk_at "cr.ev"
  refine p_ifs _ _ (fun h1 => ?_) fun h1 => ?_
  · walk_at "cr.ev"
    rw [if_sz (by decide)]
    walk_at "cr.ev"
    exact ⟨([], true), rfl, ⟨by decide, fun t h => nomatch h⟩, by decide⟩
  walk_at "cr.ev"
  refine p_ifs _ _ (fun h2 => ?_) fun h2 => ?_
  · walk_at "cr.ev"
    exact ⟨(drawn, false), rfl, ⟨by show drawn.length ≤ 20; omega, D1⟩, by show drawn.length ≤ 9; omega⟩
  walk_at "cr.ev"
  refine p_ifs _ _ (fun h3 => ?_) fun h3 => ?_
  · walk_at "cr.ev"
    exact ⟨(shared, false), rfl, ⟨by show shared.length ≤ 20; omega, S1⟩, by show shared.length ≤ 9; omega⟩
  walk_at "cr.ev"
  refine OkP.mono (Q := fun b => b = true → 0 < f) ?_ ?_
  · refine p_andt _ _ (fun h2 => ?_) (fun _ h => by cases h)
    walk_at "cr.ev"
    intro h4
    have := of_decide_eq_true h4
    omega
  intro b hb
  refine p_ifs _ _ (fun h2 => ?_) fun h2 => ?_
  · have g := hb h2
    obtain ⟨i, i1, i2⟩ := md (a := dr ds 56) (b := (f : Int)) (by omega)
    obtain ⟨j, j1, j2⟩ := md (a := dr ds 57) (b := 4) (by decide)
    have ek : drawn[0]? = some drawn[0] := List.getElem?_eq_getElem (by omega)
    have tl := D1 _ (List.mem_of_getElem? ek)
    generalize drawn[0] = t at ek tl
    have ixt : ixD (.lst (drawn.map eT)) false (.int 0) = some (eT t, false) := ix_mapI (g := eT) (k := 0) (by decide) rfl ek (.inl rfl)
    simp -implicitDefEqProofs only [env0, e_var, e_non, e_bl, e_int, e_str, e_glob, e_bin, e_not, e_cmp, e_and, e_or, e_ife, e_tup, e_lst, e_ix, e_slc, e_call, e_blt, e_lc, e_ssc, e_rvs, v_nil, v_cons, a_nil, a_cons, bs_nil, bs_cons, asO_int, o_none, o_some, t_e, t_cmp, t_and, t_or, t_not, t_inr, inr_int, to_none, to_some, asSeq_tup, asSeq_lst, asSeq_fls, i_seq, i_rev, i_rng, i_rng2, s_nil, s_cons, seq_nx, seq_rt, seq_bk, seq_ct, x_set, x_own, x_ret, x_retn, x_retv, x_ifs, x_fors, x_whl, x_app, x_frz, x_aug, x_pass, x_brk, x_cont, x_seti, ifs_true, ifs_false, ife_true, ife_false, and_t, and_f, or_t, or_f, andt_t, andt_f, ort_t, ort_f, ForP, RtP, borOr, argOr, isBor, lookV, look, put, asg, asgs, pb, pbO, up_some, up_none, ok_bind, okp_ok, okp_bind, okp_bad, List.getElem?_cons_zero, List.getElem?_cons_succ, List.set_cons_zero, List.set_cons_succ, List.length_cons, List.length_nil, List.map_cons, List.map_nil, List.cons_append, List.nil_append, List.length_map, List.replicate_succ, List.replicate_zero, wipeE, List.length_replicate, bd_int, bd_abs, bd_len, bd_list, bd_tuple, bd_sorted, bd_sortedSet, bd_any, bd_all, bd_sum, bd_isi, bd_listRange, bd_min, bd_max, f_int, f_abs, f_lenT, f_lenL, f_lenF, f_all, f_any, tr_bl, tr_lst, tr_tup, own_lst, Nat.reduceSub, Nat.reduceAdd, Nat.reduceLT, Nat.reduceLeDiff, Nat.zero_lt_succ, ↓reduceIte, b_add, b_sub, k_lt, k_le, k_gt, k_ge, k_eq, k_ne, k_eqB, k_neB, Gx.within, gWithin, List.contains_cons, beq_self_eq_true, Bool.true_or, Bool.and_true, Bool.true_and, Bool.and_self, Bool.not_true, Bool.not_false, List.elem_cons, List.contains_eq_mem, List.mem_cons, true_or, or_true, decide_true, Bool.false_eq_true, if_false, exists_eq_left', Option.some.injEq, ix56]
    rw [b_mod (by omega), i1]
    walk_at "cr.ev"
    rw [if_sz (by decide)]
    walk_at "cr.ev"
    rw [show [D.int 0, D.int 1] = [(0 : Int), 1].map D.int from rfl, lca (f := D.int) (h := fun v => eT (t.set i (some v)))]
    rotate_left
    · intro v hv
      simp -implicitDefEqProofs only [env0, e_var, e_non, e_bl, e_int, e_str, e_glob, e_bin, e_not, e_cmp, e_and, e_or, e_ife, e_tup, e_lst, e_ix, e_slc, e_call, e_blt, e_lc, e_ssc, e_rvs, v_nil, v_cons, a_nil, a_cons, bs_nil, bs_cons, asO_int, o_none, o_some, t_e, t_cmp, t_and, t_or, t_not, t_inr, inr_int, to_none, to_some, asSeq_tup, asSeq_lst, asSeq_fls, i_seq, i_rev, i_rng, i_rng2, s_nil, s_cons, seq_nx, seq_rt, seq_bk, seq_ct, x_set, x_own, x_ret, x_retn, x_retv, x_ifs, x_fors, x_whl, x_app, x_frz, x_aug, x_pass, x_brk, x_cont, x_seti, ifs_true, ifs_false, ife_true, ife_false, and_t, and_f, or_t, or_f, andt_t, andt_f, ort_t, ort_f, ForP, RtP, borOr, argOr, isBor, lookV, look, put, asg, asgs, pb, pbO, up_some, up_none, ok_bind, okp_ok, okp_bind, okp_bad, List.getElem?_cons_zero, List.getElem?_cons_succ, List.set_cons_zero, List.set_cons_succ, List.length_cons, List.length_nil, List.map_cons, List.map_nil, List.cons_append, List.nil_append, List.length_map, List.replicate_succ, List.replicate_zero, wipeE, List.length_replicate, bd_int, bd_abs, bd_len, bd_list, bd_tuple, bd_sorted, bd_sortedSet, bd_any, bd_all, bd_sum, bd_isi, bd_listRange, bd_min, bd_max, f_int, f_abs, f_lenT, f_lenL, f_lenF, f_all, f_any, tr_bl, tr_lst, tr_tup, own_lst, Nat.reduceSub, Nat.reduceAdd, Nat.reduceLT, Nat.reduceLeDiff, Nat.zero_lt_succ, ↓reduceIte, b_add, b_sub, k_lt, k_le, k_gt, k_ge, k_eq, k_ne, k_eqB, k_neB, Gx.within, gWithin, List.contains_cons, beq_self_eq_true, Bool.true_or, Bool.and_true, Bool.true_and, Bool.and_self, Bool.not_true, Bool.not_false, List.elem_cons, List.contains_eq_mem, List.mem_cons, true_or, or_true, decide_true, Bool.false_eq_true, if_false, exists_eq_left', Option.some.injEq, ixt, sl_to]
      rw [if_sz (by decide)]
      walk_at "cr.ev"
      rw [b_cat (by rw [sizeLine_eq]; walk_at "cr.om")]
      simp -implicitDefEqProofs only [env0, e_var, e_non, e_bl, e_int, e_str, e_glob, e_bin, e_not, e_cmp, e_and, e_or, e_ife, e_tup, e_lst, e_ix, e_slc, e_call, e_blt, e_lc, e_ssc, e_rvs, v_nil, v_cons, a_nil, a_cons, bs_nil, bs_cons, asO_int, o_none, o_some, t_e, t_cmp, t_and, t_or, t_not, t_inr, inr_int, to_none, to_some, asSeq_tup, asSeq_lst, asSeq_fls, i_seq, i_rev, i_rng, i_rng2, s_nil, s_cons, seq_nx, seq_rt, seq_bk, seq_ct, x_set, x_own, x_ret, x_retn, x_retv, x_ifs, x_fors, x_whl, x_app, x_frz, x_aug, x_pass, x_brk, x_cont, x_seti, ifs_true, ifs_false, ife_true, ife_false, and_t, and_f, or_t, or_f, andt_t, andt_f, ort_t, ort_f, ForP, RtP, borOr, argOr, isBor, lookV, look, put, asg, asgs, pb, pbO, up_some, up_none, ok_bind, okp_ok, okp_bind, okp_bad, List.getElem?_cons_zero, List.getElem?_cons_succ, List.set_cons_zero, List.set_cons_succ, List.length_cons, List.length_nil, List.map_cons, List.map_nil, List.cons_append, List.nil_append, List.length_map, List.replicate_succ, List.replicate_zero, wipeE, List.length_replicate, bd_int, bd_abs, bd_len, bd_list, bd_tuple, bd_sorted, bd_sortedSet, bd_any, bd_all, bd_sum, bd_isi, bd_listRange, bd_min, bd_max, f_int, f_abs, f_lenT, f_lenL, f_lenF, f_all, f_any, tr_bl, tr_lst, tr_tup, own_lst, Nat.reduceSub, Nat.reduceAdd, Nat.reduceLT, Nat.reduceLeDiff, Nat.zero_lt_succ, ↓reduceIte, b_add, b_sub, k_lt, k_le, k_gt, k_ge, k_eq, k_ne, k_eqB, k_neB, Gx.within, gWithin, List.contains_cons, beq_self_eq_true, Bool.true_or, Bool.and_true, Bool.true_and, Bool.and_self, Bool.not_true, Bool.not_false, List.elem_cons, List.contains_eq_mem, List.mem_cons, true_or, or_true, decide_true, Bool.false_eq_true, if_false, exists_eq_left', Option.some.injEq, ixt]
      rw [show ((i : Int) + 1) = ((i + 1 : Nat) : Int) from rfl]
      simp -implicitDefEqProofs only [env0, e_var, e_non, e_bl, e_int, e_str, e_glob, e_bin, e_not, e_cmp, e_and, e_or, e_ife, e_tup, e_lst, e_ix, e_slc, e_call, e_blt, e_lc, e_ssc, e_rvs, v_nil, v_cons, a_nil, a_cons, bs_nil, bs_cons, asO_int, o_none, o_some, t_e, t_cmp, t_and, t_or, t_not, t_inr, inr_int, to_none, to_some, asSeq_tup, asSeq_lst, asSeq_fls, i_seq, i_rev, i_rng, i_rng2, s_nil, s_cons, seq_nx, seq_rt, seq_bk, seq_ct, x_set, x_own, x_ret, x_retn, x_retv, x_ifs, x_fors, x_whl, x_app, x_frz, x_aug, x_pass, x_brk, x_cont, x_seti, ifs_true, ifs_false, ife_true, ife_false, and_t, and_f, or_t, or_f, andt_t, andt_f, ort_t, ort_f, ForP, RtP, borOr, argOr, isBor, lookV, look, put, asg, asgs, pb, pbO, up_some, up_none, ok_bind, okp_ok, okp_bind, okp_bad, List.getElem?_cons_zero, List.getElem?_cons_succ, List.set_cons_zero, List.set_cons_succ, List.length_cons, List.length_nil, List.map_cons, List.map_nil, List.cons_append, List.nil_append, List.length_map, List.replicate_succ, List.replicate_zero, wipeE, List.length_replicate, bd_int, bd_abs, bd_len, bd_list, bd_tuple, bd_sorted, bd_sortedSet, bd_any, bd_all, bd_sum, bd_isi, bd_listRange, bd_min, bd_max, f_int, f_abs, f_lenT, f_lenL, f_lenF, f_all, f_any, tr_bl, tr_lst, tr_tup, own_lst, Nat.reduceSub, Nat.reduceAdd, Nat.reduceLT, Nat.reduceLeDiff, Nat.zero_lt_succ, ↓reduceIte, b_add, b_sub, k_lt, k_le, k_gt, k_ge, k_eq, k_ne, k_eqB, k_neB, Gx.within, gWithin, List.contains_cons, beq_self_eq_true, Bool.true_or, Bool.and_true, Bool.true_and, Bool.and_self, Bool.not_true, Bool.not_false, List.elem_cons, List.contains_eq_mem, List.mem_cons, true_or, or_true, decide_true, Bool.false_eq_true, if_false, exists_eq_left', Option.some.injEq, sl_from]
      rw [b_cat (by rw [sizeLine_eq]; walk_at "cr.om"), show D.int v = eO (some v) from rfl, set_eq _ _ _ (by walk_at "cr.om"), ← List.map_set]
      walk_at "cr.ev"
    walk_at "cr.ev"
    rw [if_sz (by decide)]
    simp -implicitDefEqProofs only [env0, e_var, e_non, e_bl, e_int, e_str, e_glob, e_bin, e_not, e_cmp, e_and, e_or, e_ife, e_tup, e_lst, e_ix, e_slc, e_call, e_blt, e_lc, e_ssc, e_rvs, v_nil, v_cons, a_nil, a_cons, bs_nil, bs_cons, asO_int, o_none, o_some, t_e, t_cmp, t_and, t_or, t_not, t_inr, inr_int, to_none, to_some, asSeq_tup, asSeq_lst, asSeq_fls, i_seq, i_rev, i_rng, i_rng2, s_nil, s_cons, seq_nx, seq_rt, seq_bk, seq_ct, x_set, x_own, x_ret, x_retn, x_retv, x_ifs, x_fors, x_whl, x_app, x_frz, x_aug, x_pass, x_brk, x_cont, x_seti, ifs_true, ifs_false, ife_true, ife_false, and_t, and_f, or_t, or_f, andt_t, andt_f, ort_t, ort_f, ForP, RtP, borOr, argOr, isBor, lookV, look, put, asg, asgs, pb, pbO, up_some, up_none, ok_bind, okp_ok, okp_bind, okp_bad, List.getElem?_cons_zero, List.getElem?_cons_succ, List.set_cons_zero, List.set_cons_succ, List.length_cons, List.length_nil, List.map_cons, List.map_nil, List.cons_append, List.nil_append, List.length_map, List.replicate_succ, List.replicate_zero, wipeE, List.length_replicate, bd_int, bd_abs, bd_len, bd_list, bd_tuple, bd_sorted, bd_sortedSet, bd_any, bd_all, bd_sum, bd_isi, bd_listRange, bd_min, bd_max, f_int, f_abs, f_lenT, f_lenL, f_lenF, f_all, f_any, tr_bl, tr_lst, tr_tup, own_lst, Nat.reduceSub, Nat.reduceAdd, Nat.reduceLT, Nat.reduceLeDiff, Nat.zero_lt_succ, ↓reduceIte, b_add, b_sub, k_lt, k_le, k_gt, k_ge, k_eq, k_ne, k_eqB, k_neB, Gx.within, gWithin, List.contains_cons, beq_self_eq_true, Bool.true_or, Bool.and_true, Bool.true_and, Bool.and_self, Bool.not_true, Bool.not_false, List.elem_cons, List.contains_eq_mem, List.mem_cons, true_or, or_true, decide_true, Bool.false_eq_true, if_false, exists_eq_left', Option.some.injEq, ix57]
    rw [b_mod (by decide), j1]
    walk_at "cr.ev"
    obtain ⟨k, hk⟩ := sl_mid (drawn.map eT) false 1 j rfl
    have hk : slcD (.lst (drawn.map eT)) false (some 1) (some (j : Int)) = some (.lst (((drawn.map eT).drop (min 1 (drawn.map eT).length)).take k), true) := hk
    rw [hk]
    walk_at "cr.ev"
    have hm : min 1 (drawn.map eT).length = 1 := by walk_at "cr.om"
    rw [b_catL (by rw [sizeLine_eq]; walk_at "cr.om") rfl (nl_ok (fun x hx => by obtain ⟨i, _, rfl⟩ := List.mem_map.mp (List.mem_of_mem_drop (List.mem_of_mem_take hx)); rfl) _)]
    walk_at "cr.ev"
    refine ⟨([t.set i (some 0), t.set i (some 1)] ++ (drawn.drop (min 1 drawn.length)).take k, true), by rw [List.map_append, List.map_take, List.map_drop]; rfl, ?_, by walk_at "cr.om"⟩
    refine Cir.app (fun t' h => ?_) (fun t' h => D1 t' (List.mem_of_mem_drop (List.mem_of_mem_take h))) (by walk_at "cr.om")
    rcases List.mem_cons.mp h with q | q
    · rw [q, List.length_set, tl]
    · rw [List.mem_singleton.mp q, List.length_set, tl]
  walk_at "cr.ev"
  refine OkP.mono (Q := fun b => b = true → 0 < shared.length ∧ 0 < f) ?_ ?_
  · refine p_andt _ _ (fun h2 => ?_) (fun _ h => by cases h)
    walk_at "cr.ev"
    refine p_andt _ _ (fun h3 => ?_) (fun _ h => by cases h)
    walk_at "cr.ev"
    intro h4
    exact ⟨by have := of_decide_eq_true h3; omega, by have := of_decide_eq_true h4; omega⟩
  intro b hb
  refine p_ifs _ _ (fun h2 => ?_) fun h2 => ?_
  · obtain ⟨g1, g2⟩ := hb h2
    obtain ⟨k, k1, k2⟩ := md (a := dr ds 56) (b := (shared.length : Int)) (by omega)
    obtain ⟨i, i1, i2⟩ := md (a := dr ds 57) (b := (f : Int)) (by omega)
    obtain ⟨m, m1, m2⟩ := md (a := dr ds 58) (b := 3) (by decide)
    obtain ⟨o, o1⟩ := o3 (k := m) (by omega) m2
    have ek : shared[k]? = some shared[k] := List.getElem?_eq_getElem (by omega)
    have tl := S1 _ (List.mem_of_getElem? ek)
    generalize shared[k] = t at ek tl
    have ixt : ixD (.lst (shared.map eT)) false (.int k) = some (eT t, false) := ix_map (g := eT) k rfl ek (.inl rfl)
    simp -implicitDefEqProofs only [env0, e_var, e_non, e_bl, e_int, e_str, e_glob, e_bin, e_not, e_cmp, e_and, e_or, e_ife, e_tup, e_lst, e_ix, e_slc, e_call, e_blt, e_lc, e_ssc, e_rvs, v_nil, v_cons, a_nil, a_cons, bs_nil, bs_cons, asO_int, o_none, o_some, t_e, t_cmp, t_and, t_or, t_not, t_inr, inr_int, to_none, to_some, asSeq_tup, asSeq_lst, asSeq_fls, i_seq, i_rev, i_rng, i_rng2, s_nil, s_cons, seq_nx, seq_rt, seq_bk, seq_ct, x_set, x_own, x_ret, x_retn, x_retv, x_ifs, x_fors, x_whl, x_app, x_frz, x_aug, x_pass, x_brk, x_cont, x_seti, ifs_true, ifs_false, ife_true, ife_false, and_t, and_f, or_t, or_f, andt_t, andt_f, ort_t, ort_f, ForP, RtP, borOr, argOr, isBor, lookV, look, put, asg, asgs, pb, pbO, up_some, up_none, ok_bind, okp_ok, okp_bind, okp_bad, List.getElem?_cons_zero, List.getElem?_cons_succ, List.set_cons_zero, List.set_cons_succ, List.length_cons, List.length_nil, List.map_cons, List.map_nil, List.cons_append, List.nil_append, List.length_map, List.replicate_succ, List.replicate_zero, wipeE, List.length_replicate, bd_int, bd_abs, bd_len, bd_list, bd_tuple, bd_sorted, bd_sortedSet, bd_any, bd_all, bd_sum, bd_isi, bd_listRange, bd_min, bd_max, f_int, f_abs, f_lenT, f_lenL, f_lenF, f_all, f_any, tr_bl, tr_lst, tr_tup, own_lst, Nat.reduceSub, Nat.reduceAdd, Nat.reduceLT, Nat.reduceLeDiff, Nat.zero_lt_succ, ↓reduceIte, b_add, b_sub, k_lt, k_le, k_gt, k_ge, k_eq, k_ne, k_eqB, k_neB, Gx.within, gWithin, List.contains_cons, beq_self_eq_true, Bool.true_or, Bool.and_true, Bool.true_and, Bool.and_self, Bool.not_true, Bool.not_false, List.elem_cons, List.contains_eq_mem, List.mem_cons, true_or, or_true, decide_true, Bool.false_eq_true, if_false, exists_eq_left', Option.some.injEq, ix56]
    rw [b_mod (by omega), k1]
    simp -implicitDefEqProofs only [env0, e_var, e_non, e_bl, e_int, e_str, e_glob, e_bin, e_not, e_cmp, e_and, e_or, e_ife, e_tup, e_lst, e_ix, e_slc, e_call, e_blt, e_lc, e_ssc, e_rvs, v_nil, v_cons, a_nil, a_cons, bs_nil, bs_cons, asO_int, o_none, o_some, t_e, t_cmp, t_and, t_or, t_not, t_inr, inr_int, to_none, to_some, asSeq_tup, asSeq_lst, asSeq_fls, i_seq, i_rev, i_rng, i_rng2, s_nil, s_cons, seq_nx, seq_rt, seq_bk, seq_ct, x_set, x_own, x_ret, x_retn, x_retv, x_ifs, x_fors, x_whl, x_app, x_frz, x_aug, x_pass, x_brk, x_cont, x_seti, ifs_true, ifs_false, ife_true, ife_false, and_t, and_f, or_t, or_f, andt_t, andt_f, ort_t, ort_f, ForP, RtP, borOr, argOr, isBor, lookV, look, put, asg, asgs, pb, pbO, up_some, up_none, ok_bind, okp_ok, okp_bind, okp_bad, List.getElem?_cons_zero, List.getElem?_cons_succ, List.set_cons_zero, List.set_cons_succ, List.length_cons, List.length_nil, List.map_cons, List.map_nil, List.cons_append, List.nil_append, List.length_map, List.replicate_succ, List.replicate_zero, wipeE, List.length_replicate, bd_int, bd_abs, bd_len, bd_list, bd_tuple, bd_sorted, bd_sortedSet, bd_any, bd_all, bd_sum, bd_isi, bd_listRange, bd_min, bd_max, f_int, f_abs, f_lenT, f_lenL, f_lenF, f_all, f_any, tr_bl, tr_lst, tr_tup, own_lst, Nat.reduceSub, Nat.reduceAdd, Nat.reduceLT, Nat.reduceLeDiff, Nat.zero_lt_succ, ↓reduceIte, b_add, b_sub, k_lt, k_le, k_gt, k_ge, k_eq, k_ne, k_eqB, k_neB, Gx.within, gWithin, List.contains_cons, beq_self_eq_true, Bool.true_or, Bool.and_true, Bool.true_and, Bool.and_self, Bool.not_true, Bool.not_false, List.elem_cons, List.contains_eq_mem, List.mem_cons, true_or, or_true, decide_true, Bool.false_eq_true, if_false, exists_eq_left', Option.some.injEq, ix57]
    rw [b_mod (by omega), i1]
    walk_at "cr.ev"
    rw [if_sz (by decide)]
    simp -implicitDefEqProofs only [env0, e_var, e_non, e_bl, e_int, e_str, e_glob, e_bin, e_not, e_cmp, e_and, e_or, e_ife, e_tup, e_lst, e_ix, e_slc, e_call, e_blt, e_lc, e_ssc, e_rvs, v_nil, v_cons, a_nil, a_cons, bs_nil, bs_cons, asO_int, o_none, o_some, t_e, t_cmp, t_and, t_or, t_not, t_inr, inr_int, to_none, to_some, asSeq_tup, asSeq_lst, asSeq_fls, i_seq, i_rev, i_rng, i_rng2, s_nil, s_cons, seq_nx, seq_rt, seq_bk, seq_ct, x_set, x_own, x_ret, x_retn, x_retv, x_ifs, x_fors, x_whl, x_app, x_frz, x_aug, x_pass, x_brk, x_cont, x_seti, ifs_true, ifs_false, ife_true, ife_false, and_t, and_f, or_t, or_f, andt_t, andt_f, ort_t, ort_f, ForP, RtP, borOr, argOr, isBor, lookV, look, put, asg, asgs, pb, pbO, up_some, up_none, ok_bind, okp_ok, okp_bind, okp_bad, List.getElem?_cons_zero, List.getElem?_cons_succ, List.set_cons_zero, List.set_cons_succ, List.length_cons, List.length_nil, List.map_cons, List.map_nil, List.cons_append, List.nil_append, List.length_map, List.replicate_succ, List.replicate_zero, wipeE, List.length_replicate, bd_int, bd_abs, bd_len, bd_list, bd_tuple, bd_sorted, bd_sortedSet, bd_any, bd_all, bd_sum, bd_isi, bd_listRange, bd_min, bd_max, f_int, f_abs, f_lenT, f_lenL, f_lenF, f_all, f_any, tr_bl, tr_lst, tr_tup, own_lst, Nat.reduceSub, Nat.reduceAdd, Nat.reduceLT, Nat.reduceLeDiff, Nat.zero_lt_succ, ↓reduceIte, b_add, b_sub, k_lt, k_le, k_gt, k_ge, k_eq, k_ne, k_eqB, k_neB, Gx.within, gWithin, List.contains_cons, beq_self_eq_true, Bool.true_or, Bool.and_true, Bool.true_and, Bool.and_self, Bool.not_true, Bool.not_false, List.elem_cons, List.contains_eq_mem, List.mem_cons, true_or, or_true, decide_true, Bool.false_eq_true, if_false, exists_eq_left', Option.some.injEq, ix58]
    rw [b_mod (by decide), m1]
    simp -implicitDefEqProofs only [env0, e_var, e_non, e_bl, e_int, e_str, e_glob, e_bin, e_not, e_cmp, e_and, e_or, e_ife, e_tup, e_lst, e_ix, e_slc, e_call, e_blt, e_lc, e_ssc, e_rvs, v_nil, v_cons, a_nil, a_cons, bs_nil, bs_cons, asO_int, o_none, o_some, t_e, t_cmp, t_and, t_or, t_not, t_inr, inr_int, to_none, to_some, asSeq_tup, asSeq_lst, asSeq_fls, i_seq, i_rev, i_rng, i_rng2, s_nil, s_cons, seq_nx, seq_rt, seq_bk, seq_ct, x_set, x_own, x_ret, x_retn, x_retv, x_ifs, x_fors, x_whl, x_app, x_frz, x_aug, x_pass, x_brk, x_cont, x_seti, ifs_true, ifs_false, ife_true, ife_false, and_t, and_f, or_t, or_f, andt_t, andt_f, ort_t, ort_f, ForP, RtP, borOr, argOr, isBor, lookV, look, put, asg, asgs, pb, pbO, up_some, up_none, ok_bind, okp_ok, okp_bind, okp_bad, List.getElem?_cons_zero, List.getElem?_cons_succ, List.set_cons_zero, List.set_cons_succ, List.length_cons, List.length_nil, List.map_cons, List.map_nil, List.cons_append, List.nil_append, List.length_map, List.replicate_succ, List.replicate_zero, wipeE, List.length_replicate, bd_int, bd_abs, bd_len, bd_list, bd_tuple, bd_sorted, bd_sortedSet, bd_any, bd_all, bd_sum, bd_isi, bd_listRange, bd_min, bd_max, f_int, f_abs, f_lenT, f_lenL, f_lenF, f_all, f_any, tr_bl, tr_lst, tr_tup, own_lst, Nat.reduceSub, Nat.reduceAdd, Nat.reduceLT, Nat.reduceLeDiff, Nat.zero_lt_succ, ↓reduceIte, b_add, b_sub, k_lt, k_le, k_gt, k_ge, k_eq, k_ne, k_eqB, k_neB, Gx.within, gWithin, List.contains_cons, beq_self_eq_true, Bool.true_or, Bool.and_true, Bool.true_and, Bool.and_self, Bool.not_true, Bool.not_false, List.elem_cons, List.contains_eq_mem, List.mem_cons, true_or, or_true, decide_true, Bool.false_eq_true, if_false, exists_eq_left', Option.some.injEq, o1]
    rw [sl_toL _ _ _ rfl]
    simp -implicitDefEqProofs only [env0, e_var, e_non, e_bl, e_int, e_str, e_glob, e_bin, e_not, e_cmp, e_and, e_or, e_ife, e_tup, e_lst, e_ix, e_slc, e_call, e_blt, e_lc, e_ssc, e_rvs, v_nil, v_cons, a_nil, a_cons, bs_nil, bs_cons, asO_int, o_none, o_some, t_e, t_cmp, t_and, t_or, t_not, t_inr, inr_int, to_none, to_some, asSeq_tup, asSeq_lst, asSeq_fls, i_seq, i_rev, i_rng, i_rng2, s_nil, s_cons, seq_nx, seq_rt, seq_bk, seq_ct, x_set, x_own, x_ret, x_retn, x_retv, x_ifs, x_fors, x_whl, x_app, x_frz, x_aug, x_pass, x_brk, x_cont, x_seti, ifs_true, ifs_false, ife_true, ife_false, and_t, and_f, or_t, or_f, andt_t, andt_f, ort_t, ort_f, ForP, RtP, borOr, argOr, isBor, lookV, look, put, asg, asgs, pb, pbO, up_some, up_none, ok_bind, okp_ok, okp_bind, okp_bad, List.getElem?_cons_zero, List.getElem?_cons_succ, List.set_cons_zero, List.set_cons_succ, List.length_cons, List.length_nil, List.map_cons, List.map_nil, List.cons_append, List.nil_append, List.length_map, List.replicate_succ, List.replicate_zero, wipeE, List.length_replicate, bd_int, bd_abs, bd_len, bd_list, bd_tuple, bd_sorted, bd_sortedSet, bd_any, bd_all, bd_sum, bd_isi, bd_listRange, bd_min, bd_max, f_int, f_abs, f_lenT, f_lenL, f_lenF, f_all, f_any, tr_bl, tr_lst, tr_tup, own_lst, Nat.reduceSub, Nat.reduceAdd, Nat.reduceLT, Nat.reduceLeDiff, Nat.zero_lt_succ, ↓reduceIte, b_add, b_sub, k_lt, k_le, k_gt, k_ge, k_eq, k_ne, k_eqB, k_neB, Gx.within, gWithin, List.contains_cons, beq_self_eq_true, Bool.true_or, Bool.and_true, Bool.true_and, Bool.and_self, Bool.not_true, Bool.not_false, List.elem_cons, List.contains_eq_mem, List.mem_cons, true_or, or_true, decide_true, Bool.false_eq_true, if_false, exists_eq_left', Option.some.injEq, ixt, sl_to]
    rw [if_sz (by simp)]
    walk_at "cr.ev"
    rw [b_cat (by rw [sizeLine_eq]; walk_at "cr.om")]
    simp -implicitDefEqProofs only [env0, e_var, e_non, e_bl, e_int, e_str, e_glob, e_bin, e_not, e_cmp, e_and, e_or, e_ife, e_tup, e_lst, e_ix, e_slc, e_call, e_blt, e_lc, e_ssc, e_rvs, v_nil, v_cons, a_nil, a_cons, bs_nil, bs_cons, asO_int, o_none, o_some, t_e, t_cmp, t_and, t_or, t_not, t_inr, inr_int, to_none, to_some, asSeq_tup, asSeq_lst, asSeq_fls, i_seq, i_rev, i_rng, i_rng2, s_nil, s_cons, seq_nx, seq_rt, seq_bk, seq_ct, x_set, x_own, x_ret, x_retn, x_retv, x_ifs, x_fors, x_whl, x_app, x_frz, x_aug, x_pass, x_brk, x_cont, x_seti, ifs_true, ifs_false, ife_true, ife_false, and_t, and_f, or_t, or_f, andt_t, andt_f, ort_t, ort_f, ForP, RtP, borOr, argOr, isBor, lookV, look, put, asg, asgs, pb, pbO, up_some, up_none, ok_bind, okp_ok, okp_bind, okp_bad, List.getElem?_cons_zero, List.getElem?_cons_succ, List.set_cons_zero, List.set_cons_succ, List.length_cons, List.length_nil, List.map_cons, List.map_nil, List.cons_append, List.nil_append, List.length_map, List.replicate_succ, List.replicate_zero, wipeE, List.length_replicate, bd_int, bd_abs, bd_len, bd_list, bd_tuple, bd_sorted, bd_sortedSet, bd_any, bd_all, bd_sum, bd_isi, bd_listRange, bd_min, bd_max, f_int, f_abs, f_lenT, f_lenL, f_lenF, f_all, f_any, tr_bl, tr_lst, tr_tup, own_lst, Nat.reduceSub, Nat.reduceAdd, Nat.reduceLT, Nat.reduceLeDiff, Nat.zero_lt_succ, ↓reduceIte, b_add, b_sub, k_lt, k_le, k_gt, k_ge, k_eq, k_ne, k_eqB, k_neB, Gx.within, gWithin, List.contains_cons, beq_self_eq_true, Bool.true_or, Bool.and_true, Bool.true_and, Bool.and_self, Bool.not_true, Bool.not_false, List.elem_cons, List.contains_eq_mem, List.mem_cons, true_or, or_true, decide_true, Bool.false_eq_true, if_false, exists_eq_left', Option.some.injEq, ixt]
    rw [show ((i : Int) + 1) = ((i + 1 : Nat) : Int) from rfl]
    simp -implicitDefEqProofs only [env0, e_var, e_non, e_bl, e_int, e_str, e_glob, e_bin, e_not, e_cmp, e_and, e_or, e_ife, e_tup, e_lst, e_ix, e_slc, e_call, e_blt, e_lc, e_ssc, e_rvs, v_nil, v_cons, a_nil, a_cons, bs_nil, bs_cons, asO_int, o_none, o_some, t_e, t_cmp, t_and, t_or, t_not, t_inr, inr_int, to_none, to_some, asSeq_tup, asSeq_lst, asSeq_fls, i_seq, i_rev, i_rng, i_rng2, s_nil, s_cons, seq_nx, seq_rt, seq_bk, seq_ct, x_set, x_own, x_ret, x_retn, x_retv, x_ifs, x_fors, x_whl, x_app, x_frz, x_aug, x_pass, x_brk, x_cont, x_seti, ifs_true, ifs_false, ife_true, ife_false, and_t, and_f, or_t, or_f, andt_t, andt_f, ort_t, ort_f, ForP, RtP, borOr, argOr, isBor, lookV, look, put, asg, asgs, pb, pbO, up_some, up_none, ok_bind, okp_ok, okp_bind, okp_bad, List.getElem?_cons_zero, List.getElem?_cons_succ, List.set_cons_zero, List.set_cons_succ, List.length_cons, List.length_nil, List.map_cons, List.map_nil, List.cons_append, List.nil_append, List.length_map, List.replicate_succ, List.replicate_zero, wipeE, List.length_replicate, bd_int, bd_abs, bd_len, bd_list, bd_tuple, bd_sorted, bd_sortedSet, bd_any, bd_all, bd_sum, bd_isi, bd_listRange, bd_min, bd_max, f_int, f_abs, f_lenT, f_lenL, f_lenF, f_all, f_any, tr_bl, tr_lst, tr_tup, own_lst, Nat.reduceSub, Nat.reduceAdd, Nat.reduceLT, Nat.reduceLeDiff, Nat.zero_lt_succ, ↓reduceIte, b_add, b_sub, k_lt, k_le, k_gt, k_ge, k_eq, k_ne, k_eqB, k_neB, Gx.within, gWithin, List.contains_cons, beq_self_eq_true, Bool.true_or, Bool.and_true, Bool.true_and, Bool.and_self, Bool.not_true, Bool.not_false, List.elem_cons, List.contains_eq_mem, List.mem_cons, true_or, or_true, decide_true, Bool.false_eq_true, if_false, exists_eq_left', Option.some.injEq, sl_from]
    rw [b_cat (by rw [sizeLine_eq]; walk_at "cr.om"), set_eq _ _ _ (by walk_at "cr.om"), ← List.map_set]
    walk_at "cr.ev"
    rw [if_sz (by simp)]
    walk_at "cr.ev"
    rw [b_catL (by rw [sizeLine_eq]; walk_at "cr.om") (nl_ok (fun x hx => by obtain ⟨i, _, rfl⟩ := List.mem_map.mp (List.mem_of_mem_take hx); rfl) _) (nl_ok (fun x hx => by rw [List.mem_singleton.mp hx]; rfl) _)]
    walk_at "cr.ev"
    rw [show ((k : Int) + 1) = ((k + 1 : Nat) : Int) from rfl, sl_fromL _ _ _ rfl]
    walk_at "cr.ev"
    rw [b_catL (by rw [sizeLine_eq]; walk_at "cr.om") (nl_ok (fun x hx => by
        rcases List.mem_append.mp hx with hx | hx
        · obtain ⟨i, _, rfl⟩ := List.mem_map.mp (List.mem_of_mem_take hx); rfl
        · rw [List.mem_singleton.mp hx]; rfl) _) (nl_ok (fun x hx => by obtain ⟨i, _, rfl⟩ := List.mem_map.mp (List.mem_of_mem_drop hx); rfl) _)]
    walk_at "cr.ev"
    refine ⟨(shared.set k (t.set i o), true), by rw [set_eq _ _ _ (by walk_at "cr.om"), ← List.map_set], ⟨by walk_at "cr.om", fun t' h => ?_⟩, by walk_at "cr.om"⟩
    rcases List.mem_or_eq_of_mem_set h with q | q
    · exact S1 t' q
    · rw [q, List.length_set, tl]
  walk_at "cr.ev"
  rw [show (1 : Int) = ((1 : Nat) : Int) from rfl, sl_toL (drawn.map eT) false 1 rfl]
  walk_at "cr.ev"
  exact ⟨(drawn.take 1, true), by rw [List.map_take], ⟨by walk_at "cr.om", fun t h => D1 t (List.mem_of_mem_take h)⟩, by walk_at "cr.om"⟩
end K50
end

section
set_option maxHeartbeats 4000000
namespace K50
open PySem PySem.Spec PyProof.Rows L2 Cr

def pad {α : Type} (cut wide : Nat) (e : α) (l : List α) : List α := l.take cut ++ List.replicate wide e ++ l.drop cut
theorem pad_len {α : Type} {cut wide : Nat} {e : α} {l : List α} (h : cut ≤ l.length) : (pad cut wide e l).length = l.length + wide := by
  unfold pad
  simp
  omega
theorem pad_map {α β : Type} (g : α → β) (cut wide : Nat) (e : α) (l : List α) : (l.map g).take cut ++ List.replicate wide (g e) ++ (l.map g).drop cut = (pad cut wide e l).map g := by
  unfold pad
  simp
theorem pad_mem {α : Type} {cut wide : Nat} {e x : α} {l : List α} (h : x ∈ pad cut wide e l) : x = e ∨ x ∈ l := by
  unfold pad at h
  rcases List.mem_append.mp h with q | q
  · rcases List.mem_append.mp q with q | q
    · exact .inr (List.mem_of_mem_take q)
    · exact .inl (List.eq_of_mem_replicate q)
  · exact .inr (List.mem_of_mem_drop q)
theorem pad_in {α : Type} {cut wide i : Nat} {e : α} {l : List α} (h : cut ≤ l.length) (h1 : cut ≤ i) (h2 : i < cut + wide) : (pad cut wide e l)[i]? = some e := by
  unfold pad
  have hl : (l.take cut).length = cut := by rw [List.length_take]; omega
  rw [List.append_assoc, List.getElem?_append_right (by omega), List.getElem?_append_left (by rw [List.length_replicate]; omega), List.getElem?_replicate, if_pos (by omega)]
theorem asc_len : ∀ (l : List Int) (lo hi : Int), l.Pairwise (· < ·) → (∀ x ∈ l, lo ≤ x ∧ x < hi) → l.length ≤ (hi - lo).toNat
  | [], _, _, _, _ => Nat.zero_le _
  | x :: l, lo, hi, h, b => by
    obtain ⟨h1, h2⟩ := List.pairwise_cons.mp h
    have := asc_len l (x + 1) hi h2 fun y hy => ⟨by have := h1 y hy; omega, (b y (by simp [hy])).2⟩
    have hx := b x (by simp)
    rw [List.length_cons]
    omega
def cnt (cut wide i : Nat) : Nat := if i ≤ cut then i else if i ≤ cut + wide then cut else i - wide
/-- small words widened by one entry alike for all -/
theorem okM {small : List (List Int)} {win : List Int} {f cut wide : Nat} {c : Int} (W : OkW small f) (h4 : f ≤ 4) (hb : ∀ w ∈ small, ∀ v ∈ w, 0 ≤ v ∧ v < 2) (hc : 0 ≤ c ∧ c < 2) (hcut : cut ≤ f) (O : OkWin small win) : OkM (small.map (pad cut wide c)) win (f + wide) := by
  have wd : ∀ s ∈ win, word (small.map (pad cut wide c)) s = pad cut wide c (word small s) ∧ word small s ∈ small := fun s hs => by
    obtain ⟨h1, h2⟩ := O.at_ s hs
    unfold word
    rw [List.getD_eq_getElem?_getD, List.getD_eq_getElem?_getD, List.getElem?_map, List.getElem?_eq_getElem h2]
    exact ⟨rfl, List.getElem_mem h2⟩
  have two : ∀ i, (seen (small.map (pad cut wide c)) win i).length ≤ 2 := fun i => by
    refine asc_len _ 0 2 (usort_sorted _) fun x hx => ?_
    obtain ⟨s, hs, rfl⟩ := seen_mem.mp hx
    obtain ⟨e, m⟩ := wd s hs
    unfold wf
    rw [e, List.getD_eq_getElem?_getD]
    cases q : (pad cut wide c (word small s))[i]? with
    | none => exact ⟨by decide, by decide⟩
    | some v =>
      rcases pad_mem (List.mem_of_getElem? q) with z | z
      · show 0 ≤ v ∧ v < 2
        rw [z]; exact hc
      · exact hb _ m v z
  have one : ∀ i, cut ≤ i → i < cut + wide → (seen (small.map (pad cut wide c)) win i).length ≤ 1 := fun i h1 h2 => by
    have := asc_len _ c (c + 1) (usort_sorted (win.map (wf (small.map (pad cut wide c)) i))) fun x hx => by
      obtain ⟨s, hs, rfl⟩ := seen_mem.mp hx
      obtain ⟨e, m⟩ := wd s hs
      unfold wf
      rw [e, List.getD_eq_getElem?_getD, pad_in (by rw [W.len _ m]; exact hcut) h1 h2]
      exact ⟨Int.le_refl _, by show c < c + 1; omega⟩
    rw [show (c + 1 - c).toNat = 1 by omega] at this
    exact this
  have main : ∀ i, (mixF (small.map (pad cut wide c)) win i).length ≤ 2 ^ cnt cut wide i := by
    intro i
    induction i with
    | zero => exact Nat.one_le_two_pow
    | succ i ih =>
      show ((mixF (small.map (pad cut wide c)) win i).flatMap (longer (small.map (pad cut wide c)) win i)).length ≤ _
      rw [flat_len]
      by_cases q : cut ≤ i ∧ i < cut + wide
      · have e : cnt cut wide (i + 1) = cnt cut wide i := by
          unfold cnt
          split <;> split <;> (try split) <;> (try split) <;> omega
        rw [e]
        calc _ ≤ 2 ^ cnt cut wide i * 1 := Nat.mul_le_mul ih (one i q.1 q.2)
          _ = _ := Nat.mul_one _
      · have e : cnt cut wide (i + 1) = cnt cut wide i + 1 := by
          unfold cnt
          split <;> split <;> (try split) <;> (try split) <;> omega
        rw [e, Nat.pow_succ]
        exact Nat.mul_le_mul ih (two i)
  intro i hi
  have h1 : cnt cut wide i ≤ 4 := by
    unfold cnt
    split <;> (try split) <;> omega
  have h2 := Nat.pow_le_pow_right (show 0 < 2 by decide) h1
  exact Nat.le_trans (main i) (Nat.le_trans h2 (by decide))
theorem rowsOf_bits {ds : List Int} {s f : Nat} : ∀ w ∈ rowsOf ds s f, ∀ v ∈ w, 0 ≤ v ∧ v < 2 := fun w hw v hv => by
  obtain ⟨i, _, rfl⟩ := List.mem_map.mp hw
  obtain ⟨k, _, rfl⟩ := List.mem_map.mp hv
  omega
theorem pad_W {small : List (List Int)} {f cut wide : Nat} {c : Int} (W : OkW small f) (h4 : f ≤ 4) (hw : wide ≤ 40) (hcut : cut ≤ f) : OkW (small.map (pad cut wide c)) (f + wide) := by
  refine ⟨fun w h => ?_, fun e => W.ne (List.map_eq_nil_iff.mp e), by omega⟩
  obtain ⟨r, hr, rfl⟩ := List.mem_map.mp h
  rw [pad_len (by rw [W.len r hr]; exact hcut), W.len r hr]
theorem pad_C {f cut wide : Nat} {c : List (List (Option Int))} {o : Option Int} (C : Cir f c) (hcut : cut ≤ f) : OkC (c.map (pad cut wide o)) (.lst ((c.map (pad cut wide o)).map eT)) (f + wide) :=
  ⟨rfl, by have := C.few; walk_at "cr.om", fun t h => by
    obtain ⟨r, hr, rfl⟩ := List.mem_map.mp h
    rw [pad_len (by rw [C.len r hr]; exact hcut), C.len r hr]⟩
theorem o4 {c k : Int} (h0 : 0 ≤ k) (h1 : k < 4) : ∃ o : Option Int, ixD (.tup [.non, .int c, .int c, .int (1 - c)]) false (.int k) = some (eO o, false) := by
  have : k = 0 ∨ k = 1 ∨ k = 2 ∨ k = 3 := by omega
  rcases this with rfl | rfl | rfl | rfl
  · exact ⟨none, rfl⟩
  · exact ⟨some c, rfl⟩
  · exact ⟨some c, rfl⟩
  · exact ⟨some (1 - c), rfl⟩
end K50
end

section
set_option maxHeartbeats 8000000
namespace K50
open PySem PySem.Spec PyProof.Rows L2 Cr

theorem any_count {α : Type} (l : List α) (p : α → Bool) : (l.any p) = decide (0 < ((l.filter p).length : Int)) := by
  cases h : l.any p with
  | true =>
    obtain ⟨x, hx, hp⟩ := List.any_eq_true.mp h
    have := List.length_pos_of_mem (List.mem_filter.mpr ⟨hx, hp⟩)
    exact (decide_eq_true (by omega)).symm
  | false =>
    have : l.filter p = [] := List.filter_eq_nil_iff.mpr fun x hx => by
      have := List.any_eq_false.mp h x hx
      exact this
    rw [this]; rfl
theorem law_plain (ns : List Int) (h63 : ns.length ≤ 63) : ∃ fl, callN tbl 12 fd_law.name [.fls (ns.map D.int)] = .ok (.bl true, fl) := by
  refine ⟨false, call_eq (n := 11) (f := "law") fd_law rfl rfl (by decide) ?_⟩
  unfold fd_law
  obtain ⟨ds, q0, l70, bel⟩ := c_draws 10 ns h63
  have ix : ∀ k : Nat, k < 70 → ixD (.lst (ds.map D.int)) false (.int k) = some (.int (dr ds k), false) := fun k hk => ix_dr (by omega)
  have ix1 : ixD (.lst (ds.map D.int)) false (.int 1) = some (.int (dr ds 1), false) := ix 1 (by decide)
  have ix2 : ixD (.lst (ds.map D.int)) false (.int 2) = some (.int (dr ds 2), false) := ix 2 (by decide)
  have ix3 : ixD (.lst (ds.map D.int)) false (.int 3) = some (.int (dr ds 3), false) := ix 3 (by decide)
  have ix4 : ixD (.lst (ds.map D.int)) false (.int 4) = some (.int (dr ds 4), false) := ix 4 (by decide)
  have ix5 : ixD (.lst (ds.map D.int)) false (.int 5) = some (.int (dr ds 5), false) := ix 5 (by decide)
  have ix6 : ixD (.lst (ds.map D.int)) false (.int 6) = some (.int (dr ds 6), false) := ix 6 (by decide)
  have ix7 : ixD (.lst (ds.map D.int)) false (.int 7) = some (.int (dr ds 7), false) := ix 7 (by decide)
  have ix8 : ixD (.lst (ds.map D.int)) false (.int 8) = some (.int (dr ds 8), false) := ix 8 (by decide)
  have ix51 : ixD (.lst (ds.map D.int)) false (.int 51) = some (.int (dr ds 51), false) := ix 51 (by decide)
  have ix60 : ixD (.lst (ds.map D.int)) false (.int 60) = some (.int (dr ds 60), false) := ix 60 (by decide)
  have ix61 : ixD (.lst (ds.map D.int)) false (.int 61) = some (.int (dr ds 61), false) := ix 61 (by decide)
  have r3 : 0 ≤ dr ds 3 := by
    have e : ds[3]? = some ds[3] := List.getElem?_eq_getElem (by omega)
    unfold dr
    rw [List.getD_eq_getElem?_getD, e]
    exact (bel _ (List.mem_of_getElem? e)).1
  obtain ⟨s0, s1, s2⟩ := md (a := dr ds 1) (b := 6) (by decide)
  obtain ⟨f, f1, f2⟩ := md (a := dr ds 2) (b := 5) (by decide)
  obtain ⟨nw, nw1, nw2⟩ := md (a := dr ds 7) (b := 7) (by decide)
  simp -implicitDefEqProofs only [env0, e_var, e_non, e_bl, e_int, e_str, e_glob, e_bin, e_not, e_cmp, e_and, e_or, e_ife, e_tup, e_lst, e_ix, e_slc, e_call, e_blt, e_lc, e_ssc, e_rvs, v_nil, v_cons, a_nil, a_cons, bs_nil, bs_cons, asO_int, o_none, o_some, t_e, t_cmp, t_and, t_or, t_not, t_inr, inr_int, to_none, to_some, asSeq_tup, asSeq_lst, asSeq_fls, i_seq, i_rev, i_rng, i_rng2, s_nil, s_cons, seq_nx, seq_rt, seq_bk, seq_ct, x_set, x_own, x_ret, x_retn, x_retv, x_ifs, x_fors, x_whl, x_app, x_frz, x_aug, x_pass, x_brk, x_cont, x_seti, ifs_true, ifs_false, ife_true, ife_false, and_t, and_f, or_t, or_f, andt_t, andt_f, ort_t, ort_f, ForP, RtP, borOr, argOr, isBor, lookV, look, put, asg, asgs, pb, pbO, up_some, up_none, ok_bind, okp_ok, okp_bind, okp_bad, List.getElem?_cons_zero, List.getElem?_cons_succ, List.set_cons_zero, List.set_cons_succ, List.length_cons, List.length_nil, List.map_cons, List.map_nil, List.cons_append, List.nil_append, List.length_map, List.replicate_succ, List.replicate_zero, wipeE, List.length_replicate, bd_int, bd_abs, bd_len, bd_list, bd_tuple, bd_sorted, bd_sortedSet, bd_any, bd_all, bd_sum, bd_isi, bd_listRange, bd_min, bd_max, f_int, f_abs, f_lenT, f_lenL, f_lenF, f_all, f_any, tr_bl, tr_lst, tr_tup, own_lst, Nat.reduceSub, Nat.reduceAdd, Nat.reduceLT, Nat.reduceLeDiff, Nat.zero_lt_succ, ↓reduceIte, b_add, b_sub, k_lt, k_le, k_gt, k_ge, k_eq, k_ne, k_eqB, k_neB, Gx.within, gWithin, List.contains_cons, beq_self_eq_true, Bool.true_or, Bool.and_true, Bool.true_and, Bool.and_self, Bool.not_true, Bool.not_false, List.elem_cons, List.contains_eq_mem, List.mem_cons, true_or, or_true, decide_true, Bool.false_eq_true, if_false, exists_eq_left', Option.some.injEq, callOr_val (as := [(.fls (ns.map D.int), false), (.int 70, false)]) q0 rfl, ix1]
  rw [b_mod (by decide), s1]
  simp -implicitDefEqProofs only [env0, e_var, e_non, e_bl, e_int, e_str, e_glob, e_bin, e_not, e_cmp, e_and, e_or, e_ife, e_tup, e_lst, e_ix, e_slc, e_call, e_blt, e_lc, e_ssc, e_rvs, v_nil, v_cons, a_nil, a_cons, bs_nil, bs_cons, asO_int, o_none, o_some, t_e, t_cmp, t_and, t_or, t_not, t_inr, inr_int, to_none, to_some, asSeq_tup, asSeq_lst, asSeq_fls, i_seq, i_rev, i_rng, i_rng2, s_nil, s_cons, seq_nx, seq_rt, seq_bk, seq_ct, x_set, x_own, x_ret, x_retn, x_retv, x_ifs, x_fors, x_whl, x_app, x_frz, x_aug, x_pass, x_brk, x_cont, x_seti, ifs_true, ifs_false, ife_true, ife_false, and_t, and_f, or_t, or_f, andt_t, andt_f, ort_t, ort_f, ForP, RtP, borOr, argOr, isBor, lookV, look, put, asg, asgs, pb, pbO, up_some, up_none, ok_bind, okp_ok, okp_bind, okp_bad, List.getElem?_cons_zero, List.getElem?_cons_succ, List.set_cons_zero, List.set_cons_succ, List.length_cons, List.length_nil, List.map_cons, List.map_nil, List.cons_append, List.nil_append, List.length_map, List.replicate_succ, List.replicate_zero, wipeE, List.length_replicate, bd_int, bd_abs, bd_len, bd_list, bd_tuple, bd_sorted, bd_sortedSet, bd_any, bd_all, bd_sum, bd_isi, bd_listRange, bd_min, bd_max, f_int, f_abs, f_lenT, f_lenL, f_lenF, f_all, f_any, tr_bl, tr_lst, tr_tup, own_lst, Nat.reduceSub, Nat.reduceAdd, Nat.reduceLT, Nat.reduceLeDiff, Nat.zero_lt_succ, ↓reduceIte, b_add, b_sub, k_lt, k_le, k_gt, k_ge, k_eq, k_ne, k_eqB, k_neB, Gx.within, gWithin, List.contains_cons, beq_self_eq_true, Bool.true_or, Bool.and_true, Bool.true_and, Bool.and_self, Bool.not_true, Bool.not_false, List.elem_cons, List.contains_eq_mem, List.mem_cons, true_or, or_true, decide_true, Bool.false_eq_true, if_false, exists_eq_left', Option.some.injEq, ix2]
  rw [b_mod (by decide), f1, show (1 + (s0 : Int)) = ((1 + s0 : Nat) : Int) by push_cast; rfl]
  have hs1 : 1 ≤ 1 + s0 := by omega
  have hs6 : 1 + s0 ≤ 6 := by omega
  have h4 : f ≤ 4 := by omega
  generalize 1 + s0 = s at hs1 hs6 ⊢
  have q1 : callN tbl 11 "_law_words" [.lst (ds.map D.int), .int 10, .int s, .int f, .int 2] = .ok (eW (rowsOf ds s f), false) := c_words 10 l70 hs6 h4
  have W := rowsOf_ok (ds := ds) (f := f) hs1 h4
  have hbits := rowsOf_bits (ds := ds) (s := s) (f := f)
  have hsl : (rowsOf ds s f).length = s := by unfold rowsOf; rw [List.length_map, List.length_range]
  generalize rowsOf ds s f = small at q1 W hbits hsl
  simp -implicitDefEqProofs only [env0, e_var, e_non, e_bl, e_int, e_str, e_glob, e_bin, e_not, e_cmp, e_and, e_or, e_ife, e_tup, e_lst, e_ix, e_slc, e_call, e_blt, e_lc, e_ssc, e_rvs, v_nil, v_cons, a_nil, a_cons, bs_nil, bs_cons, asO_int, o_none, o_some, t_e, t_cmp, t_and, t_or, t_not, t_inr, inr_int, to_none, to_some, asSeq_tup, asSeq_lst, asSeq_fls, i_seq, i_rev, i_rng, i_rng2, s_nil, s_cons, seq_nx, seq_rt, seq_bk, seq_ct, x_set, x_own, x_ret, x_retn, x_retv, x_ifs, x_fors, x_whl, x_app, x_frz, x_aug, x_pass, x_brk, x_cont, x_seti, ifs_true, ifs_false, ife_true, ife_false, and_t, and_f, or_t, or_f, andt_t, andt_f, ort_t, ort_f, ForP, RtP, borOr, argOr, isBor, lookV, look, put, asg, asgs, pb, pbO, up_some, up_none, ok_bind, okp_ok, okp_bind, okp_bad, List.getElem?_cons_zero, List.getElem?_cons_succ, List.set_cons_zero, List.set_cons_succ, List.length_cons, List.length_nil, List.map_cons, List.map_nil, List.cons_append, List.nil_append, List.length_map, List.replicate_succ, List.replicate_zero, wipeE, List.length_replicate, bd_int, bd_abs, bd_len, bd_list, bd_tuple, bd_sorted, bd_sortedSet, bd_any, bd_all, bd_sum, bd_isi, bd_listRange, bd_min, bd_max, f_int, f_abs, f_lenT, f_lenL, f_lenF, f_all, f_any, tr_bl, tr_lst, tr_tup, own_lst, Nat.reduceSub, Nat.reduceAdd, Nat.reduceLT, Nat.reduceLeDiff, Nat.zero_lt_succ, ↓reduceIte, b_add, b_sub, k_lt, k_le, k_gt, k_ge, k_eq, k_ne, k_eqB, k_neB, Gx.within, gWithin, List.contains_cons, beq_self_eq_true, Bool.true_or, Bool.and_true, Bool.true_and, Bool.and_self, Bool.not_true, Bool.not_false, List.elem_cons, List.contains_eq_mem, List.mem_cons, true_or, or_true, decide_true, Bool.false_eq_true, if_false, exists_eq_left', Option.some.injEq, callOr_val (as := [(.lst (ds.map D.int), false), (.int 10, false), (.int s, false), (.int f, false), (.int 2, false)]) q1 rfl, ix7]
  rw [b_mod (by decide), nw1]
  walk_at "cr.ev"
  rw [asRng_nat _ (by omega)]
  walk_at "cr.ev"
  obtain ⟨wins, e1, e2, e3⟩ := lcx (call := callN tbl 11) (Γ := [some (.fls (ns.map D.int), false), some (.lst (ds.map D.int), false), some (.int (s : Nat), false), some (.int (f : Nat), false), some (eW small, false), none, none, none, none, none, none, none, none, none, none, none, none, none, none, none, none, none, none, none]) (own := [16]) (g := .nm 16) (e := .call "_law_lot" [.ix (.var 1) (.bin .Add (.int 40) (.var 16)), .var 2]) (fun i : Nat => D.int i) eI (fun _ win => WinOk s win) (List.range nw) fun k hk => by
    have hk := List.mem_range.mp hk
    obtain ⟨win, p1, p2⟩ := c_lot 10 (d := dr ds (40 + k)) hs1 hs6
    walk_at "cr.ev"
    rw [show (40 + (k : Int)) = ((40 + k : Nat) : Int) by push_cast; rfl]
    simp -implicitDefEqProofs only [env0, e_var, e_non, e_bl, e_int, e_str, e_glob, e_bin, e_not, e_cmp, e_and, e_or, e_ife, e_tup, e_lst, e_ix, e_slc, e_call, e_blt, e_lc, e_ssc, e_rvs, v_nil, v_cons, a_nil, a_cons, bs_nil, bs_cons, asO_int, o_none, o_some, t_e, t_cmp, t_and, t_or, t_not, t_inr, inr_int, to_none, to_some, asSeq_tup, asSeq_lst, asSeq_fls, i_seq, i_rev, i_rng, i_rng2, s_nil, s_cons, seq_nx, seq_rt, seq_bk, seq_ct, x_set, x_own, x_ret, x_retn, x_retv, x_ifs, x_fors, x_whl, x_app, x_frz, x_aug, x_pass, x_brk, x_cont, x_seti, ifs_true, ifs_false, ife_true, ife_false, and_t, and_f, or_t, or_f, andt_t, andt_f, ort_t, ort_f, ForP, RtP, borOr, argOr, isBor, lookV, look, put, asg, asgs, pb, pbO, up_some, up_none, ok_bind, okp_ok, okp_bind, okp_bad, List.getElem?_cons_zero, List.getElem?_cons_succ, List.set_cons_zero, List.set_cons_succ, List.length_cons, List.length_nil, List.map_cons, List.map_nil, List.cons_append, List.nil_append, List.length_map, List.replicate_succ, List.replicate_zero, wipeE, List.length_replicate, bd_int, bd_abs, bd_len, bd_list, bd_tuple, bd_sorted, bd_sortedSet, bd_any, bd_all, bd_sum, bd_isi, bd_listRange, bd_min, bd_max, f_int, f_abs, f_lenT, f_lenL, f_lenF, f_all, f_any, tr_bl, tr_lst, tr_tup, own_lst, Nat.reduceSub, Nat.reduceAdd, Nat.reduceLT, Nat.reduceLeDiff, Nat.zero_lt_succ, ↓reduceIte, b_add, b_sub, k_lt, k_le, k_gt, k_ge, k_eq, k_ne, k_eqB, k_neB, Gx.within, gWithin, List.contains_cons, beq_self_eq_true, Bool.true_or, Bool.and_true, Bool.true_and, Bool.and_self, Bool.not_true, Bool.not_false, List.elem_cons, List.contains_eq_mem, List.mem_cons, true_or, or_true, decide_true, Bool.false_eq_true, if_false, exists_eq_left', Option.some.injEq, ix (40 + k) (by omega), callOr_val (as := [(.int (dr ds (40 + k)), false), (.int s, false)]) p1 rfl]
    exact ⟨win, p2, rfl⟩
  rw [e1]
  have wok : ∀ win ∈ wins, OkWin small win := fun win hwin => by
    obtain ⟨i, hi, e⟩ := List.getElem_of_mem hwin
    have hr : (List.range nw)[i]? = some i := List.getElem?_range (by rw [List.length_range] at e2; omega)
    obtain ⟨y, y1, y2⟩ := e3 i i hr
    rw [List.getElem?_eq_getElem hi, e] at y1
    cases y1
    exact WinOk.win (by rw [hsl]; exact y2)
  have w6 : wins.length ≤ 6 := by rw [e2, List.length_range]; omega
  walk_at "cr.ev"
  rw [if_sz (by walk_at "cr.om")]
  walk_at "cr.ev"
  rw [asRng_nat _ (by omega)]
  walk_at "cr.ev"
  rw [lc_bits (v := dr ds 8 % 64) hs6 (by simp [wipeE]) (fun d => okp_eq (by simp -implicitDefEqProofs only [env0, e_var, e_non, e_bl, e_int, e_str, e_glob, e_bin, e_not, e_cmp, e_and, e_or, e_ife, e_tup, e_lst, e_ix, e_slc, e_call, e_blt, e_lc, e_ssc, e_rvs, v_nil, v_cons, a_nil, a_cons, bs_nil, bs_cons, asO_int, o_none, o_some, t_e, t_cmp, t_and, t_or, t_not, t_inr, inr_int, to_none, to_some, asSeq_tup, asSeq_lst, asSeq_fls, i_seq, i_rev, i_rng, i_rng2, s_nil, s_cons, seq_nx, seq_rt, seq_bk, seq_ct, x_set, x_own, x_ret, x_retn, x_retv, x_ifs, x_fors, x_whl, x_app, x_frz, x_aug, x_pass, x_brk, x_cont, x_seti, ifs_true, ifs_false, ife_true, ife_false, and_t, and_f, or_t, or_f, andt_t, andt_f, ort_t, ort_f, ForP, RtP, borOr, argOr, isBor, lookV, look, put, asg, asgs, pb, pbO, up_some, up_none, ok_bind, okp_ok, okp_bind, okp_bad, List.getElem?_cons_zero, List.getElem?_cons_succ, List.set_cons_zero, List.set_cons_succ, List.length_cons, List.length_nil, List.map_cons, List.map_nil, List.cons_append, List.nil_append, List.length_map, List.replicate_succ, List.replicate_zero, wipeE, List.length_replicate, bd_int, bd_abs, bd_len, bd_list, bd_tuple, bd_sorted, bd_sortedSet, bd_any, bd_all, bd_sum, bd_isi, bd_listRange, bd_min, bd_max, f_int, f_abs, f_lenT, f_lenL, f_lenF, f_all, f_any, tr_bl, tr_lst, tr_tup, own_lst, Nat.reduceSub, Nat.reduceAdd, Nat.reduceLT, Nat.reduceLeDiff, Nat.zero_lt_succ, ↓reduceIte, b_add, b_sub, k_lt, k_le, k_gt, k_ge, k_eq, k_ne, k_eqB, k_neB, Gx.within, gWithin, List.contains_cons, beq_self_eq_true, Bool.true_or, Bool.and_true, Bool.true_and, Bool.and_self, Bool.not_true, Bool.not_false, List.elem_cons, List.contains_eq_mem, List.mem_cons, true_or, or_true, decide_true, Bool.false_eq_true, if_false, exists_eq_left', Option.some.injEq, ix8]; rw [b_mod (by decide)]; walk_at "cr.ev")) rfl]
  walk_at "cr.ev"
  rw [if_sz (by have := (bitsOf_ok (v := dr ds 8 % 64) (s := s)).1; unfold bitsOf at this; rw [List.length_map] at this; walk_at "cr.om")]
  simp -implicitDefEqProofs only [env0, e_var, e_non, e_bl, e_int, e_str, e_glob, e_bin, e_not, e_cmp, e_and, e_or, e_ife, e_tup, e_lst, e_ix, e_slc, e_call, e_blt, e_lc, e_ssc, e_rvs, v_nil, v_cons, a_nil, a_cons, bs_nil, bs_cons, asO_int, o_none, o_some, t_e, t_cmp, t_and, t_or, t_not, t_inr, inr_int, to_none, to_some, asSeq_tup, asSeq_lst, asSeq_fls, i_seq, i_rev, i_rng, i_rng2, s_nil, s_cons, seq_nx, seq_rt, seq_bk, seq_ct, x_set, x_own, x_ret, x_retn, x_retv, x_ifs, x_fors, x_whl, x_app, x_frz, x_aug, x_pass, x_brk, x_cont, x_seti, ifs_true, ifs_false, ife_true, ife_false, and_t, and_f, or_t, or_f, andt_t, andt_f, ort_t, ort_f, ForP, RtP, borOr, argOr, isBor, lookV, look, put, asg, asgs, pb, pbO, up_some, up_none, ok_bind, okp_ok, okp_bind, okp_bad, List.getElem?_cons_zero, List.getElem?_cons_succ, List.set_cons_zero, List.set_cons_succ, List.length_cons, List.length_nil, List.map_cons, List.map_nil, List.cons_append, List.nil_append, List.length_map, List.replicate_succ, List.replicate_zero, wipeE, List.length_replicate, bd_int, bd_abs, bd_len, bd_list, bd_tuple, bd_sorted, bd_sortedSet, bd_any, bd_all, bd_sum, bd_isi, bd_listRange, bd_min, bd_max, f_int, f_abs, f_lenT, f_lenL, f_lenF, f_all, f_any, tr_bl, tr_lst, tr_tup, own_lst, Nat.reduceSub, Nat.reduceAdd, Nat.reduceLT, Nat.reduceLeDiff, Nat.zero_lt_succ, ↓reduceIte, b_add, b_sub, k_lt, k_le, k_gt, k_ge, k_eq, k_ne, k_eqB, k_neB, Gx.within, gWithin, List.contains_cons, beq_self_eq_true, Bool.true_or, Bool.and_true, Bool.true_and, Bool.and_self, Bool.not_true, Bool.not_false, List.elem_cons, List.contains_eq_mem, List.mem_cons, true_or, or_true, decide_true, Bool.false_eq_true, if_false, exists_eq_left', Option.some.injEq, ix4]
  rw [b_mod (by decide)]
  walk_at "cr.ev"
  refine OkP.mono (Q := fun b => ∃ yes : List Int, b = (.nx, [some (.fls (ns.map D.int), false), some (.lst (ds.map D.int), false), some (.int (s : Nat), false), some (.int (f : Nat), false), some (eW small, false), some (.lst (wins.map eI), false), some (.lst (yes.map D.int), false), none, none, none, none, none, none, none, none, none, none, none, none, none, none, none, none, none])) ?_ ?_
  · refine p_ifs _ _ (fun h1 => ?_) fun h1 => ?_
    · walk_at "cr.ev"
      rw [asRng_nat _ (by omega)]
      walk_at "cr.ev"
      rw [lcp (f := fun i : Nat => D.int i) (p := fun k => holdsP (termOf (dr ds 51) f) (small.getD k [])) (h := fun k => .int k)]
      · walk_at "cr.ev"
        have hz : ((List.range s).filter fun k => holdsP (termOf (dr ds 51) f) (small.getD k [])).length ≤ 16777216 := Nat.le_trans (List.length_filter_le _ _) (by rw [List.length_range]; omega)
        rw [if_sz hz]
        walk_at "cr.ev"
        exact ⟨((List.range s).filter fun k => holdsP (termOf (dr ds 51) f) (small.getD k [])).map fun k => ((k : Nat) : Int), by rw [List.map_map]; rfl⟩
      · intro k hk
        have hk := List.mem_range.mp hk
        have ek : small[k]? = some small[k] := List.getElem?_eq_getElem (by omega)
        have ixk : ixD (eW small) false (.int k) = some (eI small[k], false) := ix_map (g := eI) k rfl ek (.inl rfl)
        have lk := W.len _ (List.mem_of_getElem? ek)
        have lt : (termOf (dr ds 51) f).length = f := by simp [termOf]
        have t1 : callN tbl 11 "_law_term" [.int (dr ds 51), .int f] = .ok (eT (termOf (dr ds 51) f), false) := c_term 10 h4
        have t2 : callN tbl 11 "_law_holds" [eT (termOf (dr ds 51) f), eI small[k]] = .ok (.bl (holdsP (termOf (dr ds 51) f) small[k]), false) := c_lholds 10 _ _ (by omega) (by omega)
        simp -implicitDefEqProofs only [env0, e_var, e_non, e_bl, e_int, e_str, e_glob, e_bin, e_not, e_cmp, e_and, e_or, e_ife, e_tup, e_lst, e_ix, e_slc, e_call, e_blt, e_lc, e_ssc, e_rvs, v_nil, v_cons, a_nil, a_cons, bs_nil, bs_cons, asO_int, o_none, o_some, t_e, t_cmp, t_and, t_or, t_not, t_inr, inr_int, to_none, to_some, asSeq_tup, asSeq_lst, asSeq_fls, i_seq, i_rev, i_rng, i_rng2, s_nil, s_cons, seq_nx, seq_rt, seq_bk, seq_ct, x_set, x_own, x_ret, x_retn, x_retv, x_ifs, x_fors, x_whl, x_app, x_frz, x_aug, x_pass, x_brk, x_cont, x_seti, ifs_true, ifs_false, ife_true, ife_false, and_t, and_f, or_t, or_f, andt_t, andt_f, ort_t, ort_f, ForP, RtP, borOr, argOr, isBor, lookV, look, put, asg, asgs, pb, pbO, up_some, up_none, ok_bind, okp_ok, okp_bind, okp_bad, List.getElem?_cons_zero, List.getElem?_cons_succ, List.set_cons_zero, List.set_cons_succ, List.length_cons, List.length_nil, List.map_cons, List.map_nil, List.cons_append, List.nil_append, List.length_map, List.replicate_succ, List.replicate_zero, wipeE, List.length_replicate, bd_int, bd_abs, bd_len, bd_list, bd_tuple, bd_sorted, bd_sortedSet, bd_any, bd_all, bd_sum, bd_isi, bd_listRange, bd_min, bd_max, f_int, f_abs, f_lenT, f_lenL, f_lenF, f_all, f_any, tr_bl, tr_lst, tr_tup, own_lst, Nat.reduceSub, Nat.reduceAdd, Nat.reduceLT, Nat.reduceLeDiff, Nat.zero_lt_succ, ↓reduceIte, b_add, b_sub, k_lt, k_le, k_gt, k_ge, k_eq, k_ne, k_eqB, k_neB, Gx.within, gWithin, List.contains_cons, beq_self_eq_true, Bool.true_or, Bool.and_true, Bool.true_and, Bool.and_self, Bool.not_true, Bool.not_false, List.elem_cons, List.contains_eq_mem, List.mem_cons, true_or, or_true, decide_true, Bool.false_eq_true, if_false, exists_eq_left', Option.some.injEq, ix51, callOr_val (as := [(.int (dr ds 51), false), (.int f, false)]) t1 rfl, ixk, callOr_val (as := [(eT (termOf (dr ds 51) f), false), (eI small[k], false)]) t2 rfl]
        rw [List.getD_eq_getElem?_getD, ek]
        exact ⟨rfl, fun _ => trivial⟩
    · walk_at "cr.ev"
      exact ⟨bitsOf (dr ds 8 % 64) s, by unfold bitsOf; rw [List.map_map]; rfl⟩
  rintro b ⟨yes, rfl⟩
  simp -implicitDefEqProofs only [env0, e_var, e_non, e_bl, e_int, e_str, e_glob, e_bin, e_not, e_cmp, e_and, e_or, e_ife, e_tup, e_lst, e_ix, e_slc, e_call, e_blt, e_lc, e_ssc, e_rvs, v_nil, v_cons, a_nil, a_cons, bs_nil, bs_cons, asO_int, o_none, o_some, t_e, t_cmp, t_and, t_or, t_not, t_inr, inr_int, to_none, to_some, asSeq_tup, asSeq_lst, asSeq_fls, i_seq, i_rev, i_rng, i_rng2, s_nil, s_cons, seq_nx, seq_rt, seq_bk, seq_ct, x_set, x_own, x_ret, x_retn, x_retv, x_ifs, x_fors, x_whl, x_app, x_frz, x_aug, x_pass, x_brk, x_cont, x_seti, ifs_true, ifs_false, ife_true, ife_false, and_t, and_f, or_t, or_f, andt_t, andt_f, ort_t, ort_f, ForP, RtP, borOr, argOr, isBor, lookV, look, put, asg, asgs, pb, pbO, up_some, up_none, ok_bind, okp_ok, okp_bind, okp_bad, List.getElem?_cons_zero, List.getElem?_cons_succ, List.set_cons_zero, List.set_cons_succ, List.length_cons, List.length_nil, List.map_cons, List.map_nil, List.cons_append, List.nil_append, List.length_map, List.replicate_succ, List.replicate_zero, wipeE, List.length_replicate, bd_int, bd_abs, bd_len, bd_list, bd_tuple, bd_sorted, bd_sortedSet, bd_any, bd_all, bd_sum, bd_isi, bd_listRange, bd_min, bd_max, f_int, f_abs, f_lenT, f_lenL, f_lenF, f_all, f_any, tr_bl, tr_lst, tr_tup, own_lst, Nat.reduceSub, Nat.reduceAdd, Nat.reduceLT, Nat.reduceLeDiff, Nat.zero_lt_succ, ↓reduceIte, b_add, b_sub, k_lt, k_le, k_gt, k_ge, k_eq, k_ne, k_eqB, k_neB, Gx.within, gWithin, List.contains_cons, beq_self_eq_true, Bool.true_or, Bool.and_true, Bool.true_and, Bool.and_self, Bool.not_true, Bool.not_false, List.elem_cons, List.contains_eq_mem, List.mem_cons, true_or, or_true, decide_true, Bool.false_eq_true, if_false, exists_eq_left', Option.some.injEq, f_tuple (x := .lst (yes.map D.int)) (f := false) rfl rfl]
  obtain ⟨⟨c1, fl1⟩, v1, v2, v3⟩ := c_circuit 9 (ds := ds) (yes := yes) l70 W h4 w6 wok
  obtain ⟨⟨c2, fl2⟩, u1, u2⟩ := c_varied 9 v2 (by show c1.length ≤ 10; have : c1.length ≤ 9 := v3; omega) h4 (kind := dr ds 60 % 6) (d := dr ds 61)
  dsimp only at v1 v2 v3 u1 u2
  simp -implicitDefEqProofs only [env0, e_var, e_non, e_bl, e_int, e_str, e_glob, e_bin, e_not, e_cmp, e_and, e_or, e_ife, e_tup, e_lst, e_ix, e_slc, e_call, e_blt, e_lc, e_ssc, e_rvs, v_nil, v_cons, a_nil, a_cons, bs_nil, bs_cons, asO_int, o_none, o_some, t_e, t_cmp, t_and, t_or, t_not, t_inr, inr_int, to_none, to_some, asSeq_tup, asSeq_lst, asSeq_fls, i_seq, i_rev, i_rng, i_rng2, s_nil, s_cons, seq_nx, seq_rt, seq_bk, seq_ct, x_set, x_own, x_ret, x_retn, x_retv, x_ifs, x_fors, x_whl, x_app, x_frz, x_aug, x_pass, x_brk, x_cont, x_seti, ifs_true, ifs_false, ife_true, ife_false, and_t, and_f, or_t, or_f, andt_t, andt_f, ort_t, ort_f, ForP, RtP, borOr, argOr, isBor, lookV, look, put, asg, asgs, pb, pbO, up_some, up_none, ok_bind, okp_ok, okp_bind, okp_bad, List.getElem?_cons_zero, List.getElem?_cons_succ, List.set_cons_zero, List.set_cons_succ, List.length_cons, List.length_nil, List.map_cons, List.map_nil, List.cons_append, List.nil_append, List.length_map, List.replicate_succ, List.replicate_zero, wipeE, List.length_replicate, bd_int, bd_abs, bd_len, bd_list, bd_tuple, bd_sorted, bd_sortedSet, bd_any, bd_all, bd_sum, bd_isi, bd_listRange, bd_min, bd_max, f_int, f_abs, f_lenT, f_lenL, f_lenF, f_all, f_any, tr_bl, tr_lst, tr_tup, own_lst, Nat.reduceSub, Nat.reduceAdd, Nat.reduceLT, Nat.reduceLeDiff, Nat.zero_lt_succ, ↓reduceIte, b_add, b_sub, k_lt, k_le, k_gt, k_ge, k_eq, k_ne, k_eqB, k_neB, Gx.within, gWithin, List.contains_cons, beq_self_eq_true, Bool.true_or, Bool.and_true, Bool.true_and, Bool.and_self, Bool.not_true, Bool.not_false, List.elem_cons, List.contains_eq_mem, List.mem_cons, true_or, or_true, decide_true, Bool.false_eq_true, if_false, exists_eq_left', Option.some.injEq, callOr_val (as := [(.lst (ds.map D.int), false), (eW small, false), (.lst (wins.map eI), false), (eI yes, false), (.int f, false)]) v1 rfl, ix60]
  rw [b_mod (by decide)]
  simp -implicitDefEqProofs only [env0, e_var, e_non, e_bl, e_int, e_str, e_glob, e_bin, e_not, e_cmp, e_and, e_or, e_ife, e_tup, e_lst, e_ix, e_slc, e_call, e_blt, e_lc, e_ssc, e_rvs, v_nil, v_cons, a_nil, a_cons, bs_nil, bs_cons, asO_int, o_none, o_some, t_e, t_cmp, t_and, t_or, t_not, t_inr, inr_int, to_none, to_some, asSeq_tup, asSeq_lst, asSeq_fls, i_seq, i_rev, i_rng, i_rng2, s_nil, s_cons, seq_nx, seq_rt, seq_bk, seq_ct, x_set, x_own, x_ret, x_retn, x_retv, x_ifs, x_fors, x_whl, x_app, x_frz, x_aug, x_pass, x_brk, x_cont, x_seti, ifs_true, ifs_false, ife_true, ife_false, and_t, and_f, or_t, or_f, andt_t, andt_f, ort_t, ort_f, ForP, RtP, borOr, argOr, isBor, lookV, look, put, asg, asgs, pb, pbO, up_some, up_none, ok_bind, okp_ok, okp_bind, okp_bad, List.getElem?_cons_zero, List.getElem?_cons_succ, List.set_cons_zero, List.set_cons_succ, List.length_cons, List.length_nil, List.map_cons, List.map_nil, List.cons_append, List.nil_append, List.length_map, List.replicate_succ, List.replicate_zero, wipeE, List.length_replicate, bd_int, bd_abs, bd_len, bd_list, bd_tuple, bd_sorted, bd_sortedSet, bd_any, bd_all, bd_sum, bd_isi, bd_listRange, bd_min, bd_max, f_int, f_abs, f_lenT, f_lenL, f_lenF, f_all, f_any, tr_bl, tr_lst, tr_tup, own_lst, Nat.reduceSub, Nat.reduceAdd, Nat.reduceLT, Nat.reduceLeDiff, Nat.zero_lt_succ, ↓reduceIte, b_add, b_sub, k_lt, k_le, k_gt, k_ge, k_eq, k_ne, k_eqB, k_neB, Gx.within, gWithin, List.contains_cons, beq_self_eq_true, Bool.true_or, Bool.and_true, Bool.true_and, Bool.and_self, Bool.not_true, Bool.not_false, List.elem_cons, List.contains_eq_mem, List.mem_cons, true_or, or_true, decide_true, Bool.false_eq_true, if_false, exists_eq_left', Option.some.injEq, ix61, callOr_val (as := [(.lst (c1.map eT), false), (.int f, false), (.int (dr ds 60 % 6), false), (.int (dr ds 61), false)]) u1 rfl, ix3]
  rw [b_mod (by decide)]
  walk_at "cr.ev"
  refine OkP.mono (Q := fun b => ∃ wide : Nat, wide ≤ 39 ∧ b = (.nx, [some (.fls (ns.map D.int), false), some (.lst (ds.map D.int), false), some (.int (s : Nat), false), some (.int (f : Nat), false), some (eW small, false), some (.lst (wins.map eI), false), some (eI yes, false), some (.lst (c1.map eT), false), some (.lst (c2.map eT), false), some (.int (wide : Nat), false), none, none, none, none, none, none, none, none, none, none, none, none, none, none])) ?_ ?_
  · refine p_ifs _ _ (fun h1 => ?_) fun h1 => ?_
    · simp -implicitDefEqProofs only [env0, e_var, e_non, e_bl, e_int, e_str, e_glob, e_bin, e_not, e_cmp, e_and, e_or, e_ife, e_tup, e_lst, e_ix, e_slc, e_call, e_blt, e_lc, e_ssc, e_rvs, v_nil, v_cons, a_nil, a_cons, bs_nil, bs_cons, asO_int, o_none, o_some, t_e, t_cmp, t_and, t_or, t_not, t_inr, inr_int, to_none, to_some, asSeq_tup, asSeq_lst, asSeq_fls, i_seq, i_rev, i_rng, i_rng2, s_nil, s_cons, seq_nx, seq_rt, seq_bk, seq_ct, x_set, x_own, x_ret, x_retn, x_retv, x_ifs, x_fors, x_whl, x_app, x_frz, x_aug, x_pass, x_brk, x_cont, x_seti, ifs_true, ifs_false, ife_true, ife_false, and_t, and_f, or_t, or_f, andt_t, andt_f, ort_t, ort_f, ForP, RtP, borOr, argOr, isBor, lookV, look, put, asg, asgs, pb, pbO, up_some, up_none, ok_bind, okp_ok, okp_bind, okp_bad, List.getElem?_cons_zero, List.getElem?_cons_succ, List.set_cons_zero, List.set_cons_succ, List.length_cons, List.length_nil, List.map_cons, List.map_nil, List.cons_append, List.nil_append, List.length_map, List.replicate_succ, List.replicate_zero, wipeE, List.length_replicate, bd_int, bd_abs, bd_len, bd_list, bd_tuple, bd_sorted, bd_sortedSet, bd_any, bd_all, bd_sum, bd_isi, bd_listRange, bd_min, bd_max, f_int, f_abs, f_lenT, f_lenL, f_lenF, f_all, f_any, tr_bl, tr_lst, tr_tup, own_lst, Nat.reduceSub, Nat.reduceAdd, Nat.reduceLT, Nat.reduceLeDiff, Nat.zero_lt_succ, ↓reduceIte, b_add, b_sub, k_lt, k_le, k_gt, k_ge, k_eq, k_ne, k_eqB, k_neB, Gx.within, gWithin, List.contains_cons, beq_self_eq_true, Bool.true_or, Bool.and_true, Bool.true_and, Bool.and_self, Bool.not_true, Bool.not_false, List.elem_cons, List.contains_eq_mem, List.mem_cons, true_or, or_true, decide_true, Bool.false_eq_true, if_false, exists_eq_left', Option.some.injEq, ix3]
      rw [b_div (by decide)]
      walk_at "cr.ev"
      obtain ⟨m, m1, m2⟩ := md (a := dr ds 3 / 4) (b := 40) (by decide)
      rw [b_mod (by decide), m1]
      walk_at "cr.ev"
      exact ⟨m, by omega, rfl⟩
    · walk_at "cr.ev"
      exact ⟨0, by decide, rfl⟩
  rintro b ⟨wide, hwide, rfl⟩
  obtain ⟨cut, k1, k2⟩ := md (a := dr ds 5) (b := (f : Int) + 1) (by omega)
  obtain ⟨cst, g1, g2⟩ := md (a := dr ds 6) (b := 2) (by decide)
  obtain ⟨m, m1, m2⟩ := md (a := dr ds 6 / 2) (b := 4) (by decide)
  obtain ⟨o, o1⟩ := o4 (c := (cst : Int)) (k := m) (by omega) m2
  simp -implicitDefEqProofs only [env0, e_var, e_non, e_bl, e_int, e_str, e_glob, e_bin, e_not, e_cmp, e_and, e_or, e_ife, e_tup, e_lst, e_ix, e_slc, e_call, e_blt, e_lc, e_ssc, e_rvs, v_nil, v_cons, a_nil, a_cons, bs_nil, bs_cons, asO_int, o_none, o_some, t_e, t_cmp, t_and, t_or, t_not, t_inr, inr_int, to_none, to_some, asSeq_tup, asSeq_lst, asSeq_fls, i_seq, i_rev, i_rng, i_rng2, s_nil, s_cons, seq_nx, seq_rt, seq_bk, seq_ct, x_set, x_own, x_ret, x_retn, x_retv, x_ifs, x_fors, x_whl, x_app, x_frz, x_aug, x_pass, x_brk, x_cont, x_seti, ifs_true, ifs_false, ife_true, ife_false, and_t, and_f, or_t, or_f, andt_t, andt_f, ort_t, ort_f, ForP, RtP, borOr, argOr, isBor, lookV, look, put, asg, asgs, pb, pbO, up_some, up_none, ok_bind, okp_ok, okp_bind, okp_bad, List.getElem?_cons_zero, List.getElem?_cons_succ, List.set_cons_zero, List.set_cons_succ, List.length_cons, List.length_nil, List.map_cons, List.map_nil, List.cons_append, List.nil_append, List.length_map, List.replicate_succ, List.replicate_zero, wipeE, List.length_replicate, bd_int, bd_abs, bd_len, bd_list, bd_tuple, bd_sorted, bd_sortedSet, bd_any, bd_all, bd_sum, bd_isi, bd_listRange, bd_min, bd_max, f_int, f_abs, f_lenT, f_lenL, f_lenF, f_all, f_any, tr_bl, tr_lst, tr_tup, own_lst, Nat.reduceSub, Nat.reduceAdd, Nat.reduceLT, Nat.reduceLeDiff, Nat.zero_lt_succ, ↓reduceIte, b_add, b_sub, k_lt, k_le, k_gt, k_ge, k_eq, k_ne, k_eqB, k_neB, Gx.within, gWithin, List.contains_cons, beq_self_eq_true, Bool.true_or, Bool.and_true, Bool.true_and, Bool.and_self, Bool.not_true, Bool.not_false, List.elem_cons, List.contains_eq_mem, List.mem_cons, true_or, or_true, decide_true, Bool.false_eq_true, if_false, exists_eq_left', Option.some.injEq, ix5]
  rw [b_mod (by omega), k1]
  simp -implicitDefEqProofs only [env0, e_var, e_non, e_bl, e_int, e_str, e_glob, e_bin, e_not, e_cmp, e_and, e_or, e_ife, e_tup, e_lst, e_ix, e_slc, e_call, e_blt, e_lc, e_ssc, e_rvs, v_nil, v_cons, a_nil, a_cons, bs_nil, bs_cons, asO_int, o_none, o_some, t_e, t_cmp, t_and, t_or, t_not, t_inr, inr_int, to_none, to_some, asSeq_tup, asSeq_lst, asSeq_fls, i_seq, i_rev, i_rng, i_rng2, s_nil, s_cons, seq_nx, seq_rt, seq_bk, seq_ct, x_set, x_own, x_ret, x_retn, x_retv, x_ifs, x_fors, x_whl, x_app, x_frz, x_aug, x_pass, x_brk, x_cont, x_seti, ifs_true, ifs_false, ife_true, ife_false, and_t, and_f, or_t, or_f, andt_t, andt_f, ort_t, ort_f, ForP, RtP, borOr, argOr, isBor, lookV, look, put, asg, asgs, pb, pbO, up_some, up_none, ok_bind, okp_ok, okp_bind, okp_bad, List.getElem?_cons_zero, List.getElem?_cons_succ, List.set_cons_zero, List.set_cons_succ, List.length_cons, List.length_nil, List.map_cons, List.map_nil, List.cons_append, List.nil_append, List.length_map, List.replicate_succ, List.replicate_zero, wipeE, List.length_replicate, bd_int, bd_abs, bd_len, bd_list, bd_tuple, bd_sorted, bd_sortedSet, bd_any, bd_all, bd_sum, bd_isi, bd_listRange, bd_min, bd_max, f_int, f_abs, f_lenT, f_lenL, f_lenF, f_all, f_any, tr_bl, tr_lst, tr_tup, own_lst, Nat.reduceSub, Nat.reduceAdd, Nat.reduceLT, Nat.reduceLeDiff, Nat.zero_lt_succ, ↓reduceIte, b_add, b_sub, k_lt, k_le, k_gt, k_ge, k_eq, k_ne, k_eqB, k_neB, Gx.within, gWithin, List.contains_cons, beq_self_eq_true, Bool.true_or, Bool.and_true, Bool.true_and, Bool.and_self, Bool.not_true, Bool.not_false, List.elem_cons, List.contains_eq_mem, List.mem_cons, true_or, or_true, decide_true, Bool.false_eq_true, if_false, exists_eq_left', Option.some.injEq, ix6]
  rw [b_mod (by decide), g1]
  walk_at "cr.ev"
  rw [if_sz (by decide)]
  simp -implicitDefEqProofs only [env0, e_var, e_non, e_bl, e_int, e_str, e_glob, e_bin, e_not, e_cmp, e_and, e_or, e_ife, e_tup, e_lst, e_ix, e_slc, e_call, e_blt, e_lc, e_ssc, e_rvs, v_nil, v_cons, a_nil, a_cons, bs_nil, bs_cons, asO_int, o_none, o_some, t_e, t_cmp, t_and, t_or, t_not, t_inr, inr_int, to_none, to_some, asSeq_tup, asSeq_lst, asSeq_fls, i_seq, i_rev, i_rng, i_rng2, s_nil, s_cons, seq_nx, seq_rt, seq_bk, seq_ct, x_set, x_own, x_ret, x_retn, x_retv, x_ifs, x_fors, x_whl, x_app, x_frz, x_aug, x_pass, x_brk, x_cont, x_seti, ifs_true, ifs_false, ife_true, ife_false, and_t, and_f, or_t, or_f, andt_t, andt_f, ort_t, ort_f, ForP, RtP, borOr, argOr, isBor, lookV, look, put, asg, asgs, pb, pbO, up_some, up_none, ok_bind, okp_ok, okp_bind, okp_bad, List.getElem?_cons_zero, List.getElem?_cons_succ, List.set_cons_zero, List.set_cons_succ, List.length_cons, List.length_nil, List.map_cons, List.map_nil, List.cons_append, List.nil_append, List.length_map, List.replicate_succ, List.replicate_zero, wipeE, List.length_replicate, bd_int, bd_abs, bd_len, bd_list, bd_tuple, bd_sorted, bd_sortedSet, bd_any, bd_all, bd_sum, bd_isi, bd_listRange, bd_min, bd_max, f_int, f_abs, f_lenT, f_lenL, f_lenF, f_all, f_any, tr_bl, tr_lst, tr_tup, own_lst, Nat.reduceSub, Nat.reduceAdd, Nat.reduceLT, Nat.reduceLeDiff, Nat.zero_lt_succ, ↓reduceIte, b_add, b_sub, k_lt, k_le, k_gt, k_ge, k_eq, k_ne, k_eqB, k_neB, Gx.within, gWithin, List.contains_cons, beq_self_eq_true, Bool.true_or, Bool.and_true, Bool.true_and, Bool.and_self, Bool.not_true, Bool.not_false, List.elem_cons, List.contains_eq_mem, List.mem_cons, true_or, or_true, decide_true, Bool.false_eq_true, if_false, exists_eq_left', Option.some.injEq, ix6]
  rw [b_div (by decide)]
  walk_at "cr.ev"
  rw [b_mod (by decide), m1]
  simp -implicitDefEqProofs only [env0, e_var, e_non, e_bl, e_int, e_str, e_glob, e_bin, e_not, e_cmp, e_and, e_or, e_ife, e_tup, e_lst, e_ix, e_slc, e_call, e_blt, e_lc, e_ssc, e_rvs, v_nil, v_cons, a_nil, a_cons, bs_nil, bs_cons, asO_int, o_none, o_some, t_e, t_cmp, t_and, t_or, t_not, t_inr, inr_int, to_none, to_some, asSeq_tup, asSeq_lst, asSeq_fls, i_seq, i_rev, i_rng, i_rng2, s_nil, s_cons, seq_nx, seq_rt, seq_bk, seq_ct, x_set, x_own, x_ret, x_retn, x_retv, x_ifs, x_fors, x_whl, x_app, x_frz, x_aug, x_pass, x_brk, x_cont, x_seti, ifs_true, ifs_false, ife_true, ife_false, and_t, and_f, or_t, or_f, andt_t, andt_f, ort_t, ort_f, ForP, RtP, borOr, argOr, isBor, lookV, look, put, asg, asgs, pb, pbO, up_some, up_none, ok_bind, okp_ok, okp_bind, okp_bad, List.getElem?_cons_zero, List.getElem?_cons_succ, List.set_cons_zero, List.set_cons_succ, List.length_cons, List.length_nil, List.map_cons, List.map_nil, List.cons_append, List.nil_append, List.length_map, List.replicate_succ, List.replicate_zero, wipeE, List.length_replicate, bd_int, bd_abs, bd_len, bd_list, bd_tuple, bd_sorted, bd_sortedSet, bd_any, bd_all, bd_sum, bd_isi, bd_listRange, bd_min, bd_max, f_int, f_abs, f_lenT, f_lenL, f_lenF, f_all, f_any, tr_bl, tr_lst, tr_tup, own_lst, Nat.reduceSub, Nat.reduceAdd, Nat.reduceLT, Nat.reduceLeDiff, Nat.zero_lt_succ, ↓reduceIte, b_add, b_sub, k_lt, k_le, k_gt, k_ge, k_eq, k_ne, k_eqB, k_neB, Gx.within, gWithin, List.contains_cons, beq_self_eq_true, Bool.true_or, Bool.and_true, Bool.true_and, Bool.and_self, Bool.not_true, Bool.not_false, List.elem_cons, List.contains_eq_mem, List.mem_cons, true_or, or_true, decide_true, Bool.false_eq_true, if_false, exists_eq_left', Option.some.injEq, o1]
  have hcut : cut ≤ f := by omega
  have pd : ∀ (row : List D) (e : D), row.length = f → callN tbl 11 "_law_padded" [.tup row, .int cut, .int wide, e] = .ok (.tup (row.take cut ++ List.replicate wide e ++ row.drop cut), false) := fun row e hr => c_padded 10 (by omega) (by omega)
  have pdI : ∀ row : List Int, row.length = f → callOr [(eI row, false), (.int cut, false), (.int wide, false), (.int cst, false)] (callN tbl 11 "_law_padded" [eI row, .int cut, .int wide, .int cst]) = .ok (eI (pad cut wide (cst : Int) row), false) := fun row hr => by
    have := pd (row.map D.int) (.int cst) (by walk_at "cr.om")
    rw [pad_map D.int cut wide (cst : Int) row] at this
    exact callOr_val this rfl
  have pdT : ∀ (row : List (Option Int)) (o : Option Int), row.length = f → callOr [(eT row, false), (.int cut, false), (.int wide, false), (eO o, false)] (callN tbl 11 "_law_padded" [eT row, .int cut, .int wide, eO o]) = .ok (eT (pad cut wide o row), false) := fun row o hr => by
    have := pd (row.map eO) (eO o) (by walk_at "cr.om")
    rw [pad_map eO cut wide o row] at this
    exact callOr_val this rfl
  rw [lca (f := eI) (h := fun row => eI (pad cut wide (cst : Int) row))]
  rotate_left
  · intro row hrow
    simp -implicitDefEqProofs only [env0, e_var, e_non, e_bl, e_int, e_str, e_glob, e_bin, e_not, e_cmp, e_and, e_or, e_ife, e_tup, e_lst, e_ix, e_slc, e_call, e_blt, e_lc, e_ssc, e_rvs, v_nil, v_cons, a_nil, a_cons, bs_nil, bs_cons, asO_int, o_none, o_some, t_e, t_cmp, t_and, t_or, t_not, t_inr, inr_int, to_none, to_some, asSeq_tup, asSeq_lst, asSeq_fls, i_seq, i_rev, i_rng, i_rng2, s_nil, s_cons, seq_nx, seq_rt, seq_bk, seq_ct, x_set, x_own, x_ret, x_retn, x_retv, x_ifs, x_fors, x_whl, x_app, x_frz, x_aug, x_pass, x_brk, x_cont, x_seti, ifs_true, ifs_false, ife_true, ife_false, and_t, and_f, or_t, or_f, andt_t, andt_f, ort_t, ort_f, ForP, RtP, borOr, argOr, isBor, lookV, look, put, asg, asgs, pb, pbO, up_some, up_none, ok_bind, okp_ok, okp_bind, okp_bad, List.getElem?_cons_zero, List.getElem?_cons_succ, List.set_cons_zero, List.set_cons_succ, List.length_cons, List.length_nil, List.map_cons, List.map_nil, List.cons_append, List.nil_append, List.length_map, List.replicate_succ, List.replicate_zero, wipeE, List.length_replicate, bd_int, bd_abs, bd_len, bd_list, bd_tuple, bd_sorted, bd_sortedSet, bd_any, bd_all, bd_sum, bd_isi, bd_listRange, bd_min, bd_max, f_int, f_abs, f_lenT, f_lenL, f_lenF, f_all, f_any, tr_bl, tr_lst, tr_tup, own_lst, Nat.reduceSub, Nat.reduceAdd, Nat.reduceLT, Nat.reduceLeDiff, Nat.zero_lt_succ, ↓reduceIte, b_add, b_sub, k_lt, k_le, k_gt, k_ge, k_eq, k_ne, k_eqB, k_neB, Gx.within, gWithin, List.contains_cons, beq_self_eq_true, Bool.true_or, Bool.and_true, Bool.true_and, Bool.and_self, Bool.not_true, Bool.not_false, List.elem_cons, List.contains_eq_mem, List.mem_cons, true_or, or_true, decide_true, Bool.false_eq_true, if_false, exists_eq_left', Option.some.injEq, pdI row (W.len row hrow)]
  walk_at "cr.ev"
  rw [if_sz (by omega)]
  simp -implicitDefEqProofs only [env0, e_var, e_non, e_bl, e_int, e_str, e_glob, e_bin, e_not, e_cmp, e_and, e_or, e_ife, e_tup, e_lst, e_ix, e_slc, e_call, e_blt, e_lc, e_ssc, e_rvs, v_nil, v_cons, a_nil, a_cons, bs_nil, bs_cons, asO_int, o_none, o_some, t_e, t_cmp, t_and, t_or, t_not, t_inr, inr_int, to_none, to_some, asSeq_tup, asSeq_lst, asSeq_fls, i_seq, i_rev, i_rng, i_rng2, s_nil, s_cons, seq_nx, seq_rt, seq_bk, seq_ct, x_set, x_own, x_ret, x_retn, x_retv, x_ifs, x_fors, x_whl, x_app, x_frz, x_aug, x_pass, x_brk, x_cont, x_seti, ifs_true, ifs_false, ife_true, ife_false, and_t, and_f, or_t, or_f, andt_t, andt_f, ort_t, ort_f, ForP, RtP, borOr, argOr, isBor, lookV, look, put, asg, asgs, pb, pbO, up_some, up_none, ok_bind, okp_ok, okp_bind, okp_bad, List.getElem?_cons_zero, List.getElem?_cons_succ, List.set_cons_zero, List.set_cons_succ, List.length_cons, List.length_nil, List.map_cons, List.map_nil, List.cons_append, List.nil_append, List.length_map, List.replicate_succ, List.replicate_zero, wipeE, List.length_replicate, bd_int, bd_abs, bd_len, bd_list, bd_tuple, bd_sorted, bd_sortedSet, bd_any, bd_all, bd_sum, bd_isi, bd_listRange, bd_min, bd_max, f_int, f_abs, f_lenT, f_lenL, f_lenF, f_all, f_any, tr_bl, tr_lst, tr_tup, own_lst, Nat.reduceSub, Nat.reduceAdd, Nat.reduceLT, Nat.reduceLeDiff, Nat.zero_lt_succ, ↓reduceIte, b_add, b_sub, k_lt, k_le, k_gt, k_ge, k_eq, k_ne, k_eqB, k_neB, Gx.within, gWithin, List.contains_cons, beq_self_eq_true, Bool.true_or, Bool.and_true, Bool.true_and, Bool.and_self, Bool.not_true, Bool.not_false, List.elem_cons, List.contains_eq_mem, List.mem_cons, true_or, or_true, decide_true, Bool.false_eq_true, if_false, exists_eq_left', Option.some.injEq, f_tuple (x := .lst (small.map fun row => eI (pad cut wide (cst : Int) row))) (f := true) rfl (nl_ok (fun x hx => by obtain ⟨i, _, rfl⟩ := List.mem_map.mp hx; rfl) _)]
  rw [lca (f := eT) (h := fun row => eT (pad cut wide o row))]
  rotate_left
  · intro row hrow
    simp -implicitDefEqProofs only [env0, e_var, e_non, e_bl, e_int, e_str, e_glob, e_bin, e_not, e_cmp, e_and, e_or, e_ife, e_tup, e_lst, e_ix, e_slc, e_call, e_blt, e_lc, e_ssc, e_rvs, v_nil, v_cons, a_nil, a_cons, bs_nil, bs_cons, asO_int, o_none, o_some, t_e, t_cmp, t_and, t_or, t_not, t_inr, inr_int, to_none, to_some, asSeq_tup, asSeq_lst, asSeq_fls, i_seq, i_rev, i_rng, i_rng2, s_nil, s_cons, seq_nx, seq_rt, seq_bk, seq_ct, x_set, x_own, x_ret, x_retn, x_retv, x_ifs, x_fors, x_whl, x_app, x_frz, x_aug, x_pass, x_brk, x_cont, x_seti, ifs_true, ifs_false, ife_true, ife_false, and_t, and_f, or_t, or_f, andt_t, andt_f, ort_t, ort_f, ForP, RtP, borOr, argOr, isBor, lookV, look, put, asg, asgs, pb, pbO, up_some, up_none, ok_bind, okp_ok, okp_bind, okp_bad, List.getElem?_cons_zero, List.getElem?_cons_succ, List.set_cons_zero, List.set_cons_succ, List.length_cons, List.length_nil, List.map_cons, List.map_nil, List.cons_append, List.nil_append, List.length_map, List.replicate_succ, List.replicate_zero, wipeE, List.length_replicate, bd_int, bd_abs, bd_len, bd_list, bd_tuple, bd_sorted, bd_sortedSet, bd_any, bd_all, bd_sum, bd_isi, bd_listRange, bd_min, bd_max, f_int, f_abs, f_lenT, f_lenL, f_lenF, f_all, f_any, tr_bl, tr_lst, tr_tup, own_lst, Nat.reduceSub, Nat.reduceAdd, Nat.reduceLT, Nat.reduceLeDiff, Nat.zero_lt_succ, ↓reduceIte, b_add, b_sub, k_lt, k_le, k_gt, k_ge, k_eq, k_ne, k_eqB, k_neB, Gx.within, gWithin, List.contains_cons, beq_self_eq_true, Bool.true_or, Bool.and_true, Bool.true_and, Bool.and_self, Bool.not_true, Bool.not_false, List.elem_cons, List.contains_eq_mem, List.mem_cons, true_or, or_true, decide_true, Bool.false_eq_true, if_false, exists_eq_left', Option.some.injEq, pdT row o (v2.len row hrow)]
  walk_at "cr.ev"
  rw [if_sz (by have := v2.few; omega)]
  walk_at "cr.ev"
  rw [lca (f := eT) (h := fun row => eT (pad cut wide none row))]
  rotate_left
  · intro row hrow
    have := pdT row none (u2.len row hrow)
    simp -implicitDefEqProofs only [env0, e_var, e_non, e_bl, e_int, e_str, e_glob, e_bin, e_not, e_cmp, e_and, e_or, e_ife, e_tup, e_lst, e_ix, e_slc, e_call, e_blt, e_lc, e_ssc, e_rvs, v_nil, v_cons, a_nil, a_cons, bs_nil, bs_cons, asO_int, o_none, o_some, t_e, t_cmp, t_and, t_or, t_not, t_inr, inr_int, to_none, to_some, asSeq_tup, asSeq_lst, asSeq_fls, i_seq, i_rev, i_rng, i_rng2, s_nil, s_cons, seq_nx, seq_rt, seq_bk, seq_ct, x_set, x_own, x_ret, x_retn, x_retv, x_ifs, x_fors, x_whl, x_app, x_frz, x_aug, x_pass, x_brk, x_cont, x_seti, ifs_true, ifs_false, ife_true, ife_false, and_t, and_f, or_t, or_f, andt_t, andt_f, ort_t, ort_f, ForP, RtP, borOr, argOr, isBor, lookV, look, put, asg, asgs, pb, pbO, up_some, up_none, ok_bind, okp_ok, okp_bind, okp_bad, List.getElem?_cons_zero, List.getElem?_cons_succ, List.set_cons_zero, List.set_cons_succ, List.length_cons, List.length_nil, List.map_cons, List.map_nil, List.cons_append, List.nil_append, List.length_map, List.replicate_succ, List.replicate_zero, wipeE, List.length_replicate, bd_int, bd_abs, bd_len, bd_list, bd_tuple, bd_sorted, bd_sortedSet, bd_any, bd_all, bd_sum, bd_isi, bd_listRange, bd_min, bd_max, f_int, f_abs, f_lenT, f_lenL, f_lenF, f_all, f_any, tr_bl, tr_lst, tr_tup, own_lst, Nat.reduceSub, Nat.reduceAdd, Nat.reduceLT, Nat.reduceLeDiff, Nat.zero_lt_succ, ↓reduceIte, b_add, b_sub, k_lt, k_le, k_gt, k_ge, k_eq, k_ne, k_eqB, k_neB, Gx.within, gWithin, List.contains_cons, beq_self_eq_true, Bool.true_or, Bool.and_true, Bool.true_and, Bool.and_self, Bool.not_true, Bool.not_false, List.elem_cons, List.contains_eq_mem, List.mem_cons, true_or, or_true, decide_true, Bool.false_eq_true, if_false, exists_eq_left', Option.some.injEq, show (D.non : D) = eO none from rfl, this]
  walk_at "cr.ev"
  rw [if_sz (by have := u2.few; omega)]
  walk_at "cr.ev"
  have ew : small.map (fun row => eI (pad cut wide (cst : Int) row)) = (small.map (pad cut wide (cst : Int))).map eI := by rw [List.map_map]; rfl
  have ec1 : c1.map (fun row => eT (pad cut wide o row)) = (c1.map (pad cut wide o)).map eT := by rw [List.map_map]; rfl
  have ec2 : c2.map (fun row => eT (pad cut wide none row)) = (c2.map (pad cut wide none)).map eT := by rw [List.map_map]; rfl
  rw [ew, ec1, ec2]
  have W2 := pad_W (c := (cst : Int)) (wide := wide) W h4 (by omega) hcut
  have M2 : ∀ win ∈ wins, OkM (small.map (pad cut wide (cst : Int))) win (f + wide) := fun win hw => okM W h4 hbits (by omega) hcut (wok win hw)
  have wok2 : ∀ win ∈ wins, OkWin (small.map (pad cut wide (cst : Int))) win := fun win hw => by
    have := wok win hw
    exact ⟨this.ne, this.few, fun s hs => by rw [List.length_map]; exact this.at_ s hs⟩
  have A1 := pad_C (wide := wide) (o := o) v2 hcut
  have A2 := pad_C (wide := wide) (o := none) u2 hcut
  have lw : (small.map (pad cut wide (cst : Int))).length = s := by rw [List.length_map, hsl]
  generalize small.map (pad cut wide (cst : Int)) = words at W2 M2 wok2 lw
  have z1 : (c1.map (pad cut wide o)).length ≤ 20 := by rw [List.length_map]; exact v2.few
  have z2 : (c2.map (pad cut wide none)).length ≤ 20 := by rw [List.length_map]; exact u2.few
  generalize c1.map (pad cut wide o) = C1 at A1 z1
  generalize c2.map (pad cut wide none) = C2 at A2 z2
  have Ws2 : OkWs words wins (.lst (wins.map eI)) := ⟨rfl, by omega, wok2⟩
  have k1 : callN tbl 11 "_law_asks" [.lst (C1.map eT), eW words, .lst (wins.map eI), eI yes] = .ok (.bl true, false) := c_asks 5 W2 A1 (by omega) Ws2 M2
  have k2 : callN tbl 11 "_law_asks" [.lst (C2.map eT), eW words, .lst (wins.map eI), eI yes] = .ok (.bl true, false) := c_asks 5 W2 A2 (by omega) Ws2 M2
  simp -implicitDefEqProofs only [env0, e_var, e_non, e_bl, e_int, e_str, e_glob, e_bin, e_not, e_cmp, e_and, e_or, e_ife, e_tup, e_lst, e_ix, e_slc, e_call, e_blt, e_lc, e_ssc, e_rvs, v_nil, v_cons, a_nil, a_cons, bs_nil, bs_cons, asO_int, o_none, o_some, t_e, t_cmp, t_and, t_or, t_not, t_inr, inr_int, to_none, to_some, asSeq_tup, asSeq_lst, asSeq_fls, i_seq, i_rev, i_rng, i_rng2, s_nil, s_cons, seq_nx, seq_rt, seq_bk, seq_ct, x_set, x_own, x_ret, x_retn, x_retv, x_ifs, x_fors, x_whl, x_app, x_frz, x_aug, x_pass, x_brk, x_cont, x_seti, ifs_true, ifs_false, ife_true, ife_false, and_t, and_f, or_t, or_f, andt_t, andt_f, ort_t, ort_f, ForP, RtP, borOr, argOr, isBor, lookV, look, put, asg, asgs, pb, pbO, up_some, up_none, ok_bind, okp_ok, okp_bind, okp_bad, List.getElem?_cons_zero, List.getElem?_cons_succ, List.set_cons_zero, List.set_cons_succ, List.length_cons, List.length_nil, List.map_cons, List.map_nil, List.cons_append, List.nil_append, List.length_map, List.replicate_succ, List.replicate_zero, wipeE, List.length_replicate, bd_int, bd_abs, bd_len, bd_list, bd_tuple, bd_sorted, bd_sortedSet, bd_any, bd_all, bd_sum, bd_isi, bd_listRange, bd_min, bd_max, f_int, f_abs, f_lenT, f_lenL, f_lenF, f_all, f_any, tr_bl, tr_lst, tr_tup, own_lst, Nat.reduceSub, Nat.reduceAdd, Nat.reduceLT, Nat.reduceLeDiff, Nat.zero_lt_succ, ↓reduceIte, b_add, b_sub, k_lt, k_le, k_gt, k_ge, k_eq, k_ne, k_eqB, k_neB, Gx.within, gWithin, List.contains_cons, beq_self_eq_true, Bool.true_or, Bool.and_true, Bool.true_and, Bool.and_self, Bool.not_true, Bool.not_false, List.elem_cons, List.contains_eq_mem, List.mem_cons, true_or, or_true, decide_true, Bool.false_eq_true, if_false, exists_eq_left', Option.some.injEq, callOr_val (as := [(.lst (C1.map eT), false), (eW words, false), (.lst (wins.map eI), false), (eI yes, false)]) k1 rfl, callOr_val (as := [(.lst (C2.map eT), false), (eW words, false), (.lst (wins.map eI), false), (eI yes, false)]) k2 rfl]
  rw [if_sz (by decide)]
  walk_at "cr.ev"
  rw [if_sz (by simp)]
  walk_at "cr.ev"
  rw [asRng_nat _ (by omega)]
  walk_at "cr.ev"
  refine OkP.mono (Q := fun b => ∃ (rs : List (List Int)) (d15 : Option (D × Bool)), b = (.nx, [some (.fls (ns.map D.int), false), some (.lst (ds.map D.int), false), some (.int (s : Nat), false), some (.int (f : Nat), false), some (eW small, false), some (.lst (wins.map eI), false), some (eI yes, false), some (.lst (C1.map eT), false), some (.lst (C2.map eT), false), some (.int (wide : Nat), false), some (.int (cut : Nat), false), some (.int (cst : Nat), false), some (eO o, false), some (eW words, false), some (.lst (rs.map eI), false), d15, none, none, none, none, none, none, none, none]) ∧ rs.length ≤ 2 ^ f ∧ ∀ r ∈ rs, r.length = f) ?_ ?_
  · refine p_for (f := fun i : Nat => D.int i) (fun i Γ => ∃ (rs : List (List Int)) (d15 : Option (D × Bool)), Γ = [some (.fls (ns.map D.int), false), some (.lst (ds.map D.int), false), some (.int (s : Nat), false), some (.int (f : Nat), false), some (eW small, false), some (.lst (wins.map eI), false), some (eI yes, false), some (.lst (C1.map eT), false), some (.lst (C2.map eT), false), some (.int (wide : Nat), false), some (.int (cut : Nat), false), some (.int (cst : Nat), false), some (eO o, false), some (eW words, false), some (.lst (rs.map eI), false), d15, none, none, none, none, none, none, none, none] ∧ i ≤ f ∧ rs.length ≤ 2 ^ i ∧ ∀ r ∈ rs, r.length = i) ⟨[[]], none, rfl, Nat.zero_le _, Nat.le_refl _, fun r hr => by rw [List.mem_singleton.mp hr]; rfl⟩ ?_ ?_
    · rintro i x Γ hx ⟨rs, d15, rfl, _, hr1, hr2⟩
      obtain ⟨rfl, hi⟩ := rng_at hx
      have hp := Nat.pow_le_pow_right (show 0 < 2 by decide) (show x ≤ 4 by omega)
      have step : ∀ v : Int, LC (callN tbl 11) [some (.fls (ns.map D.int), false), some (.lst (ds.map D.int), false), some (.int (s : Nat), false), some (.int (f : Nat), false), some (eW small, false), some (.lst (wins.map eI), false), some (eI yes, false), some (.lst (C1.map eT), false), some (.lst (C2.map eT), false), some (.int (wide : Nat), false), some (.int (cut : Nat), false), some (.int (cst : Nat), false), some (eO o, false), some (eW words, false), some (.lst (rs.map eI), false), some (.int (x : Nat), false), none, none, none, none, none, none, none, none] [17] (.nm 17) none (.bin .Add (.var 17) (.tup [.int v])) (rs.map eI) = .ok (rs.map fun r => eI (r ++ [v])) := fun v => by
        refine lca (f := eI) (h := fun r => eI (r ++ [v])) fun r hr => ?_
        have := hr2 r hr
        walk_at "cr.ev"
        rw [if_sz (by decide)]
        walk_at "cr.ev"
        rw [b_cat (by rw [sizeLine_eq]; walk_at "cr.om")]
        walk_at "cr.ev"
        simp
      walk_at "cr.ev"
      rw [step 0]
      walk_at "cr.ev"
      rw [if_sz (by omega)]
      walk_at "cr.ev"
      rw [step 1]
      walk_at "cr.ev"
      rw [if_sz (by omega)]
      walk_at "cr.ev"
      rw [b_catL (by rw [sizeLine_eq]; walk_at "cr.om") (nl_ok (fun x hx => by obtain ⟨i, _, rfl⟩ := List.mem_map.mp hx; rfl) _) (nl_ok (fun x hx => by obtain ⟨i, _, rfl⟩ := List.mem_map.mp hx; rfl) _)]
      walk_at "cr.ev"
      refine ⟨(rs.map fun r => r ++ [(0 : Int)]) ++ (rs.map fun r => r ++ [(1 : Int)]), _, by rw [List.map_append, List.map_map, List.map_map]; rfl, hi, by rw [Nat.pow_succ]; walk_at "cr.om", fun r hr => ?_⟩
      rcases List.mem_append.mp hr with q | q
      · obtain ⟨y, hy, rfl⟩ := List.mem_map.mp q
        simp [hr2 y hy]
      · obtain ⟨y, hy, rfl⟩ := List.mem_map.mp q
        simp [hr2 y hy]
    · rintro Γ ⟨rs, d15, rfl, _, hr1, hr2⟩
      rw [List.length_range] at hr1 hr2
      exact ⟨rs, d15, rfl, hr1, hr2⟩
  rintro b ⟨rs, d15, rfl, hr1, hr2⟩
  have hp := Nat.pow_le_pow_right (show 0 < 2 by decide) h4
  walk_at "cr.ev"
  rw [asRng_nat _ (by omega)]
  walk_at "cr.ev"
  refine p_for (f := fun i : Nat => D.int i) (fun i Γ => ∃ d16 d17 d18 d19 : Option (D × Bool), Γ = [some (.fls (ns.map D.int), false), some (.lst (ds.map D.int), false), some (.int (s : Nat), false), some (.int (f : Nat), false), some (eW small, false), some (.lst (wins.map eI), false), some (eI yes, false), some (.lst (C1.map eT), false), some (.lst (C2.map eT), false), some (.int (wide : Nat), false), some (.int (cut : Nat), false), some (.int (cst : Nat), false), some (eO o, false), some (eW words, false), some (.lst (rs.map eI), false), d15, d16, d17, d18, d19, none, none, none, none]) ⟨_, _, _, _, rfl⟩ ?_ ?_
  · rintro i x Γ hx ⟨d16, d17, d18, d19, rfl⟩
    obtain ⟨rfl, hi⟩ := rng_at hx
    have er : rs[x]? = some rs[x] := List.getElem?_eq_getElem hi
    have ixr : ixD (.lst (rs.map eI)) false (.int x) = some (eI rs[x], false) := ix_map (g := eI) x rfl er (.inl rfl)
    have lr := hr2 _ (List.mem_of_getElem? er)
    simp -implicitDefEqProofs only [env0, e_var, e_non, e_bl, e_int, e_str, e_glob, e_bin, e_not, e_cmp, e_and, e_or, e_ife, e_tup, e_lst, e_ix, e_slc, e_call, e_blt, e_lc, e_ssc, e_rvs, v_nil, v_cons, a_nil, a_cons, bs_nil, bs_cons, asO_int, o_none, o_some, t_e, t_cmp, t_and, t_or, t_not, t_inr, inr_int, to_none, to_some, asSeq_tup, asSeq_lst, asSeq_fls, i_seq, i_rev, i_rng, i_rng2, s_nil, s_cons, seq_nx, seq_rt, seq_bk, seq_ct, x_set, x_own, x_ret, x_retn, x_retv, x_ifs, x_fors, x_whl, x_app, x_frz, x_aug, x_pass, x_brk, x_cont, x_seti, ifs_true, ifs_false, ife_true, ife_false, and_t, and_f, or_t, or_f, andt_t, andt_f, ort_t, ort_f, ForP, RtP, borOr, argOr, isBor, lookV, look, put, asg, asgs, pb, pbO, up_some, up_none, ok_bind, okp_ok, okp_bind, okp_bad, List.getElem?_cons_zero, List.getElem?_cons_succ, List.set_cons_zero, List.set_cons_succ, List.length_cons, List.length_nil, List.map_cons, List.map_nil, List.cons_append, List.nil_append, List.length_map, List.replicate_succ, List.replicate_zero, wipeE, List.length_replicate, bd_int, bd_abs, bd_len, bd_list, bd_tuple, bd_sorted, bd_sortedSet, bd_any, bd_all, bd_sum, bd_isi, bd_listRange, bd_min, bd_max, f_int, f_abs, f_lenT, f_lenL, f_lenF, f_all, f_any, tr_bl, tr_lst, tr_tup, own_lst, Nat.reduceSub, Nat.reduceAdd, Nat.reduceLT, Nat.reduceLeDiff, Nat.zero_lt_succ, ↓reduceIte, b_add, b_sub, k_lt, k_le, k_gt, k_ge, k_eq, k_ne, k_eqB, k_neB, Gx.within, gWithin, List.contains_cons, beq_self_eq_true, Bool.true_or, Bool.and_true, Bool.true_and, Bool.and_self, Bool.not_true, Bool.not_false, List.elem_cons, List.contains_eq_mem, List.mem_cons, true_or, or_true, decide_true, Bool.false_eq_true, if_false, exists_eq_left', Option.some.injEq, ixr, pdI rs[x] lr]
    have ll : (pad cut wide (cst : Int) rs[x]).length = f + wide := by rw [pad_len (by omega), lr]
    generalize pad cut wide (cst : Int) rs[x] = rd at ll
    rw [lca (f := eT) (h := fun t => .bl (holdsP t rd))]
    rotate_left
    · intro t ht
      have lt := A1.len t ht
      have t2 : callN tbl 11 "_law_holds" [eT t, eI rd] = .ok (.bl (holdsP t rd), false) := c_lholds 10 _ _ (by omega) (by omega)
      simp -implicitDefEqProofs only [env0, e_var, e_non, e_bl, e_int, e_str, e_glob, e_bin, e_not, e_cmp, e_and, e_or, e_ife, e_tup, e_lst, e_ix, e_slc, e_call, e_blt, e_lc, e_ssc, e_rvs, v_nil, v_cons, a_nil, a_cons, bs_nil, bs_cons, asO_int, o_none, o_some, t_e, t_cmp, t_and, t_or, t_not, t_inr, inr_int, to_none, to_some, asSeq_tup, asSeq_lst, asSeq_fls, i_seq, i_rev, i_rng, i_rng2, s_nil, s_cons, seq_nx, seq_rt, seq_bk, seq_ct, x_set, x_own, x_ret, x_retn, x_retv, x_ifs, x_fors, x_whl, x_app, x_frz, x_aug, x_pass, x_brk, x_cont, x_seti, ifs_true, ifs_false, ife_true, ife_false, and_t, and_f, or_t, or_f, andt_t, andt_f, ort_t, ort_f, ForP, RtP, borOr, argOr, isBor, lookV, look, put, asg, asgs, pb, pbO, up_some, up_none, ok_bind, okp_ok, okp_bind, okp_bad, List.getElem?_cons_zero, List.getElem?_cons_succ, List.set_cons_zero, List.set_cons_succ, List.length_cons, List.length_nil, List.map_cons, List.map_nil, List.cons_append, List.nil_append, List.length_map, List.replicate_succ, List.replicate_zero, wipeE, List.length_replicate, bd_int, bd_abs, bd_len, bd_list, bd_tuple, bd_sorted, bd_sortedSet, bd_any, bd_all, bd_sum, bd_isi, bd_listRange, bd_min, bd_max, f_int, f_abs, f_lenT, f_lenL, f_lenF, f_all, f_any, tr_bl, tr_lst, tr_tup, own_lst, Nat.reduceSub, Nat.reduceAdd, Nat.reduceLT, Nat.reduceLeDiff, Nat.zero_lt_succ, ↓reduceIte, b_add, b_sub, k_lt, k_le, k_gt, k_ge, k_eq, k_ne, k_eqB, k_neB, Gx.within, gWithin, List.contains_cons, beq_self_eq_true, Bool.true_or, Bool.and_true, Bool.true_and, Bool.and_self, Bool.not_true, Bool.not_false, List.elem_cons, List.contains_eq_mem, List.mem_cons, true_or, or_true, decide_true, Bool.false_eq_true, if_false, exists_eq_left', Option.some.injEq, callOr_val (as := [(eT t, false), (eI rd, false)]) t2 rfl]
    walk_at "cr.ev"
    rw [if_sz (by omega)]
    have t3 : ∀ (cD : D) (c : List (List (Option Int))), cD.seq = some (c.map eT) → c.length ≤ 20 → (∀ t ∈ c, t.length = f + wide) → callOr [(cD, false), (eI rd, false)] (callN tbl 11 "circuit_tells" [cD, eI rd]) = .ok (.bl (c.any fun t => holdsP t rd), false) := fun cD c h1 h2 h3 => callOr_val (c_tells 9 cD c rd h1 (by omega) (fun t ht => by rw [h3 t ht]; omega) (by omega)) rfl
    have sB : ∀ b, callOr [(.bl b, false), (.bl b, false)] (callN tbl 11 "_law_same" [.bl b, .bl b]) = .ok (.bl true, false) := fun b => callOr_val (same_bl 10 b) rfl
    simp -implicitDefEqProofs only [env0, e_var, e_non, e_bl, e_int, e_str, e_glob, e_bin, e_not, e_cmp, e_and, e_or, e_ife, e_tup, e_lst, e_ix, e_slc, e_call, e_blt, e_lc, e_ssc, e_rvs, v_nil, v_cons, a_nil, a_cons, bs_nil, bs_cons, asO_int, o_none, o_some, t_e, t_cmp, t_and, t_or, t_not, t_inr, inr_int, to_none, to_some, asSeq_tup, asSeq_lst, asSeq_fls, i_seq, i_rev, i_rng, i_rng2, s_nil, s_cons, seq_nx, seq_rt, seq_bk, seq_ct, x_set, x_own, x_ret, x_retn, x_retv, x_ifs, x_fors, x_whl, x_app, x_frz, x_aug, x_pass, x_brk, x_cont, x_seti, ifs_true, ifs_false, ife_true, ife_false, and_t, and_f, or_t, or_f, andt_t, andt_f, ort_t, ort_f, ForP, RtP, borOr, argOr, isBor, lookV, look, put, asg, asgs, pb, pbO, up_some, up_none, ok_bind, okp_ok, okp_bind, okp_bad, List.getElem?_cons_zero, List.getElem?_cons_succ, List.set_cons_zero, List.set_cons_succ, List.length_cons, List.length_nil, List.map_cons, List.map_nil, List.cons_append, List.nil_append, List.length_map, List.replicate_succ, List.replicate_zero, wipeE, List.length_replicate, bd_int, bd_abs, bd_len, bd_list, bd_tuple, bd_sorted, bd_sortedSet, bd_any, bd_all, bd_sum, bd_isi, bd_listRange, bd_min, bd_max, f_int, f_abs, f_lenT, f_lenL, f_lenF, f_all, f_any, tr_bl, tr_lst, tr_tup, own_lst, Nat.reduceSub, Nat.reduceAdd, Nat.reduceLT, Nat.reduceLeDiff, Nat.zero_lt_succ, ↓reduceIte, b_add, b_sub, k_lt, k_le, k_gt, k_ge, k_eq, k_ne, k_eqB, k_neB, Gx.within, gWithin, List.contains_cons, beq_self_eq_true, Bool.true_or, Bool.and_true, Bool.true_and, Bool.and_self, Bool.not_true, Bool.not_false, List.elem_cons, List.contains_eq_mem, List.mem_cons, true_or, or_true, decide_true, Bool.false_eq_true, if_false, exists_eq_left', Option.some.injEq, f_list (x := .lst (C1.map eT)) (f := false) rfl rfl, t3 (.lst (C1.map eT)) C1 rfl z1 A1.len]
    rw [lcp (f := fun t => .bl (holdsP t rd)) (p := fun t => holdsP t rd) (h := fun t => .bl (holdsP t rd))]
    rotate_left
    · intro t ht
      walk_at "cr.ev"
      exact ⟨trivial, fun _ => trivial⟩
    walk_at "cr.ev"
    have hz : (C1.filter fun t => holdsP t rd).length ≤ 16777216 := Nat.le_trans (List.length_filter_le _ _) (by omega)
    rw [if_sz hz]
    simp -implicitDefEqProofs only [env0, e_var, e_non, e_bl, e_int, e_str, e_glob, e_bin, e_not, e_cmp, e_and, e_or, e_ife, e_tup, e_lst, e_ix, e_slc, e_call, e_blt, e_lc, e_ssc, e_rvs, v_nil, v_cons, a_nil, a_cons, bs_nil, bs_cons, asO_int, o_none, o_some, t_e, t_cmp, t_and, t_or, t_not, t_inr, inr_int, to_none, to_some, asSeq_tup, asSeq_lst, asSeq_fls, i_seq, i_rev, i_rng, i_rng2, s_nil, s_cons, seq_nx, seq_rt, seq_bk, seq_ct, x_set, x_own, x_ret, x_retn, x_retv, x_ifs, x_fors, x_whl, x_app, x_frz, x_aug, x_pass, x_brk, x_cont, x_seti, ifs_true, ifs_false, ife_true, ife_false, and_t, and_f, or_t, or_f, andt_t, andt_f, ort_t, ort_f, ForP, RtP, borOr, argOr, isBor, lookV, look, put, asg, asgs, pb, pbO, up_some, up_none, ok_bind, okp_ok, okp_bind, okp_bad, List.getElem?_cons_zero, List.getElem?_cons_succ, List.set_cons_zero, List.set_cons_succ, List.length_cons, List.length_nil, List.map_cons, List.map_nil, List.cons_append, List.nil_append, List.length_map, List.replicate_succ, List.replicate_zero, wipeE, List.length_replicate, bd_int, bd_abs, bd_len, bd_list, bd_tuple, bd_sorted, bd_sortedSet, bd_any, bd_all, bd_sum, bd_isi, bd_listRange, bd_min, bd_max, f_int, f_abs, f_lenT, f_lenL, f_lenF, f_all, f_any, tr_bl, tr_lst, tr_tup, own_lst, Nat.reduceSub, Nat.reduceAdd, Nat.reduceLT, Nat.reduceLeDiff, Nat.zero_lt_succ, ↓reduceIte, b_add, b_sub, k_lt, k_le, k_gt, k_ge, k_eq, k_ne, k_eqB, k_neB, Gx.within, gWithin, List.contains_cons, beq_self_eq_true, Bool.true_or, Bool.and_true, Bool.true_and, Bool.and_self, Bool.not_true, Bool.not_false, List.elem_cons, List.contains_eq_mem, List.mem_cons, true_or, or_true, decide_true, Bool.false_eq_true, if_false, exists_eq_left', Option.some.injEq, any_count C1 fun t => holdsP t rd, sB]
    rw [if_sz (by decide)]
    simp -implicitDefEqProofs only [env0, e_var, e_non, e_bl, e_int, e_str, e_glob, e_bin, e_not, e_cmp, e_and, e_or, e_ife, e_tup, e_lst, e_ix, e_slc, e_call, e_blt, e_lc, e_ssc, e_rvs, v_nil, v_cons, a_nil, a_cons, bs_nil, bs_cons, asO_int, o_none, o_some, t_e, t_cmp, t_and, t_or, t_not, t_inr, inr_int, to_none, to_some, asSeq_tup, asSeq_lst, asSeq_fls, i_seq, i_rev, i_rng, i_rng2, s_nil, s_cons, seq_nx, seq_rt, seq_bk, seq_ct, x_set, x_own, x_ret, x_retn, x_retv, x_ifs, x_fors, x_whl, x_app, x_frz, x_aug, x_pass, x_brk, x_cont, x_seti, ifs_true, ifs_false, ife_true, ife_false, and_t, and_f, or_t, or_f, andt_t, andt_f, ort_t, ort_f, ForP, RtP, borOr, argOr, isBor, lookV, look, put, asg, asgs, pb, pbO, up_some, up_none, ok_bind, okp_ok, okp_bind, okp_bad, List.getElem?_cons_zero, List.getElem?_cons_succ, List.set_cons_zero, List.set_cons_succ, List.length_cons, List.length_nil, List.map_cons, List.map_nil, List.cons_append, List.nil_append, List.length_map, List.replicate_succ, List.replicate_zero, wipeE, List.length_replicate, bd_int, bd_abs, bd_len, bd_list, bd_tuple, bd_sorted, bd_sortedSet, bd_any, bd_all, bd_sum, bd_isi, bd_listRange, bd_min, bd_max, f_int, f_abs, f_lenT, f_lenL, f_lenF, f_all, f_any, tr_bl, tr_lst, tr_tup, own_lst, Nat.reduceSub, Nat.reduceAdd, Nat.reduceLT, Nat.reduceLeDiff, Nat.zero_lt_succ, ↓reduceIte, b_add, b_sub, k_lt, k_le, k_gt, k_ge, k_eq, k_ne, k_eqB, k_neB, Gx.within, gWithin, List.contains_cons, beq_self_eq_true, Bool.true_or, Bool.and_true, Bool.true_and, Bool.and_self, Bool.not_true, Bool.not_false, List.elem_cons, List.contains_eq_mem, List.mem_cons, true_or, or_true, decide_true, Bool.false_eq_true, if_false, exists_eq_left', Option.some.injEq, t3 (.tup []) [] rfl (by decide) (fun t h => nomatch h)]
    simp -implicitDefEqProofs only [env0, e_var, e_non, e_bl, e_int, e_str, e_glob, e_bin, e_not, e_cmp, e_and, e_or, e_ife, e_tup, e_lst, e_ix, e_slc, e_call, e_blt, e_lc, e_ssc, e_rvs, v_nil, v_cons, a_nil, a_cons, bs_nil, bs_cons, asO_int, o_none, o_some, t_e, t_cmp, t_and, t_or, t_not, t_inr, inr_int, to_none, to_some, asSeq_tup, asSeq_lst, asSeq_fls, i_seq, i_rev, i_rng, i_rng2, s_nil, s_cons, seq_nx, seq_rt, seq_bk, seq_ct, x_set, x_own, x_ret, x_retn, x_retv, x_ifs, x_fors, x_whl, x_app, x_frz, x_aug, x_pass, x_brk, x_cont, x_seti, ifs_true, ifs_false, ife_true, ife_false, and_t, and_f, or_t, or_f, andt_t, andt_f, ort_t, ort_f, ForP, RtP, borOr, argOr, isBor, lookV, look, put, asg, asgs, pb, pbO, up_some, up_none, ok_bind, okp_ok, okp_bind, okp_bad, List.getElem?_cons_zero, List.getElem?_cons_succ, List.set_cons_zero, List.set_cons_succ, List.length_cons, List.length_nil, List.map_cons, List.map_nil, List.cons_append, List.nil_append, List.length_map, List.replicate_succ, List.replicate_zero, wipeE, List.length_replicate, bd_int, bd_abs, bd_len, bd_list, bd_tuple, bd_sorted, bd_sortedSet, bd_any, bd_all, bd_sum, bd_isi, bd_listRange, bd_min, bd_max, f_int, f_abs, f_lenT, f_lenL, f_lenF, f_all, f_any, tr_bl, tr_lst, tr_tup, own_lst, Nat.reduceSub, Nat.reduceAdd, Nat.reduceLT, Nat.reduceLeDiff, Nat.zero_lt_succ, ↓reduceIte, b_add, b_sub, k_lt, k_le, k_gt, k_ge, k_eq, k_ne, k_eqB, k_neB, Gx.within, gWithin, List.contains_cons, beq_self_eq_true, Bool.true_or, Bool.and_true, Bool.true_and, Bool.and_self, Bool.not_true, Bool.not_false, List.elem_cons, List.contains_eq_mem, List.mem_cons, true_or, or_true, decide_true, Bool.false_eq_true, if_false, exists_eq_left', Option.some.injEq, show (([] : List (List (Option Int))).any fun t => holdsP t rd) = false from rfl, sB]
    rw [asRng_nat _ (by omega)]
    walk_at "cr.ev"
    refine p_for (f := fun i : Nat => D.int i) (fun j Γ => ∃ d19 : Option (D × Bool), Γ = [some (.fls (ns.map D.int), false), some (.lst (ds.map D.int), false), some (.int (s : Nat), false), some (.int (f : Nat), false), some (eW small, false), some (.lst (wins.map eI), false), some (eI yes, false), some (.lst (C1.map eT), false), some (.lst (C2.map eT), false), some (.int (wide : Nat), false), some (.int (cut : Nat), false), some (.int (cst : Nat), false), some (eO o, false), some (eW words, false), some (.lst (rs.map eI), false), d15, some (.int (x : Nat), false), some (eI rd, false), some (.lst (C1.map fun t => .bl (holdsP t rd)), false), d19, none, none, none, none]) ⟨_, rfl⟩ ?_ ?_
    · rintro j y Γ hy ⟨d19, rfl⟩
      obtain ⟨rfl, hj⟩ := rng_at hy
      have ec : C1[y]? = some C1[y] := List.getElem?_eq_getElem hj
      have i1 : ixD (.lst (C1.map eT)) false (.int y) = some (eT C1[y], false) := ix_map (g := eT) y rfl ec (.inl rfl)
      have i2 : ixD (.lst (C1.map fun t => .bl (holdsP t rd))) false (.int y) = some (.bl (holdsP C1[y] rd), false) := ix_map (g := fun t => D.bl (holdsP t rd)) y rfl ec (.inl rfl)
      have lt := A1.len _ (List.mem_of_getElem? ec)
      have t4 : callN tbl 11 "holds" [eT C1[y], eI rd] = .ok (.bl (holdsP C1[y] rd), false) := c_holds 10 _ _ (by omega) (by omega)
      simp -implicitDefEqProofs only [env0, e_var, e_non, e_bl, e_int, e_str, e_glob, e_bin, e_not, e_cmp, e_and, e_or, e_ife, e_tup, e_lst, e_ix, e_slc, e_call, e_blt, e_lc, e_ssc, e_rvs, v_nil, v_cons, a_nil, a_cons, bs_nil, bs_cons, asO_int, o_none, o_some, t_e, t_cmp, t_and, t_or, t_not, t_inr, inr_int, to_none, to_some, asSeq_tup, asSeq_lst, asSeq_fls, i_seq, i_rev, i_rng, i_rng2, s_nil, s_cons, seq_nx, seq_rt, seq_bk, seq_ct, x_set, x_own, x_ret, x_retn, x_retv, x_ifs, x_fors, x_whl, x_app, x_frz, x_aug, x_pass, x_brk, x_cont, x_seti, ifs_true, ifs_false, ife_true, ife_false, and_t, and_f, or_t, or_f, andt_t, andt_f, ort_t, ort_f, ForP, RtP, borOr, argOr, isBor, lookV, look, put, asg, asgs, pb, pbO, up_some, up_none, ok_bind, okp_ok, okp_bind, okp_bad, List.getElem?_cons_zero, List.getElem?_cons_succ, List.set_cons_zero, List.set_cons_succ, List.length_cons, List.length_nil, List.map_cons, List.map_nil, List.cons_append, List.nil_append, List.length_map, List.replicate_succ, List.replicate_zero, wipeE, List.length_replicate, bd_int, bd_abs, bd_len, bd_list, bd_tuple, bd_sorted, bd_sortedSet, bd_any, bd_all, bd_sum, bd_isi, bd_listRange, bd_min, bd_max, f_int, f_abs, f_lenT, f_lenL, f_lenF, f_all, f_any, tr_bl, tr_lst, tr_tup, own_lst, Nat.reduceSub, Nat.reduceAdd, Nat.reduceLT, Nat.reduceLeDiff, Nat.zero_lt_succ, ↓reduceIte, b_add, b_sub, k_lt, k_le, k_gt, k_ge, k_eq, k_ne, k_eqB, k_neB, Gx.within, gWithin, List.contains_cons, beq_self_eq_true, Bool.true_or, Bool.and_true, Bool.true_and, Bool.and_self, Bool.not_true, Bool.not_false, List.elem_cons, List.contains_eq_mem, List.mem_cons, true_or, or_true, decide_true, Bool.false_eq_true, if_false, exists_eq_left', Option.some.injEq, i1, callOr_val (as := [(eT C1[y], false), (eI rd, false)]) t4 rfl, i2, sB]
      exact ⟨_, rfl⟩
    · rintro Γ ⟨d19, rfl⟩
      walk_at "cr.ev"
      exact ⟨_, _, _, _, rfl⟩
  · rintro Γ ⟨d16, d17, d18, d19, rfl⟩
    walk_at "cr.ev"
end K50
end

end
section
set_option maxHeartbeats 4000000
namespace K50
open PySem PySem.Spec PyProof.Rows L2 Cr

def topS (i : Nat) : Stmt := PySem.Challenge.pw_readwhilechanged_k50_steady_circuits_by.main.body.getD i (.Pass ⟨0, 0, 0, 0⟩)

theorem d_worths_seen : Def G tbl fd_worths_seen "worths_seen" (topS 1) ["words", "window", "field", "state"] ["words", "window"] where
  find := rfl
  good := ⟨⟨rfl, rfl, rfl, by decide +kernel, rfl, by decide +kernel, by decide +kernel⟩, by decide +kernel, rfl, rfl⟩
  bnd := fun _ _ _ _ _ _ us hl => match us, hl with | [_, _], _ => rfl

theorem d_holds : Def G tbl fd_holds "holds" (topS 3) ["term", "reading", "field"] ["term", "reading"] where
  find := rfl
  good := ⟨⟨rfl, rfl, rfl, by decide +kernel, rfl, by decide +kernel, by decide +kernel⟩, by decide +kernel, rfl, rfl⟩
  bnd := fun _ _ _ _ _ _ us hl => match us, hl with | [_, _], _ => rfl

theorem d_circuit_tells : Def G tbl fd_circuit_tells "circuit_tells" (topS 4) ["circuit", "reading", "term"] ["circuit", "reading"] where
  find := rfl
  good := ⟨⟨rfl, rfl, rfl, by decide +kernel, rfl, by decide +kernel, by decide +kernel⟩, by decide +kernel, rfl, rfl⟩
  bnd := fun _ _ _ _ _ _ us hl => match us, hl with | [_, _], _ => rfl

theorem d_failing_at : Def G tbl fd_failing_at "failing_at" (topS 5) ["term", "words", "window", "word", "field", "state"] ["term", "words", "window"] where
  find := rfl
  good := ⟨⟨rfl, rfl, rfl, by decide +kernel, rfl, by decide +kernel, by decide +kernel⟩, by decide +kernel, rfl, rfl⟩
  bnd := fun _ _ _ _ _ _ us hl => match us, hl with | [_, _, _], _ => rfl

theorem d_holding_at : Def G tbl fd_holding_at "holding_at" (topS 6) ["term", "words", "window", "seen", "reading", "field", "worth"] ["term", "words", "window"] where
  find := rfl
  good := ⟨⟨rfl, rfl, rfl, by decide +kernel, rfl, by decide +kernel, by decide +kernel⟩, by decide +kernel, rfl, rfl⟩
  bnd := fun _ _ _ _ _ _ us hl => match us, hl with | [_, _, _], _ => rfl

theorem d_silent_readings : Def G tbl fd_silent_readings "silent_readings" (topS 7) ["circuit", "words", "window", "readings", "term", "reading"] ["circuit", "words", "window"] where
  find := rfl
  good := ⟨⟨rfl, rfl, rfl, by decide +kernel, rfl, by decide +kernel, by decide +kernel⟩, by decide +kernel, rfl, rfl⟩
  bnd := fun _ _ _ _ _ _ us hl => match us, hl with | [_, _, _], _ => rfl

theorem d_false_readings : Def G tbl fd_false_readings "false_readings" (topS 8) ["circuit", "words", "window", "term", "reading"] ["circuit", "words", "window"] where
  find := rfl
  good := ⟨⟨rfl, rfl, rfl, by decide +kernel, rfl, by decide +kernel, by decide +kernel⟩, by decide +kernel, rfl, rfl⟩
  bnd := fun _ _ _ _ _ _ us hl => match us, hl with | [_, _, _], _ => rfl

theorem d_unsteady_course : Def G tbl fd_unsteady_course "unsteady_course" (topS 9) ["circuit", "words", "windows", "yes", "number", "window", "inside", "readings", "state"] ["circuit", "words", "windows", "yes"] where
  find := rfl
  good := ⟨⟨rfl, rfl, rfl, by decide +kernel, rfl, by decide +kernel, by decide +kernel⟩, by decide +kernel, rfl, rfl⟩
  bnd := fun _ _ _ _ _ _ us hl => match us, hl with | [_, _, _, _], _ => rfl

theorem d_is_steady : Def G tbl fd_is_steady "is_steady" (topS 10) ["circuit", "words", "windows", "yes"] ["circuit", "words", "windows", "yes"] where
  find := rfl
  good := ⟨⟨rfl, rfl, rfl, by decide +kernel, rfl, by decide +kernel, by decide +kernel⟩, by decide +kernel, rfl, rfl⟩
  bnd := fun _ _ _ _ _ _ us hl => match us, hl with | [_, _, _, _], _ => rfl

theorem d__law_draws : Def G tbl fd__law_draws "_law_draws" (topS 12) ["script", "count", "cells", "draws", "k", "at", "cell", "mixed"] ["script", "count"] where
  find := rfl
  good := ⟨⟨rfl, rfl, rfl, by decide +kernel, rfl, by decide +kernel, by decide +kernel⟩, by decide +kernel, rfl, rfl⟩
  bnd := fun _ _ _ _ _ _ us hl => match us, hl with | [_, _], _ => rfl

theorem d__law_lot : Def G tbl fd__law_lot "_law_lot" (topS 13) ["draw", "size", "bits", "lot", "k"] ["draw", "size"] where
  find := rfl
  good := ⟨⟨rfl, rfl, rfl, by decide +kernel, rfl, by decide +kernel, by decide +kernel⟩, by decide +kernel, rfl, rfl⟩
  bnd := fun _ _ _ _ _ _ us hl => match us, hl with | [_, _], _ => rfl

theorem d__law_words : Def G tbl fd__law_words "_law_words" (topS 14) ["draws", "at", "size", "fields", "many", "s", "k"] ["draws", "at", "size", "fields", "many"] where
  find := rfl
  good := ⟨⟨rfl, rfl, rfl, by decide +kernel, rfl, by decide +kernel, by decide +kernel⟩, by decide +kernel, rfl, rfl⟩
  bnd := fun _ _ _ _ _ _ us hl => match us, hl with | [_, _, _, _, _], _ => rfl

theorem d__law_same : Def G tbl fd__law_same "_law_same" (topS 15) ["told", "due", "at"] ["told", "due"] where
  find := rfl
  good := ⟨⟨rfl, rfl, rfl, by decide +kernel, rfl, by decide +kernel, by decide +kernel⟩, by decide +kernel, rfl, rfl⟩
  bnd := fun _ _ _ _ _ _ us hl => match us, hl with | [_, _], _ => rfl

theorem d__law_same_rows : Def G tbl fd__law_same_rows "_law_same_rows" (topS 16) ["told", "due", "key", "part"] ["told", "due"] where
  find := rfl
  good := ⟨⟨rfl, rfl, rfl, by decide +kernel, rfl, by decide +kernel, by decide +kernel⟩, by decide +kernel, rfl, rfl⟩
  bnd := fun _ _ _ _ _ _ us hl => match us, hl with | [_, _], _ => rfl

theorem d__law_mixtures : Def G tbl fd__law_mixtures "_law_mixtures" (topS 17) ["words", "window", "readings", "field", "worths", "longer", "reading", "state", "worth"] ["words", "window"] where
  find := rfl
  good := ⟨⟨rfl, rfl, rfl, by decide +kernel, rfl, by decide +kernel, by decide +kernel⟩, by decide +kernel, rfl, rfl⟩
  bnd := fun _ _ _ _ _ _ us hl => match us, hl with | [_, _], _ => rfl

theorem d__law_holds : Def G tbl fd__law_holds "_law_holds" (topS 18) ["term", "reading", "field"] ["term", "reading"] where
  find := rfl
  good := ⟨⟨rfl, rfl, rfl, by decide +kernel, rfl, by decide +kernel, by decide +kernel⟩, by decide +kernel, rfl, rfl⟩
  bnd := fun _ _ _ _ _ _ us hl => match us, hl with | [_, _], _ => rfl

theorem d__law_goes_wrong : Def G tbl fd__law_goes_wrong "_law_goes_wrong" (topS 19) ["circuit", "words", "window", "yes", "inside", "readings", "term", "state", "reading"] ["circuit", "words", "window", "yes"] where
  find := rfl
  good := ⟨⟨rfl, rfl, rfl, by decide +kernel, rfl, by decide +kernel, by decide +kernel⟩, by decide +kernel, rfl, rfl⟩
  bnd := fun _ _ _ _ _ _ us hl => match us, hl with | [_, _, _, _], _ => rfl

theorem d__law_term : Def G tbl fd__law_term "_law_term" (topS 20) ["drawn", "fields", "digits", "k", "digit"] ["drawn", "fields"] where
  find := rfl
  good := ⟨⟨rfl, rfl, rfl, by decide +kernel, rfl, by decide +kernel, by decide +kernel⟩, by decide +kernel, rfl, rfl⟩
  bnd := fun _ _ _ _ _ _ us hl => match us, hl with | [_, _], _ => rfl

theorem d__law_shared_term : Def G tbl fd__law_shared_term "_law_shared_term" (topS 21) ["words", "window", "seen", "field", "worths", "state"] ["words", "window"] where
  find := rfl
  good := ⟨⟨rfl, rfl, rfl, by decide +kernel, rfl, by decide +kernel, by decide +kernel⟩, by decide +kernel, rfl, rfl⟩
  bnd := fun _ _ _ _ _ _ us hl => match us, hl with | [_, _], _ => rfl

theorem d__law_circuit : Def G tbl fd__law_circuit "_law_circuit" (topS 22) ["draws", "words", "windows", "yes", "fields", "kind", "many", "drawn", "inner", "shared", "at", "field", "entry", "k", "window", "worth", "state"] ["draws", "words", "windows", "yes", "fields"] where
  find := rfl
  good := ⟨⟨rfl, rfl, rfl, by decide +kernel, rfl, by decide +kernel, by decide +kernel⟩, by decide +kernel, rfl, rfl⟩
  bnd := fun _ _ _ _ _ _ us hl => match us, hl with | [_, _, _, _, _], _ => rfl

theorem d__law_varied : Def G tbl fd__law_varied "_law_varied" (topS 23) ["circuit", "fields", "kind", "drawn", "at", "field", "entry"] ["circuit", "fields", "kind", "drawn"] where
  find := rfl
  good := ⟨⟨rfl, rfl, rfl, by decide +kernel, rfl, by decide +kernel, by decide +kernel⟩, by decide +kernel, rfl, rfl⟩
  bnd := fun _ _ _ _ _ _ us hl => match us, hl with | [_, _, _, _], _ => rfl

theorem d__law_padded : Def G tbl fd__law_padded "_law_padded" (topS 24) ["row", "cut", "wide", "entry"] ["row", "cut", "wide", "entry"] where
  find := rfl
  good := ⟨⟨rfl, rfl, rfl, by decide +kernel, rfl, by decide +kernel, by decide +kernel⟩, by decide +kernel, rfl, rfl⟩
  bnd := fun _ _ _ _ _ _ us hl => match us, hl with | [_, _, _, _], _ => rfl

theorem d__law_is_wrong_view : Def G tbl fd__law_is_wrong_view "_law_is_wrong_view" (topS 25) ["told", "circuit", "words", "windows", "yes", "window", "reading", "holding", "inside", "field", "k", "state"] ["told", "circuit", "words", "windows", "yes"] where
  find := rfl
  good := ⟨⟨rfl, rfl, rfl, by decide +kernel, rfl, by decide +kernel, by decide +kernel⟩, by decide +kernel, rfl, rfl⟩
  bnd := fun _ _ _ _ _ _ us hl => match us, hl with | [_, _, _, _, _], _ => rfl

theorem d__law_asks : Def G tbl fd__law_asks "_law_asks" (topS 26) ["circuit", "words", "windows", "yes", "wrong", "handed", "handed_windows", "told", "wider", "more", "window"] ["circuit", "words", "windows", "yes"] where
  find := rfl
  good := ⟨⟨rfl, rfl, rfl, by decide +kernel, rfl, by decide +kernel, by decide +kernel⟩, by decide +kernel, rfl, rfl⟩
  bnd := fun _ _ _ _ _ _ us hl => match us, hl with | [_, _, _, _], _ => rfl

theorem d_law : Def G tbl fd_law "law" (topS 27) ["script", "draws", "size", "fields", "small", "windows", "yes", "circuit", "varied", "wide", "cut", "constant", "entry", "words", "readings", "field", "k", "reading", "held", "at", "state", "term", "word", "one"] ["script"] where
  find := rfl
  good := ⟨⟨rfl, rfl, rfl, by decide +kernel, rfl, by decide +kernel, by decide +kernel⟩, by decide +kernel, rfl, rfl⟩
  bnd := fun _ _ _ _ _ _ us hl => match us, hl with | [_], _ => rfl

theorem all_mk {K : PySem.W.Frag} {mg : Str → Option Value} {h : Heap} (X : K.In h) (Gh : h.Ns mainGlobals mg)
    (h_worths_seen : HasDef K "worths_seen" "worths_seen" (topS 1))
    (h_holds : HasDef K "holds" "holds" (topS 3))
    (h_circuit_tells : HasDef K "circuit_tells" "circuit_tells" (topS 4))
    (h_failing_at : HasDef K "failing_at" "failing_at" (topS 5))
    (h_holding_at : HasDef K "holding_at" "holding_at" (topS 6))
    (h_silent_readings : HasDef K "silent_readings" "silent_readings" (topS 7))
    (h_false_readings : HasDef K "false_readings" "false_readings" (topS 8))
    (h_unsteady_course : HasDef K "unsteady_course" "unsteady_course" (topS 9))
    (h_is_steady : HasDef K "is_steady" "is_steady" (topS 10))
    (h__law_draws : HasDef K "_law_draws" "_law_draws" (topS 12))
    (h__law_lot : HasDef K "_law_lot" "_law_lot" (topS 13))
    (h__law_words : HasDef K "_law_words" "_law_words" (topS 14))
    (h__law_same : HasDef K "_law_same" "_law_same" (topS 15))
    (h__law_same_rows : HasDef K "_law_same_rows" "_law_same_rows" (topS 16))
    (h__law_mixtures : HasDef K "_law_mixtures" "_law_mixtures" (topS 17))
    (h__law_holds : HasDef K "_law_holds" "_law_holds" (topS 18))
    (h__law_goes_wrong : HasDef K "_law_goes_wrong" "_law_goes_wrong" (topS 19))
    (h__law_term : HasDef K "_law_term" "_law_term" (topS 20))
    (h__law_shared_term : HasDef K "_law_shared_term" "_law_shared_term" (topS 21))
    (h__law_circuit : HasDef K "_law_circuit" "_law_circuit" (topS 22))
    (h__law_varied : HasDef K "_law_varied" "_law_varied" (topS 23))
    (h__law_padded : HasDef K "_law_padded" "_law_padded" (topS 24))
    (h__law_is_wrong_view : HasDef K "_law_is_wrong_view" "_law_is_wrong_view" (topS 25))
    (h__law_asks : HasDef K "_law_asks" "_law_asks" (topS 26))
    (h_law : HasDef K "law" "law" (topS 27))
    : ∀ x ∈ tbl, DefAt K mg G tbl x :=
  all_cons X Gh d_worths_seen h_worths_seen <| all_cons X Gh d_holds h_holds <| all_cons X Gh d_circuit_tells h_circuit_tells <| all_cons X Gh d_failing_at h_failing_at <| all_cons X Gh d_holding_at h_holding_at <| all_cons X Gh d_silent_readings h_silent_readings <| all_cons X Gh d_false_readings h_false_readings <| all_cons X Gh d_unsteady_course h_unsteady_course <| all_cons X Gh d_is_steady h_is_steady <| all_cons X Gh d__law_draws h__law_draws <| all_cons X Gh d__law_lot h__law_lot <| all_cons X Gh d__law_words h__law_words <| all_cons X Gh d__law_same h__law_same <| all_cons X Gh d__law_same_rows h__law_same_rows <| all_cons X Gh d__law_mixtures h__law_mixtures <| all_cons X Gh d__law_holds h__law_holds <| all_cons X Gh d__law_goes_wrong h__law_goes_wrong <| all_cons X Gh d__law_term h__law_term <| all_cons X Gh d__law_shared_term h__law_shared_term <| all_cons X Gh d__law_circuit h__law_circuit <| all_cons X Gh d__law_varied h__law_varied <| all_cons X Gh d__law_padded h__law_padded <| all_cons X Gh d__law_is_wrong_view h__law_is_wrong_view <| all_cons X Gh d__law_asks h__law_asks <| all_cons X Gh d_law h_law <| all_nil
end K50

open PySem PySem.W PyProof.Rows in
set_option maxRecDepth 100000 in
set_option maxHeartbeats 0 in
theorem PySem.Challenge.cw_readwhilechanged_k50_steady_circuits_by_holds : PySem.Challenge.rw_readwhilechanged_k50_steady_circuits_by.Holds := by
  w_on; o_law; k_head; (case hw => w_witness2)
  k_fill
  refine Cr.walkC (l := PySem.Challenge.rw_readwhilechanged_k50_steady_circuits_by) (k := 12) rfl rfl ⟨rfl, by decide, by decide⟩ (fun w h Y => PySem.W.kIn_of Y) ?F
  case F =>
    intro w mg fa h KX Gh hmg
    refine Cr.law_end (G := K50.G) (tbl := K50.tbl) (fd := K50.fd_law) KX Gh hmg (by simp [K50.tbl]) rfl K50.d_law ?h_law ?nn ?gl rfl (K50.all_mk KX Gh ?h_worths_seen ?h_holds ?h_circuit_tells ?h_failing_at ?h_holding_at ?h_silent_readings ?h_false_readings ?h_unsteady_course ?h_is_steady ?h__law_draws ?h__law_lot ?h__law_words ?h__law_same ?h__law_same_rows ?h__law_mixtures ?h__law_holds ?h__law_goes_wrong ?h__law_term ?h__law_shared_term ?h__law_circuit ?h__law_varied ?h__law_padded ?h__law_is_wrong_view ?h__law_asks ?h_law) (fun _ _ _ _ _ _ _ _ => .of_eq rfl) K50.law_plain
    (case h_worths_seen => (refine' Cr.has_mk ?a ?l ?c ?k; (case a => k_is); (case l => k_is); (case c => k_is); (case k => k_is)))
    (case h_holds => (refine' Cr.has_mk ?a ?l ?c ?k; (case a => k_is); (case l => k_is); (case c => k_is); (case k => k_is)))
    (case h_circuit_tells => (refine' Cr.has_mk ?a ?l ?c ?k; (case a => k_is); (case l => k_is); (case c => k_is); (case k => k_is)))
    (case h_failing_at => (refine' Cr.has_mk ?a ?l ?c ?k; (case a => k_is); (case l => k_is); (case c => k_is); (case k => k_is)))
    (case h_holding_at => (refine' Cr.has_mk ?a ?l ?c ?k; (case a => k_is); (case l => k_is); (case c => k_is); (case k => k_is)))
    (case h_silent_readings => (refine' Cr.has_mk ?a ?l ?c ?k; (case a => k_is); (case l => k_is); (case c => k_is); (case k => k_is)))
    (case h_false_readings => (refine' Cr.has_mk ?a ?l ?c ?k; (case a => k_is); (case l => k_is); (case c => k_is); (case k => k_is)))
    (case h_unsteady_course => (refine' Cr.has_mk ?a ?l ?c ?k; (case a => k_is); (case l => k_is); (case c => k_is); (case k => k_is)))
    (case h_is_steady => (refine' Cr.has_mk ?a ?l ?c ?k; (case a => k_is); (case l => k_is); (case c => k_is); (case k => k_is)))
    (case h__law_draws => (refine' Cr.has_mk ?a ?l ?c ?k; (case a => k_is); (case l => k_is); (case c => k_is); (case k => k_is)))
    (case h__law_lot => (refine' Cr.has_mk ?a ?l ?c ?k; (case a => k_is); (case l => k_is); (case c => k_is); (case k => k_is)))
    (case h__law_words => (refine' Cr.has_mk ?a ?l ?c ?k; (case a => k_is); (case l => k_is); (case c => k_is); (case k => k_is)))
    (case h__law_same => (refine' Cr.has_mk ?a ?l ?c ?k; (case a => k_is); (case l => k_is); (case c => k_is); (case k => k_is)))
    (case h__law_same_rows => (refine' Cr.has_mk ?a ?l ?c ?k; (case a => k_is); (case l => k_is); (case c => k_is); (case k => k_is)))
    (case h__law_mixtures => (refine' Cr.has_mk ?a ?l ?c ?k; (case a => k_is); (case l => k_is); (case c => k_is); (case k => k_is)))
    (case h__law_holds => (refine' Cr.has_mk ?a ?l ?c ?k; (case a => k_is); (case l => k_is); (case c => k_is); (case k => k_is)))
    (case h__law_goes_wrong => (refine' Cr.has_mk ?a ?l ?c ?k; (case a => k_is); (case l => k_is); (case c => k_is); (case k => k_is)))
    (case h__law_term => (refine' Cr.has_mk ?a ?l ?c ?k; (case a => k_is); (case l => k_is); (case c => k_is); (case k => k_is)))
    (case h__law_shared_term => (refine' Cr.has_mk ?a ?l ?c ?k; (case a => k_is); (case l => k_is); (case c => k_is); (case k => k_is)))
    (case h__law_circuit => (refine' Cr.has_mk ?a ?l ?c ?k; (case a => k_is); (case l => k_is); (case c => k_is); (case k => k_is)))
    (case h__law_varied => (refine' Cr.has_mk ?a ?l ?c ?k; (case a => k_is); (case l => k_is); (case c => k_is); (case k => k_is)))
    (case h__law_padded => (refine' Cr.has_mk ?a ?l ?c ?k; (case a => k_is); (case l => k_is); (case c => k_is); (case k => k_is)))
    (case h__law_is_wrong_view => (refine' Cr.has_mk ?a ?l ?c ?k; (case a => k_is); (case l => k_is); (case c => k_is); (case k => k_is)))
    (case h__law_asks => (refine' Cr.has_mk ?a ?l ?c ?k; (case a => k_is); (case l => k_is); (case c => k_is); (case k => k_is)))
    (case h_law => (refine' Cr.has_mk ?a ?l ?c ?k; (case a => k_is); (case l => k_is); (case c => k_is); (case k => k_is)))
    (case nn => exact ⟨by k_is, by k_is, by k_is, by k_is, by k_is, by k_is, by k_is, by k_is, by k_is, by k_is, by k_is, by k_is, by k_is, by k_is, by k_is, by k_is, by k_is, by k_is, trivial⟩)
    (case gl => exact trivial)
end
