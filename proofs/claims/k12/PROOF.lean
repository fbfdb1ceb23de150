import PyProof.Rows.All
import Wide.All
import OpenK.AllK
import Wide.FinOn
import HandS.Comp
import HandS.Style
import HandS.Zip
import HandS.Dict
import HandS.TupLe
import HandS.RaiseMore
import HandS.Iter
import HandS.Ends
import HandS.Words
import HandS.WordsList
import HandS.IsInst
import HandS.Wide
import HandS.Exc
import HandS.ExcInit
import HandS.ExcField
import HandS.TryMany
import HandS.ExcCtx
import HandS.Hot
import HandS.HotCalls
import PyProof.Rows.EqDataRows
import HandS.TupAny
import PyProof.ReprRoads
import PyProof.WalkInts
import PyProof.CallFns
import HandS.SortInts
import HandS.SetFor
import HandS.Set
import HandS.Gcd
import KE.GoesMore
import KE.GoesEnum
import HandS.NoneIn
import HandS.ExcSuper
import HandS.EndBits
import HandS.HeadEnd
import HandS.Head0
import HandS.Head1
import HandS.Head2
import HandS.Head3
import HandS.HeadHook1
import HandS.HeadHook2
import HandS.HeadHook4
import HandS.Defaults
import PySem.Challenge.RW_everygrain_k12_fractions_and_means
set_option Elab.async false
set_option linter.all false
set_option maxRecDepth 1000000
set_option maxHeartbeats 0
section
/-! Mini, part 1: values and objects of a small Python, how they lie over the hand layer's heap, results. -/
namespace Mi
open PySem L2

/-- a value: tuples are values, all that may change is an object of the small heap -/
inductive MV where
  | non | bl (b : Bool) | int (i : Int) | str (x : Str) | tup (xs : List MV) | ref (n : Nat) | ty (n : String) | cls (c : Str)
  deriving Inhabited

/-- an object: a list, the script, an instance, an exception's own dict -/
inductive MO where
  | lst (xs : List MV) | frz (xs : List MV) | ins (c : Str) (fs : List (Str × MV)) | exc (c : Str) (fs : List (Str × MV)) | dct (kvs : List (L2.Key × MV))

def MO.wr : MO → Bool
  | .frz _ => false
  | _ => true

structure MH where
  next : Nat
  get : Nat → Option MO

def MH.put (h : MH) (n : Nat) (o : MO) : MH := { next := h.next, get := fun m => if m = n then some o else h.get m }
def MH.new (h : MH) (o : MO) : MH := { next := h.next + 1, get := fun m => if m = h.next then some o else h.get m }
@[simp] theorem MH.put_same {h : MH} {n : Nat} {o : MO} : (h.put n o).get n = some o := if_pos rfl
theorem MH.put_ne {h : MH} {n m : Nat} {o : MO} (e : m ≠ n) : (h.put n o).get m = h.get m := if_neg e
@[simp] theorem MH.new_same {h : MH} {o : MO} : (h.new o).get h.next = some o := if_pos rfl
theorem MH.new_ne {h : MH} {m : Nat} {o : MO} (e : m ≠ h.next) : (h.new o).get m = h.get m := if_neg e

inductive Res (α : Type) where
  | ok (a : α) (h : MH) | exc (c : Str) (n : Nat) (h : MH) | stuck

abbrev M (α : Type) := MH → Res α
def M.bind {α β : Type} (x : M α) (f : α → M β) : M β := fun h => match x h with
  | .ok a h' => f a h'
  | .exc c n h' => .exc c n h'
  | .stuck => .stuck
def M.pure {α : Type} (a : α) : M α := fun h => .ok a h
def M.stuck {α : Type} : M α := fun _ => .stuck
instance : Monad M where
  pure := M.pure
  bind := M.bind

/-! ### the relation to the hand layer -/
abbrev Rho := Nat → Option Addr

mutual
inductive RV (CA : Str → Addr) (ρ : Rho) (H : Hp) : MV → V → Prop
  | non : RV CA ρ H .non .non
  | bl (b : Bool) : RV CA ρ H (.bl b) (.bl b)
  | int (i : Int) : RV CA ρ H (.int i) (.int i)
  | str (x : Str) : RV CA ρ H (.str x) (.str x)
  | ty (n : String) : RV CA ρ H (.ty n) (.ty n)
  | cls (c : Str) : RV CA ρ H (.cls c) (.ref (CA c))
  | ref {n : Nat} {a : Addr} (e : ρ n = some a) : RV CA ρ H (.ref n) (.ref a)
  | tup {xs : List MV} {a : Addr} {vs : List V} (e : H a = some (.tup vs)) (r : RVs CA ρ H xs vs) : RV CA ρ H (.tup xs) (.ref a)
inductive RVs (CA : Str → Addr) (ρ : Rho) (H : Hp) : List MV → List V → Prop
  | nil : RVs CA ρ H [] []
  | cons {x : MV} {v : V} {xs : List MV} {vs : List V} (r : RV CA ρ H x v) (t : RVs CA ρ H xs vs) : RVs CA ρ H (x :: xs) (v :: vs)
end
inductive RF (CA : Str → Addr) (ρ : Rho) (H : Hp) : List (Str × MV) → List (Str × V) → Prop
  | nil : RF CA ρ H [] []
  | cons {f : Str} {x : MV} {v : V} {xs : List (Str × MV)} {vs : List (Str × V)} (r : RV CA ρ H x v) (t : RF CA ρ H xs vs) : RF CA ρ H ((f, x) :: xs) ((f, v) :: vs)

/-- a dict's items -/
inductive RK (CA : Str → Addr) (ρ : Rho) (H : Hp) : List (L2.Key × MV) → List (L2.Key × V) → Prop
  | nil : RK CA ρ H [] []
  | cons {k : L2.Key} {x : MV} {v : V} {xs : List (L2.Key × MV)} {vs : List (L2.Key × V)} (r : RV CA ρ H x v) (t : RK CA ρ H xs vs) : RK CA ρ H ((k, x) :: xs) ((k, v) :: vs)

/-- what only grows: the map, the tuples -/
structure Ext (ρ : Rho) (H : Hp) (ρ' : Rho) (H' : Hp) : Prop where
  map : ∀ n a, ρ n = some a → ρ' n = some a
  tups : ∀ p xs, H p = some (.tup xs) → H' p = some (.tup xs)

section
variable {CA : Str → Addr} {ρ ρ' ρ'' : Rho} {H H' H'' : Hp} {mh : MH} {K : PySem.W.Frag}
theorem Ext.refl : Ext ρ H ρ H := ⟨fun _ _ e => e, fun _ _ e => e⟩
theorem Ext.trans (a : Ext ρ H ρ' H') (b : Ext ρ' H' ρ'' H'') : Ext ρ H ρ'' H'' := ⟨fun n x e => b.map n x (a.map n x e), fun p xs e => b.tups p xs (a.tups p xs e)⟩

mutual
theorem RV.mono (e : Ext ρ H ρ' H') : ∀ {x : MV} {v : V}, RV CA ρ H x v → RV CA ρ' H' x v
  | _, _, .non => .non
  | _, _, .bl b => .bl b
  | _, _, .int i => .int i
  | _, _, .str x => .str x
  | _, _, .ty n => .ty n
  | _, _, .cls c => .cls c
  | _, _, .ref q => .ref (e.map _ _ q)
  | _, _, .tup q r => .tup (e.tups _ _ q) (RVs.mono e r)
theorem RVs.mono (e : Ext ρ H ρ' H') : ∀ {xs : List MV} {vs : List V}, RVs CA ρ H xs vs → RVs CA ρ' H' xs vs
  | _, _, .nil => .nil
  | _, _, .cons r t => .cons (RV.mono e r) (RVs.mono e t)
end
theorem RF.mono (e : Ext ρ H ρ' H') : ∀ {xs : List (Str × MV)} {vs : List (Str × V)}, RF CA ρ H xs vs → RF CA ρ' H' xs vs
  | _, _, .nil => .nil
  | _, _, .cons r t => .cons (r.mono e) (RF.mono e t)

theorem RVs.length : ∀ {xs : List MV} {vs : List V}, RVs CA ρ H xs vs → xs.length = vs.length
  | _, _, .nil => rfl
  | _, _, .cons _ t => by rw [List.length_cons, List.length_cons, RVs.length t]
theorem RVs.append : ∀ {xs ys : List MV} {vs ws : List V}, RVs CA ρ H xs vs → RVs CA ρ H ys ws → RVs CA ρ H (xs ++ ys) (vs ++ ws)
  | _, _, _, _, .nil, s => s
  | _, _, _, _, .cons r t, s => .cons r (RVs.append t s)
theorem RVs.take : ∀ {xs : List MV} {vs : List V} (n : Nat), RVs CA ρ H xs vs → RVs CA ρ H (xs.take n) (vs.take n)
  | _, _, 0, _ => .nil
  | _, _, _ + 1, .nil => .nil
  | _, _, n + 1, .cons r t => .cons r (RVs.take n t)
theorem RVs.drop : ∀ {xs : List MV} {vs : List V} (n : Nat), RVs CA ρ H xs vs → RVs CA ρ H (xs.drop n) (vs.drop n)
  | _, _, 0, r => r
  | _, _, _ + 1, .nil => .nil
  | _, _, n + 1, .cons _ t => RVs.drop n t
theorem RVs.set {x : MV} {v : V} (r : RV CA ρ H x v) : ∀ {xs : List MV} {vs : List V} (i : Nat), RVs CA ρ H xs vs → RVs CA ρ H (xs.set i x) (vs.set i v)
  | _, _, _, .nil => .nil
  | _, _, 0, .cons _ t => .cons r t
  | _, _, i + 1, .cons q t => .cons q (RVs.set r i t)
theorem RVs.get : ∀ {xs : List MV} {vs : List V} {i : Nat} {x : MV}, RVs CA ρ H xs vs → xs[i]? = some x → ∃ v, vs[i]? = some v ∧ RV CA ρ H x v
  | _, _, _, _, .nil, e => by simp at e
  | _, _, 0, _, .cons r _, e => by simp at e; subst e; exact ⟨_, rfl, r⟩
  | _, _, i + 1, x, .cons _ t, e => by
    obtain ⟨u, h1, h2⟩ := RVs.get (i := i) (x := x) t (by simpa using e)
    exact ⟨u, by simpa using h1, h2⟩
theorem RVs.get' : ∀ {xs : List MV} {vs : List V} {i : Nat} {v : V}, RVs CA ρ H xs vs → vs[i]? = some v → ∃ x, xs[i]? = some x ∧ RV CA ρ H x v
  | _, _, _, _, .nil, e => by simp at e
  | _, _, 0, _, .cons r _, e => by simp at e; subst e; exact ⟨_, rfl, r⟩
  | _, _, i + 1, x, .cons _ t, e => by
    obtain ⟨u, h1, h2⟩ := RVs.get' (i := i) (v := x) t (by simpa using e)
    exact ⟨u, by simpa using h1, h2⟩
theorem RVs.reverse : ∀ {xs : List MV} {vs : List V}, RVs CA ρ H xs vs → RVs CA ρ H xs.reverse vs.reverse
  | _, _, .nil => .nil
  | _, _, .cons r t => by
    rw [List.reverse_cons, List.reverse_cons]
    exact (RVs.reverse t).append (.cons r .nil)
theorem RF.lookup {f : Str} : ∀ {xs : List (Str × MV)} {vs : List (Str × V)} {x : MV}, RF CA ρ H xs vs → xs.lookup f = some x → ∃ v, vs.lookup f = some v ∧ RV CA ρ H x v
  | _, _, _, .nil, e => by simp at e
  | (g, y) :: _, (_, w) :: _, x, .cons r t, e => by
    rw [List.lookup_cons] at e ⊢
    cases q : f == g with
    | true => rw [q] at e; cases e; exact ⟨_, rfl, r⟩
    | false => rw [q] at e; exact RF.lookup t e
theorem RF.lookup_none {f : Str} : ∀ {xs : List (Str × MV)} {vs : List (Str × V)}, RF CA ρ H xs vs → xs.lookup f = none → vs.lookup f = none
  | _, _, .nil, e => rfl
  | (g, y) :: _, (_, w) :: _, .cons r t, e => by
    rw [List.lookup_cons] at e ⊢
    cases q : f == g with
    | true => rw [q] at e; cases e
    | false => rw [q] at e; exact RF.lookup_none t e
theorem RF.length : ∀ {xs : List (Str × MV)} {vs : List (Str × V)}, RF CA ρ H xs vs → xs.length = vs.length
  | _, _, .nil => rfl
  | _, _, .cons _ t => by rw [List.length_cons, List.length_cons, RF.length t]

theorem RK.mono (e : Ext ρ H ρ' H') : ∀ {xs : List (L2.Key × MV)} {vs : List (L2.Key × V)}, RK CA ρ H xs vs → RK CA ρ' H' xs vs
  | _, _, .nil => .nil
  | _, _, .cons r t => .cons (r.mono e) (RK.mono e t)
theorem RK.vals : ∀ {xs : List (L2.Key × MV)} {vs : List (L2.Key × V)}, RK CA ρ H xs vs → RVs CA ρ H (xs.map (·.2)) (vs.map (·.2)) ∧ xs.map (·.1) = vs.map (·.1)
  | _, _, .nil => ⟨.nil, rfl⟩
  | _, _, .cons r t => ⟨.cons r (RK.vals t).1, by rw [List.map_cons, List.map_cons, (RK.vals t).2]⟩

/-- a list of the module's own top, never tracked -/
def SqK (K : PySem.W.Frag) (a : Addr) (vs : List V) : Prop :=
  ∃ (o : Obj) (its : Array Value) (n : Nat), K.lookup a = some o ∧ o.cls = .type "list" ∧ o.dict = none ∧ o.data = .seq its n ∧ its.size ≤ sizeLine ∧ Vals vs its.toList

/-- the object o lies at a -/
def RO (K : PySem.W.Frag) (CA : Str → Addr) (ρ : Rho) (H : Hp) : MO → Addr → Prop
  | .lst xs, a => ∃ vs, H a = some (.lst vs) ∧ RVs CA ρ H xs vs
  | .frz xs, a => ∃ vs, ((∃ o, H a = some (.frz o (.lst vs))) ∨ SqK K a vs) ∧ RVs CA ρ H xs vs
  | .ins c fs, a => ∃ dx gs, H a = some (.ins (CA c) dx gs) ∧ RF CA ρ H fs gs
  | .exc _ fs, a => ∃ gs, H a = some (.xd gs) ∧ RF CA ρ H fs gs
  | .dct kvs, a => ∃ vs, H a = some (.dK vs) ∧ RK CA ρ H kvs vs
theorem RO.some {o : MO} {a : Addr} (w : o.wr = true) (r : RO K CA ρ H o a) : ∃ u, H a = some u ∧ (∀ xs, u ≠ .tup xs) ∧ (∀ ob xs, u ≠ .frz ob (.lst xs)) := by
  cases o with
  | lst xs => obtain ⟨vs, e, _⟩ := r; exact ⟨_, e, fun _ z => (nomatch z), fun _ _ z => (nomatch z)⟩
  | frz xs => cases w
  | ins c fs => obtain ⟨dx, gs, e, _⟩ := r; exact ⟨_, e, fun _ z => (nomatch z), fun _ _ z => (nomatch z)⟩
  | exc c fs => obtain ⟨gs, e, _⟩ := r; exact ⟨_, e, fun _ z => (nomatch z), fun _ _ z => (nomatch z)⟩
  | dct kvs => obtain ⟨gs, e, _⟩ := r; exact ⟨_, e, fun _ z => (nomatch z), fun _ _ z => (nomatch z)⟩
/-- an object stays while its own place does -/
theorem RO.stay {o : MO} {a : Addr} (r : RO K CA ρ H o a) (e : Ext ρ H ρ' H') (k : ∀ u, H a = Option.some u → (o.wr = true ∨ ∃ ob xs, u = .frz ob (.lst xs)) → H' a = Option.some u) : RO K CA ρ' H' o a := by
  cases o with
  | lst xs => obtain ⟨vs, q, rs⟩ := r; exact ⟨vs, k _ q (.inl rfl), rs.mono e⟩
  | frz xs =>
    obtain ⟨vs, q, rs⟩ := r
    refine ⟨vs, ?_, rs.mono e⟩
    rcases q with ⟨o, q⟩ | q
    · exact .inl ⟨o, k _ q (.inr ⟨_, _, rfl⟩)⟩
    · exact .inr q
  | ins c fs => obtain ⟨dx, gs, q, rs⟩ := r; exact ⟨dx, gs, k _ q (.inl rfl), rs.mono e⟩
  | exc c fs => obtain ⟨gs, q, rs⟩ := r; exact ⟨gs, k _ q (.inl rfl), rs.mono e⟩
  | dct kvs => obtain ⟨gs, q, rs⟩ := r; exact ⟨gs, k _ q (.inl rfl), rs.mono e⟩

/-- the small heap lies over H -/
structure RH (K : PySem.W.Frag) (CA : Str → Addr) (ρ : Rho) (mh : MH) (H : Hp) : Prop where
  obj : ∀ n o, mh.get n = some o → ∃ a, ρ n = some a ∧ RO K CA ρ H o a
  dom : ∀ n a, ρ n = some a → n < mh.next ∧ ∃ o, mh.get n = some o
  inj : ∀ n m a o o', ρ n = some a → ρ m = some a → mh.get n = some o → mh.get m = some o' → o.wr = true → o'.wr = true → n = m

theorem RH.at {n : Nat} {o : MO} {a : Addr} (r : RH K CA ρ mh H) (e : mh.get n = some o) (q : ρ n = some a) : RO K CA ρ H o a := by
  obtain ⟨b, h1, h2⟩ := r.obj n o e
  rw [q] at h1; cases h1; exact h2
/-- nothing tracked has changed -/
theorem RH.same (r : RH K CA ρ mh H) (k : ∀ a u, H a = some u → H' a = some u) : RH K CA ρ mh H' ∧ Ext ρ H ρ H' := by
  have e : Ext ρ H ρ H' := ⟨fun _ _ q => q, fun p xs q => k p _ q⟩
  refine ⟨⟨fun n o q => ?_, r.dom, r.inj⟩, e⟩
  obtain ⟨a, h1, h2⟩ := r.obj n o q
  exact ⟨a, h1, h2.stay e fun u z _ => k a u z⟩
def rput (ρ : Rho) (n : Nat) (p : Addr) : Rho := fun m => if m = n then some p else ρ m
theorem rput_same {n : Nat} {p : Addr} : rput ρ n p n = some p := if_pos rfl
theorem rput_ext {p : Addr} (r : RH K CA ρ mh H) (n : Nat) (a : Addr) (e : ρ n = some a) : rput ρ mh.next p n = some a := by
  have h := (r.dom n a e).1
  show (if n = mh.next then some p else ρ n) = some a
  rw [if_neg (by omega)]; exact e
/-- a new object -/
theorem RH.add {o : MO} {p : Addr} (r : RH K CA ρ mh H) (k : ∀ a u, H a = some u → H' a = some u) (hp : H p = none) (ro : ∀ ρ', Ext ρ H ρ' H' → RO K CA ρ' H' o p) :
    RH K CA (rput ρ mh.next p) (mh.new o) H' ∧ Ext ρ H (rput ρ mh.next p) H' ∧ rput ρ mh.next p mh.next = some p := by
  have e : Ext ρ H (rput ρ mh.next p) H' := ⟨fun n a q => rput_ext r n a q, fun q xs z => k q _ z⟩
  have no : ∀ n o', mh.get n = some o' → n ≠ mh.next := fun n o' q z => by
    obtain ⟨a, h1, _⟩ := r.obj n o' q
    have := (r.dom n a h1).1
    omega
  refine ⟨⟨fun n o' q => ?_, fun n a q => ?_, fun n m a o1 o2 h1 h2 h3 h4 w1 w2 => ?_⟩, e, rput_same⟩
  · by_cases hn : n = mh.next
    · subst hn
      rw [MH.new_same] at q; cases q
      exact ⟨p, rput_same, ro _ e⟩
    · rw [MH.new_ne hn] at q
      obtain ⟨a, h1, h2⟩ := r.obj n o' q
      exact ⟨a, e.map n a h1, h2.stay e fun u z _ => k a u z⟩
  · by_cases hn : n = mh.next
    · subst hn
      exact ⟨Nat.lt_succ_self _, o, MH.new_same⟩
    · have q' : ρ n = some a := by rw [← q]; exact (if_neg hn).symm
      obtain ⟨h1, o', h2⟩ := r.dom n a q'
      exact ⟨Nat.lt_succ_of_lt h1, o', by rw [MH.new_ne hn]; exact h2⟩
  · have free : ∀ l u o', l ≠ mh.next → rput ρ mh.next p l = some u → (mh.new o).get l = some o' → o'.wr = true → ρ l = some u ∧ mh.get l = some o' ∧ u ≠ p := fun l u o' hl q1 q2 w => by
      have q1' : ρ l = some u := by rw [← q1]; exact (if_neg hl).symm
      rw [MH.new_ne hl] at q2
      refine ⟨q1', q2, fun z => ?_⟩
      obtain ⟨b, hb, ro'⟩ := r.obj l o' q2
      rw [q1'] at hb; cases hb
      obtain ⟨u', hu, _⟩ := RO.some w ro'
      rw [z, hp] at hu; cases hu
    by_cases hn : n = mh.next
    · by_cases hm : m = mh.next
      · rw [hn, hm]
      · obtain ⟨_, _, ne⟩ := free m a o2 hm h2 h4 w2
        rw [hn, rput_same] at h1
        exact absurd (Option.some.inj h1).symm ne
    · obtain ⟨g1, g2, ne⟩ := free n a o1 hn h1 h3 w1
      by_cases hm : m = mh.next
      · rw [hm, rput_same] at h2
        exact absurd (Option.some.inj h2).symm ne
      · obtain ⟨g3, g4, _⟩ := free m a o2 hm h2 h4 w2
        exact r.inj n m a o1 o2 g1 g3 g2 g4 w1 w2
/-- an object is written -/
theorem RH.write {n : Nat} {a : Addr} {o o' : MO} {u : HO} (r : RH K CA ρ mh H) (e : mh.get n = some o) (q : ρ n = some a) (w : o.wr = true) (w' : o'.wr = true) (ro : ∀ H', H' = upd H a u → Ext ρ H ρ H' → RO K CA ρ H' o' a) :
    RH K CA ρ (mh.put n o') (upd H a u) ∧ Ext ρ H ρ (upd H a u) := by
  obtain ⟨u0, h0, nt, nf⟩ := RO.some w (r.at e q)
  have ex : Ext ρ H ρ (upd H a u) := ⟨fun _ _ z => z, fun p xs z => by
    rw [upd_ne (fun h => by rw [h, h0] at z; cases z; exact nt _ rfl)]; exact z⟩
  refine ⟨⟨fun m o2 z => ?_, fun m b z => ?_, fun m1 m2 b o1 o2 h1 h2 h3 h4 w1 w2 => ?_⟩, ex⟩
  · by_cases hm : m = n
    · subst hm
      rw [MH.put_same] at z; cases z
      exact ⟨a, q, ro _ rfl ex⟩
    · rw [MH.put_ne hm] at z
      obtain ⟨b, h1, h2⟩ := r.obj m o2 z
      refine ⟨b, h1, h2.stay ex fun u' y c => ?_⟩
      rw [upd_ne]; exact y
      intro hb
      subst hb
      rcases c with c | ⟨ob, xs, c⟩
      · exact hm (r.inj m n b o2 o h1 q z e c w)
      · rw [h0] at y
        cases y
        exact nf _ _ c
  · obtain ⟨h1, o2, h2⟩ := r.dom m b z
    refine ⟨h1, ?_⟩
    by_cases hm : m = n
    · exact ⟨o', by rw [hm, MH.put_same]⟩
    · exact ⟨o2, by rw [MH.put_ne hm]; exact h2⟩
  · have old : ∀ l ol, (mh.put n o').get l = some ol → ol.wr = true → ∃ o0, mh.get l = some o0 ∧ o0.wr = true := fun l ol z wl => by
      by_cases hl : l = n
      · exact ⟨o, by rw [hl]; exact e, w⟩
      · rw [MH.put_ne hl] at z
        exact ⟨ol, z, wl⟩
    obtain ⟨p1, g1, v1⟩ := old m1 o1 h3 w1
    obtain ⟨p2, g2, v2⟩ := old m2 o2 h4 w2
    exact r.inj m1 m2 b p1 p2 h1 h2 g1 g2 v1 v2
end

/-! ### what a result asks -/
/-- of a result r from (ρ, H) on: whatever map and heap bear it, Q; an exception: W -/
def Aft {α β : Type} (K : PySem.W.Frag) (CA : Str → Addr) (R : Rho → Hp → α → β → Prop) (W : Value → Option Addr → Hp → Prop) (ρ : Rho) (H : Hp) (r : Res α) (Q : β → Hp → Prop) : Prop :=
  match r with
  | .ok a mh => ∀ ρ' H' b, Ext ρ H ρ' H' → RH K CA ρ' mh H' → R ρ' H' a b → Q b H'
  | .exc c n mh => ∀ ρ' H' d, Ext ρ H ρ' H' → RH K CA ρ' mh H' → ρ' n = some d → (∃ fs, mh.get n = some (.exc c fs)) → W (.ref (CA c)) (some d) H'
  | .stuck => False
section
variable {α β γ δ : Type} {K : PySem.W.Frag} {CA : Str → Addr} {R : Rho → Hp → α → β → Prop} {R' : Rho → Hp → γ → δ → Prop} {W : Value → Option Addr → Hp → Prop} {ρ ρ' : Rho} {H H' : Hp} {Q : β → Hp → Prop} {mh : MH}
theorem Aft.ext {r : Res α} (h : Aft K CA R W ρ H r Q) (e : Ext ρ H ρ' H') : Aft K CA R W ρ' H' r Q := by
  cases r with
  | ok a m => exact fun ρ1 H1 b e1 => h ρ1 H1 b (e.trans e1)
  | exc c n m => exact fun ρ1 H1 d e1 => h ρ1 H1 d (e.trans e1)
  | stuck => exact h
/-- x, then f -/
theorem Aft.bnd {x : M γ} {f : γ → M α} (h : Aft K CA R W ρ H (M.bind x f mh) Q) :
    Aft K CA R' W ρ H (x mh) (fun b H1 => ∃ ρ1 mh1 a, Ext ρ H ρ1 H1 ∧ RH K CA ρ1 mh1 H1 ∧ R' ρ1 H1 a b ∧ Aft K CA R W ρ1 H1 (f a mh1) Q) := by
  unfold M.bind at h
  cases e : x mh with
  | ok a m =>
    rw [e] at h
    exact fun ρ1 H1 b e1 r1 q => ⟨ρ1, m, a, e1, r1, q, Aft.ext h e1⟩
  | exc c n m => rw [e] at h; exact h
  | stuck => rw [e] at h; exact h
theorem Aft.imp {r : Res α} {Q' : β → Hp → Prop} (h : Aft K CA R W ρ H r Q) (k : ∀ b H', Q b H' → Q' b H') : Aft K CA R W ρ H r Q' := by
  cases r with
  | ok a m => exact fun ρ1 H1 b e1 r1 q => k b H1 (h ρ1 H1 b e1 r1 q)
  | exc c n m => exact h
  | stuck => exact h
end
end Mi
end

section
/-! Mini, part 2: the small language and what its pieces compute. -/
namespace Mi
open PySem L2

inductive BOp where | add | sub | mul | fdiv | mod | pow | iadd | isub
  deriving DecidableEq
inductive COp where | eq | ne | lt | le | gt | ge | isN | notN | inS | niS
  deriving DecidableEq
inductive BI where | len | abs | max2 | min2 | int1 | sum | list1 | tuple1 | repr | all | isi | max1 | min1 | str1 | maxT | minT | srt
  deriving DecidableEq
/-- targets: a slot, slots of a tuple -/
inductive CT where
  | nm (i : Nat) | tp (is : List Nat)

mutual
inductive ME where
  | non | bl (b : Bool) | int (i : Int) | str (x : Str) | var (i : Nat)
  | ty (n : String) | cls (c : Str) | gint (x : Str) (i : Int)
  | bin (op : BOp) (a b : ME) | neg (a : ME) | notE (a : ME)
  | cmp (op : COp) (a b : ME) | chain (op op' : COp) (a b c : ME) | chain3 (op op' op2 : COp) (a b c d : ME)
  | and (a b : ME) | or (a b : ME) | ife (c a b : ME)
  | sub (a i : ME) | slc (a : ME) (lo hi : MOp) | rev (a : ME) | lsi (a : ME) | sst (a : ME)
  | gcd (f : Str) (es : MEs)
  | dc (kvs : List (L2.Key × L2.Key))
  | tup (es : MEs) | lst (es : MEs)
  | call (f : Str) (es : MEs) (ks : List Str) (kes : MEs) (pm : List Nat)
  | mk (c : Str) (es : MEs)
  | meth (o : ME) (m : Str) (es : MEs) (ks : List Str) (kes : MEs) (pm : List Nat)
  | bi (b : BI) (es : MEs)
  | app (o e : ME)
  | fld (o : ME) (f : Str)
  | efld (i : Nat) (f : Str)
  | comp (vs : List Nat) (t : CT) (it : MI) (c e : ME)
  | comp2 (vs : List Nat) (t : CT) (it : MI) (c : ME) (ws : List Nat) (t1 : CT) (it1 : MI) (c1 e : ME)
inductive MOp where
  | no | yes (e : ME)
inductive MI where
  | of (e : ME) | rng1 (a : ME) | rng2 (a b : ME) | enum (e : ME)
inductive MEs where
  | nil | cons (e : ME) (es : MEs)
end

def MEs.len : MEs → Nat
  | .nil => 0
  | .cons _ r => r.len + 1
/-- targets of a statement -/
inductive MT where
  | nm (i : Nat) | tp (is : List Nat) | sw (is : List Nat) | sub (o i : ME) | fld (o : ME) (f : Str)

/-- what may not be stored to while an exception is handled -/
def MT.hot : MT → Bool
  | .tp _ => true
  | .sw _ => true
  | _ => false

mutual
inductive MS where
  | pass | ret (e : ME) | retN | expr (e : ME) | asg (t : MT) (e : ME)
  | ifs (c : ME) (a b : MSs) | fors (t : CT) (it : MI) (b : MSs)
  | raise (c : Str) (es : MEs) | brk | cont
  | trys (b : MSs) (h : MHs)
inductive MHs where
  | nil | cons (c : Str) (i : Nat) (b : MSs) (r : MHs)
inductive MSs where
  | nil | cons (s : MS) (r : MSs)
end

/-- a def: its parameters, its slots, how it may be called (positional ones, keywords, which keyword each further parameter takes), its body -/
structure FnI where
  np : Nat
  ns : Nat
  pats : List (Nat × List Str × List Nat)
  body : MSs

abbrev CallF := FnI → List MV → M MV
/-- what the program's text gives: defs, methods, classes, exceptions; what a def does that is called while an exception is handled -/
structure Tab where
  hc : CallF
  fn : Str → Option FnI
  me : Str → Str → Option FnI
  mp : Str → (Nat × List Str × List Nat) → Bool
  noat : Str → Str → Bool
  free : Str → Bool
  own : Str → Bool
  gi : Str → Int → Bool
  bf : Str → String → Bool
  xat : Str → Bool
  exf : Str → Option (List Str)
  sub : Str → Str → Option Bool
  isc : Str → MV → Option Bool

/-- slots; the exception that is handled (its dict) -/
structure Env where
  sl : List (Option MV)
  ex : Option (Nat × Nat)

def Env.set (me : Env) (i : Nat) (v : MV) : Env := { sl := me.sl.set i (some v), ex := me.ex }

/-! ### values -/
abbrev idx (n : Nat) (i : Int) : Option Nat := ixN n i

def asList (h : MH) : MV → Option (List MV)
  | .ref n => match h.get n with
    | some (.lst xs) => some xs
    | some (.frz xs) => some xs
    | _ => none
  | _ => none
def asSeq (h : MH) : MV → Option (List MV)
  | .tup xs => some xs
  | v => asList h v
def newL (xs : List MV) : M MV := fun h => if xs.length ≤ sizeLine then .ok (.ref h.next) (h.new (.lst xs)) else .stuck
def opt {α : Type} : Option α → M α
  | some a => fun h => .ok a h
  | none => fun _ => .stuck
def get : M MH := fun h => .ok h h
def put (n : Nat) (o : MO) : M Unit := fun h => .ok () (h.put n o)

def small (i : Int) : Prop := -(2 ^ 64) < i ∧ i < 2 ^ 64
instance (i : Int) : Decidable (small i) := by unfold small; infer_instance
def binM (op : BOp) (x y : MV) : M MV := match op, x, y with
  | .add, .int i, .int j => M.pure (.int (i + j))
  | .sub, .int i, .int j => M.pure (.int (i - j))
  | .iadd, .int i, .int j => M.pure (.int (i + j))
  | .isub, .int i, .int j => M.pure (.int (i - j))
  | .mul, .int i, .int j => if small i ∨ small j ∨ i.natAbs.log2 + j.natAbs.log2 < 1000000 then M.pure (.int (i * j)) else M.stuck
  | .fdiv, .int i, .int j => if 0 < j ∧ j.natAbs.log2 < 9000 then M.pure (.int (i / j)) else M.stuck
  | .mod, .int i, .int j => if 0 < j then M.pure (.int (i % j)) else M.stuck
  | .pow, .int i, .int j => if 0 ≤ j ∧ j ≤ 1000000 ∧ i.natAbs < 2 ^ 64 then M.pure (.int (i ^ j.toNat)) else M.stuck
  | .add, .str a, .str b => if a.length + b.length ≤ sizeLine then M.pure (.str (a ++ b)) else M.stuck
  | .add, .tup xs, .tup ys => if xs.length + ys.length ≤ sizeLine then M.pure (.tup (xs ++ ys)) else M.stuck
  | .add, .ref a, .ref b => fun h => match h.get a, h.get b with
    | some (.lst xs), some (.lst ys) => newL (xs ++ ys) h
    | _, _ => .stuck
  | .mul, .ref a, .int k => fun h => match h.get a with
    | some (.lst xs) => if -(2 ^ 63) ≤ k ∧ k < 2 ^ 63 ∧ xs.length * k.toNat ≤ sizeLine then newL (List.replicate k.toNat xs).flatten h else .stuck
    | _ => .stuck
  | _, _, _ => M.stuck

/-- a key as data, as a value -/
def kD : L2.Key → PyData
  | .inl i => .int i
  | .inr x => .str x
def kM : L2.Key → MV
  | .inl i => .int i
  | .inr x => .str x
def newD (kvs : List (L2.Key × MV)) : M MV := fun h => .ok (.ref h.next) (h.new (.dct kvs))
mutual
/-- a value as data, nested at most n deep -/
def toD (h : MH) : Nat → MV → Option PyData
  | 0, _ => none
  | _ + 1, .non => some .none
  | _ + 1, .bl b => some (.bool b)
  | _ + 1, .int i => some (.int i)
  | _ + 1, .str x => some (.str x)
  | n + 1, .tup xs => (toDs h n xs).map .tuple
  | n + 1, .ref r => match h.get r with
    | some (.lst xs) => (toDs h n xs).map .list
    | some (.dct kvs) => (toDs h n (kvs.map (·.2))).map fun ds => .dict ((kvs.map fun p => kD p.1).zip ds)
    | _ => none
  | _ + 1, _ => none
def toDs (h : MH) : Nat → List MV → Option (List PyData)
  | _, [] => some []
  | 0, _ :: _ => none
  | n + 1, x :: xs => match toD h n x, toDs h n xs with
    | some d, some ds => some (d :: ds)
    | _, _ => none
end
/-- the depth to which data is looked at -/
def dpt : Nat := 5000

/-- the built-in types that stand here -/
def subTy (a b : String) : Option Bool :=
  if ["NoneType", "bool", "int", "str", "list", "tuple", "dict"].contains a && ["bool", "int", "str", "list", "tuple", "dict", "bytes"].contains b then some (a == b || (a == "bool" && b == "int")) else none
def isi1 (T : Tab) (h : MH) (x : MV) (c : MV) : Option Bool :=
  match x, c with
  | .non, .ty b => subTy "NoneType" b
  | .bl _, .ty b => subTy "bool" b
  | .int _, .ty b => subTy "int" b
  | .str _, .ty b => subTy "str" b
  | .tup _, .ty b => subTy "tuple" b
  | .ref n, c => match h.get n with
    | some (.lst _) => (match c with | .ty b => subTy "list" b | _ => none)
    | some (.dct _) => (match c with | .ty b => subTy "dict" b | _ => none)
    | some (.ins d _) => T.isc d c
    | _ => none
  | _, _ => none
def isCl : MV → Bool
  | .ty _ => true
  | .cls _ => true
  | _ => false
def isiAny (T : Tab) (h : MH) (x : MV) : List MV → Option Bool
  | [] => some false
  | c :: cs => match isi1 T h x c with
    | some true => some true
    | some false => isiAny T h x cs
    | none => none

def scalar : MV → Bool
  | .non => true
  | .bl _ => true
  | .int _ => true
  | .str _ => true
  | _ => false
def intsM : List MV → Option (List Int)
  | [] => some []
  | .int i :: r => (intsM r).map (i :: ·)
  | _ => none
/-- sorted ints -/
def insI (k : Int) : List Int → List Int
  | [] => [k]
  | m :: r => if k ≤ m then k :: m :: r else m :: insI k r
def isort : List Int → List Int
  | [] => []
  | k :: r => insI k (isort r)
/-- sorted unlike ints -/
def insU (k : Int) : List Int → List Int
  | [] => [k]
  | m :: r => if k < m then k :: m :: r else if k = m then m :: r else m :: insU k r
def sds : List Int → List Int
  | [] => []
  | k :: r => insU k (sds r)
theorem insI_perm (k : Int) : ∀ l, (insI k l).Perm (k :: l)
  | [] => .refl _
  | m :: r => by
    unfold insI
    split
    · exact .refl _
    · exact ((insI_perm k r).cons m).trans (.swap k m r)
theorem isort_perm : ∀ l, (isort l).Perm l
  | [] => .refl _
  | k :: r => (insI_perm k (isort r)).trans ((isort_perm r).cons k)
theorem insI_pw (k : Int) : ∀ l, l.Pairwise (· ≤ ·) → (insI k l).Pairwise (· ≤ ·)
  | [], _ => by simp [insI]
  | m :: r, h => by
    have h' := List.pairwise_cons.mp h
    unfold insI
    split
    · rename_i q
      refine List.pairwise_cons.mpr ⟨fun x hx => ?_, h⟩
      rcases List.mem_cons.mp hx with rfl | hx
      · exact q
      · exact Int.le_trans q (h'.1 x hx)
    · refine List.pairwise_cons.mpr ⟨fun x hx => ?_, insI_pw k r h'.2⟩
      rcases List.mem_cons.mp ((insI_perm k r).mem_iff.mp hx) with rfl | hx
      · omega
      · exact h'.1 x hx
theorem isort_pw : ∀ l, (isort l).Pairwise (· ≤ ·)
  | [] => List.Pairwise.nil
  | k :: r => insI_pw k _ (isort_pw r)
theorem isort_unique {l l' : List Int} (p : l'.Perm l) (s : l'.Pairwise (· ≤ ·)) : l' = isort l :=
  List.Perm.eq_of_pairwise (fun _ _ _ _ a b => Int.le_antisymm a b) s (isort_pw l) (p.trans (isort_perm l).symm)
theorem insU_mem (k x : Int) : ∀ l, x ∈ insU k l ↔ x = k ∨ x ∈ l
  | [] => by simp [insU]
  | m :: r => by
    unfold insU
    split
    · simp
    · split
      · rename_i q
        subst q
        simp
      · rw [List.mem_cons, insU_mem k x r, List.mem_cons]
        constructor
        · rintro (h | h | h) <;> simp [h]
        · rintro (h | h | h) <;> simp [h]
theorem sds_mem (x : Int) : ∀ l, x ∈ sds l ↔ x ∈ l
  | [] => Iff.rfl
  | k :: r => by
    unfold sds
    rw [insU_mem, sds_mem x r, List.mem_cons]
theorem insU_pw (k : Int) : ∀ l, l.Pairwise (· < ·) → (insU k l).Pairwise (· < ·)
  | [], _ => by simp [insU]
  | m :: r, h => by
    have h' := List.pairwise_cons.mp h
    unfold insU
    split
    · rename_i q
      refine List.pairwise_cons.mpr ⟨fun x hx => ?_, h⟩
      rcases List.mem_cons.mp hx with rfl | hx
      · exact q
      · exact Int.lt_trans q (h'.1 x hx)
    · split
      · exact h
      · refine List.pairwise_cons.mpr ⟨fun x hx => ?_, insU_pw k r h'.2⟩
        rcases (insU_mem k x r).mp hx with rfl | hx
        · omega
        · exact h'.1 x hx
theorem sds_pw : ∀ l, (sds l).Pairwise (· < ·)
  | [] => List.Pairwise.nil
  | k :: r => insU_pw k _ (sds_pw r)
theorem lt_nodup {l : List Int} (s : l.Pairwise (· < ·)) : l.Nodup := s.imp fun h => Int.ne_of_lt h
theorem sds_unique {l l' : List Int} (s : l'.Pairwise (· < ·)) (m : ∀ k, k ∈ l' ↔ k ∈ l) : l' = sds l :=
  List.Perm.eq_of_pairwise (le := (· < ·)) (fun a b _ _ h1 h2 => absurd (Int.lt_trans h1 h2) (Int.lt_irrefl _)) s (sds_pw l) ((List.perm_ext_iff_of_nodup (lt_nodup s) (lt_nodup (sds_pw l))).mpr fun a => (m a).trans (sds_mem a l).symm)
def eqM (x y : MV) : M Bool := match x, y with
  | .int i, .int j => M.pure (decide (i = j))
  | .str a, .str b => M.pure (decide (a = b))
  | .bl a, .bl b => M.pure (decide (a = b))
  | .non, .non => M.pure true
  | x, y => fun h => match toD h dpt x, toD h dpt y with
    | some d, some e => if PySem.SeqAt.shaped d = true ∧ PySem.SeqAt.shaped e = true then .ok (PyData.eqv d e) h else .stuck
    | _, _ => .stuck
def cmpM (op : COp) (x y : MV) : M MV := match op with
  | .eq => M.bind (eqM x y) fun b => M.pure (.bl b)
  | .ne => M.bind (eqM x y) fun b => M.pure (.bl (!b))
  | .isN => match y with
    | .non => M.pure (.bl (match x with | .non => true | _ => false))
    | _ => M.stuck
  | .notN => match y with
    | .non => M.pure (.bl (match x with | .non => false | _ => true))
    | _ => M.stuck
  | .inS => match x with
    | .int i => fun h => match (asSeq h y).bind intsM with
      | some ns => .ok (.bl (decide (i ∈ ns))) h
      | none => .stuck
    | _ => M.stuck
  | .niS => match x with
    | .int i => fun h => match (asSeq h y).bind intsM with
      | some ns => .ok (.bl (!decide (i ∈ ns))) h
      | none => .stuck
    | _ => M.stuck
  | .lt => match x, y with | .int i, .int j => M.pure (.bl (decide (i < j))) | _, _ => M.stuck
  | .le => match x, y with | .int i, .int j => M.pure (.bl (decide (i ≤ j))) | _, _ => M.stuck
  | .gt => match x, y with | .int i, .int j => M.pure (.bl (decide (j < i))) | _, _ => M.stuck
  | .ge => match x, y with | .int i, .int j => M.pure (.bl (decide (j ≤ i))) | _, _ => M.stuck
def subM (x y : MV) : M MV := match y with
  | .int i => fun h => match asSeq h x with
    | some xs => match (idx xs.length i).bind fun j => xs[j]? with
      | some v => .ok v h
      | none => .stuck
    | none => .stuck
  | _ => M.stuck
/-- a slice -/
def cut (xs : List MV) (lo hi : Option Int) : List MV := (xs.drop (HT.sIx xs.length 0 lo)).take (HT.sIx xs.length xs.length hi - HT.sIx xs.length 0 lo)
def slcM (x : MV) (lo hi : Option Int) : M MV := match x with
  | .ref n => fun h => match asList h (.ref n) with
    | some xs => newL (cut xs lo hi) h
    | none => .stuck
  | .tup xs => M.pure (.tup (cut xs lo hi))
  | _ => M.stuck
/-- sorted(set(xs)) of a tuple of ints -/
def sstM (x : MV) : M MV := match x with
  | .tup xs => fun h => match intsM xs with
    | some ns => if ns.length ≤ 50 then newL ((sds ns).map .int) h else .stuck
    | none => .stuck
  | _ => M.stuck
/-- the greatest common divisor -/
def gcdM (vs : List MV) : M MV := match vs with
  | [.int i, .int j] => M.pure (.int ((Nat.gcd i.natAbs j.natAbs : Nat) : Int))
  | _ => M.stuck
/-- xs[::-1] -/
def revM (x : MV) : M MV := match x with
  | .ref n => fun h => match asList h (.ref n) with
    | some xs => newL xs.reverse h
    | none => .stuck
  | _ => M.stuck
/-- len(set(xs)) of unlike ints -/
def lsiM (x : MV) : M MV := match x with
  | .ref n => fun h => match (asList h (.ref n)).bind intsM with
    | some ns => if ns.Nodup ∧ ns.length ≤ 4000 then .ok (.int (ns.length : Nat)) h else .stuck
    | none => .stuck
  | _ => M.stuck
def boolsM : List MV → Option (List Bool)
  | [] => some []
  | .bl b :: r => (boolsM r).map (b :: ·)
  | _ => none
/-- tuples of ints, compared -/
def ltT (ns ms : List Int) : Bool := Ob.lexAt (fun j => decide (ns.getD j 0 = ms.getD j 0)) (fun j => decide (ns.getD j 0 < ms.getD j 0)) (decide (ns.length < ms.length)) 0 (min ns.length ms.length)
def gtT (ns ms : List Int) : Bool := Ob.lexAt (fun j => decide (ns.getD j 0 = ms.getD j 0)) (fun j => decide (ms.getD j 0 < ns.getD j 0)) (decide (ns.length > ms.length)) 0 (min ns.length ms.length)
def tupsM : List MV → Option (List (List Int))
  | [] => some []
  | .tup xs :: r => match intsM xs, tupsM r with
    | some t, some ts => some (t :: ts)
    | _, _ => none
  | _ => none
/-- the first one that none is better than -/
def bestT (lt : List Int → List Int → Bool) (b : List Int) : List (List Int) → List Int
  | [] => b
  | x :: r => bestT lt (if lt x b = true then x else b) r
/-- the greatest, the least of some ints -/
def maxI (n : Int) : List Int → Int
  | [] => n
  | m :: r => maxI (if n < m then m else n) r
def minI (n : Int) : List Int → Int
  | [] => n
  | m :: r => minI (if m < n then m else n) r
theorem maxI_mem (ns : List Int) : ∀ n, maxI n ns ∈ n :: ns := by
  induction ns with
  | nil => intro n; exact List.mem_cons_self
  | cons m r ih =>
    intro n
    unfold maxI
    rcases List.mem_cons.mp (ih (if n < m then m else n)) with h | h
    · rw [h]; split
      · exact List.mem_cons_of_mem _ List.mem_cons_self
      · exact List.mem_cons_self
    · exact List.mem_cons_of_mem _ (List.mem_cons_of_mem _ h)
theorem maxI_ge (ns : List Int) : ∀ n y, y ∈ n :: ns → y ≤ maxI n ns := by
  induction ns with
  | nil => intro n y h; simp at h; subst h; exact Int.le_refl _
  | cons m r ih =>
    intro n y h
    unfold maxI
    have h1 := ih (if n < m then m else n) _ List.mem_cons_self
    have h2 : n ≤ (if n < m then m else n) := by split <;> omega
    have h3 : m ≤ (if n < m then m else n) := by split <;> omega
    rcases List.mem_cons.mp h with h | h
    · subst h; exact Int.le_trans h2 h1
    · rcases List.mem_cons.mp h with h | h
      · subst h; exact Int.le_trans h3 h1
      · exact ih _ _ (List.mem_cons_of_mem _ h)
theorem minI_mem (ns : List Int) : ∀ n, minI n ns ∈ n :: ns := by
  induction ns with
  | nil => intro n; exact List.mem_cons_self
  | cons m r ih =>
    intro n
    unfold minI
    rcases List.mem_cons.mp (ih (if m < n then m else n)) with h | h
    · rw [h]; split
      · exact List.mem_cons_of_mem _ List.mem_cons_self
      · exact List.mem_cons_self
    · exact List.mem_cons_of_mem _ (List.mem_cons_of_mem _ h)
theorem minI_le (ns : List Int) : ∀ n y, y ∈ n :: ns → minI n ns ≤ y := by
  induction ns with
  | nil => intro n y h; simp at h; subst h; exact Int.le_refl _
  | cons m r ih =>
    intro n y h
    unfold minI
    have h1 := ih (if m < n then m else n) _ List.mem_cons_self
    have h2 : (if m < n then m else n) ≤ n := by split <;> omega
    have h3 : (if m < n then m else n) ≤ m := by split <;> omega
    rcases List.mem_cons.mp h with h | h
    · subst h; exact Int.le_trans h1 h2
    · rcases List.mem_cons.mp h with h | h
      · subst h; exact Int.le_trans h1 h3
      · exact ih _ _ (List.mem_cons_of_mem _ h)
def biM (T : Tab) (b : BI) (vs : List MV) : M MV := match b, vs with
  | .len, [.str x] => if x.length ≤ sizeLine then M.pure (.int x.length) else M.stuck
  | .len, [x] => fun h => match asSeq h x with
    | some xs => .ok (.int xs.length) h
    | none => .stuck
  | .abs, [.int i] => M.pure (.int (if i < 0 then -i else i))
  | .max2, [.int i, .int j] => M.pure (.int (if j > i then j else i))
  | .min2, [.int i, .int j] => M.pure (.int (if j < i then j else i))
  | .str1, [.int i] => if i.natAbs.log2 < 1920 then M.pure (.str (Str.ofString (toString i))) else M.stuck
  | .str1, [.str x] => M.pure (.str x)
  | .int1, [.int i] => M.pure (.int i)
  | .int1, [.bl b] => M.pure (.int (if b then 1 else 0))
  | .sum, [x] => fun h => match (asList h x).bind intsM with
    | some ns => .ok (.int ns.sum) h
    | none => .stuck
  | .max1, [x] => fun h => match (asList h x).bind intsM with
    | some (n :: ns) => .ok (.int (maxI n ns)) h
    | _ => .stuck
  | .min1, [x] => fun h => match (asList h x).bind intsM with
    | some (n :: ns) => .ok (.int (minI n ns)) h
    | _ => .stuck
  | .maxT, [x] => fun h => match (asList h x).bind tupsM with
    | some (t :: ts) => .ok (.tup ((bestT gtT t ts).map .int)) h
    | _ => .stuck
  | .minT, [x] => fun h => match (asList h x).bind tupsM with
    | some (t :: ts) => .ok (.tup ((bestT ltT t ts).map .int)) h
    | _ => .stuck
  | .srt, [x] => fun h => match (asList h x).bind intsM with
    | some ns => newL ((isort ns).map .int) h
    | none => .stuck
  | .all, [x] => fun h => match (asList h x).bind boolsM with
    | some ns => .ok (.bl (ns.all id)) h
    | none => .stuck
  | .list1, [x] => fun h => match asSeq h x with
    | some xs => newL xs h
    | none => .stuck
  | .tuple1, [x] => fun h => match asSeq h x with
    | some xs => if xs.length ≤ sizeLine then .ok (.tup xs) h else .stuck
    | none => .stuck
  | .repr, [x] => fun h => match toD h dpt x with
    | some d => if d.showable = true ∧ d.shown.length ≤ sizeLine ∧ d.depth ≤ 1000 then .ok (.str d.shown) h else .stuck
    | none => .stuck
  | .isi, [x, .tup cs] => fun h => match isiAny T h x cs with
    | some b => if cs.all isCl = true ∧ cs.isEmpty = false then .ok (.bl b) h else .stuck
    | none => .stuck
  | .isi, [x, .ty c] => fun h => match isi1 T h x (.ty c) with
    | some b => .ok (.bl b) h
    | none => .stuck
  | .isi, [x, .cls c] => fun h => match isi1 T h x (.cls c) with
    | some b => .ok (.bl b) h
    | none => .stuck
  | _, _ => M.stuck
def isLst (x : MV) : M Unit := match x with
  | .ref n => fun h => match h.get n with
    | some (.lst _) => .ok () h
    | _ => .stuck
  | _ => M.stuck
def appM (x v : MV) : M MV := match x with
  | .ref n => fun h => match h.get n with
    | some (.lst xs) => if xs.length < sizeLine then .ok .non (h.put n (.lst (xs ++ [v]))) else .stuck
    | _ => .stuck
  | _ => M.stuck
def fldM (T : Tab) (f : Str) (x : MV) : M MV := match x with
  | .ref n => fun h => match h.get n with
    | some (.ins c fs) => if T.noat c f = true then (match fs.lookup f with
      | some v => .ok v h
      | none => .stuck) else .stuck
    | _ => .stuck
  | _ => M.stuck
def putM (f : Str) (v : MV) : List (Str × MV) → List (Str × MV)
  | [] => [(f, v)]
  | (g, w) :: r => if g = f then (g, v) :: r else (g, w) :: putM f v r
def setFldM (T : Tab) (f : Str) (x v : MV) : M Unit := match x with
  | .ref n => fun h => match h.get n with
    | some (.ins c fs) => if T.noat c f = true ∧ fs.length < 1000 then .ok () (h.put n (.ins c (putM f v fs))) else .stuck
    | _ => .stuck
  | _ => M.stuck
def setSubM (x i v : MV) : M Unit := match x, i with
  | .ref n, .int k => fun h => match h.get n with
    | some (.lst xs) => match idx xs.length k with
      | some j => .ok () (h.put n (.lst (xs.set j v)))
      | none => .stuck
    | _ => .stuck
  | _, _ => M.stuck
def boolM : MV → M Bool
  | .bl b => M.pure b
  | _ => M.stuck

/-! ### iterators -/
inductive It where
  | lst (n : Nat) | tup (xs : List MV) | rng (lo : Int) (n : Nat) | enum (n : Nat) | enumT (xs : List MV)
/-- item i: stuck, the end, an item -/
def It.at (h : MH) (i : Nat) : It → Option (Option MV)
  | .lst n => (asList h (.ref n)).map fun xs => xs[i]?
  | .tup xs => some xs[i]?
  | .rng lo n => some (if i < n then some (.int (lo + i)) else none)
  | .enum n => (asList h (.ref n)).map fun xs => (xs[i]?).map fun x => .tup [.int i, x]
  | .enumT xs => some ((xs[i]?).map fun x => .tup [.int i, x])
def It.size (h : MH) : It → Nat
  | .lst n => ((asList h (.ref n)).getD []).length
  | .tup xs => xs.length
  | .rng _ n => n
  | .enum n => ((asList h (.ref n)).getD []).length
  | .enumT xs => xs.length
def itOf : MV → M It
  | .ref n => fun h => match asList h (.ref n) with
    | some _ => .ok (.lst n) h
    | none => .stuck
  | .tup xs => M.pure (.tup xs)
  | _ => M.stuck
def rngOk (i : Int) : Prop := -(2 ^ 62) ≤ i ∧ i < 2 ^ 62
instance (i : Int) : Decidable (rngOk i) := by unfold rngOk; infer_instance

/-- store an item to the slots of a target -/
def setT (h : MH) (me : Env) (v : MV) : CT → Option Env
  | .nm i => some (me.set i v)
  | .tp is => match asSeq h v with
    | some xs => if xs.length = is.length then some ((is.zip xs).foldl (fun m p => m.set p.1 p.2) me) else none
    | none => none
/-- unpacking a list, too -/
def setTL (me : Env) (v : MV) (is : List Nat) : M Env := fun h => match asSeq h v with
  | some xs => if xs.length = is.length then .ok ((is.zip xs).foldl (fun m p => m.set p.1 p.2) me) h else .stuck
  | none => .stuck
def wipeM (me : Env) (vs : List Nat) : Env := { sl := vs.foldr (fun v s => s.set v none) me.sl, ex := me.ex }

/-- a target's slots are among these -/
def ctIn (vs : List Nat) : CT → Bool
  | .nm i => vs.contains i
  | .tp is => is.all fun i => vs.contains i
/-- no exception may leave -/
def quiet {α : Type} (x : M α) : M α := fun h => match x h with
  | .exc _ _ _ => .stuck
  | r => r

/-- the turns of a comprehension: acc, what is made, stands at object r -/
def compL (step : MV → M (Option MV)) (it : It) (r : Nat) : Nat → Nat → M Unit
  | 0, i => fun h => match it.at h i with
    | some none => .ok () h
    | _ => .stuck
  | k + 1, i => fun h => match it.at h i with
    | some none => .ok () h
    | some (some v) => M.bind (step v) (fun o => match o with
      | none => compL step it r k (i + 1)
      | some w => fun h => match h.get r with
        | some (.lst acc) => if acc.length < sizeLine then compL step it r k (i + 1) (h.put r (.lst (acc ++ [w]))) else .stuck
        | _ => .stuck) h
    | none => .stuck

/-- the turns of an outer generator -/
def compO (step : MV → M Unit) (it : It) : Nat → Nat → M Unit
  | 0, i => fun h => match it.at h i with
    | some none => .ok () h
    | _ => .stuck
  | k + 1, i => fun h => match it.at h i with
    | some none => .ok () h
    | some (some v) => M.bind (step v) (fun _ => compO step it k (i + 1)) h
    | none => .stuck
def argsOf (np : Nat) (vs ws : List MV) (pm : List Nat) : Option (List MV) :=
  let r := vs ++ pm.map fun i => ws.getD i .non
  if r.length = np ∧ vs.length + ws.length = np ∧ pm.length = ws.length then some r else none

/-- what may not be done while an exception is handled -/
def calmB : BI → Bool
  | .sum => true
  | .all => true
  | .max2 => true
  | .max1 => true
  | .min1 => true
  | .maxT => true
  | .minT => true
  | .min2 => true
  | _ => false

section
variable (T : Tab) (C : CallF)
def mkM (c : Str) (vs : List MV) : M MV := fun h => match T.me c "__init__" with
  | some fi => if fi.np = vs.length + 1 then (match C fi (.ref h.next :: vs) (h.new (.ins c [])) with
    | .ok .non h' => .ok (.ref h.next) h'
    | .ok _ _ => .stuck
    | .exc c n h' => .exc c n h'
    | .stuck => .stuck) else .stuck
  | none => .stuck
def callM (f : Str) (vs ws : List MV) (pm : List Nat) : M MV := match T.fn f with
  | some fi => match argsOf fi.np vs ws pm with
    | some as => C fi as
    | none => M.stuck
  | none => M.stuck
def methM (m : Str) (x : MV) (k : FnI → M MV) : M MV := match x with
  | .ref n => fun h => match h.get n with
    | some (.ins c fs) => match fs.lookup m, T.me c m with
      | none, some fi => k fi h
      | _, _ => .stuck
    | _ => .stuck
  | _ => M.stuck
mutual
def evE (me : Env) : ME → M MV
  | .non => M.pure .non
  | .bl b => M.pure (.bl b)
  | .int i => M.pure (.int i)
  | .str x => M.pure (.str x)
  | .var i => opt (me.sl[i]?.getD none)
  | .ty n => M.pure (.ty n)
  | .cls c => M.pure (.cls c)
  | .gint _ i => M.pure (.int i)
  | .bin op a b => M.bind (evE me a) fun x => M.bind (evE me b) fun y => binM op x y
  | .neg a => M.bind (evE me a) fun x => match x with
    | .int i => M.pure (.int (-i))
    | _ => M.stuck
  | .notE a => M.bind (evE me a) fun x => M.bind (boolM x) fun b => M.pure (.bl (!b))
  | .cmp op a b => M.bind (evE me a) fun x => M.bind (evE me b) fun y => cmpM op x y
  | .chain op op' a b c => M.bind (evE me a) fun x => M.bind (evE me b) fun y => M.bind (cmpM op x y) fun z => M.bind (boolM z) fun k =>
      if k = true then M.bind (evE me c) fun w => cmpM op' y w else M.pure (.bl false)
  | .chain3 op op' op2 a b c d => M.bind (evE me a) fun x => M.bind (evE me b) fun y => M.bind (cmpM op x y) fun z => M.bind (boolM z) fun k =>
      if k = true then M.bind (evE me c) fun w => M.bind (cmpM op' y w) fun z => M.bind (boolM z) fun k =>
        if k = true then M.bind (evE me d) fun v => cmpM op2 w v else M.pure (.bl false) else M.pure (.bl false)
  | .and a b => M.bind (evE me a) fun x => M.bind (boolM x) fun k => if k = true then evE me b else M.pure (.bl false)
  | .or a b => M.bind (evE me a) fun x => M.bind (boolM x) fun k => if k = true then M.pure (.bl true) else evE me b
  | .ife c a b => M.bind (evT me c) fun k => if k = true then evE me a else evE me b
  | .sub a i => M.bind (evE me a) fun x => M.bind (evE me i) fun y => subM x y
  | .slc a lo hi => M.bind (evE me a) fun x => M.bind (evO me lo) fun l => M.bind (evO me hi) fun u => slcM x l u
  | .rev a => M.bind (evE me a) fun x => revM x
  | .lsi a => if me.ex.isSome = true then M.stuck else M.bind (evE me a) fun x => lsiM x
  | .sst a => if me.ex.isSome = true then M.stuck else M.bind (evE me a) fun x => sstM x
  | .gcd _ es => if me.ex.isSome = true then M.stuck else M.bind (evEs me es) fun vs => gcdM vs
  | .tup es => M.bind (evEs me es) fun vs => if vs.length ≤ sizeLine then M.pure (.tup vs) else M.stuck
  | .lst es => M.bind (evEs me es) fun vs => newL vs
  | .dc kvs => newD (kvs.map fun p => (p.1, kM p.2))
  | .call f es ks kes pm => M.bind (evEs me es) fun vs => M.bind (evEs me kes) fun ws => callM T C f vs ws pm
  | .mk c es => if me.ex.isSome = true then M.stuck else M.bind (evEs me es) fun vs => mkM T C c vs
  | .meth o m es ks kes pm => if me.ex.isSome = true then M.stuck else M.bind (evE me o) fun x => methM T m x fun fi => M.bind (evEs me es) fun vs => M.bind (evEs me kes) fun ws => match argsOf fi.np (x :: vs) ws pm with
    | some as => C fi as
    | none => M.stuck
  | .bi b es => if calmB b = true ∧ me.ex.isSome = true then M.stuck else M.bind (evEs me es) fun vs => biM T b vs
  | .app o e => M.bind (evE me o) fun x => M.bind (isLst x) fun _ => M.bind (evE me e) fun v => appM x v
  | .fld o f => M.bind (evE me o) fun x => fldM T f x
  | .efld i f => fun h => match me.ex with
    | some (j, n) => if i = j ∧ i < me.sl.length ∧ T.xat f = true then (match h.get n with
      | some (.exc _ fs) => (match fs.lookup f with
        | some v => .ok v h
        | none => .stuck)
      | _ => .stuck) else .stuck
    | none => .stuck
  | .comp vs t it c e => if me.ex.isSome = true then M.stuck else M.bind (evI me it) fun J => fun h => M.bind (newL []) (fun r => match r with
    | .ref n => fun h' => M.bind (compL (fun v h => match setT h (wipeM me vs) v t with
        | some me' => quiet (M.bind (evT me' c) fun k => if k = true then M.bind (evE me' e) fun w => M.pure (some w) else M.pure none) h
        | none => .stuck) J n (J.size h) 0) (fun _ => M.pure (.ref n)) h'
    | _ => M.stuck) h
  | .comp2 vs t it c ws t1 it1 c1 e => if me.ex.isSome = true then M.stuck else M.bind (evI me it) fun J => fun h => M.bind (newL []) (fun r => match r with
    | .ref n => fun h' => M.bind (compO (fun v h => match setT h (wipeM me vs) v t with
        | some me' => M.bind (quiet (evT me' c)) (fun k => if k = true then M.bind (quiet (evI me' it1)) (fun J1 => fun h => compL (fun v h => match setT h (wipeM me' ws) v t1 with
            | some me2 => quiet (M.bind (evT me2 c1) fun k => if k = true then M.bind (evE me2 e) fun w => M.pure (some w) else M.pure none) h
            | none => .stuck) J1 n (J1.size h) 0 h) else M.pure ()) h
        | none => .stuck) J (J.size h) 0) (fun _ => M.pure (.ref n)) h'
    | _ => M.stuck) h
def evT (me : Env) : ME → M Bool
  | .and a b => M.bind (evT me a) fun k => if k = true then evT me b else M.pure false
  | .or a b => M.bind (evT me a) fun k => if k = true then M.pure true else evT me b
  | .notE a => M.bind (evT me a) fun k => M.pure (!k)
  | .bl b => M.pure b
  | .var i => M.bind (opt (me.sl[i]?.getD none)) boolM
  | .cmp op a b => M.bind (M.bind (evE me a) fun x => M.bind (evE me b) fun y => cmpM op x y) boolM
  | .chain op op' a b c => M.bind (M.bind (evE me a) fun x => M.bind (evE me b) fun y => M.bind (cmpM op x y) fun z => M.bind (boolM z) fun k =>
      if k = true then M.bind (evE me c) fun w => cmpM op' y w else M.pure (.bl false)) boolM
  | .sub a i => M.bind (M.bind (evE me a) fun x => M.bind (evE me i) fun y => subM x y) boolM
  | .call f es ks kes pm => M.bind (M.bind (evEs me es) fun vs => M.bind (evEs me kes) fun ws => callM T C f vs ws pm) boolM
  | .bi b es => M.bind (if calmB b = true ∧ me.ex.isSome = true then M.stuck else M.bind (evEs me es) fun vs => biM T b vs) boolM
  | .meth o m es ks kes pm => M.bind (if me.ex.isSome = true then M.stuck else M.bind (evE me o) fun x => methM T m x fun fi => M.bind (evEs me es) fun vs => M.bind (evEs me kes) fun ws => match argsOf fi.np (x :: vs) ws pm with
    | some as => C fi as
    | none => M.stuck) boolM
  | _ => M.stuck
def evO (me : Env) : MOp → M (Option Int)
  | .no => M.pure none
  | .yes e => M.bind (evE me e) fun x => match x with
    | .int i => M.pure (some i)
    | _ => M.stuck
def evI (me : Env) : MI → M It
  | .of e => M.bind (evE me e) itOf
  | .rng1 a => M.bind (evE me a) fun x => match x with
    | .int j => if rngOk j then M.pure (.rng 0 j.toNat) else M.stuck
    | _ => M.stuck
  | .rng2 a b => M.bind (evE me a) fun x => M.bind (evE me b) fun y => match x, y with
    | .int i, .int j => if rngOk i ∧ rngOk j then M.pure (.rng i (j - i).toNat) else M.stuck
    | _, _ => M.stuck
  | .enum e => M.bind (evE me e) fun x => match x with
    | .ref n => fun h => match asList h (.ref n) with
      | some _ => .ok (.enum n) h
      | none => .stuck
    | .tup xs => M.pure (.enumT xs)
    | _ => M.stuck
def evEs (me : Env) : MEs → M (List MV)
  | .nil => M.pure []
  | .cons e es => M.bind (evE me e) fun v => M.bind (evEs me es) fun vs => M.pure (v :: vs)
end
end

/-! ### statements -/
inductive Fl where
  | next (me : Env) | ret (v : MV) | brk (me : Env) | cont (me : Env)
/-- how a statement ends -/
inductive SR where
  | ok (f : Fl) (h : MH) | exc (c : Str) (n : Nat) (me : Env) (h : MH) | stuck
def SR.of {α : Type} (me : Env) (r : Res α) (k : α → MH → SR) : SR := match r with
  | .ok a h => k a h
  | .exc c n h => .exc c n me h
  | .stuck => .stuck
/-- the turns of a for -/
def forL (step : MV → Env → MH → SR) (it : It) : Nat → Nat → Env → MH → SR
  | 0, i, me, h => match it.at h i with
    | some none => .ok (.next me) h
    | _ => .stuck
  | k + 1, i, me, h => match it.at h i with
    | some none => .ok (.next me) h
    | some (some v) => match step v me h with
      | .ok (.next me') h' => forL step it k (i + 1) me' h'
      | .ok (.cont me') h' => forL step it k (i + 1) me' h'
      | .ok (.brk me') h' => .ok (.next me') h'
      | .ok (.ret v) h' => .ok (.ret v) h'
      | .exc c n me' h' => .exc c n me' h'
      | .stuck => .stuck
    | none => .stuck
section
variable (T : Tab)
def asgM (C : CallF) (me : Env) (v : MV) : MT → M Env
  | .nm i => if (me.ex.map (·.1)) = some i then M.stuck else M.pure (me.set i v)
  | .tp is => if me.ex.isSome = true then M.stuck else setTL me v is
  | .sw is => match v with
    | .tup xs => if xs.length = is.length ∧ me.ex.isSome = false then M.pure ((is.zip xs).reverse.foldl (fun m p => m.set p.1 p.2) me) else M.stuck
    | _ => M.stuck
  | .sub o i => M.bind (evE T C me o) fun x => M.bind (evE T C me i) fun y => M.bind (setSubM x y v) fun _ => M.pure me
  | .fld o f => M.bind (evE T C me o) fun x => M.bind (setFldM T f x v) fun _ => M.pure me
/-- nothing own is called -/
def noCall : CallF := fun _ _ => M.stuck
mutual
def exS (C : CallF) : MS → Env → MH → SR
  | .pass, me, h => .ok (.next me) h
  | .ret e, me, h => .of me (evE T C me e h) fun v h => .ok (.ret v) h
  | .retN, me, h => .ok (.ret .non) h
  | .expr e, me, h => .of me (evE T C me e h) fun _ h => .ok (.next me) h
  | .asg t e, me, h => if t.hot = true ∧ me.ex.isSome = true then .stuck else .of me (evE T C me e h) fun v h => .of me (asgM T C me v t h) fun me' h => .ok (.next me') h
  | .ifs c a b, me, h => .of me (evT T C me c h) fun k h => if k = true then exB C a me h else exB C b me h
  | .fors t it b, me, h => if me.ex.isSome = true then (match t, it with
      | .nm i, .of e => if (me.ex.map (·.1)) = some i then .stuck else .of me (evE T C me e h) fun x h => match x with
        | .ref n => (match asList h (.ref n) with
          | some _ => forL (fun v me h => exB C b (me.set i v) h) (.lst n) ((It.lst n).size h) 0 me h
          | none => .stuck)
        | _ => .stuck
      | _, _ => .stuck) else .of me (evI T C me it h) fun J h => forL (fun v me h => match setT h me v t with
      | some me' => exB C b me' h
      | none => .stuck) J (J.size h) 0 me h
  | .raise c es, me, h => if me.ex.isSome = true then .stuck else .of me (evEs T C me es h) fun vs h => match T.exf c with
    | some fs => if fs.length = vs.length ∧ fs ≠ [] then .exc c h.next me (h.new (.exc c (fs.zip vs).reverse)) else .stuck
    | none => .stuck
  | .brk, me, h => .ok (.brk me) h
  | .cont, me, h => .ok (.cont me) h
  | .trys b hs, me, h => if me.ex.isSome = true then .stuck else match exB C b me h with
    | .exc c n me' h' => exH hs c n me' h'
    | r => r
def exH : MHs → Str → Nat → Env → MH → SR
  | .nil, c, n, me, h => .exc c n me h
  | .cons c' i b r, c, n, me, h => match T.sub c c' with
    | some true => if (T.exf c).isSome = true ∧ i < me.sl.length then (match exB T.hc b { sl := me.sl.set i none, ex := some (i, n) } h with
      | .ok (.next m) h => .ok (.next { sl := m.sl.set i none, ex := none }) h
      | .ok (.brk m) h => .ok (.brk { sl := m.sl.set i none, ex := none }) h
      | .ok (.cont m) h => .ok (.cont { sl := m.sl.set i none, ex := none }) h
      | .ok (.ret v) h => .ok (.ret v) h
      | _ => .stuck) else .stuck
    | some false => exH r c n me h
    | none => .stuck
def exB (C : CallF) : MSs → Env → MH → SR
  | .nil, me, h => .ok (.next me) h
  | .cons s r, me, h => match exS C s me h with
    | .ok (.next me') h' => exB C r me' h'
    | x => x
end
/-- a def's run, one in another at most n deep -/
def run : Nat → CallF
  | 0 => noCall
  | n + 1 => fun fi vs h => if vs.length = fi.np then (match exB T (run n) fi.body { sl := vs.map some ++ List.replicate (fi.ns - fi.np) none, ex := none } h with
    | .ok (.ret v) h' => .ok v h'
    | .ok (.next _) h' => .ok .non h'
    | .exc c n _ h' => .exc c n h'
    | _ => .stuck) else .stuck
/-- a def's run while an exception is handled: nothing own is called there, nothing is raised -/
def hotOf : CallF := fun fi vs h => if vs.length = fi.np then (match exB T noCall fi.body { sl := vs.map some ++ List.replicate (fi.ns - fi.np) none, ex := some (fi.ns, 0) } h with
    | .ok (.ret v) h' => .ok v h'
    | .ok (.next _) h' => .ok .non h'
    | _ => .stuck) else .stuck
end
end Mi
end

section
/-! Mini, part 3: the operations of the small language agree with the rules of the hand layer. -/
namespace Mi
open PySem PySem.Spec PyProof.Rows L2

/-- room for k calls, one in another, nothing handled, no repr under way -/
structure RM (k : Nat) (A : Around) : Prop where
  hd : A.handled = none
  dp : A.depth + 3 * k + 5 < recursionLimit
  un : A.units + 16 * k + 1300 < cLine
  gd : A.guards = some []

/-- what the written part says of the names -/
structure Stat (T : Tab) (CA : Str → Addr) (K : PySem.W.Frag) (mg : Str → Option Value) : Prop where
  free : ∀ x, T.free x = true → mg x = none
  cls : ∀ c, T.own c = true → mg c = some (.ref (CA c))
  gi : ∀ x i, T.gi x i = true → ∃ t, mg x = some (.int i t)
  bf : ∀ x n, T.bf x n = true → mg x = some (.builtin n)
  noat : ∀ c f, T.noat c f = true → NoAttr K (CA c) f ∧ Cls K (CA c)
  isc : ∀ c v b, T.isc c v = some b → (∀ H (a dx : Addr) (fs : List (Str × V)), H a = some (.ins (CA c) dx fs) → TyOf K H (.ref a) (.ref (CA c))) ∧
    ((∃ n, v = .ty n ∧ PySem.W.kitOne K (.ref (CA c)) (.type n) = some b) ∨ ∃ d, v = .cls d ∧ PySem.W.kitOne K (.ref (CA c)) (.ref (CA d)) = some b)
  sub : ∀ c d b, T.sub c d = some b → PySem.W.exmOne K (.ref (CA c)) (.ref (CA d)) = some b
  sm : ∃ o, K.lookup sysModules = some o
  xf : ∀ c, (T.exf c).isSome = true → XfC K (CA c) ∧ ∀ f, T.xat f = true → PySem.W.findIn K (.ref (CA c)) f = some none

/-- the slots -/
structure RS (CA : Str → Addr) (xi : Option (Nat × Addr × Addr)) (ρ : Rho) (H : Hp) (me : Env) (σ : List (Option V)) : Prop where
  len : me.sl.length = σ.length
  sl : ∀ (i : Nat) (v : MV), me.sl[i]? = some (some v) → ∃ x, σ[i]? = some (some x) ∧ RV CA ρ H v x
  ex : ∀ (j n : Nat), me.ex = some (j, n) → ∃ (a d : Addr), xi = some (j, a, d) ∧ (j < me.sl.length → ρ n = some d ∧ σ[j]? = some (some (.ref a)))
section
variable {CA : Str → Addr} {xi : Option (Nat × Addr × Addr)} {ρ ρ' : Rho} {H H' : Hp} {me : Env} {σ : List (Option V)}
theorem RS.mono (r : RS CA xi ρ H me σ) (e : Ext ρ H ρ' H') : RS CA xi ρ' H' me σ :=
  ⟨r.len, fun i v q => let ⟨x, h1, h2⟩ := r.sl i v q; ⟨x, h1, h2.mono e⟩, fun j n q => let ⟨a, d, h1, h2⟩ := r.ex j n q; ⟨a, d, h1, fun l => ⟨e.map _ _ (h2 l).1, (h2 l).2⟩⟩⟩
end

/-- where one stands: the text's names N by slot, the scope sc -/
structure Gd (T : Tab) (CA : Str → Addr) (N : List Str) (sc : Scope) (X : Cx) : Prop where
  nm : X.N = N
  nd : X.N.Nodup
  sc : ∀ (x : Str) (k : NameKind), sc.names.lookup x = some k → X.env.scope.names.lookup x = some k ∨ (k = .free ∧ X.env.scope.names.lookup x = some .cell)
  st : Stat T CA X.K X.mg
  gd : X.A.guards = some []
  un : X.A.units + 1250 < cLine

/-- a wish at given slots -/
abbrev WS := Value → Option Addr → Hp → Prop

section
variable {T : Tab} {CA : Str → Addr} {X : Cx} {ρ ρ' : Rho} {H H' : Hp} {mh mh' : MH} {W : WS} {K : PySem.W.Frag} {x y v : MV} {a b u : V} {Q : VK}

theorem Aft.now {α β : Type} {R : Rho → Hp → α → β → Prop} {z : α} {w : β} {Q : β → Hp → Prop} (h : Aft K CA R W ρ H (.ok z mh) Q) (rh : RH K CA ρ mh H) (r : R ρ H z w) : Q w H := h ρ H w Ext.refl rh r

/-! ### lists and tuples -/
theorem seqL_of {n : Nat} {xs : List MV} (rh : RH K CA ρ mh H) (e : asList mh (.ref n) = some xs) {c : Addr} (q : ρ n = some c) : ∃ vs, SqL K H c vs ∧ RVs CA ρ H xs vs := by
  unfold asList at e
  simp only at e
  cases g : mh.get n with
  | none => rw [g] at e; cases e
  | some o =>
    rw [g] at e
    have ro := rh.at g q
    cases o with
    | lst ys => cases e; obtain ⟨vs, h1, h2⟩ := ro; exact ⟨vs, SqL.of h1, h2⟩
    | frz ys =>
      cases e
      obtain ⟨vs, h1, h2⟩ := ro
      refine ⟨vs, ?_, h2⟩
      rcases h1 with ⟨o, h1⟩ | h1
      · exact .inl (.inr ⟨o, h1⟩)
      · exact .inr h1
    | ins c fs => cases e
    | exc c fs => cases e
    | dct kvs => cases e
theorem seq_of {xs : List MV} (rh : RH K CA ρ mh H) (e : asSeq mh x = some xs) (r : RV CA ρ H x a) : ∃ c vs, a = .ref c ∧ (SqL K H c vs ∨ SqT K H c vs) ∧ RVs CA ρ H xs vs := by
  cases r with
  | ref q => obtain ⟨vs, h1, h2⟩ := seqL_of rh e q; exact ⟨_, vs, rfl, .inl h1, h2⟩
  | tup q rs => cases e; exact ⟨_, _, rfl, .inr (SqT.of q), rs⟩
  | _ => cases e
/-- a new list -/
theorem newL_ok {xs : List MV} {vs : List V} (h : Aft K CA (RV CA) W ρ H (newL xs mh) Q) (rh : RH K CA ρ mh H) (rs : RVs CA ρ H xs vs) : vs.length ≤ sizeLine ∧ ∀ p, H p = none → Q (.ref p) (upd H p (.lst vs)) := by
  unfold newL at h
  by_cases hl : xs.length ≤ sizeLine
  · rw [if_pos hl] at h
    refine ⟨by rw [← rs.length]; exact hl, fun p hp => ?_⟩
    obtain ⟨r1, e1, q1⟩ := rh.add (o := .lst xs) (p := p) (H' := upd H p (.lst vs)) (fun c o z => by rw [upd_ne (ne_of_none z hp)]; exact z) hp (fun ρ' e => ⟨vs, upd_same, rs.mono e⟩)
    exact h _ _ _ e1 r1 (.ref q1)
  · rw [if_neg hl] at h; exact h.elim
/-- a new tuple -/
theorem newT_ok {xs : List MV} {vs : List V} (h : Aft K CA (RV CA) W ρ H (.ok (.tup xs) mh) Q) (rh : RH K CA ρ mh H) (rs : RVs CA ρ H xs vs) : ∀ p, H p = none → Q (.ref p) (upd H p (.tup vs)) := fun p hp => by
  obtain ⟨r1, e1⟩ := rh.same (H' := upd H p (.tup vs)) fun c o z => by rw [upd_ne (ne_of_none z hp)]; exact z
  exact h _ _ _ e1 r1 (.tup upd_same (rs.mono e1))

theorem rvs_rep {xs : List MV} {vs : List V} (r : RVs CA ρ H xs vs) : ∀ k : Nat, RVs CA ρ H (List.replicate k xs).flatten (List.replicate k vs).flatten
  | 0 => .nil
  | k + 1 => by
    rw [List.replicate_succ, List.replicate_succ, List.flatten_cons, List.flatten_cons]
    exact r.append (rvs_rep r k)
/-! ### operators -/
def rBin (X : Cx) : BOp → R2
  | .add => fun x y H Q => rI0 (fun i j => .int (i + j)) x y H Q ∨ (∃ i j, x = .str i ∧ y = .str j ∧ i.length + j.length ≤ sizeLine ∧ Q (.str (i ++ j)) H) ∨ rCat x y H Q ∨ rCatA X.K x y H Q
  | .sub => rI0 fun i j => .int (i - j)
  | .iadd => rI0 fun i j => .int (i + j)
  | .isub => rI0 fun i j => .int (i - j)
  | .mul => fun x y H Q => rI CMul (fun i j => .int (i * j)) x y H Q ∨ rI CMulW (fun i j => .int (i * j)) x y H Q ∨ rRep x y H Q
  | .fdiv => rI CDivW fun i j => .int (i / j)
  | .mod => rI (fun _ j => 0 < j) fun i j => .int (i % j)
  | .pow => rI CPow fun i j => .int (i ^ j.toNat)
def opB : BOp → Operator
  | .add => .Add
  | .sub => .Sub
  | .iadd => .Add
  | .isub => .Sub
  | .mul => .Mult
  | .fdiv => .FloorDiv
  | .mod => .Mod
  | .pow => .Pow
theorem op_bin : ∀ op, OpR X (binaryOp (opB op)) (rBin X op)
  | .add => op_add.or (op_add_str.or (op_cat.or op_catA))
  | .sub => op_sub
  | .iadd => op_add
  | .isub => op_sub
  | .mul => op_mul.or (op_mulW.or op_rep)
  | .fdiv => op_fdivW
  | .mod => op_mod
  | .pow => op_pow
theorem bin_ok {op : BOp} (h : Aft K CA (RV CA) W ρ H (binM op x y mh) Q) (rh : RH K CA ρ mh H) (ra : RV CA ρ H x a) (rb : RV CA ρ H y b) : rBin X op a b H Q := by
  cases op with
  | add =>
    cases ra <;> cases rb <;> try exact h.elim
    · exact .inl ⟨_, _, rfl, rfl, h.now rh (.int _)⟩
    · rename_i i j
      have h' : Aft K CA (RV CA) W ρ H ((if i.length + j.length ≤ sizeLine then M.pure (.str (i ++ j)) else M.stuck : M MV) mh) Q := h
      by_cases hz : i.length + j.length ≤ sizeLine
      · rw [if_pos hz] at h'
        exact .inr (.inl ⟨_, _, rfl, rfl, hz, h'.now rh (.str _)⟩)
      · rw [if_neg hz] at h'; exact h'.elim
    · rename_i n1 a1 e1 n2 a2 e2
      unfold binM at h
      simp only at h
      cases g1 : mh.get n1 with
      | none => rw [g1] at h; exact h.elim
      | some o1 =>
        rw [g1] at h
        cases g2 : mh.get n2 with
        | none => rw [g2] at h; cases o1 <;> exact h.elim
        | some o2 =>
          rw [g2] at h
          cases o1 <;> cases o2 <;> try exact h.elim
          obtain ⟨vs, q1, r1⟩ := rh.at g1 e1
          obtain ⟨ws, q2, r2⟩ := rh.at g2 e2
          obtain ⟨z, k⟩ := newL_ok h rh (r1.append r2)
          exact .inr (.inr (.inl ⟨_, _, _, _, rfl, rfl, q1, q2, by rw [List.length_append] at z; exact z, k⟩))
    · rename_i xs c vs q1 rs ys c' ws q2 rs'
      have h' : Aft K CA (RV CA) W ρ H ((if xs.length + ys.length ≤ sizeLine then M.pure (.tup (xs ++ ys)) else M.stuck : M MV) mh) Q := h
      by_cases hz : xs.length + ys.length ≤ sizeLine
      · rw [if_pos hz] at h'
        refine .inr (.inr (.inr ⟨_, _, _, _, rfl, rfl, SqT.of q1, SqT.of q2, by rw [← rs.length, ← rs'.length]; exact hz, fun e => ?_, fun _ e => ?_, fun _ _ => newT_ok h' rh (rs.append rs')⟩))
        · subst e
          cases rs
          exact h'.now rh (.tup q2 rs')
        · subst e
          cases rs'
          have h2 : Aft K CA (RV CA) W ρ H (.ok (.tup (xs ++ [])) mh) Q := h'
          rw [List.append_nil] at h2
          exact h2.now rh (.tup q1 rs)
      · rw [if_neg hz] at h'; exact h'.elim
  | sub => cases ra <;> cases rb <;> first | exact h.elim | exact ⟨_, _, rfl, rfl, h.now rh (.int _)⟩
  | iadd => cases ra <;> cases rb <;> first | exact h.elim | exact ⟨_, _, rfl, rfl, h.now rh (.int _)⟩
  | isub => cases ra <;> cases rb <;> first | exact h.elim | exact ⟨_, _, rfl, rfl, h.now rh (.int _)⟩
  | mul =>
    cases ra <;> cases rb <;> try exact h.elim
    · rename_i i j
      have h' : Aft K CA (RV CA) W ρ H ((if small i ∨ small j ∨ i.natAbs.log2 + j.natAbs.log2 < 1000000 then M.pure (.int (i * j)) else M.stuck : M MV) mh) Q := h
      by_cases hz : small i ∨ small j ∨ i.natAbs.log2 + j.natAbs.log2 < 1000000
      · rw [if_pos hz] at h'
        have q := h'.now rh (.int _)
        rcases hz with z | z | z
        · exact .inl ⟨_, _, rfl, rfl, .inl z, q⟩
        · exact .inl ⟨_, _, rfl, rfl, .inr z, q⟩
        · exact .inr (.inl ⟨_, _, rfl, rfl, z, q⟩)
      · rw [if_neg hz] at h'; exact h'.elim
    · rename_i n c e k
      unfold binM at h
      simp only at h
      cases g : mh.get n with
      | none => rw [g] at h; exact h.elim
      | some o =>
        rw [g] at h
        cases o <;> try exact h.elim
        rename_i xs
        simp only at h
        by_cases hz : -(2 ^ 63) ≤ k ∧ k < 2 ^ 63 ∧ xs.length * k.toNat ≤ sizeLine
        · rw [if_pos hz] at h
          obtain ⟨vs, q, r⟩ := rh.at g e
          refine .inr (.inr ⟨_, k, vs, rfl, rfl, q, hz.1, hz.2.1, by rw [← r.length]; exact hz.2.2, (newL_ok h rh (rvs_rep r k.toNat)).2⟩)
        · rw [if_neg hz] at h; exact h.elim
  | fdiv =>
    cases ra <;> cases rb <;> try exact h.elim
    rename_i i j
    have h' : Aft K CA (RV CA) W ρ H ((if 0 < j ∧ j.natAbs.log2 < 9000 then M.pure (.int (i / j)) else M.stuck : M MV) mh) Q := h
    by_cases hz : 0 < j ∧ j.natAbs.log2 < 9000
    · rw [if_pos hz] at h'
      exact ⟨_, _, rfl, rfl, hz, h'.now rh (.int _)⟩
    · rw [if_neg hz] at h'; exact h'.elim
  | mod =>
    cases ra <;> cases rb <;> try exact h.elim
    rename_i i j
    have h' : Aft K CA (RV CA) W ρ H ((if 0 < j then M.pure (.int (i % j)) else M.stuck : M MV) mh) Q := h
    by_cases hz : 0 < j
    · rw [if_pos hz] at h'
      exact ⟨_, _, rfl, rfl, hz, h'.now rh (.int _)⟩
    · rw [if_neg hz] at h'; exact h'.elim
  | pow =>
    cases ra <;> cases rb <;> try exact h.elim
    rename_i i j
    have h' : Aft K CA (RV CA) W ρ H ((if 0 ≤ j ∧ j ≤ 1000000 ∧ i.natAbs < 2 ^ 64 then M.pure (.int (i ^ j.toNat)) else M.stuck : M MV) mh) Q := h
    by_cases hz : 0 ≤ j ∧ j ≤ 1000000 ∧ i.natAbs < 2 ^ 64
    · rw [if_pos hz] at h'
      exact ⟨_, _, rfl, rfl, hz, h'.now rh (.int _)⟩
    · rw [if_neg hz] at h'; exact h'.elim

/-! ### comparisons -/
def opC : COp → CmpOp
  | .eq => .Eq
  | .ne => .NotEq
  | .lt => .Lt
  | .le => .LtE
  | .gt => .Gt
  | .ge => .GtE
  | .isN => .Is
  | .notN => .IsNot
  | .inS => .In
  | .niS => .NotIn
/-! ### items, slices -/
theorem sub_ok (h : Aft K CA (RV CA) W ρ H (subM x y mh) Q) (rh : RH K CA ρ mh H) (ra : RV CA ρ H x a) (rb : RV CA ρ H y b) : rIx K a b H Q := by
  cases rb <;> try exact h.elim
  rename_i i
  unfold subM at h
  simp only at h
  cases e : asSeq mh x with
  | none => rw [e] at h; exact h.elim
  | some xs =>
    rw [e] at h
    simp only at h
    cases g : (idx xs.length i).bind fun j => xs[j]? with
    | none => rw [g] at h; exact h.elim
    | some w =>
      rw [g] at h
      obtain ⟨c, vs, rfl, sq, rs⟩ := seq_of rh e ra
      obtain ⟨j, h1, h2⟩ := Option.bind_eq_some_iff.mp g
      obtain ⟨u, h3, h4⟩ := rs.get h2
      have q := h.now rh h4
      have hat : atI vs i = some u := by
        unfold atI
        rw [← rs.length, show ixN xs.length i = some j from h1]
        exact h3
      rcases sq with s | s
      · exact .inl ⟨c, vs, i, u, rfl, rfl, s, hat, q⟩
      · exact .inr (.inl ⟨c, vs, i, u, rfl, rfl, s, hat, q⟩)
theorem cut_ok {xs : List MV} {vs : List V} (rs : RVs CA ρ H xs vs) (lo hi : Option Int) : RVs CA ρ H (cut xs lo hi) (cutV vs lo hi) := by
  unfold cut cutV
  rw [rs.length]
  exact (rs.drop _).take _
def rSlS (K : PySem.W.Frag) (x : V) (lo hi : Option Int) (H : Hp) (Q : VK) : Prop := rSlL K x lo hi H Q ∨ rSlA K x lo hi H Q
theorem cut_whole {xs : List MV} {lo hi : Option Int} (h : HT.sIx xs.length 0 lo = 0 ∧ HT.sIx xs.length xs.length hi = xs.length) : cut xs lo hi = xs := by
  unfold cut
  rw [h.1, h.2, List.drop_zero, Nat.sub_zero, List.take_length]
theorem slc_ok {lo hi : Option Int} (h : Aft K CA (RV CA) W ρ H (slcM x lo hi mh) Q) (rh : RH K CA ρ mh H) (ra : RV CA ρ H x a) : rSlS K a lo hi H Q := by
  cases ra <;> try exact h.elim
  · rename_i n c e
    unfold slcM at h
    simp only at h
    cases g : asList mh (.ref n) with
    | none => rw [g] at h; exact h.elim
    | some xs =>
      rw [g] at h
      obtain ⟨vs, s, rs⟩ := seqL_of rh g e
      exact .inl ⟨c, vs, rfl, s, (newL_ok h rh (cut_ok rs lo hi)).2⟩
  · rename_i xs c vs q rs
    have h' : Aft K CA (RV CA) W ρ H (.ok (.tup (cut xs lo hi)) mh) Q := h
    refine .inr ⟨c, vs, rfl, SqT.of q, fun w => ?_, fun _ => newT_ok h' rh (cut_ok rs lo hi)⟩
    rw [← rs.length] at w
    rw [cut_whole w] at h'
    exact h'.now rh (.tup q rs)
theorem rev_ok (h : Aft K CA (RV CA) W ρ H (revM x mh) Q) (rh : RH K CA ρ mh H) (ra : RV CA ρ H x a) : ∃ c xs, a = .ref c ∧ SqL K H c xs ∧ ∀ p, H p = none → Q (.ref p) (upd H p (.lst xs.reverse)) := by
  cases ra <;> try exact h.elim
  rename_i n c e
  unfold revM at h
  simp only at h
  cases g : asList mh (.ref n) with
  | none => rw [g] at h; exact h.elim
  | some xs =>
    rw [g] at h
    obtain ⟨vs, s, rs⟩ := seqL_of rh g e
    exact ⟨c, vs, rfl, s, (newL_ok h rh rs.reverse).2⟩
theorem set_ok {z : MV} {w : V} {Q : Hp → Prop} (h : Aft K CA (fun _ _ (_ : Unit) (_ : Unit) => True) W ρ H (setSubM x y z mh) (fun _ => Q)) (rh : RH K CA ρ mh H) (ra : RV CA ρ H x a) (rb : RV CA ρ H y b) (rc : RV CA ρ H z w) : rSetL a b w H Q := by
  cases ra <;> try exact h.elim
  cases rb <;> try exact h.elim
  rename_i n c e k
  unfold setSubM at h
  simp only at h
  cases g : mh.get n with
  | none => rw [g] at h; exact h.elim
  | some o =>
    rw [g] at h
    cases o <;> try exact h.elim
    rename_i xs
    simp only at h
    cases g2 : idx xs.length k with
    | none => rw [g2] at h; exact h.elim
    | some j =>
      rw [g2] at h
      obtain ⟨vs, q, rs⟩ := rh.at g e
      obtain ⟨r1, e1⟩ := rh.write (o' := .lst (xs.set j z)) (u := .lst (vs.set j w)) g e rfl rfl fun H' eq ex => ⟨_, by rw [eq, upd_same], (RVs.set rc j rs).mono ex⟩
      exact ⟨c, vs, k, j, rfl, rfl, q, by rw [← rs.length]; exact g2, h ρ _ () e1 r1 trivial⟩

/-! ### built-in calls -/
theorem ints_of : ∀ {xs : List MV} {ns : List Int} {vs : List V}, intsM xs = some ns → RVs CA ρ H xs vs → vs = ns.map V.int
  | [], ns, _, e, .nil => by cases e; rfl
  | .int i :: r, ns, _, e, .cons (.int _) t => by
    have e' : (intsM r).map (i :: ·) = some ns := e
    obtain ⟨ms, h1, h2⟩ := Option.map_eq_some_iff.mp e'
    subst h2
    rw [List.map_cons, ← ints_of h1 t]
theorem lsi_ok (h : Aft K CA (RV CA) W ρ H (lsiM x mh) Q) (rh : RH K CA ρ mh H) (ra : RV CA ρ H x a) : ∃ (l : Addr) (ns : List Int), a = .ref l ∧ SqL K H l (ns.map V.int) ∧ ns.Nodup ∧ ns.length ≤ 4000 ∧ Q (.int (ns.length : Nat)) H := by
  cases ra <;> try exact h.elim
  rename_i n c e
  unfold lsiM at h
  simp only at h
  cases g : (asList mh (.ref n)).bind intsM with
  | none => rw [g] at h; exact h.elim
  | some ns =>
    rw [g] at h
    obtain ⟨xs, e1, e2⟩ := Option.bind_eq_some_iff.mp g
    obtain ⟨vs, s, rs⟩ := seqL_of rh e1 e
    have e3 := ints_of e2 rs
    subst e3
    simp only at h
    by_cases hz : ns.Nodup ∧ ns.length ≤ 4000
    · rw [if_pos hz] at h
      exact ⟨c, ns, rfl, s, hz.1, hz.2, h.now rh (.int _)⟩
    · rw [if_neg hz] at h; exact h.elim
theorem rvs_intL {ρ : Rho} {H : Hp} : ∀ ns : List Int, RVs CA ρ H (ns.map MV.int) (ns.map V.int)
  | [] => .nil
  | n :: ns => .cons (.int n) (rvs_intL ns)
theorem sst_ok (h : Aft K CA (RV CA) W ρ H (sstM x mh) Q) (rh : RH K CA ρ mh H) (ra : RV CA ρ H x a) : ∃ (l : Addr) (ns : List Int), a = .ref l ∧ SqT K H l (ns.map V.int) ∧ ns.length ≤ 50 ∧ ∀ (out : List Int) (p : Addr), out.Pairwise (· < ·) → (∀ k : Int, k ∈ out ↔ k ∈ ns) → H p = none → Q (.ref p) (upd H p (.lst (out.map V.int))) := by
  cases ra <;> try exact h.elim
  rename_i xs c vs q rs
  unfold sstM at h
  simp only at h
  cases g : intsM xs with
  | none => rw [g] at h; exact h.elim
  | some ns =>
    rw [g] at h
    have e3 := ints_of g rs
    subst e3
    simp only at h
    by_cases hz : ns.length ≤ 50
    · rw [if_pos hz] at h
      refine ⟨c, ns, rfl, SqT.of q, hz, fun out p h1 h2 h3 => ?_⟩
      rw [sds_unique h1 h2]
      exact (newL_ok h rh (rvs_intL _)).2 p h3
    · rw [if_neg hz] at h; exact h.elim
/-- a new dict -/
theorem newD_ok {kvs : List (L2.Key × MV)} {vs : List (L2.Key × V)} (h : Aft K CA (RV CA) W ρ H (newD kvs mh) Q) (rh : RH K CA ρ mh H) (rs : ∀ ρ' H', Ext ρ H ρ' H' → RK CA ρ' H' kvs vs) : ∀ p, H p = none → Q (.ref p) (upd H p (.dK vs)) := fun p hp => by
  obtain ⟨r1, e1, q1⟩ := rh.add (o := .dct kvs) (p := p) (H' := upd H p (.dK vs)) (fun c o z => by rw [upd_ne (ne_of_none z hp)]; exact z) hp (fun ρ' e => ⟨vs, upd_same, rs _ _ e⟩)
  exact h _ _ _ e1 r1 (.ref q1)
theorem rk_const {ρ : Rho} {H : Hp} : ∀ kvs : List (L2.Key × L2.Key), RK CA ρ H (kvs.map fun p => (p.1, kM p.2)) (kvs.map fun p => (p.1, kV p.2))
  | [] => .nil
  | (k, .inl i) :: r => .cons (.int i) (rk_const r)
  | (k, .inr x) :: r => .cons (.str x) (rk_const r)
theorem merge_nodup : ∀ (more acc : List (L2.Key × V)), ((acc ++ more).map (·.1)).Nodup → mergeK acc more = acc ++ more
  | [], acc, _ => by show acc = _; simp
  | (k, v) :: r, acc, h => by
    show mergeK (putK acc k v) r = _
    have hk : valV acc k = none := by
      cases e : valV acc k with
      | none => rfl
      | some u =>
        obtain ⟨p, hp, _⟩ := Option.map_eq_some_iff.mp (show (acc.find? fun kv => decide (kv.1 = k)).map (·.2) = some u from e)
        have h1 := List.mem_of_find?_eq_some hp
        have h2 : p.1 = k := by have := List.find?_some hp; simpa using this
        rw [List.map_append, List.nodup_append] at h
        exact absurd rfl (h.2.2 k (List.mem_map.mpr ⟨p, h1, h2⟩) k (by simp))
    rw [putK_new v hk, merge_nodup r (acc ++ [(k, v)]) (by simpa using h)]
    simp
theorem bools_of : ∀ {xs : List MV} {ns : List Bool} {vs : List V}, boolsM xs = some ns → RVs CA ρ H xs vs → vs = ns.map V.bl
  | [], ns, _, e, .nil => by cases e; rfl
  | .bl i :: r, ns, _, e, .cons (.bl _) t => by
    have e' : (boolsM r).map (i :: ·) = some ns := e
    obtain ⟨ms, h1, h2⟩ := Option.map_eq_some_iff.mp e'
    subst h2
    rw [List.map_cons, ← bools_of h1 t]
/-! ### data, by values and the heap -/
mutual
inductive Dq (H : Hp) : V → PyData → Prop
  | non : Dq H .non .none
  | bl (b : Bool) : Dq H (.bl b) (.bool b)
  | int (i : Int) : Dq H (.int i) (.int i)
  | str (x : Str) : Dq H (.str x) (.str x)
  | lst {a : Addr} {xs : List V} {ds : List PyData} (e : H a = some (.lst xs)) (t : DqAll H xs ds) : Dq H (.ref a) (.list ds)
  | tup {a : Addr} {xs : List V} {ds : List PyData} (e : H a = some (.tup xs)) (t : DqAll H xs ds) : Dq H (.ref a) (.tuple ds)
  | dct {a : Addr} {kvs : List (L2.Key × V)} {ds : List PyData} (e : H a = some (.dK kvs)) (t : DqAll H (kvs.map (·.2)) ds) : Dq H (.ref a) (.dict ((kvs.map fun p => kD p.1).zip ds))
inductive DqAll (H : Hp) : List V → List PyData → Prop
  | nil : DqAll H [] []
  | cons {v : V} {vs : List V} {d : PyData} {ds : List PyData} (r : Dq H v d) (t : DqAll H vs ds) : DqAll H (v :: vs) (d :: ds)
end
theorem DqAll.len : ∀ {vs : List V} {ds : List PyData}, DqAll H vs ds → vs.length = ds.length
  | _, _, .nil => rfl
  | _, _, .cons _ t => by rw [List.length_cons, List.length_cons, DqAll.len t]
theorem pairs_reads {P : Program} {w : World} {h : Heap} : ∀ {es : List DictEntry} {vs : List (L2.Key × Value)} {kvs : List (L2.Key × V)}, PySem.Pairs (mixKind P w) es vs → KV kvs vs →
    ReadsAll h (es.map (·.key)) (kvs.map fun p => kD p.1) [] ∧ Vals (kvs.map (·.2)) (es.map (·.val))
  | _, _, _, .nil, r => by cases r; exact ⟨.nil, .nil⟩
  | _, _, _, .cons h1 h2 t, r => by
    cases r with
    | cons r rt =>
      obtain ⟨e1, e2⟩ := r
      obtain ⟨q1, q2⟩ := pairs_reads t rt
      rw [← h2] at e2
      refine ⟨?_, .cons e2 q2⟩
      rw [← e1] at h1
      rcases keyIs_shape h1 with ⟨i, t, z, w⟩ | ⟨x, t, z, w⟩
      · rw [List.map_cons, List.map_cons, w, z]
        exact ReadsAll.cons (as := []) (Reads.int i t) q1
      · rw [List.map_cons, List.map_cons, w, z]
        exact ReadsAll.cons (as := []) (Reads.str x t) q1
section
variable {pins : List (Addr × Obj)} {σ : L2.St} {s : Shared}
mutual
theorem Dq.reads (I : Inv X pins σ H s) (hm : H sysModules = none) : ∀ {v : V} {d : PyData} {u : Value}, Dq H v d → RelV v u → ∃ as, Reads s.heap u d as ∧ sysModules ∉ as
  | _, _, _, .non, r => by cases r; exact ⟨_, Reads.none, by simp⟩
  | _, _, _, .bl b, r => by cases r; exact ⟨_, Reads.bool b, by simp⟩
  | _, _, _, .int i, r => by obtain ⟨t, rfl⟩ := r; exact ⟨_, Reads.int i t, by simp⟩
  | _, _, _, .str x, r => by obtain ⟨t, rfl⟩ := r; exact ⟨_, Reads.str x t, by simp⟩
  | _, _, _, .lst (a := a) e ha, r => by
    cases r
    obtain ⟨its, rv, ⟨o, n, ho, hc, _, hd⟩, _⟩ := I.list (SqL.of e)
    obtain ⟨as, q1, q2⟩ := Dq.readsAll I hm ha rv
    refine ⟨_, Reads.list ho hc hd q1, fun z => ?_⟩
    rcases List.mem_cons.mp z with z | z
    · rw [← z, hm] at e; cases e
    · exact q2 z
  | _, _, _, .tup e ha, r => by
    cases r
    obtain ⟨its, rv, ⟨o, ho, hc, n, hd⟩, _⟩ := I.tuple (SqT.of e)
    obtain ⟨as, q1, q2⟩ := Dq.readsAll I hm ha rv
    exact ⟨_, Reads.tuple ho hc hd q1, q2⟩
  | _, _, _, .dct (a := a) (kvs := kvs) (ds := ds) e ha, r => by
    cases r
    obtain ⟨_, _, vs, rel, o, es, ep, ho, hx, hd, _, pr, _⟩ := dk_of I.hok e
    obtain ⟨k1, k2⟩ := pairs_reads (h := s.heap) pr rel
    obtain ⟨as, q1, q2⟩ := Dq.readsAll I hm ha k2
    have hl := ha.len
    have m1 : ((kvs.map fun p => kD p.1).zip ds).map (·.1) = kvs.map fun p => kD p.1 := List.map_fst_zip (by simp at hl ⊢; omega)
    have m2 : ((kvs.map fun p => kD p.1).zip ds).map (·.2) = ds := List.map_snd_zip (by simp at hl ⊢; omega)
    refine ⟨_, Reads.dict (as := []) (bs := as) ho hx.1 hd (by rw [m1]; exact k1) (by rw [m2]; exact q1), fun z => ?_⟩
    simp only [List.cons_append, List.nil_append] at z
    rcases List.mem_cons.mp z with z | z
    · rw [← z, hm] at e; cases e
    · exact q2 z
theorem Dq.readsAll (I : Inv X pins σ H s) (hm : H sysModules = none) : ∀ {vs : List V} {ds : List PyData} {us : List Value}, DqAll H vs ds → Vals vs us → ∃ as, ReadsAll s.heap us ds as ∧ sysModules ∉ as
  | _, _, _, .nil, r => by cases r; exact ⟨_, ReadsAll.nil, by simp⟩
  | _, _, _, .cons h1 h2, r => by
    cases r with
    | cons r1 r2 =>
      obtain ⟨as, q1, n1⟩ := Dq.reads I hm h1 r1
      obtain ⟨bs, q2, n2⟩ := Dq.readsAll I hm h2 r2
      exact ⟨_, ReadsAll.cons q1 q2, fun z => (List.mem_append.mp z).elim n1 n2⟩
end
/-- sys.modules is no object of ours -/
theorem sm_none (I : Inv X pins σ H s) (sm : ∃ o, X.K.lookup sysModules = some o) : H sysModules = none := by
  obtain ⟨o, e⟩ := sm
  exact (I.bs _ o (I.mod.kin _ _ e)).2
end
mutual
/-- a value's data, by Dq -/
theorem dp_of (rh : RH K CA ρ mh H) : ∀ (n : Nat) (x : MV) (a : V) (d : PyData), toD mh n x = some d → RV CA ρ H x a → Dq H a d
  | 0, x, a, d, e, r => by unfold toD at e; cases e
  | n + 1, x, a, d, e, r => by
    cases r with
    | non => cases e; exact .non
    | bl b => cases e; exact .bl b
    | int b => cases e; exact .int b
    | str b => cases e; exact .str b
    | ty b => cases e
    | cls b => cases e
    | @tup xs c vs q rs =>
      have e' : (toDs mh n xs).map PyData.tuple = some d := e
      obtain ⟨ds, h1, h2⟩ := Option.map_eq_some_iff.mp e'
      subst h2
      exact .tup q (dps_of rh n xs vs ds h1 rs)
    | @ref m c q =>
      unfold toD at e
      cases g : mh.get m with
      | none => rw [g] at e; cases e
      | some o =>
        rw [g] at e
        have ro := rh.at g q
        cases o with
        | lst xs =>
          obtain ⟨ds, h1, h2⟩ := Option.map_eq_some_iff.mp (show (toDs mh n xs).map PyData.list = some d from e)
          subst h2
          obtain ⟨vs, h3, rs⟩ := ro
          exact .lst h3 (dps_of rh n xs vs ds h1 rs)
        | frz xs => cases e
        | dct kvs =>
          obtain ⟨ds, h1, h2⟩ := Option.map_eq_some_iff.mp (show (toDs mh n (kvs.map (·.2))).map (fun ds => PyData.dict ((kvs.map fun p => kD p.1).zip ds)) = some d from e)
          subst h2
          obtain ⟨vs, h3, rs⟩ := ro
          obtain ⟨rv, rk⟩ := rs.vals
          have hk : (kvs.map fun p => kD p.1) = vs.map fun p => kD p.1 := by
            have := congrArg (List.map kD) rk
            rw [List.map_map, List.map_map] at this
            exact this
          rw [hk]
          exact .dct h3 (dps_of rh n _ _ ds h1 rv)
        | ins c fs => cases e
        | exc c fs => cases e
theorem dps_of (rh : RH K CA ρ mh H) : ∀ (n : Nat) (xs : List MV) (vs : List V) (ds : List PyData), toDs mh n xs = some ds → RVs CA ρ H xs vs → DqAll H vs ds
  | n, [], vs, ds, e, r => by
    unfold toDs at e
    cases e
    cases r
    exact .nil
  | 0, x :: xs, vs, ds, e, r => by unfold toDs at e; cases e
  | n + 1, x :: xs, vs, ds, e, r => by
    unfold toDs at e
    cases h1 : toD mh n x with
    | none => rw [h1] at e; cases e
    | some d =>
      rw [h1] at e
      cases h2 : toDs mh n xs with
      | none => rw [h2] at e; cases e
      | some ds' =>
        rw [h2] at e
        cases e
        cases r with
        | cons r t => exact .cons (dp_of rh n x _ d h1 r) (dps_of rh n xs _ ds' h2 t)
end
/-- two values as data -/
def rEqD (K : PySem.W.Frag) (f : Bool → Bool) : R2 := fun x y H Q => ∃ d e, Dq H x d ∧ Dq H y e ∧ PySem.SeqAt.shaped d = true ∧ PySem.SeqAt.shaped e = true ∧ Q (.bl (f (PyData.eqv d e))) H
theorem op_eqD (sm : ∃ o, X.K.lookup sysModules = some o) (hu : X.A.units + 64 < cLine) : OpR X (compareOp .Eq) (rEqD X.K id) := by
  intro pins s σ H x y v u Q I rx ry h
  obtain ⟨d, e, h1, h2, h3, h4, q⟩ := h
  obtain ⟨as, r1, _⟩ := Dq.reads I (sm_none I sm) h1 rx
  obtain ⟨bs, r2, _⟩ := Dq.reads I (sm_none I sm) h2 ry
  exact eq_dataH r1 r2 h3 h4 hu ⟨.bl _, H, I, rfl, q⟩
theorem op_neD (sm : ∃ o, X.K.lookup sysModules = some o) (hu : X.A.units + 64 < cLine) : OpR X (compareOp .NotEq) (rEqD X.K not) := by
  intro pins s σ H x y v u Q I rx ry h
  obtain ⟨d, e, h1, h2, h3, h4, q⟩ := h
  obtain ⟨as, r1, _⟩ := Dq.reads I (sm_none I sm) h1 rx
  obtain ⟨bs, r2, _⟩ := Dq.reads I (sm_none I sm) h2 ry
  exact ne_dataH r1 r2 h3 h4 hu ⟨.bl _, H, I, rfl, q⟩
theorem op_or {f : Value → Value → Sem Value} {r r' : R2} (h : OpR X f r) (h' : OpR X f r') : OpR X f (fun x y H Q => r x y H Q ∨ r' x y H Q) := by
  intro pins s σ H x y v u Q I rx ry q
  rcases q with q | q
  · exact h pins s σ H x y v u Q I rx ry q
  · exact h' pins s σ H x y v u Q I rx ry q
def rCmp (K : PySem.W.Frag) : COp → R2
  | .eq => fun x y H Q => rEq x y H Q ∨ rEqD K id x y H Q
  | .ne => fun x y H Q => rNe x y H Q ∨ rEqD K not x y H Q
  | .lt => rI0 fun i j => .bl (decide (i < j))
  | .le => rI0 fun i j => .bl (decide (i ≤ j))
  | .gt => rI0 fun i j => .bl (decide (j < i))
  | .ge => rI0 fun i j => .bl (decide (j ≤ i))
  | .isN => fun x y H Q => y = .non ∧ Q (.bl (decide (x = .non))) H
  | .notN => fun x y H Q => y = .non ∧ Q (.bl (!decide (x = .non))) H
  | .inS => rIn K false
  | .niS => rIn K true
theorem op_cmp (sm : ∃ o, X.K.lookup sysModules = some o) (hu : X.A.units + 1250 < cLine) : ∀ op, OpR X (compareOp (opC op)) (rCmp X.K op)
  | .eq => op_or op_eq (op_eqD sm (by omega))
  | .ne => op_or op_ne (op_neD sm (by omega))
  | .lt => op_lt
  | .le => op_le
  | .gt => op_gt
  | .ge => op_ge
  | .isN => op_isN
  | .notN => op_notN
  | .inS => op_in_seq
  | .niS => op_notIn_seq
theorem flat_ints : ∀ ns : List Int, (ns.map V.int).all flatV = true
  | [] => rfl
  | n :: ns => by rw [List.map_cons, List.all_cons, flat_ints ns]; rfl
theorem in_ints (i : Int) : ∀ ns : List Int, inV (.int i) (ns.map V.int) = decide (i ∈ ns)
  | [] => by simp [inV]
  | n :: ns => by
    have ih := in_ints i ns
    unfold inV at ih ⊢
    rw [List.map_cons, List.any_cons, ih]
    have : eqV (.int n) (.int i) = decide (i = n) := by
      show (n == i) = _
      by_cases q : i = n
      · simp [q]
      · simp [q, Ne.symm q]
    rw [this]
    simp [List.mem_cons]
/-- equality, of scalars or of data -/
theorem eq_ok {k : Bool → MV} (h : Aft K CA (RV CA) W ρ H (M.bind (eqM x y) (fun b => M.pure (k b)) mh) Q) (rh : RH K CA ρ mh H) (ra : RV CA ρ H x a) (rb : RV CA ρ H y b) :
    (scal a b = true ∧ Aft K CA (RV CA) W ρ H (.ok (k (decide (a = b))) mh) Q) ∨ ∃ d e, Dq H a d ∧ Dq H b e ∧ PySem.SeqAt.shaped d = true ∧ PySem.SeqAt.shaped e = true ∧ Aft K CA (RV CA) W ρ H (.ok (k (PyData.eqv d e)) mh) Q := by
  have key : ∀ {p q : Prop} [Decidable p] [Decidable q], (p ↔ q) → decide p = decide q := fun e => by simp [e]
  have gen : (∀ h', eqM x y h' = (match toD h' dpt x, toD h' dpt y with
    | some d, some e => if PySem.SeqAt.shaped d = true ∧ PySem.SeqAt.shaped e = true then .ok (PyData.eqv d e) h' else .stuck
    | _, _ => .stuck)) → ∃ d e, Dq H a d ∧ Dq H b e ∧ PySem.SeqAt.shaped d = true ∧ PySem.SeqAt.shaped e = true ∧ Aft K CA (RV CA) W ρ H (.ok (k (PyData.eqv d e)) mh) Q := by
    intro e0
    unfold M.bind at h
    rw [e0 mh] at h
    cases e1 : toD mh dpt x with
    | none => rw [e1] at h; exact h.elim
    | some d =>
      cases e2 : toD mh dpt y with
      | none => rw [e1, e2] at h; exact h.elim
      | some e =>
        rw [e1, e2] at h
        simp only at h
        by_cases hc : PySem.SeqAt.shaped d = true ∧ PySem.SeqAt.shaped e = true
        · rw [if_pos hc] at h
          exact ⟨d, e, dp_of rh _ _ _ _ e1 ra, dp_of rh _ _ _ _ e2 rb, hc.1, hc.2, h⟩
        · rw [if_neg hc] at h; exact h.elim
  cases ra <;> cases rb <;> first | exact .inr (gen fun _ => rfl) | skip
  · refine .inl ⟨rfl, ?_⟩
    rw [key (q := _ = _) (by constructor <;> intro e <;> (first | exact V.str.inj e | exact congrArg V.str e))]; exact h
theorem cmp_ok {op : COp} (h : Aft K CA (RV CA) W ρ H (cmpM op x y mh) Q) (rh : RH K CA ρ mh H) (ra : RV CA ρ H x a) (rb : RV CA ρ H y b) : rCmp K op a b H Q := by
  cases op with
  | eq =>
    rcases eq_ok (k := fun b => .bl b) h rh ra rb with ⟨s, q⟩ | ⟨d, e, h1, h2, h3, h4, q⟩
    · exact .inl ⟨s, q.now rh (.bl _)⟩
    · exact .inr ⟨d, e, h1, h2, h3, h4, q.now rh (.bl _)⟩
  | ne =>
    rcases eq_ok (k := fun b => .bl (!b)) h rh ra rb with ⟨s, q⟩ | ⟨d, e, h1, h2, h3, h4, q⟩
    · exact .inl ⟨s, q.now rh (.bl _)⟩
    · exact .inr ⟨d, e, h1, h2, h3, h4, q.now rh (.bl _)⟩
  | lt => cases ra <;> cases rb <;> first | exact h.elim | exact ⟨_, _, rfl, rfl, h.now rh (.bl _)⟩
  | le => cases ra <;> cases rb <;> first | exact h.elim | exact ⟨_, _, rfl, rfl, h.now rh (.bl _)⟩
  | gt => cases ra <;> cases rb <;> first | exact h.elim | exact ⟨_, _, rfl, rfl, h.now rh (.bl _)⟩
  | ge => cases ra <;> cases rb <;> first | exact h.elim | exact ⟨_, _, rfl, rfl, h.now rh (.bl _)⟩
  | isN =>
    cases rb <;> try exact h.elim
    refine ⟨rfl, ?_⟩
    cases ra <;> exact h.now rh (.bl _)
  | notN =>
    cases rb <;> try exact h.elim
    refine ⟨rfl, ?_⟩
    cases ra <;> exact h.now rh (.bl _)
  | inS =>
    cases ra <;> try exact h.elim
    rename_i i
    have h' : Aft K CA (RV CA) W ρ H (match (asSeq mh y).bind intsM with
      | some ns => .ok (.bl (decide (i ∈ ns))) mh
      | none => .stuck) Q := h
    cases g : (asSeq mh y).bind intsM with
    | none => rw [g] at h'; exact h'.elim
    | some ns =>
      rw [g] at h'
      obtain ⟨xs, e1, e2⟩ := Option.bind_eq_some_iff.mp g
      obtain ⟨c, vs, rfl, sq, rs⟩ := seq_of rh e1 rb
      have e3 := ints_of e2 rs
      subst e3
      refine ⟨c, _, rfl, sq, rfl, flat_ints ns, ?_⟩
      have q := h'.now rh (.bl _)
      rw [← in_ints i ns] at q
      exact q
  | niS =>
    cases ra <;> try exact h.elim
    rename_i i
    have h' : Aft K CA (RV CA) W ρ H (match (asSeq mh y).bind intsM with
      | some ns => .ok (.bl (!decide (i ∈ ns))) mh
      | none => .stuck) Q := h
    cases g : (asSeq mh y).bind intsM with
    | none => rw [g] at h'; exact h'.elim
    | some ns =>
      rw [g] at h'
      obtain ⟨xs, e1, e2⟩ := Option.bind_eq_some_iff.mp g
      obtain ⟨c, vs, rfl, sq, rs⟩ := seq_of rh e1 rb
      have e3 := ints_of e2 rs
      subst e3
      refine ⟨c, _, rfl, sq, rfl, flat_ints ns, ?_⟩
      have q := h'.now rh (.bl _)
      rw [← in_ints i ns] at q
      exact q

end
end Mi
end

section
/-! Mini, part 4: calls: of defs and methods, by place and by name, new instances, built-in functions. -/
namespace Mi
open PySem PySem.Spec PyProof.Rows L2

/-! ### argument lists -/
def noStar : Expr → Bool
  | .Starred _ _ => false
  | _ => true
theorem star_cons {e : Expr} {es : List Expr} {env : PySem.Env} (h : noStar e = true) : starEach (e :: es) env = (false, eval e env) :: starEach es env := by
  cases e <;> first | rfl | cases h
theorem star_none {pos : Pos} {env : PySem.Env} : ∀ {es : List Expr}, es.all noStar = true → (backTo pos (starEach es env)).any (·.1) = false
  | [], _ => rfl
  | e :: es, h => by
    rw [List.all_cons, Bool.and_eq_true] at h
    rw [star_cons h.1]
    show (false || (backTo pos (starEach es env)).any (·.1)) = false
    rw [star_none h.2]; rfl
theorem star_all {pos : Pos} {env : PySem.Env} : ∀ {es : List Expr}, es.all noStar = true → (backTo pos (starEach es env)).all (!·.1) = true
  | [], _ => rfl
  | e :: es, h => by
    rw [List.all_cons, Bool.and_eq_true] at h
    rw [star_cons h.1]
    show (true && (backTo pos (starEach es env)).all (!·.1)) = true
    rw [star_all h.2]; rfl
def kwNames : List Keyword → List Str → Bool
  | [], [] => true
  | ⟨some n, _, _⟩ :: r, k :: ks => decide (n = k) && kwNames r ks
  | _, _ => false
theorem kw_all {pos : Pos} {env : PySem.Env} : ∀ {kws : List Keyword} {ks : List Str}, kwNames kws ks = true → (backToKw pos (keywordEach kws env)).all (·.1.isSome) = true
  | [], [], _ => rfl
  | ⟨some n, e, p⟩ :: r, k :: ks, h => by
    have h' : (decide (n = k) && kwNames r ks) = true := h
    rw [Bool.and_eq_true] at h'
    show (true && (backToKw pos (keywordEach r env)).all (·.1.isSome)) = true
    rw [kw_all h'.2]; rfl
  | ⟨none, _, _⟩ :: _, _ :: _, h => by cases h
  | ⟨none, _, _⟩ :: _, [], h => by cases h
  | ⟨some _, _, _⟩ :: _, [], h => by cases h
  | [], _ :: _, h => by cases h
theorem kw_none {pos : Pos} {env : PySem.Env} : ∀ {kws : List Keyword} {ks : List Str}, kwNames kws ks = true → (backToKw pos (keywordEach kws env)).any (·.1.isNone) = false
  | [], [], _ => rfl
  | ⟨some n, e, p⟩ :: r, k :: ks, h => by
    have h' : (decide (n = k) && kwNames r ks) = true := h
    rw [Bool.and_eq_true] at h'
    show (false || (backToKw pos (keywordEach r env)).any (·.1.isNone)) = false
    rw [kw_none h'.2]; rfl
  | ⟨none, _, _⟩ :: _, _ :: _, h => by cases h
  | ⟨none, _, _⟩ :: _, [], h => by cases h
  | ⟨some _, _, _⟩ :: _, [], h => by cases h
  | [], _ :: _, h => by cases h
theorem kw_names {pos : Pos} {env : PySem.Env} : ∀ {kws : List Keyword} {ks : List Str}, kwNames kws ks = true → (backToKw pos (keywordEach kws env)).filterMap (·.1) = ks
  | [], [], _ => rfl
  | ⟨some n, e, p⟩ :: r, k :: ks, h => by
    have h' : (decide (n = k) && kwNames r ks) = true := h
    rw [Bool.and_eq_true] at h'
    show n :: (backToKw pos (keywordEach r env)).filterMap (·.1) = k :: ks
    rw [kw_names h'.2, of_decide_eq_true h'.1]
  | ⟨none, _, _⟩ :: _, _ :: _, h => by cases h
  | ⟨none, _, _⟩ :: _, [], h => by cases h
  | ⟨some _, _, _⟩ :: _, [], h => by cases h
  | [], _ :: _, h => by cases h

/-- what a call of f asks, by its arguments' values -/
def CalR (X : Cx) (f : Value) (ks : List Str) (r : List V → List V → L2.St → Hp → VK → Prop) : Prop :=
  ∀ (pins : List (Addr × Obj)) (s : Shared) (σ : L2.St) (H : Hp) (us ws : List Value) (vs zs : List V) (Q : VK), L2.Inv X pins σ H s → Vals vs us → Vals zs ws → r vs zs σ H Q →
    wpAny (model X.prog X.w) X.A (call f us (ks.zip ws)) (EP X pins σ Q) X.xe s

section
variable {X : Cx} {es : List Expr} {kws : List Keyword} {ks : List Str} {ta tk : TA} {x m : Str} {p pos apos : Pos} {g C : Addr} {pins : List (Addr × Obj)} {s : Shared} {σ : L2.St} {H : Hp} {Q : VK}
/-- the arguments, then the call -/
theorem args_run {first : List Value} {fv : List V} {r : List V → List V → L2.St → Hp → VK → Prop} (hes : es.all noStar = true) (hks : kwNames kws ks = true) (ha : PA X es ta) (hnil : es = [] → ∀ (σ : L2.St) (H : Hp) (Q : List V → Hp → Prop), ta σ H Q → Q [] H) (hkw : PK X kws tk) (hk : PySem.W.keepIn X.K (.ref g) = true)
    (hc : CalR X (.ref g) ks r) (hf : Vals fv first) (I : L2.Inv X pins σ H s) (h : ta σ H fun vs H1 => tk σ H1 fun zs H2 => r (fv ++ vs) zs σ H2 Q) :
    wpAny (model X.prog X.w) X.A (callWith pos (.ref g) first (backTo pos (starEach es X.env)) (backToKw pos (keywordEach kws X.env))) (EP X pins σ Q) X.xe s := by
  have hp : ((backTo pos (starEach es X.env)).any (·.1) || (backToKw pos (keywordEach kws X.env)).any (·.1.isNone)) = false := by rw [star_none hes, kw_none hks]; rfl
  cases es with
  | nil =>
    refine PySem.W.callWith_KW0 (h₀ := X.base) I.ok.mod.kin hk (kw_all hks) ?_ hp
    have q1 := hnil rfl σ H _ h
    refine thn (hkw.run pos pins s σ H _ I q1) fun ws s2 ⟨zs, H2, I2, rz, q2⟩ => ⟨I2.kIn, ?_⟩
    rw [kw_names hks]
    exact hc pins s2 σ H2 (first ++ []) ws (fv ++ []) zs Q I2 (hf.append .nil) rz q2
  | cons e es =>
    rw [List.all_cons, Bool.and_eq_true] at hes
    refine PySem.W.callWith_KW (h₀ := X.base) I.ok.mod.kin hk (kw_all hks) (thn (ha.run pos pins s σ H _ I h) fun us s1 ⟨vs, H1, I1, r1, q1⟩ => ?_) hp (star_cons hes.1)
    refine thn (hkw.run pos pins s1 σ H1 _ I1 q1) fun ws s2 ⟨zs, H2, I2, rz, q2⟩ => ⟨I2.kIn, ?_⟩
    rw [kw_names hks]
    exact hc pins s2 σ H2 (first ++ us) ws (fv ++ vs) zs Q I2 (hf.append r1) rz q2
/-- f(.., k = ..), f a global name -/
theorem pe_cal {r : List V → List V → L2.St → Hp → VK → Prop} (hes : es.all noStar = true) (hks : kwNames kws ks = true) (ha : PA X es ta) (hnil : es = [] → ∀ (σ : L2.St) (H : Hp) (Q : List V → Hp → Prop), ta σ H Q → Q [] H) (hkw : PK X kws tk) (hg : Gl X x) (hm : X.mg x = some (.ref g)) (hk : PySem.W.keepIn X.K (.ref g) = true)
    (hc : CalR X (.ref g) ks r) (hdb : (x == ("__debug__" : Str)) = false) : PE X (.Call (.Name x p) es kws pos) (fun σ H Q => ta σ H fun vs H1 => tk σ H1 fun zs H2 => r vs zs σ H2 Q) := by
  refine ⟨fun pins s σ H Q I h => wpAny_Call_Name_kw (ld_glob I hg hm ?_ hdb)⟩
  exact args_run (first := []) (fv := []) hes hks ha hnil hkw hk hc .nil I h

def plainRecv : Expr → Bool
  | .Call _ _ _ _ => false
  | _ => true
theorem base_plain {o : Expr} {f : Str} {env : PySem.Env} (h : plainRecv o = true) : attributeBase o f env (eval o env) = eval o env := by
  cases o <;> first | rfl | cases h
theorem meth_eval {o : Expr} {env : PySem.Env} (ho : plainRecv o = true) (hes : es.all noStar = true) (hks : kwNames kws ks = true) (hn : es.length + kws.length < 29) (hl : (apos.endLine == pos.line) = true) :
    eval (.Call (.Attribute o m apos) es kws pos) env = (do
      let ov ← eval o env
      standAt apos.atName
      let (f, first) ← holding [ov] (getMethod ov m (do return (← importBound o env).getD true))
      callWith pos f first (backTo pos (starEach es env)) (backToKw pos (keywordEach kws env))) := by
  have e : eval (.Call (.Attribute o m apos) es kws pos) env = (do
      let ov ← attributeBase o m env (eval o env)
      standAt apos.atName
      methodCall o m apos pos env ov (es.length + kws.length) (backTo pos (starEach es env)) (backToKw pos (keywordEach kws env))) := by
    first | rfl | simp only [eval]
  have hf : methodCallForm (es.length + kws.length) (backTo pos (starEach es env)) (backToKw pos (keywordEach kws env)) = true := by
    unfold methodCallForm
    rw [star_all hes, kw_all hks]
    have : es.length + kws.length + (if (backToKw pos (keywordEach kws env)).isEmpty = true then 0 else 1) < 30 := by split <;> omega
    simp only [Bool.and_self, Bool.true_and, decide_eq_true this]
  rw [e, base_plain ho]
  unfold methodCall calleeOf methodCallPos
  simp only [hf, hl, if_true, Bool.not_true, Bool.false_or]
  rfl
/-- o.m(.., k = ..) of an own class -/
theorem pe_mth {o : Expr} {to : TE} {r : Addr → List V → List V → L2.St → Hp → VK → Prop} (ho : plainRecv o = true) (hes : es.all noStar = true) (hks : kwNames kws ks = true) (hn : es.length + kws.length < 29) (hl : (apos.endLine == pos.line) = true)
    (hp : PE X o to) (ha : PA X es ta) (hnil : es = [] → ∀ (σ : L2.St) (H : Hp) (Q : List V → Hp → Prop), ta σ H Q → Q [] H) (hkw : PK X kws tk) (hc : ∀ g, (∃ C, Meth X.K C m g) → CalR X (.ref g) ks (r g)) :
    PE X (.Call (.Attribute o m apos) es kws pos) (fun σ H Q => to σ H fun y H1 => ∃ (a C dx : Addr) (fs : List (Str × V)) (g : Addr), y = .ref a ∧ H1 a = some (.ins C dx fs) ∧ Cls X.K C ∧ Meth X.K C m g ∧ fs.lookup m = none ∧
      ta σ H1 fun vs H2 => tk σ H2 fun zs H3 => r g (y :: vs) zs σ H3 Q) := by
  refine ⟨fun pins s σ H Q I h => ?_⟩
  refine PySem.W.methodCall_KW (pl := (do return (← importBound o X.env).getD true)) (thn (hp.run pins s σ H _ I h) fun u s1 ⟨y, H1, I1, ry, a, C, dx, fs, g, ey, ea, c, hm, l, q⟩ => ?_) (meth_eval ho hes hks hn hl)
  subst ey
  obtain rfl : u = Value.ref a := ry
  refine getmeth_ok I1 ea c hm l ?_
  exact args_run (first := [.ref a]) (fv := [.ref a]) hes hks ha hnil hkw hm.kp (hc g ⟨C, hm⟩) (.cons rfl .nil) I1 q
end

/-! ### what a def of the text keeps -/
/-- the def at f does what C does of fi -/
def FnM (CA : Str → Addr) (P : Program) (w : World) (K : PySem.W.Frag) (mg : Str → Option Value) (base : Heap) (C : CallF) (k : Nat) (f : Addr) (fd : FuncData) (ps : List Str) (fi : FnI) : Prop :=
  ∀ (A : Around) (outer : List PySem.Env) (s : Shared) (H : Hp) (args : Args) (us : List Value) (vs : List V) (mvs : List MV) (ρ : Rho) (mh : MH) (Q : VK) (E : XK), RM k A → Env0 P w K mg base A outer s H → BindsTo s fd args (ps.zip us) → Vals vs us →
    RVs CA ρ H mvs vs → mvs.length = fi.np → RH K CA ρ mh H → Aft K CA (RV CA) E ρ H (C fi mvs mh) Q →
    codeAny (model P w) A (.call (.ref f) args) (CR (L2N.CX P w) outer P w H s Q E) s
/-- how it may be called -/
def Pats (fd : FuncData) (ps : List Str) (fi : FnI) : Prop :=
  ps.length = fi.np ∧ ∀ p ∈ fi.pats, ∀ (us ws : List Value), us.length = p.1 → ws.length = p.2.1.length → ∀ s, BindsTo s fd ⟨us, p.2.1.zip ws⟩ (ps.zip (us ++ p.2.2.map fun i => ws.getD i .none))
structure FnR (CA : Str → Addr) (C : CallF) (k : Nat) (X : Cx) (f : Addr) (fi : FnI) : Prop where
  ex : ∃ (fd : FuncData) (ps : List Str), Pats fd ps fi ∧ FnM CA X.prog X.w X.K X.mg X.base C k f fd ps fi

section
variable {CA : Str → Addr} {C : CallF} {X : Cx} {k : Nat} {fi : FnI} {f : Addr} {fd : FuncData} {ps : List Str} {W : WX} {pins : List (Addr × Obj)} {s : Shared} {σ : L2.St} {H : Hp} {Q : VK}
theorem run_call {args : Args} {us : List Value} {vs : List V} {mvs : List MV} {ρ : Rho} {mh : MH} (F : FnM CA X.prog X.w X.K X.mg X.base C k f fd ps fi) (hr : RM k X.A) (tk : L2N.Takes X W) (I : L2.Inv X pins σ H s)
    (hb : BindsTo s fd args (ps.zip us)) (rv : Vals vs us) (rs : RVs CA ρ H mvs vs) (hl : mvs.length = fi.np) (rh : RH X.K CA ρ mh H) (h : Aft X.K CA (RV CA) (fun c d H' => W c d σ H') ρ H (C fi mvs mh) Q) :
    wpAny (model X.prog X.w) X.A (call (.ref f) args.pos args.kw) (EP X pins σ Q) X.xe s := by
  refine wpAny_call (codeAny_mono (F X.A X.stack s H args us vs mvs ρ mh Q _ hr I.env0 hb rv rs hl rh h) fun r s' hq => ?_)
  cases r with
  | error e => exact tk e s' (L2N.XE.of_call I (fun _ _ _ z => z) hq)
  | ok fl =>
    cases fl with
    | ret u => exact I.after hq
    | next => exact False.elim hq
    | brk => exact False.elim hq
    | cont => exact False.elim hq
theorem getD_vals {zs : List V} {ws : List Value} (r : Vals zs ws) : ∀ (pm : List Nat), (∀ i ∈ pm, i < zs.length) → Vals (pm.map fun i => zs.getD i .non) (pm.map fun i => ws.getD i .none)
  | [], _ => .nil
  | i :: pm, h => by
    have hi := h i List.mem_cons_self
    have e : zs[i]? = some (zs.getD i .non) := by simp [List.getD, hi]
    obtain ⟨u, h1, h2⟩ := r.get e
    have e2 : ws.getD i .none = u := by simp [List.getD, h1]
    refine .cons (by show L2.RelV (zs.getD i .non) (ws.getD i .none); rw [e2]; exact h2) (getD_vals r pm fun j hj => h j (List.mem_cons_of_mem _ hj))
theorem getD_rvs {ρ : Rho} {ms : List MV} {zs : List V} (r : RVs CA ρ H ms zs) : ∀ (pm : List Nat), (∀ i ∈ pm, i < zs.length) → RVs CA ρ H (pm.map fun i => ms.getD i .non) (pm.map fun i => zs.getD i .non)
  | [], _ => .nil
  | i :: pm, h => by
    have hi := h i List.mem_cons_self
    have hm : i < ms.length := by rw [r.length]; exact hi
    have e : ms[i]? = some (ms.getD i .non) := by simp [List.getD, hm]
    obtain ⟨u, h1, h2⟩ := r.get e
    have e2 : zs.getD i .non = u := by simp [List.getD, h1]
    refine .cons (by show RV CA ρ H (ms.getD i .non) (zs.getD i .non); rw [e2]; exact h2) (getD_rvs r pm fun j hj => h j (List.mem_cons_of_mem _ hj))
/-- a call of a def by its pattern -/
def rFn (CA : Str → Addr) (C : CallF) (X : Cx) (W : WX) (fi : FnI) (ks : List Str) (pm : List Nat) : List V → List V → L2.St → Hp → VK → Prop := fun vs zs σ H Q =>
  ∃ (ρ : Rho) (mh : MH) (ms ns as : List MV), RVs CA ρ H ms vs ∧ RVs CA ρ H ns zs ∧ RH X.K CA ρ mh H ∧ argsOf fi.np ms ns pm = some as ∧ (vs.length, ks, pm) ∈ fi.pats ∧ (∀ i ∈ pm, i < ks.length) ∧ zs.length = ks.length ∧
    Aft X.K CA (RV CA) (fun c d H' => W c d σ H') ρ H (C fi as mh) Q
theorem cal_fn {ks : List Str} {pm : List Nat} (F : FnR CA C k X f fi) (hr : RM k X.A) (tk : L2N.Takes X W) : CalR X (.ref f) ks (rFn CA C X W fi ks pm) := by
  intro pins s σ H us ws vs zs Q I r rz h
  obtain ⟨ρ, mh, ms, ns, as, r1, r2, rh, ea, hp, hpm, hz, q⟩ := h
  obtain ⟨fd, ps, ⟨hnp, hb⟩, F⟩ := F.ex
  unfold argsOf at ea
  simp only at ea
  split at ea
  · rename_i hc
    cases ea
    obtain ⟨c1, c2, c3⟩ := hc
    have hb' := hb _ hp us ws (by rw [← r.length]) (by rw [← rz.length]; exact hz) s
    exact run_call (args := ⟨us, ks.zip ws⟩) F hr tk I hb' (r.append (getD_vals rz pm fun i hi => by rw [hz]; exact hpm i hi)) (r1.append (getD_rvs r2 pm fun i hi => by rw [hz]; exact hpm i hi)) c1 rh q
  · cases ea

/-! ### calls while an exception is handled -/
/-- room for k such calls, one in another -/
structure RMH (k : Nat) (A : Around) : Prop where
  dp : A.depth + 3 * k + 5 < recursionLimit
  un : A.units + 16 * k + 1270 < cLine
  gd : A.guards = some []
theorem RM.rmh {j k : Nat} {A : Around} (r : RM k A) (h : j ≤ k) : RMH j A := ⟨by have := r.dp; omega, by have := r.un; omega, r.gd⟩
theorem RMH.deeper {k : Nat} {A : Around} (r : RMH (k + 1) A) (env : PySem.Env) : RMH k (A.deeper env) :=
  ⟨by have := r.dp; show A.depth + 1 + 3 * k + 5 < _; omega, by have := r.un; show A.units + 3 + 16 * k + 1270 < _; omega, r.gd⟩
/-- p is the exception that is handled -/
structure HotP (T : Tab) (CA : Str → Addr) (K : PySem.W.Frag) (A : Around) (p : Addr × Obj) (d : Addr) : Prop where
  h1 : L2H.Hot1 A p
  z : ∃ (c : Str) (vs : Array Value), L2N.Zn (.ref (CA c)) (some d) p.2 ∧ p.2.data = .fields vs ∧ XfC K (CA c) ∧ ∀ f, T.xat f = true → PySem.W.findIn K (.ref (CA c)) f = some none
/-- the def at f does there what C does of fi -/
def FnMH (T : Tab) (CA : Str → Addr) (P : Program) (w : World) (K : PySem.W.Frag) (mg : Str → Option Value) (base : Heap) (C : CallF) (k : Nat) (f : Addr) (fd : FuncData) (ps : List Str) (fi : FnI) : Prop :=
  ∀ (A : Around) (outer : List PySem.Env) (s : Shared) (H : Hp) (args : Args) (us : List Value) (vs : List V) (mvs : List MV) (ρ : Rho) (mh : MH) (Q : VK) (E : XK) (p : Addr × Obj) (d : Addr), RMH k A → HotP T CA K A p d → L2H.PinOk outer H s p → Env0 P w K mg base A outer s H →
    BindsTo s fd args (ps.zip us) → Vals vs us → RVs CA ρ H mvs vs → mvs.length = fi.np → RH K CA ρ mh H → Aft K CA (RV CA) E ρ H (C fi mvs mh) Q →
    codeAny (model P w) A (.call (.ref f) args) (CR (L2N.CX P w) outer P w H s Q E) s
structure FnRH (T : Tab) (CA : Str → Addr) (C : CallF) (k : Nat) (X : Cx) (f : Addr) (fi : FnI) : Prop where
  ex : ∃ (fd : FuncData) (ps : List Str), Pats fd ps fi ∧ FnMH T CA X.prog X.w X.K X.mg X.base C k f fd ps fi
theorem fnmh_no {T : Tab} {P : Program} {w : World} {K : PySem.W.Frag} {mg : Str → Option Value} {base : Heap} : FnMH T CA P w K mg base (fun _ _ => M.stuck) k f fd ps fi := fun A outer s H args us vs mvs ρ mh Q E p d hr hp po e0 hb rv rm hl rh h => h.elim
theorem run_callH {T : Tab} {args : Args} {us : List Value} {vs : List V} {mvs : List MV} {ρ : Rho} {mh : MH} {p : Addr × Obj} {d : Addr} (F : FnMH T CA X.prog X.w X.K X.mg X.base C k f fd ps fi) (hr : RMH k X.A) (hp : HotP T CA X.K X.A p d) (hpn : p ∈ X.pn) (tk : L2N.Takes X W) (I : L2.Inv X pins σ H s)
    (hb : BindsTo s fd args (ps.zip us)) (rv : Vals vs us) (rs : RVs CA ρ H mvs vs) (hl : mvs.length = fi.np) (rh : RH X.K CA ρ mh H) (h : Aft X.K CA (RV CA) (fun c d H' => W c d σ H') ρ H (C fi mvs mh) Q) :
    wpAny (model X.prog X.w) X.A (call (.ref f) args.pos args.kw) (EP X pins σ Q) X.xe s := by
  have P1 := I.pin p (List.mem_append_left _ hpn)
  have hpin : L2H.PinOk X.stack H s p := ⟨P1.1, P1.2.1, fun hm => (List.mem_cons.mp (I.stkSub p.1 hm)).elim P1.2.2.1 P1.2.2.2.1, P1.2.2.2.2⟩
  refine wpAny_call (codeAny_mono (F X.A X.stack s H args us vs mvs ρ mh Q _ p d hr hp hpin I.env0 hb rv rs hl rh h) fun r s' hq => ?_)
  cases r with
  | error e => exact tk e s' (L2N.XE.of_call I (fun _ _ _ z => z) hq)
  | ok fl =>
    cases fl with
    | ret u => exact I.after hq
    | next => exact False.elim hq
    | brk => exact False.elim hq
    | cont => exact False.elim hq
theorem cal_fnH {T : Tab} {ks : List Str} {pm : List Nat} {p : Addr × Obj} {d : Addr} (F : FnRH T CA C k X f fi) (hr : RMH k X.A) (hp : HotP T CA X.K X.A p d) (hpn : p ∈ X.pn) (tk : L2N.Takes X W) : CalR X (.ref f) ks (rFn CA C X W fi ks pm) := by
  intro pins s σ H us ws vs zs Q I r rz h
  obtain ⟨ρ, mh, ms, ns, as, r1, r2, rh, ea, hp', hpm, hz, q⟩ := h
  obtain ⟨fd, ps, ⟨hnp, hb⟩, F⟩ := F.ex
  unfold argsOf at ea
  simp only at ea
  split at ea
  · rename_i hc
    cases ea
    obtain ⟨c1, c2, c3⟩ := hc
    have hb' := hb _ hp' us ws (by rw [← r.length]) (by rw [← rz.length]; exact hz) s
    exact run_callH (args := ⟨us, ks.zip ws⟩) F hr hp hpn tk I hb' (r.append (getD_vals rz pm fun i hi => by rw [hz]; exact hpm i hi)) (r1.append (getD_rvs r2 pm fun i hi => by rw [hz]; exact hpm i hi)) c1 rh q
  · cases ea
end
end Mi
end

section
/-! Mini: min, max of a list of tuples of ints (printed by gen_mx.py). -/
namespace Mi
open PySem PySem.Spec PyProof.Rows L2

theorem ltT_rc {A : Around} {s : Shared} {a b : Addr} {its jts : Array Value} {ns ms : List Int} (ha : s.heap.IsTuple a its) (hb : s.heap.IsTuple b jts) (ia : IntsAre its.toList ns) (ib : IntsAre jts.toList ms) (hu : A.units < cLine) : Ob.RcOp .Lt A s (.ref a) (.ref b) (ltT ns ms) := by
  have e1 : its.size = ns.length := by have := ia.length; simpa using this
  have e2 : jts.size = ms.length := by have := ib.length; simpa using this
  have at1 : ∀ j (h1 : j < its.size), ∃ t, its[j] = .int (ns.getD j 0) t := fun j h1 => PyProof.Rows.IntsAre.int_at ia _ _ (by simp [h1])
  have at2 : ∀ j (h1 : j < jts.size), ∃ t, jts[j] = .int (ms.getD j 0) t := fun j h1 => PyProof.Rows.IntsAre.int_at ib _ _ (by simp [h1])
  have R := Ob.RcOp.tuples_lt (A := A) (s := s) (e := fun j => decide (ns.getD j 0 = ms.getD j 0)) (r := fun j => decide (ns.getD j 0 < ms.getD j 0)) ha hb hu (fun j h1 h2 => by
    obtain ⟨t, et⟩ := at1 j h1
    obtain ⟨t', et'⟩ := at2 j h2
    rw [et, et']
    have z : (ns.getD j 0 == ms.getD j 0) = decide (ns.getD j 0 = ms.getD j 0) := by
      generalize ns.getD j 0 = x
      generalize ms.getD j 0 = y
      by_cases q : x = y
      · subst q; simp
      · simp [q]
    rw [← z]
    exact SeqAt.EqAt.int_int _ _ _ _) (fun j h1 h2 _ => by
    obtain ⟨t, et⟩ := at1 j h1
    obtain ⟨t', et'⟩ := at2 j h2
    rw [et, et']
    exact Ob.RcOp.lt_int _ _ _ _)
  rw [e1, e2] at R
  exact R

section
variable {prog : Program} {w : World} {A : Around} {R : Result → Shared → Prop} {I : Addr} {fp wr : List Addr} {n : Nat} {P : Nat → Value → Prop} {St : Nat → Heap → Prop}
theorem min_turns {G : Heap → Prop} {S : Addr} {bt : Nat → Nat → Bool} (wk : Walks prog w A.in1 I fp wr n P St) (gk : ∀ h h' : Heap, G h → (∀ b o, b ∉ wr → b ≠ S → h.get? b = some o → h'.get? b = some o) → G h')
    (cm : ∀ (i j : Nat) (vi vj : Value) (s : Shared) (Q : Value → Shared → Prop) (E : Value → Shared → Prop), G s.heap → P i vi → P j vj → Q (.bool (bt i j)) s → wpAny (model prog w) A.in1 (richCompare .Lt vi vj) Q E s) (nf : S ∉ fp) :
    ∀ (k j : Nat) (s : Shared) (vb : Value) (c : Nat), n - (j + 1) = k → j + 1 ≤ n → G s.heap → St (j + 1) s.heap → P (argBest bt j) vb →
    s.heap.get? S = some { cls := .type "list", dict := none, data := .seq #[vb, vb] c, slots := #[] } →
    (∀ v h' tk, P (argBest bt (n - 1)) v → (∀ b o, b ∉ wr → b ≠ S → s.heap.get? b = some o → h'.get? b = some o) → R (.ok (.ret v)) { s with heap := h', toks := tk }) →
    codeAny (model prog w) A (.builtin "min.loop" ⟨[.ref I, .none, .ref S], []⟩) R s := by
  have nw : S ∉ wr := fun z => nf (wk.sub _ z)
  have nm : (toString "min" ++ toString ".loop" : String) = "min.loop" := by decide
  intro k
  induction k with
  | zero =>
    intro j s vb c ek lj g st pb oS out
    have ej : j + 1 = n := by omega
    refine codeAny_builtin F.entry_min_loop ?_
    rw [Around.under_plainId F.plain_min_loop _]
    show wpAny _ A.in1 (seqItems? (.ref S) >>= _) _ _ s
    refine wpAny_bind (wpAny_seqItems oS rfl ?_)
    show wpAny _ A.in1 (tryCatch (pyNext (.ref I)) _ >>= _) _ _ s
    refine wpAny_bind (wpAny_tryCatch (wk.done s _ _ (ej ▸ st) fun h' tk kp => ?_))
    have oS' := kp S _ nw oS
    show wpAny _ A.in1 (updateSeq S (fun _ => #[]) >>= _) _ _ _
    refine wpAny_bind ?_
    refine wpAny_updateSeq oS' rfl (wpAny_bind (wpAny_letGo (wpAny_pure ?_)))
    refine out vb _ tk (by rw [← ej]; exact pb) fun b o nb nS e => (Heap.get?_update_other _ _ (Ne.symm nS)).trans (kp b o nb e)
  | succ k ih =>
    intro j s vb c ek lj g st pb oS out
    have lt : j + 1 < n := by omega
    refine codeAny_builtin F.entry_min_loop ?_
    rw [Around.under_plainId F.plain_min_loop _]
    show wpAny _ A.in1 (seqItems? (.ref S) >>= _) _ _ s
    refine wpAny_bind (wpAny_seqItems oS rfl ?_)
    show wpAny _ A.in1 (tryCatch (pyNext (.ref I)) _ >>= _) _ _ s
    refine wpAny_bind (wpAny_tryCatch (wk.item (j + 1) s _ _ lt st fun v h' tk pv st' kp => ?_))
    have oS' := kp S _ nw oS
    have g' : G h' := gk _ _ g fun b o nb _ e => kp b o nb e
    show wpAny _ A.in1 (tryCatch (holding [v, v] (richCompare .Lt v vb >>= _)) _ >>= _) _ _ _
    refine wpAny_bind (wpAny_tryCatch (wpAny_holding (wpAny_bind (cm (j + 1) (argBest bt j) v vb _ _ _ g' pv pb ?_))))
    refine wpAny_bind (wpAny_holding (wpAny_truthy_bool ?_))
    refine wpAny_bind (wpAny_letGo (wpAny_pure ?_))
    cases eb : bt (j + 1) (argBest bt j) with
    | true =>
      simp only [if_true]
      refine wpAny_bind ?_
      refine wpAny_updateSeq oS' rfl (wpAny_bind (wpAny_letGo ?_))
      rw [nm]
      refine wpAny_pure ⟨plainId_quiet F.plain_min_loop _, ih (j + 1) _ v _ (by omega) lt (gk _ _ g' fun b o _ nS e => (Heap.get?_update_other _ _ (Ne.symm nS)).trans e) (wk.frame _ _ _ st' fun b fb o e => ?_) (by simp only [argBest, eb, if_true]; exact pv) (Heap.get?_update_self _ oS' rfl)
        fun v' h2 tk2 pv' kp' => ?_⟩
      · exact (Heap.get?_update_other _ _ (fun z : S = b => nf (by rw [z]; exact fb))).trans e
      · exact out v' h2 tk2 pv' fun b o nb nS e => kp' b o nb nS ((Heap.get?_update_other _ _ (Ne.symm nS)).trans (kp b o nb e))
    | false =>
      simp only [Bool.false_eq_true, if_false]
      refine wpAny_bind (wpAny_letGo ?_)
      rw [nm]
      refine wpAny_pure ⟨plainId_quiet F.plain_min_loop _, ih (j + 1) _ vb c (by omega) lt g' st' (by simp only [argBest, eb, Bool.false_eq_true, if_false]; exact pb) oS' fun v' h2 tk2 pv' kp' => ?_⟩
      exact out v' h2 tk2 pv' fun b o nb nS e => kp' b o nb nS (kp b o nb e)
theorem min_start {G : Heap → Prop} {S : Addr} {bt : Nat → Nat → Bool} (wk : Walks prog w A.in1 I fp wr n P St) (gk : ∀ h h' : Heap, G h → (∀ b o, b ∉ wr → b ≠ S → h.get? b = some o → h'.get? b = some o) → G h')
    (cm : ∀ (i j : Nat) (vi vj : Value) (s : Shared) (Q : Value → Shared → Prop) (E : Value → Shared → Prop), G s.heap → P i vi → P j vj → Q (.bool (bt i j)) s → wpAny (model prog w) A.in1 (richCompare .Lt vi vj) Q E s) (nf : S ∉ fp)
    (pos : 0 < n) {s : Shared} {c : Nat} (g : G s.heap) (st : St 0 s.heap) (oS : s.heap.get? S = some { cls := .type "list", dict := none, data := .seq #[] c, slots := #[] })
    (out : ∀ v h' tk, P (argBest bt (n - 1)) v → (∀ b o, b ∉ wr → b ≠ S → s.heap.get? b = some o → h'.get? b = some o) → R (.ok (.ret v)) { s with heap := h', toks := tk }) :
    codeAny (model prog w) A (.builtin "min.loop" ⟨[.ref I, .none, .ref S], []⟩) R s := by
  have nw : S ∉ wr := fun z => nf (wk.sub _ z)
  have nm : (toString "min" ++ toString ".loop" : String) = "min.loop" := by decide
  refine codeAny_builtin F.entry_min_loop ?_
  rw [Around.under_plainId F.plain_min_loop _]
  show wpAny _ A.in1 (seqItems? (.ref S) >>= _) _ _ s
  refine wpAny_bind (wpAny_seqItems oS rfl ?_)
  show wpAny _ A.in1 (tryCatch (pyNext (.ref I)) _ >>= _) _ _ s
  refine wpAny_bind (wpAny_tryCatch (wk.item 0 s _ _ pos st fun v h' tk pv st' kp => ?_))
  have oS' := kp S _ nw oS
  have g' : G h' := gk _ _ g fun b o nb _ e => kp b o nb e
  show wpAny _ A.in1 (updateSeq S (fun _ => #[v, v]) >>= _) _ _ _
  refine wpAny_bind ?_
  refine wpAny_updateSeq oS' rfl ?_
  rw [nm]
  refine wpAny_pure ⟨plainId_quiet F.plain_min_loop _, min_turns wk gk cm nf _ 0 _ v _ rfl pos (gk _ _ g' fun b o _ nS e => (Heap.get?_update_other _ _ (Ne.symm nS)).trans e) (wk.frame _ _ _ st' fun b fb o e => ?_) pv (Heap.get?_update_self _ oS' rfl) fun v' h2 tk2 pv' kp' => ?_⟩
  · exact (Heap.get?_update_other _ _ (fun z : S = b => nf (by rw [z]; exact fb))).trans e
  · exact out v' h2 tk2 pv' fun b o nb nS e => kp' b o nb nS ((Heap.get?_update_other _ _ (Ne.symm nS)).trans (kp b o nb e))
/-- min of a list of tuples of ints -/
theorem min_tups {E : Value → Shared → Prop} {s : Shared} {l : Addr} {items : Array Value} {vals : List (List Int)} {Q : Value → Shared → Prop} (hh : A.handled = none) (hl : s.heap.IsList l items) (hu : A.units + 1 < cLine) (hn : 0 < items.size)
    (tp : ∀ (i : Nat) (v : Value), items[i]? = some v → ∃ a its, v = .ref a ∧ s.heap.IsTuple a its ∧ IntsAre its.toList (vals.getD i []))
    (h : ∀ v h' tk, items[argBest (fun i j => ltT (vals.getD i []) (vals.getD j [])) (items.size - 1)]? = some v → (∀ b o, s.heap.get? b = some o → h'.get? b = some o) → Q v { s with heap := h', toks := tk }) :
    wpAny (model prog w) A (call (.builtin "min") [.ref l]) Q E s := by
  have nm : (toString "min" ++ toString ".loop" : String) = "min.loop" := by decide
  have lt : l < s.heap.objs.size := by obtain ⟨_, e, _⟩ := hl; exact Heap.lt_size e
  refine call_function_tree F.kind_min F.plain_min F.entry_min (F.args_min1 _) ?_
  show wpAny _ A.in1 (Builtin.Builtins.bindParams "min" ["key", "default"] 0 ⟨[], []⟩ >>= _) _ _ s
  refine wpAny_bind (wpAny_of_eq (show Builtin.Builtins.bindParams "min" ["key", "default"] 0 ⟨[], []⟩ = pure [none, none] from rfl) ?_)
  refine wpAny_bind (wpAny_pure ?_)
  refine wpAny_bind (wpAny_pyIter_list hl ?_)
  refine wpAny_bind (wpAny_newObj_type ?_)
  have nl : l ≠ s.heap.objs.size := Nat.ne_of_lt lt
  have sz : (s.heap.push { cls := .type "list_iterator", data := .fields #[.ref l, .int 0 0] }).objs.size = s.heap.objs.size + 1 := Heap.size_push ..
  rw [nm]
  refine wpAny_pure ⟨plainId_quiet F.plain_min_loop _, min_start (S := (s.heap.push { cls := .type "list_iterator", data := .fields #[.ref l, .int 0 0] }).objs.size) (bt := fun i j => ltT (vals.getD i []) (vals.getD j [])) (G := fun hp => ∀ (i : Nat) (v : Value), items[i]? = some v → ∃ a its, a < s.heap.objs.size ∧ v = .ref a ∧ hp.IsTuple a its ∧ IntsAre its.toList (vals.getD i []))
    (Walks.list (A := A.in1) hh s.heap.objs.size l nl items) (fun h1 h2 g kp i v e => ?_) (fun i j vi vj s1 Q1 E1 g hi hj q => ?_) (fun z => ?_) hn (fun i v e => ?_) ⟨⟨_, Heap.get?_push_of_some _ (Heap.get?_push_size _ rfl), rfl, rfl⟩, (hl.push _).push _⟩ (Heap.get?_push_size _ rfl) fun v h' tk pv kp => ?_⟩
  · obtain ⟨a, its, la, rfl, ⟨o, eo, ho⟩, ia⟩ := g i v e
    refine ⟨a, its, la, rfl, ⟨o, kp a o (fun z => ?_) (fun z => ?_) eo, ho⟩, ia⟩
    · exact Nat.ne_of_lt la (List.mem_singleton.mp z)
    · exact Nat.ne_of_lt (Nat.lt_succ_of_lt la) (z.trans sz)
  · obtain ⟨a, its, _, rfl, ta, ia⟩ := g i vi hi
    obtain ⟨b, jts, _, rfl, tb, ib⟩ := g j vj hj
    exact ltT_rc ta tb ia ib (show A.in1.units < cLine from hu) prog w E1 Q1 q
  · rcases List.mem_cons.mp z with z | z
    · exact Nat.ne_of_gt (Nat.lt_succ_self s.heap.objs.size) (sz.symm.trans z)
    · exact Nat.ne_of_gt (Nat.lt_succ_of_lt lt) (sz.symm.trans (List.mem_singleton.mp z))
  · obtain ⟨a, its, rfl, ta, ia⟩ := tp i v e
    have la : a < s.heap.objs.size := by obtain ⟨_, e, _⟩ := ta; exact Heap.lt_size e
    exact ⟨a, its, la, rfl, (ta.push _).push _, ia⟩
  · refine h v h' tk pv fun b o e => ?_
    have lb := Heap.lt_size e
    exact kp b o (fun z => Nat.ne_of_lt lb (List.mem_singleton.mp z)) (fun z => Nat.ne_of_lt (Nat.lt_succ_of_lt lb) (z.trans sz)) (Heap.get?_push_of_some _ (Heap.get?_push_of_some _ e))
end

theorem gtT_rc {A : Around} {s : Shared} {a b : Addr} {its jts : Array Value} {ns ms : List Int} (ha : s.heap.IsTuple a its) (hb : s.heap.IsTuple b jts) (ia : IntsAre its.toList ns) (ib : IntsAre jts.toList ms) (hu : A.units < cLine) : Ob.RcOp .Gt A s (.ref a) (.ref b) (gtT ns ms) := by
  have e1 : its.size = ns.length := by have := ia.length; simpa using this
  have e2 : jts.size = ms.length := by have := ib.length; simpa using this
  have at1 : ∀ j (h1 : j < its.size), ∃ t, its[j] = .int (ns.getD j 0) t := fun j h1 => PyProof.Rows.IntsAre.int_at ia _ _ (by simp [h1])
  have at2 : ∀ j (h1 : j < jts.size), ∃ t, jts[j] = .int (ms.getD j 0) t := fun j h1 => PyProof.Rows.IntsAre.int_at ib _ _ (by simp [h1])
  have R := Ob.RcOp.tuples_gt (A := A) (s := s) (e := fun j => decide (ns.getD j 0 = ms.getD j 0)) (r := fun j => decide (ms.getD j 0 < ns.getD j 0)) ha hb hu (fun j h1 h2 => by
    obtain ⟨t, et⟩ := at1 j h1
    obtain ⟨t', et'⟩ := at2 j h2
    rw [et, et']
    have z : (ns.getD j 0 == ms.getD j 0) = decide (ns.getD j 0 = ms.getD j 0) := by
      generalize ns.getD j 0 = x
      generalize ms.getD j 0 = y
      by_cases q : x = y
      · subst q; simp
      · simp [q]
    rw [← z]
    exact SeqAt.EqAt.int_int _ _ _ _) (fun j h1 h2 _ => by
    obtain ⟨t, et⟩ := at1 j h1
    obtain ⟨t', et'⟩ := at2 j h2
    rw [et, et']
    exact Ob.RcOp.gt_int _ _ _ _)
  rw [e1, e2] at R
  exact R

section
variable {prog : Program} {w : World} {A : Around} {R : Result → Shared → Prop} {I : Addr} {fp wr : List Addr} {n : Nat} {P : Nat → Value → Prop} {St : Nat → Heap → Prop}
theorem max_turns {G : Heap → Prop} {S : Addr} {bt : Nat → Nat → Bool} (wk : Walks prog w A.in1 I fp wr n P St) (gk : ∀ h h' : Heap, G h → (∀ b o, b ∉ wr → b ≠ S → h.get? b = some o → h'.get? b = some o) → G h')
    (cm : ∀ (i j : Nat) (vi vj : Value) (s : Shared) (Q : Value → Shared → Prop) (E : Value → Shared → Prop), G s.heap → P i vi → P j vj → Q (.bool (bt i j)) s → wpAny (model prog w) A.in1 (richCompare .Gt vi vj) Q E s) (nf : S ∉ fp) :
    ∀ (k j : Nat) (s : Shared) (vb : Value) (c : Nat), n - (j + 1) = k → j + 1 ≤ n → G s.heap → St (j + 1) s.heap → P (argBest bt j) vb →
    s.heap.get? S = some { cls := .type "list", dict := none, data := .seq #[vb, vb] c, slots := #[] } →
    (∀ v h' tk, P (argBest bt (n - 1)) v → (∀ b o, b ∉ wr → b ≠ S → s.heap.get? b = some o → h'.get? b = some o) → R (.ok (.ret v)) { s with heap := h', toks := tk }) →
    codeAny (model prog w) A (.builtin "max.loop" ⟨[.ref I, .none, .ref S], []⟩) R s := by
  have nw : S ∉ wr := fun z => nf (wk.sub _ z)
  have nm : (toString "max" ++ toString ".loop" : String) = "max.loop" := by decide
  intro k
  induction k with
  | zero =>
    intro j s vb c ek lj g st pb oS out
    have ej : j + 1 = n := by omega
    refine codeAny_builtin F.entry_max_loop ?_
    rw [Around.under_plainId F.plain_max_loop _]
    show wpAny _ A.in1 (seqItems? (.ref S) >>= _) _ _ s
    refine wpAny_bind (wpAny_seqItems oS rfl ?_)
    show wpAny _ A.in1 (tryCatch (pyNext (.ref I)) _ >>= _) _ _ s
    refine wpAny_bind (wpAny_tryCatch (wk.done s _ _ (ej ▸ st) fun h' tk kp => ?_))
    have oS' := kp S _ nw oS
    show wpAny _ A.in1 (updateSeq S (fun _ => #[]) >>= _) _ _ _
    refine wpAny_bind ?_
    refine wpAny_updateSeq oS' rfl (wpAny_bind (wpAny_letGo (wpAny_pure ?_)))
    refine out vb _ tk (by rw [← ej]; exact pb) fun b o nb nS e => (Heap.get?_update_other _ _ (Ne.symm nS)).trans (kp b o nb e)
  | succ k ih =>
    intro j s vb c ek lj g st pb oS out
    have lt : j + 1 < n := by omega
    refine codeAny_builtin F.entry_max_loop ?_
    rw [Around.under_plainId F.plain_max_loop _]
    show wpAny _ A.in1 (seqItems? (.ref S) >>= _) _ _ s
    refine wpAny_bind (wpAny_seqItems oS rfl ?_)
    show wpAny _ A.in1 (tryCatch (pyNext (.ref I)) _ >>= _) _ _ s
    refine wpAny_bind (wpAny_tryCatch (wk.item (j + 1) s _ _ lt st fun v h' tk pv st' kp => ?_))
    have oS' := kp S _ nw oS
    have g' : G h' := gk _ _ g fun b o nb _ e => kp b o nb e
    show wpAny _ A.in1 (tryCatch (holding [v, v] (richCompare .Gt v vb >>= _)) _ >>= _) _ _ _
    refine wpAny_bind (wpAny_tryCatch (wpAny_holding (wpAny_bind (cm (j + 1) (argBest bt j) v vb _ _ _ g' pv pb ?_))))
    refine wpAny_bind (wpAny_holding (wpAny_truthy_bool ?_))
    refine wpAny_bind (wpAny_letGo (wpAny_pure ?_))
    cases eb : bt (j + 1) (argBest bt j) with
    | true =>
      simp only [if_true]
      refine wpAny_bind ?_
      refine wpAny_updateSeq oS' rfl (wpAny_bind (wpAny_letGo ?_))
      rw [nm]
      refine wpAny_pure ⟨plainId_quiet F.plain_max_loop _, ih (j + 1) _ v _ (by omega) lt (gk _ _ g' fun b o _ nS e => (Heap.get?_update_other _ _ (Ne.symm nS)).trans e) (wk.frame _ _ _ st' fun b fb o e => ?_) (by simp only [argBest, eb, if_true]; exact pv) (Heap.get?_update_self _ oS' rfl)
        fun v' h2 tk2 pv' kp' => ?_⟩
      · exact (Heap.get?_update_other _ _ (fun z : S = b => nf (by rw [z]; exact fb))).trans e
      · exact out v' h2 tk2 pv' fun b o nb nS e => kp' b o nb nS ((Heap.get?_update_other _ _ (Ne.symm nS)).trans (kp b o nb e))
    | false =>
      simp only [Bool.false_eq_true, if_false]
      refine wpAny_bind (wpAny_letGo ?_)
      rw [nm]
      refine wpAny_pure ⟨plainId_quiet F.plain_max_loop _, ih (j + 1) _ vb c (by omega) lt g' st' (by simp only [argBest, eb, Bool.false_eq_true, if_false]; exact pb) oS' fun v' h2 tk2 pv' kp' => ?_⟩
      exact out v' h2 tk2 pv' fun b o nb nS e => kp' b o nb nS (kp b o nb e)
theorem max_start {G : Heap → Prop} {S : Addr} {bt : Nat → Nat → Bool} (wk : Walks prog w A.in1 I fp wr n P St) (gk : ∀ h h' : Heap, G h → (∀ b o, b ∉ wr → b ≠ S → h.get? b = some o → h'.get? b = some o) → G h')
    (cm : ∀ (i j : Nat) (vi vj : Value) (s : Shared) (Q : Value → Shared → Prop) (E : Value → Shared → Prop), G s.heap → P i vi → P j vj → Q (.bool (bt i j)) s → wpAny (model prog w) A.in1 (richCompare .Gt vi vj) Q E s) (nf : S ∉ fp)
    (pos : 0 < n) {s : Shared} {c : Nat} (g : G s.heap) (st : St 0 s.heap) (oS : s.heap.get? S = some { cls := .type "list", dict := none, data := .seq #[] c, slots := #[] })
    (out : ∀ v h' tk, P (argBest bt (n - 1)) v → (∀ b o, b ∉ wr → b ≠ S → s.heap.get? b = some o → h'.get? b = some o) → R (.ok (.ret v)) { s with heap := h', toks := tk }) :
    codeAny (model prog w) A (.builtin "max.loop" ⟨[.ref I, .none, .ref S], []⟩) R s := by
  have nw : S ∉ wr := fun z => nf (wk.sub _ z)
  have nm : (toString "max" ++ toString ".loop" : String) = "max.loop" := by decide
  refine codeAny_builtin F.entry_max_loop ?_
  rw [Around.under_plainId F.plain_max_loop _]
  show wpAny _ A.in1 (seqItems? (.ref S) >>= _) _ _ s
  refine wpAny_bind (wpAny_seqItems oS rfl ?_)
  show wpAny _ A.in1 (tryCatch (pyNext (.ref I)) _ >>= _) _ _ s
  refine wpAny_bind (wpAny_tryCatch (wk.item 0 s _ _ pos st fun v h' tk pv st' kp => ?_))
  have oS' := kp S _ nw oS
  have g' : G h' := gk _ _ g fun b o nb _ e => kp b o nb e
  show wpAny _ A.in1 (updateSeq S (fun _ => #[v, v]) >>= _) _ _ _
  refine wpAny_bind ?_
  refine wpAny_updateSeq oS' rfl ?_
  rw [nm]
  refine wpAny_pure ⟨plainId_quiet F.plain_max_loop _, max_turns wk gk cm nf _ 0 _ v _ rfl pos (gk _ _ g' fun b o _ nS e => (Heap.get?_update_other _ _ (Ne.symm nS)).trans e) (wk.frame _ _ _ st' fun b fb o e => ?_) pv (Heap.get?_update_self _ oS' rfl) fun v' h2 tk2 pv' kp' => ?_⟩
  · exact (Heap.get?_update_other _ _ (fun z : S = b => nf (by rw [z]; exact fb))).trans e
  · exact out v' h2 tk2 pv' fun b o nb nS e => kp' b o nb nS ((Heap.get?_update_other _ _ (Ne.symm nS)).trans (kp b o nb e))
/-- max of a list of tuples of ints -/
theorem max_tups {E : Value → Shared → Prop} {s : Shared} {l : Addr} {items : Array Value} {vals : List (List Int)} {Q : Value → Shared → Prop} (hh : A.handled = none) (hl : s.heap.IsList l items) (hu : A.units + 1 < cLine) (hn : 0 < items.size)
    (tp : ∀ (i : Nat) (v : Value), items[i]? = some v → ∃ a its, v = .ref a ∧ s.heap.IsTuple a its ∧ IntsAre its.toList (vals.getD i []))
    (h : ∀ v h' tk, items[argBest (fun i j => gtT (vals.getD i []) (vals.getD j [])) (items.size - 1)]? = some v → (∀ b o, s.heap.get? b = some o → h'.get? b = some o) → Q v { s with heap := h', toks := tk }) :
    wpAny (model prog w) A (call (.builtin "max") [.ref l]) Q E s := by
  have nm : (toString "max" ++ toString ".loop" : String) = "max.loop" := by decide
  have lt : l < s.heap.objs.size := by obtain ⟨_, e, _⟩ := hl; exact Heap.lt_size e
  refine call_function_tree F.kind_max F.plain_max F.entry_max (F.args_max1 _) ?_
  show wpAny _ A.in1 (Builtin.Builtins.bindParams "max" ["key", "default"] 0 ⟨[], []⟩ >>= _) _ _ s
  refine wpAny_bind (wpAny_of_eq (show Builtin.Builtins.bindParams "max" ["key", "default"] 0 ⟨[], []⟩ = pure [none, none] from rfl) ?_)
  refine wpAny_bind (wpAny_pure ?_)
  refine wpAny_bind (wpAny_pyIter_list hl ?_)
  refine wpAny_bind (wpAny_newObj_type ?_)
  have nl : l ≠ s.heap.objs.size := Nat.ne_of_lt lt
  have sz : (s.heap.push { cls := .type "list_iterator", data := .fields #[.ref l, .int 0 0] }).objs.size = s.heap.objs.size + 1 := Heap.size_push ..
  rw [nm]
  refine wpAny_pure ⟨plainId_quiet F.plain_max_loop _, max_start (S := (s.heap.push { cls := .type "list_iterator", data := .fields #[.ref l, .int 0 0] }).objs.size) (bt := fun i j => gtT (vals.getD i []) (vals.getD j [])) (G := fun hp => ∀ (i : Nat) (v : Value), items[i]? = some v → ∃ a its, a < s.heap.objs.size ∧ v = .ref a ∧ hp.IsTuple a its ∧ IntsAre its.toList (vals.getD i []))
    (Walks.list (A := A.in1) hh s.heap.objs.size l nl items) (fun h1 h2 g kp i v e => ?_) (fun i j vi vj s1 Q1 E1 g hi hj q => ?_) (fun z => ?_) hn (fun i v e => ?_) ⟨⟨_, Heap.get?_push_of_some _ (Heap.get?_push_size _ rfl), rfl, rfl⟩, (hl.push _).push _⟩ (Heap.get?_push_size _ rfl) fun v h' tk pv kp => ?_⟩
  · obtain ⟨a, its, la, rfl, ⟨o, eo, ho⟩, ia⟩ := g i v e
    refine ⟨a, its, la, rfl, ⟨o, kp a o (fun z => ?_) (fun z => ?_) eo, ho⟩, ia⟩
    · exact Nat.ne_of_lt la (List.mem_singleton.mp z)
    · exact Nat.ne_of_lt (Nat.lt_succ_of_lt la) (z.trans sz)
  · obtain ⟨a, its, _, rfl, ta, ia⟩ := g i vi hi
    obtain ⟨b, jts, _, rfl, tb, ib⟩ := g j vj hj
    exact gtT_rc ta tb ia ib (show A.in1.units < cLine from hu) prog w E1 Q1 q
  · rcases List.mem_cons.mp z with z | z
    · exact Nat.ne_of_gt (Nat.lt_succ_self s.heap.objs.size) (sz.symm.trans z)
    · exact Nat.ne_of_gt (Nat.lt_succ_of_lt lt) (sz.symm.trans (List.mem_singleton.mp z))
  · obtain ⟨a, its, rfl, ta, ia⟩ := tp i v e
    have la : a < s.heap.objs.size := by obtain ⟨_, e, _⟩ := ta; exact Heap.lt_size e
    exact ⟨a, its, la, rfl, (ta.push _).push _, ia⟩
  · refine h v h' tk pv fun b o e => ?_
    have lb := Heap.lt_size e
    exact kp b o (fun z => Nat.ne_of_lt lb (List.mem_singleton.mp z)) (fun z => Nat.ne_of_lt (Nat.lt_succ_of_lt lb) (z.trans sz)) (Heap.get?_push_of_some _ (Heap.get?_push_of_some _ e))
end

theorem best_snoc {lt : List Int → List Int → Bool} : ∀ (l : List (List Int)) (b x : List Int), bestT lt b (l ++ [x]) = if lt x (bestT lt b l) = true then x else bestT lt b l
  | [], _, _ => rfl
  | y :: l, b, x => best_snoc l _ x
theorem best_arg {lt : List Int → List Int → Bool} {t : List Int} {ts : List (List Int)} : ∀ k, k ≤ ts.length → (t :: ts).getD (argBest (fun i j => lt ((t :: ts).getD i []) ((t :: ts).getD j [])) k) [] = bestT lt t (ts.take k)
  | 0, _ => rfl
  | k + 1, h => by
    have ih := best_arg (lt := lt) (t := t) (ts := ts) k (by omega)
    have e : ts.take (k + 1) = ts.take k ++ [ts.getD k []] := by
      rw [List.take_succ]
      have : k < ts.length := by omega
      simp [this]
    rw [e, best_snoc, ← ih]
    have e2 : (t :: ts).getD (k + 1) [] = ts.getD k [] := by simp
    simp only [argBest]
    rw [← e2]
    split <;> rfl
end Mi
end

section
/-! Mini, part 5: new instances, built-in functions. -/
namespace Mi
open PySem PySem.Spec PyProof.Rows L2

/-! ### room -/
theorem RM.room {k : Nat} {A : Around} (r : RM k A) : Room k A := ⟨r.hd, r.dp, by have := r.un; omega⟩
theorem RM.mono {j k : Nat} {A : Around} (r : RM k A) (h : j ≤ k) : RM j A := ⟨r.hd, by have := r.dp; omega, by have := r.un; omega, r.gd⟩
theorem RM.deeper {k : Nat} {A : Around} (r : RM (k + 1) A) (env : PySem.Env) : RM k (A.deeper env) :=
  ⟨r.hd, by have := r.dp; show A.depth + 1 + 3 * k + 5 < _; omega, by have := r.un; show A.units + 3 + 16 * k + 1300 < _; omega, r.gd⟩
theorem make_guards {A : Around} {C : Addr} {us : List Value} {kw : List (Str × Value)} : (A.under (.builtin "type.__call__" ⟨.ref C :: us, kw⟩)).guards = A.guards := by
  first | rfl | simp [Around.under, Code.guards, Code.isGuard, guardIds, pushGuards]
theorem RM.make {k : Nat} {A : Around} (r : RM (k + 1) A) (C : Addr) (us : List Value) (kw : List (Str × Value)) : RM k (A.under (.builtin "type.__call__" ⟨.ref C :: us, kw⟩)) :=
  ⟨r.hd, by have := r.dp; rw [make_depth]; omega, by have := r.un; rw [make_units]; omega, by rw [make_guards]; exact r.gd⟩

section
variable {T : Tab} {CA : Str → Addr} {C : CallF} {X : Cx} {k : Nat} {fi : FnI} {f : Addr} {W : WX} {pins : List (Addr × Obj)} {s : Shared} {σ : L2.St} {H : Hp} {Q : VK} {c : Str}
/-- a new instance -/
def rMk (T : Tab) (CA : Str → Addr) (C : CallF) (X : Cx) (W : WX) (c : Str) : List V → List V → L2.St → Hp → VK → Prop := fun vs zs σ H Q =>
  ∃ (ρ : Rho) (mh : MH) (ms : List MV), RVs CA ρ H ms vs ∧ RH X.K CA ρ mh H ∧ zs = [] ∧ Aft X.K CA (RV CA) (fun c d H' => W c d σ H') ρ H (mkM T C c ms mh) Q
theorem cal_mk (hf : T.me c "__init__" = some fi) (hp : (fi.np, [], []) ∈ fi.pats) (M : Mk X.K (CA c) f) (F : FnR CA C k X f fi) (hr : RM (k + 1) X.A) (tk : L2N.Takes X W) : CalR X (.ref (CA c)) [] (rMk T CA C X W c) := by
  intro pins s σ H us ws vs zs Q I r rz h
  obtain ⟨ρ, mh, ms, rs, rh, rfl, q⟩ := h
  cases rz
  obtain ⟨fd, ps, ⟨hnp, hb⟩, F⟩ := F.ex
  unfold mkM at q
  rw [hf] at q
  simp only at q
  by_cases hz : fi.np = ms.length + 1
  · rw [if_pos hz] at q
    have I2 := Inv.made (C := CA c) I
    have hx : H (s.heap.objs.size + 1) = none := I.hok.fresh (Nat.le_succ _)
    have hdx : H s.heap.objs.size = none := I.hok.fresh (Nat.le_refl _)
    have keep : ∀ a u, H a = some u → (upd (upd H s.heap.objs.size (.own (s.heap.objs.size + 1))) (s.heap.objs.size + 1) (.ins (CA c) s.heap.objs.size [])) a = some u := fun a u z => by
      rw [upd_ne (ne_of_none z hx), upd_ne (ne_of_none z hdx)]; exact z
    obtain ⟨rh1, e1, q1⟩ := rh.add (o := .ins c []) (p := s.heap.objs.size + 1) keep hx fun ρ' e => ⟨_, [], upd_same, .nil⟩
    have r2 : Vals (V.ref (s.heap.objs.size + 1) :: vs) (Value.ref (s.heap.objs.size + 1) :: us) := .cons rfl r
    have rs2 : RVs CA (rput ρ mh.next (s.heap.objs.size + 1)) (upd (upd H s.heap.objs.size (.own (s.heap.objs.size + 1))) (s.heap.objs.size + 1) (.ins (CA c) s.heap.objs.size [])) (.ref mh.next :: ms) (V.ref (s.heap.objs.size + 1) :: vs) := .cons (.ref q1) (rs.mono e1)
    have hlen : ms.length = us.length := by rw [rs.length]; exact r.length
    have hb' := hb _ hp (Value.ref (s.heap.objs.size + 1) :: us) [] (by show us.length + 1 = fi.np; omega) rfl { s with heap := (s.heap.push PySem.W.emptyDict).push (PySem.W.instObj (CA c) s.heap.objs.size) }
    simp only [List.map_nil, List.append_nil, List.zip_nil_right] at hb'
    have af : Aft X.K CA (RV CA) (fun c d H' => W c d σ H') (rput ρ mh.next (s.heap.objs.size + 1)) (upd (upd H s.heap.objs.size (.own (s.heap.objs.size + 1))) (s.heap.objs.size + 1) (.ins (CA c) s.heap.objs.size []))
        (C fi (.ref mh.next :: ms) (mh.new (.ins c []))) (fun v H2 => v = .non ∧ Q (.ref (s.heap.objs.size + 1)) H2) := by
      cases hc : C fi (.ref mh.next :: ms) (mh.new (.ins c [])) with
      | ok v h' =>
        rw [hc] at q
        cases v <;> try exact q.elim
        intro ρ' H' b e' rh' rv
        cases rv
        exact ⟨rfl, q ρ' H' _ (e1.trans e') rh' (.ref (e'.map _ _ q1))⟩
      | exc c n h' => rw [hc] at q; exact Aft.ext (R := RV CA) (Q := Q) q e1
      | stuck => rw [hc] at q; exact q.elim
    refine wpAny_call (make_map (f := f) I.kIn M.makes M.init (beq_iff_eq.mp M.fn) (codeAny_mono (F _ X.stack _ _ ⟨Value.ref (s.heap.objs.size + 1) :: us, []⟩ _ _ _ _ _ _ _ (hr.make (CA c) us [])
      (I2.env0.make (CA c) us []) hb' r2 rs2 (by show ms.length + 1 = fi.np; omega) rh1 af) fun r s' hq' => ?_))
    cases r with
    | error e => exact tk e s' (L2N.XE.of_call I2 (fun _ _ _ z => z) hq')
    | ok fl =>
      cases fl with
      | ret u =>
        obtain ⟨v, H', I3, rv, ev, q3⟩ := I2.after hq'
        subst ev
        exact ⟨rv, ⟨V.ref (s.heap.objs.size + 1), H', I3, rfl, q3⟩⟩
      | next => exact False.elim hq'
      | brk => exact False.elim hq'
      | cont => exact False.elim hq'
  · rw [if_neg hz] at q; exact q.elim
end

/-! ### built-in functions -/
def nmB : BI → Str
  | .len => "len" | .abs => "abs" | .max2 => "max" | .min2 => "min" | .int1 => "int" | .sum => "sum" | .list1 => "list" | .tuple1 => "tuple" | .repr => "repr" | .all => "all" | .isi => "isinstance" | .max1 => "max" | .min1 => "min" | .str1 => "str" | .maxT => "max" | .minT => "min" | .srt => "sorted"
def vB : BI → Value
  | .len => .builtin "len" | .abs => .builtin "abs" | .max2 => .builtin "max" | .min2 => .builtin "min" | .int1 => .type "int" | .sum => .builtin "sum" | .list1 => .type "list" | .tuple1 => .type "tuple"
  | .repr => .builtin "repr" | .all => .builtin "all" | .isi => .builtin "isinstance" | .max1 => .builtin "max" | .min1 => .builtin "min" | .str1 => .type "str" | .maxT => .builtin "max" | .minT => .builtin "min" | .srt => .builtin "sorted"
theorem boot_B : ∀ b, bootBuiltins (nmB b) = some (vB b)
  | .len => by decide +kernel
  | .abs => by decide +kernel
  | .max2 => by decide +kernel
  | .min2 => by decide +kernel
  | .int1 => by decide +kernel
  | .sum => by decide +kernel
  | .list1 => by decide +kernel
  | .tuple1 => by decide +kernel
  | .repr => by decide +kernel
  | .all => by decide +kernel
  | .isi => by decide +kernel
  | .max1 => by decide +kernel
  | .min1 => by decide +kernel
  | .str1 => by decide +kernel
  | .maxT => by decide +kernel
  | .minT => by decide +kernel
  | .srt => by decide +kernel

theorem subTy_kit {a b : String} {r : Bool} (h : subTy a b = some r) : kitB a b = some r := by
  unfold subTy at h
  split at h
  · rename_i hc
    rw [Bool.and_eq_true] at hc
    obtain ⟨h1, h2⟩ := hc
    simp only [List.contains_cons, List.contains_nil, Bool.or_false, Bool.or_eq_true, beq_iff_eq] at h1 h2
    rcases h1 with rfl | rfl | rfl | rfl | rfl | rfl | rfl <;> rcases h2 with rfl | rfl | rfl | rfl | rfl | rfl | rfl <;> (rw [← h]; decide +kernel)
  · cases h

section
variable {T : Tab} {CA : Str → Addr} {X : Cx} {W : WS} {ρ : Rho} {mh : MH} {pins : List (Addr × Obj)} {s : Shared} {σ : L2.St} {H : Hp} {Q : VK}
/-- repr -/
theorem call_repr (sm : ∃ o, X.K.lookup sysModules = some o) (hg : X.A.guards = some []) (hu : X.A.units + 1250 < cLine) : CallR X (.builtin "repr") (fun xs H Q => ∃ x d, xs = [x] ∧ Dq H x d ∧ d.showable = true ∧ d.shown.length ≤ sizeLine ∧ d.depth ≤ 1000 ∧ Q (.str d.shown) H) := by
  intro pins s σ H xs us Q I r h
  obtain ⟨x, d, rfl, hd, hs, hl, hn, q⟩ := h
  cases r with
  | @cons _ u _ us' r1 r2 =>
    cases r2
    have fin : ∀ (tk : Nat) (u : Tok), EP X pins σ Q (.str d.shown u) { s with toks := tk } := fun tk u => ⟨.str d.shown, H, I.tok tk, ⟨u, rfl⟩, q⟩
    obtain ⟨as, rd, ns⟩ := Dq.reads I (sm_none I sm) hd r1
    cases hd with
    | non => cases r1; exact PySem.P.repr_of_none (by have := fin (s.toks + 1) s.toks; simpa only [PyData.shown] using this)
    | bl b => cases r1; exact PySem.P.repr_of_bool (by have := fin (s.toks + 1) s.toks; simpa only [PyData.shown] using this)
    | int i =>
      obtain ⟨t, rfl⟩ := r1
      exact PySem.P.repr_of_int (by simpa only [PyData.showable, decide_eq_true_eq] using hs) (by have := fin (s.toks + 1) s.toks; simpa only [PyData.shown] using this)
    | str z =>
      obtain ⟨t, rfl⟩ := r1
      exact PySem.P.repr_of_str (by have := fin (s.toks + 1) s.toks; simpa only [PyData.shown] using this) (by simpa only [PyData.shown] using hl)
    | lst s1 s2 =>
      cases r1
      exact repr_of_reads' rd hs (fun _ => ns) hg (by omega) (fun _ _ e => e) (fun h' u tk kk => ⟨.str _, H, I.kept (t' := tk) kk, ⟨u, rfl⟩, q⟩) hl
    | tup s1 s2 =>
      cases r1
      exact repr_of_reads' rd hs (fun _ => ns) hg (by omega) (fun _ _ e => e) (fun h' u tk kk => ⟨.str _, H, I.kept (t' := tk) kk, ⟨u, rfl⟩, q⟩) hl
    | dct s1 s2 =>
      cases r1
      exact repr_of_reads' rd hs (fun _ => ns) hg (by omega) (fun _ _ e => e) (fun h' u tk kk => ⟨.str _, H, I.kept (t' := tk) kk, ⟨u, rfl⟩, q⟩) hl

/-- a class as a value; a value's type -/
def uOf (CA : Str → Addr) : MV → Value
  | .ty n => .type n
  | .cls c => .ref (CA c)
  | _ => .none
def tyOf (CA : Str → Addr) (mh : MH) : MV → Value
  | .non => .type "NoneType"
  | .bl _ => .type "bool"
  | .int _ => .type "int"
  | .str _ => .type "str"
  | .tup _ => .type "tuple"
  | .ref n => match mh.get n with
    | some (.ins d _) => .ref (CA d)
    | some (.dct _) => .type "dict"
    | _ => .type "list"
  | _ => .none
theorem cl_of {c : MV} {cv : V} (r : RV CA ρ H c cv) (h : isCl c = true) : ClsV cv (uOf CA c) := by
  cases r <;> first | (cases h; done) | exact ClsV.ty _ | exact ClsV.own _
theorem cls_of : ∀ {cs : List MV} {cvs : List V}, RVs CA ρ H cs cvs → cs.all isCl = true → Paired ClsV cvs (cs.map (uOf CA))
  | [], _, .nil, _ => .nil
  | c :: cs, _, .cons r t, h => by
    rw [List.all_cons, Bool.and_eq_true] at h
    exact .cons (cl_of r h.1) (cls_of t h.2)
theorem isi1_ok {K : PySem.W.Frag} {mg : Str → Option Value} {x c : MV} {a : V} {b : Bool} (st : Stat T CA K mg) (h : isi1 T mh x c = some b) (rh : RH K CA ρ mh H) (ra : RV CA ρ H x a) :
    isCl c = true ∧ TyX K H a (tyOf CA mh x) ∧ PySem.W.kitOne K (tyOf CA mh x) (uOf CA c) = some b := by
  cases ra with
  | non => cases c <;> first | cases h | exact ⟨rfl, .base .non, subTy_kit h⟩
  | bl v => cases c <;> first | cases h | exact ⟨rfl, .base (.bl v), subTy_kit h⟩
  | int v => cases c <;> first | cases h | exact ⟨rfl, .base (.int v), subTy_kit h⟩
  | str v => cases c <;> first | cases h | exact ⟨rfl, .base (.str v), subTy_kit h⟩
  | tup e rs => cases c <;> first | cases h | exact ⟨rfl, .base (.tup e), subTy_kit h⟩
  | ty n => cases h
  | cls d => cases h
  | @ref n p e =>
    unfold isi1 at h
    unfold tyOf
    simp only at h ⊢
    cases g : mh.get n with
    | none => rw [g] at h; cases h
    | some o =>
      rw [g] at h
      have ro := rh.at g e
      cases o with
      | lst xs =>
        obtain ⟨vs, h1, _⟩ := ro
        cases c <;> first | cases h | exact ⟨rfl, .base (.lst h1), subTy_kit h⟩
      | ins d fs =>
        obtain ⟨dx, gs, h1, _⟩ := ro
        obtain ⟨ht, hv⟩ := st.isc d c b h
        rcases hv with ⟨n', rfl, hk⟩ | ⟨d', rfl, hk⟩
        · exact ⟨rfl, .base (ht H p dx gs h1), hk⟩
        · exact ⟨rfl, .base (ht H p dx gs h1), hk⟩
      | frz xs => cases h
      | exc d fs => cases h
      | dct kvs =>
        obtain ⟨vs, h1, _⟩ := ro
        cases c <;> first | cases h | exact ⟨rfl, .base (.dK h1), subTy_kit h⟩
theorem isiAny_ok {K : PySem.W.Frag} {mg : Str → Option Value} {x : MV} {a : V} (st : Stat T CA K mg) (rh : RH K CA ρ mh H) (ra : RV CA ρ H x a) : ∀ {cs : List MV} {b : Bool}, isiAny T mh x cs = some b →
    PySem.W.kitAny K (tyOf CA mh x) (cs.map (uOf CA)) = some b
  | [], b, h => h
  | c :: cs, b, h => by
    unfold isiAny at h
    rw [List.map_cons]
    unfold PySem.W.kitAny
    cases e : isi1 T mh x c with
    | none => rw [e] at h; cases h
    | some b1 =>
      rw [e] at h
      rw [(isi1_ok st e rh ra).2.2]
      cases b1 with
      | true => exact h
      | false => exact isiAny_ok st rh ra h
theorem isiAny_ty {K : PySem.W.Frag} {mg : Str → Option Value} {x : MV} {a : V} {cs : List MV} {b : Bool} (st : Stat T CA K mg) (rh : RH K CA ρ mh H) (ra : RV CA ρ H x a) (h : isiAny T mh x cs = some b) (hne : cs.isEmpty = false) : TyX K H a (tyOf CA mh x) := by
  cases cs with
  | nil => cases hne
  | cons c cs =>
    unfold isiAny at h
    cases e : isi1 T mh x c with
    | none => rw [e] at h; cases h
    | some b1 => exact (isi1_ok st e rh ra).2.1

/-- what a built-in call asks -/
def rB (T : Tab) (CA : Str → Addr) (K : PySem.W.Frag) (W : WS) (b : BI) : List V → Hp → VK → Prop := fun vs H Q =>
  ∃ (ρ : Rho) (mh : MH) (ms : List MV), RVs CA ρ H ms vs ∧ RH K CA ρ mh H ∧ Aft K CA (RV CA) W ρ H (biM T b ms mh) Q
theorem cr_imp {f : Value} {r r' : List V → Hp → VK → Prop} (h : CallR X f r) (k : ∀ vs H Q, r' vs H Q → r vs H Q) : CallR X f r' := fun pins s σ H xs us Q I rv q => h pins s σ H xs us Q I rv (k _ _ _ q)
theorem call_or {f : Value} {r1 r2 r' : List V → Hp → VK → Prop} (h1 : CallR X f r1) (h2 : CallR X f r2) (k : ∀ vs H Q, r' vs H Q → r1 vs H Q ∨ r2 vs H Q) : CallR X f r' := fun pins s σ H xs us Q I rv q => (k _ _ _ q).elim (fun z => h1 pins s σ H xs us Q I rv z) fun z => h2 pins s σ H xs us Q I rv z
theorem rv_ref {x : MV} {c : Addr} {a : V} (r : RV CA ρ H x a) (n : Nat) (e : x = .ref n) : ∃ c, a = .ref c ∧ ρ n = some c := by
  subst e; cases r with | ref q => exact ⟨_, rfl, q⟩
theorem arg1 {b : BI} {vs : List V} {ms : List MV} (hb : b ≠ .max2 ∧ b ≠ .min2 ∧ b ≠ .isi) (h : Aft X.K CA (RV CA) W ρ H (biM T b ms mh) Q) (rs : RVs CA ρ H ms vs) : ∃ x a, ms = [x] ∧ vs = [a] ∧ RV CA ρ H x a := by
  cases rs with
  | nil => cases b <;> exact h.elim
  | cons r t =>
    cases t with
    | nil => exact ⟨_, _, rfl, rfl, r⟩
    | cons r2 t => cases b <;> first | (cases r <;> exact h.elim) | exact absurd rfl hb.1 | exact absurd rfl hb.2.1 | exact absurd rfl hb.2.2
theorem arg2 {b : BI} {vs : List V} {ms : List MV} (hb : b = .max2 ∨ b = .min2 ∨ b = .isi) (h : Aft X.K CA (RV CA) W ρ H (biM T b ms mh) Q) (rs : RVs CA ρ H ms vs) : ∃ x y a c, ms = [x, y] ∧ vs = [a, c] ∧ RV CA ρ H x a ∧ RV CA ρ H y c := by
  rcases hb with rfl | rfl | rfl <;>
  · cases rs with
    | nil => exact h.elim
    | cons r t =>
      cases t with
      | nil => first | exact h.elim | (cases r <;> exact h.elim)
      | cons r2 t =>
        cases t with
        | nil => exact ⟨_, _, _, _, rfl, rfl, r, r2⟩
        | cons r3 t => first | exact h.elim | (cases r <;> first | exact h.elim | (cases r2 <;> exact h.elim))
theorem vals_get : ∀ {xs : List V} {us : List Value} {i : Nat} {u : Value}, Vals xs us → us[i]? = some u → ∃ x, xs[i]? = some x ∧ RelV x u
  | _, _, _, _, .nil, e => by simp at e
  | _, _, 0, _, .cons r t, e => by simp at e; subst e; exact ⟨_, rfl, r⟩
  | _, _, i + 1, _, .cons r t, e => by simp at e; simpa using vals_get t e
theorem ints_map (ns : List Int) : intsM (ns.map MV.int) = some ns := by
  induction ns with
  | nil => rfl
  | cons n ns ih => rw [List.map_cons]; unfold intsM; rw [ih]; rfl
theorem ints_inv : ∀ {xs : List MV} {ns : List Int}, intsM xs = some ns → xs = ns.map MV.int
  | [], ns, e => by cases e; rfl
  | .int i :: r, ns, e => by
    have e' : (intsM r).map (i :: ·) = some ns := e
    obtain ⟨ms, h1, h2⟩ := Option.map_eq_some_iff.mp e'
    subst h2
    rw [List.map_cons, ← ints_inv h1]
  | .non :: _, _, e => by cases e
  | .bl _ :: _, _, e => by cases e
  | .str _ :: _, _, e => by cases e
  | .tup _ :: _, _, e => by cases e
  | .ref _ :: _, _, e => by cases e
  | .ty _ :: _, _, e => by cases e
  | .cls _ :: _, _, e => by cases e
theorem tups_inv : ∀ {xs : List MV} {L : List (List Int)}, tupsM xs = some L → xs = L.map fun ns => .tup (ns.map .int)
  | [], L, e => by cases e; rfl
  | .tup ys :: r, L, e => by
    unfold tupsM at e
    cases h1 : intsM ys with
    | none => rw [h1] at e; cases e
    | some t =>
      cases h2 : tupsM r with
      | none => rw [h1, h2] at e; cases e
      | some ts =>
        rw [h1, h2] at e
        cases e
        rw [List.map_cons, ← ints_inv h1, ← tups_inv h2]
  | .non :: _, _, e => by cases e
  | .bl _ :: _, _, e => by cases e
  | .str _ :: _, _, e => by cases e
  | .int _ :: _, _, e => by cases e
  | .ref _ :: _, _, e => by cases e
  | .ty _ :: _, _, e => by cases e
  | .cls _ :: _, _, e => by cases e
theorem tups_len {xs : List MV} {L : List (List Int)} (e : tupsM xs = some L) : xs.length = L.length := by rw [tups_inv e, List.length_map]
theorem tups_at {xs : List MV} {L : List (List Int)} {i : Nat} {x : MV} (e : tupsM xs = some L) (h : xs[i]? = some x) : ∃ ns, L[i]? = some ns ∧ x = .tup (ns.map .int) := by
  rw [tups_inv e, List.getElem?_map] at h
  obtain ⟨ns, h1, h2⟩ := Option.map_eq_some_iff.mp h
  exact ⟨ns, h1, h2.symm⟩
theorem bi_ok (st : Stat T CA X.K X.mg) (hg : X.A.guards = some []) (hu : X.A.units + 1250 < cLine) : ∀ b, (calmB b = true → X.calm = true) → CallR X (vB b) (rB T CA X.K W b)
  | .abs, _ => cr_imp call_abs fun vs H Q ⟨ρ, mh, ms, rs, rh, h⟩ => by
    obtain ⟨x, a, rfl, rfl, r⟩ := arg1 (by decide) h rs
    cases r <;> try exact h.elim
    exact ⟨_, rfl, h.now rh (.int _)⟩
  | .str1, _ => call_or call_str_int SkE.call_str_str fun vs H Q ⟨ρ, mh, ms, rs, rh, h⟩ => by
    obtain ⟨x, a, rfl, rfl, r⟩ := arg1 (by decide) h rs
    cases r with
    | int i =>
      have h' : Aft X.K CA (RV CA) W ρ H ((if i.natAbs.log2 < 1920 then M.pure (.str (Str.ofString (toString i))) else M.stuck : M MV) mh) Q := h
      by_cases hz : i.natAbs.log2 < 1920
      · rw [if_pos hz] at h'
        exact .inl ⟨i, rfl, hz, h'.now rh (.str _)⟩
      · rw [if_neg hz] at h'; exact h'.elim
    | str x => exact .inr ⟨_, rfl, h.now rh (.str _)⟩
    | _ => exact h.elim
  | .maxT, hc => fun pins s σ H vs us Q I rv ⟨ρ, mh, ms, rs, rh, h⟩ => by
    obtain ⟨x, a, rfl, rfl, r⟩ := arg1 (by decide) h rs
    have h' : Aft X.K CA (RV CA) W ρ H (match (asList mh x).bind tupsM with
      | some (t :: ts) => .ok (.tup ((bestT gtT t ts).map .int)) mh
      | _ => .stuck) Q := h
    cases e : (asList mh x).bind tupsM with
    | none => rw [e] at h'; exact h'.elim
    | some L =>
      cases L with
      | nil => rw [e] at h'; exact h'.elim
      | cons t ts =>
        rw [e] at h'
        obtain ⟨xs, e1, e2⟩ := Option.bind_eq_some_iff.mp e
        cases x <;> try (cases e1; done)
        rename_i q
        obtain ⟨c, rfl, hcq⟩ := rv_ref (c := 0) r q rfl
        obtain ⟨vs, h1, h2⟩ := seqL_of rh e1 hcq
        obtain ⟨its, rvl, hl, _⟩ := I.list h1
        rw [Vals.ref1 rv]
        have hlen : its.length = (t :: ts).length := by rw [← rvl.length, ← h2.length]; exact tups_len e2
        have at_ : ∀ (i : Nat) (v : Value), its.toArray[i]? = some v → ∃ (ns : List Int) (b : Addr), (t :: ts)[i]? = some ns ∧ v = .ref b ∧ H b = some (.tup (ns.map V.int)) ∧ RV CA ρ H (.tup (ns.map .int)) (.ref b) := fun i v ev => by
          have ev' : its[i]? = some v := by simpa using ev
          obtain ⟨y, hy, ry⟩ := vals_get rvl ev'
          obtain ⟨x', hx, rx⟩ := h2.get' hy
          obtain ⟨ns, hn, rfl⟩ := tups_at e2 hx
          cases rx with
          | tup q2 r2 =>
            have := ints_of (ints_map ns) r2
            subst this
            cases ry
            exact ⟨ns, _, hn, rfl, q2, .tup q2 r2⟩
        refine max_tups (vals := t :: ts) (I.ok.hd (hc rfl)) hl.isList (by omega) (by simp [hlen]) (fun i v ev => ?_) fun v h2 tk pv kp => ?_
        · obtain ⟨ns, b, hn, rfl, hb, _⟩ := at_ i v ev
          obtain ⟨jts, rj, tj, _⟩ := I.tuple (SqT.of hb)
          refine ⟨b, jts.toArray, rfl, tj, ?_⟩
          have : (t :: ts).getD i [] = ns := by simp [List.getD, hn]
          rw [this]
          exact rj.ints
        · obtain ⟨ns, b, hn, rfl, hb, rb⟩ := at_ _ v pv
          have e3 : ns = bestT gtT t ts := by
            have z := best_arg (lt := gtT) (t := t) (ts := ts) ts.length (Nat.le_refl _)
            rw [List.take_length] at z
            have z2 : its.toArray.size - 1 = ts.length := by simp [hlen]
            rw [z2] at hn
            rw [← z, List.getD_eq_getElem?_getD (l := t :: ts), hn]
            rfl
          subst e3
          exact ⟨.ref b, H, I.kept kp, rfl, h'.now rh rb⟩
  | .minT, hc => fun pins s σ H vs us Q I rv ⟨ρ, mh, ms, rs, rh, h⟩ => by
    obtain ⟨x, a, rfl, rfl, r⟩ := arg1 (by decide) h rs
    have h' : Aft X.K CA (RV CA) W ρ H (match (asList mh x).bind tupsM with
      | some (t :: ts) => .ok (.tup ((bestT ltT t ts).map .int)) mh
      | _ => .stuck) Q := h
    cases e : (asList mh x).bind tupsM with
    | none => rw [e] at h'; exact h'.elim
    | some L =>
      cases L with
      | nil => rw [e] at h'; exact h'.elim
      | cons t ts =>
        rw [e] at h'
        obtain ⟨xs, e1, e2⟩ := Option.bind_eq_some_iff.mp e
        cases x <;> try (cases e1; done)
        rename_i q
        obtain ⟨c, rfl, hcq⟩ := rv_ref (c := 0) r q rfl
        obtain ⟨vs, h1, h2⟩ := seqL_of rh e1 hcq
        obtain ⟨its, rvl, hl, _⟩ := I.list h1
        rw [Vals.ref1 rv]
        have hlen : its.length = (t :: ts).length := by rw [← rvl.length, ← h2.length]; exact tups_len e2
        have at_ : ∀ (i : Nat) (v : Value), its.toArray[i]? = some v → ∃ (ns : List Int) (b : Addr), (t :: ts)[i]? = some ns ∧ v = .ref b ∧ H b = some (.tup (ns.map V.int)) ∧ RV CA ρ H (.tup (ns.map .int)) (.ref b) := fun i v ev => by
          have ev' : its[i]? = some v := by simpa using ev
          obtain ⟨y, hy, ry⟩ := vals_get rvl ev'
          obtain ⟨x', hx, rx⟩ := h2.get' hy
          obtain ⟨ns, hn, rfl⟩ := tups_at e2 hx
          cases rx with
          | tup q2 r2 =>
            have := ints_of (ints_map ns) r2
            subst this
            cases ry
            exact ⟨ns, _, hn, rfl, q2, .tup q2 r2⟩
        refine min_tups (vals := t :: ts) (I.ok.hd (hc rfl)) hl.isList (by omega) (by simp [hlen]) (fun i v ev => ?_) fun v h2 tk pv kp => ?_
        · obtain ⟨ns, b, hn, rfl, hb, _⟩ := at_ i v ev
          obtain ⟨jts, rj, tj, _⟩ := I.tuple (SqT.of hb)
          refine ⟨b, jts.toArray, rfl, tj, ?_⟩
          have : (t :: ts).getD i [] = ns := by simp [List.getD, hn]
          rw [this]
          exact rj.ints
        · obtain ⟨ns, b, hn, rfl, hb, rb⟩ := at_ _ v pv
          have e3 : ns = bestT ltT t ts := by
            have z := best_arg (lt := ltT) (t := t) (ts := ts) ts.length (Nat.le_refl _)
            rw [List.take_length] at z
            have z2 : its.toArray.size - 1 = ts.length := by simp [hlen]
            rw [z2] at hn
            rw [← z, List.getD_eq_getElem?_getD (l := t :: ts), hn]
            rfl
          subst e3
          exact ⟨.ref b, H, I.kept kp, rfl, h'.now rh rb⟩
  | .max1, hc => cr_imp (cr_max (hc rfl)) fun vs H Q ⟨ρ, mh, ms, rs, rh, h⟩ => by
    obtain ⟨x, a, rfl, rfl, r⟩ := arg1 (by decide) h rs
    have h' : Aft X.K CA (RV CA) W ρ H (match (asList mh x).bind intsM with
      | some (n :: ns) => .ok (.int (maxI n ns)) mh
      | _ => .stuck) Q := h
    cases e : (asList mh x).bind intsM with
    | none => rw [e] at h'; exact h'.elim
    | some l =>
      cases l with
      | nil => rw [e] at h'; exact h'.elim
      | cons n ns =>
        rw [e] at h'
        obtain ⟨xs, e1, e2⟩ := Option.bind_eq_some_iff.mp e
        cases x <;> try (cases e1; done)
        rename_i q
        obtain ⟨c, rfl, hc⟩ := rv_ref (c := 0) r q rfl
        obtain ⟨vs, h1, h2⟩ := seqL_of rh e1 hc
        have e3 := ints_of e2 h2
        subst e3
        refine ⟨c, n :: ns, rfl, h1, by simp, fun m hm hy => ?_⟩
        have : m = maxI n ns := Int.le_antisymm (maxI_ge ns n m hm) (hy _ (maxI_mem ns n))
        subst this
        exact h'.now rh (.int _)
  | .min1, hc => cr_imp (cr_min (hc rfl)) fun vs H Q ⟨ρ, mh, ms, rs, rh, h⟩ => by
    obtain ⟨x, a, rfl, rfl, r⟩ := arg1 (by decide) h rs
    have h' : Aft X.K CA (RV CA) W ρ H (match (asList mh x).bind intsM with
      | some (n :: ns) => .ok (.int (minI n ns)) mh
      | _ => .stuck) Q := h
    cases e : (asList mh x).bind intsM with
    | none => rw [e] at h'; exact h'.elim
    | some l =>
      cases l with
      | nil => rw [e] at h'; exact h'.elim
      | cons n ns =>
        rw [e] at h'
        obtain ⟨xs, e1, e2⟩ := Option.bind_eq_some_iff.mp e
        cases x <;> try (cases e1; done)
        rename_i q
        obtain ⟨c, rfl, hc⟩ := rv_ref (c := 0) r q rfl
        obtain ⟨vs, h1, h2⟩ := seqL_of rh e1 hc
        have e3 := ints_of e2 h2
        subst e3
        refine ⟨c, n :: ns, rfl, h1, by simp, fun m hm hy => ?_⟩
        have : m = minI n ns := Int.le_antisymm (hy _ (minI_mem ns n)) (minI_le ns n m hm)
        subst this
        exact h'.now rh (.int _)
  | .max2, hc => cr_imp (call_max2 (hc rfl)) fun vs H Q ⟨ρ, mh, ms, rs, rh, h⟩ => by
    obtain ⟨x, y, a, c, rfl, rfl, r, r2⟩ := arg2 (.inl rfl) h rs
    cases r <;> try exact h.elim
    cases r2 <;> try exact h.elim
    exact ⟨_, _, rfl, h.now rh (.int _)⟩
  | .min2, hc => cr_imp (call_min2 (hc rfl)) fun vs H Q ⟨ρ, mh, ms, rs, rh, h⟩ => by
    obtain ⟨x, y, a, c, rfl, rfl, r, r2⟩ := arg2 (.inr (.inl rfl)) h rs
    cases r <;> try exact h.elim
    cases r2 <;> try exact h.elim
    exact ⟨_, _, rfl, h.now rh (.int _)⟩
  | .int1, _ => cr_imp call_int1 fun vs H Q ⟨ρ, mh, ms, rs, rh, h⟩ => by
    obtain ⟨x, a, rfl, rfl, r⟩ := arg1 (by decide) h rs
    cases r <;> try exact h.elim
    · exact .inr ⟨_, rfl, h.now rh (.int _)⟩
    · exact .inl ⟨_, rfl, h.now rh (.int _)⟩
  | .sum, hc => cr_imp (cr_sum (hc rfl)) fun vs H Q ⟨ρ, mh, ms, rs, rh, h⟩ => by
    obtain ⟨x, a, rfl, rfl, r⟩ := arg1 (by decide) h rs
    unfold biM at h
    simp only at h
    cases e : (asList mh x).bind intsM with
    | none => rw [e] at h; exact h.elim
    | some ns =>
      rw [e] at h
      obtain ⟨xs, h1, h2⟩ := Option.bind_eq_some_iff.mp e
      cases r with
      | ref q =>
        obtain ⟨vs, h3, h4⟩ := seqL_of rh h1 q
        rw [ints_of h2 h4] at h3
        exact ⟨_, ns, rfl, h3, h.now rh (.int _)⟩
      | _ => cases h1
  | .all, hc => cr_imp (cr_all (hc rfl)) fun vs H Q ⟨ρ, mh, ms, rs, rh, h⟩ => by
    obtain ⟨x, a, rfl, rfl, r⟩ := arg1 (by decide) h rs
    unfold biM at h
    simp only at h
    cases e : (asList mh x).bind boolsM with
    | none => rw [e] at h; exact h.elim
    | some ns =>
      rw [e] at h
      obtain ⟨xs, h1, h2⟩ := Option.bind_eq_some_iff.mp e
      cases r with
      | ref q =>
        obtain ⟨vs, h3, h4⟩ := seqL_of rh h1 q
        rw [bools_of h2 h4] at h3
        exact ⟨_, ns, rfl, h3, h.now rh (.bl _)⟩
      | _ => cases h1
  | .len, _ => cr_imp call_len fun vs H Q ⟨ρ, mh, ms, rs, rh, h⟩ => by
    obtain ⟨x, a, rfl, rfl, r⟩ := arg1 (by decide) h rs
    have seqs : ∀ (x : MV) (a : V), Aft X.K CA (RV CA) W ρ H (match asSeq mh x with | some xs => .ok (.int xs.length) mh | none => .stuck) Q → RV CA ρ H x a → ∃ y n, [a] = [y] ∧ LenV X.K y H n ∧ Q (.int n) H := fun x a h r => by
      cases e : asSeq mh x with
      | none => rw [e] at h; exact h.elim
      | some xs =>
        rw [e] at h
        obtain ⟨c, vs, rfl, sq, rs⟩ := seq_of rh e r
        have q := h.now rh (.int _)
        rw [rs.length] at q
        refine ⟨_, _, rfl, ?_, q⟩
        rcases sq with sq | sq
        · exact .inl ⟨vs, sq, rfl⟩
        · exact .inr ⟨vs, sq, rfl⟩
    cases r with
    | str x =>
      unfold biM at h
      simp only at h
      by_cases hz : x.length ≤ sizeLine
      · rw [if_pos hz] at h
        exact ⟨_, _, rfl, ⟨hz, rfl⟩, h.now rh (.int _)⟩
      · rw [if_neg hz] at h; exact h.elim
    | @ref n c q => exact seqs (.ref n) _ h (.ref q)
    | @tup xs c vs q r => exact seqs (.tup xs) _ h (.tup q r)
    | _ => exact h.elim
  | .srt, _ => cr_imp cr_sortedI fun vs H Q ⟨ρ, mh, ms, rs, rh, h⟩ => by
    obtain ⟨x, a, rfl, rfl, r⟩ := arg1 (by decide) h rs
    have h' : Aft X.K CA (RV CA) W ρ H (match (asList mh x).bind intsM with
      | some ns => newL ((isort ns).map .int) mh
      | none => .stuck) Q := h
    cases e : (asList mh x).bind intsM with
    | none => rw [e] at h'; exact h'.elim
    | some ns =>
      rw [e] at h'
      obtain ⟨xs, e1, e2⟩ := Option.bind_eq_some_iff.mp e
      cases x <;> try (cases e1; done)
      rename_i q
      obtain ⟨c, rfl, hc⟩ := rv_ref (c := 0) r q rfl
      obtain ⟨vs, h1, h2⟩ := seqL_of rh e1 hc
      have e3 := ints_of e2 h2
      subst e3
      refine ⟨c, ns, rfl, h1, fun ns' p pm sd hp => ?_⟩
      rw [isort_unique pm sd]
      exact (newL_ok h' rh (rvs_intL _)).2 p hp
  | .list1, _ => cr_imp call_list_of fun vs H Q ⟨ρ, mh, ms, rs, rh, h⟩ => by
    obtain ⟨x, a, rfl, rfl, r⟩ := arg1 (by decide) h rs
    unfold biM at h
    simp only at h
    cases e : asSeq mh x with
    | none => rw [e] at h; exact h.elim
    | some xs =>
      rw [e] at h
      obtain ⟨c, vs, rfl, sq, rs⟩ := seq_of rh e r
      exact ⟨c, vs, rfl, sq, (newL_ok h rh rs).2⟩
  | .tuple1, _ => cr_imp call_tuple_of fun vs H Q ⟨ρ, mh, ms, rs, rh, h⟩ => by
    obtain ⟨x, a, rfl, rfl, r⟩ := arg1 (by decide) h rs
    unfold biM at h
    simp only at h
    cases e : asSeq mh x with
    | none => rw [e] at h; exact h.elim
    | some xs =>
      rw [e] at h
      simp only at h
      by_cases hz : xs.length ≤ sizeLine
      · rw [if_pos hz] at h
        cases r with
        | @ref n c q =>
          obtain ⟨vs, h3, h4⟩ := seqL_of rh e q
          exact ⟨c, vs, rfl, .inl ⟨h3, newT_ok h rh h4⟩⟩
        | @tup ys c vs q rs2 =>
          cases e
          exact ⟨c, vs, rfl, .inr ⟨SqT.of q, h.now rh (.tup q rs2)⟩⟩
        | _ => cases e
      · rw [if_neg hz] at h; exact h.elim
  | .repr, _ => cr_imp (call_repr st.sm hg hu) fun vs H Q ⟨ρ, mh, ms, rs, rh, h⟩ => by
    obtain ⟨x, a, rfl, rfl, r⟩ := arg1 (by decide) h rs
    unfold biM at h
    simp only at h
    cases e : toD mh dpt x with
    | none => rw [e] at h; exact h.elim
    | some d =>
      rw [e] at h
      simp only at h
      by_cases hz : d.showable = true ∧ d.shown.length ≤ sizeLine ∧ d.depth ≤ 1000
      · rw [if_pos hz] at h
        exact ⟨_, d, rfl, dp_of rh _ _ _ _ e r, hz.1, hz.2.1, hz.2.2, h.now rh (.str _)⟩
      · rw [if_neg hz] at h; exact h.elim
  | .isi, _ => by
    have two : CallR X (.builtin "isinstance") (fun vs H Q => rIsi X.K vs H Q ∨ rIsiT X.K vs H Q) := fun pins s σ H xs us Q I rv q => by
      rcases q with q | q
      · exact call_isi pins s σ H xs us Q I rv q
      · exact call_isiT pins s σ H xs us Q I rv q
    refine cr_imp two fun vs H Q ⟨ρ, mh, ms, rs, rh, h⟩ => ?_
    obtain ⟨x, y, a, c, rfl, rfl, r, r2⟩ := arg2 (.inr (.inr rfl)) h rs
    unfold biM at h
    cases r2 with
    | @tup cs c cvs q rcs =>
      simp only at h
      cases e : isiAny T mh x cs with
      | none => rw [e] at h; exact h.elim
      | some b =>
        rw [e] at h
        simp only at h
        by_cases hz : cs.all isCl = true ∧ cs.isEmpty = false
        · rw [if_pos hz] at h
          exact .inr ⟨_, c, cvs, _, _, b, rfl, q, cls_of rcs hz.1, isiAny_ty st rh r e hz.2, isiAny_ok st rh r e, h.now rh (.bl _)⟩
        · rw [if_neg hz] at h; exact h.elim
    | ty n =>
      simp only at h
      cases e : isi1 T mh x (.ty n) with
      | none => rw [e] at h; exact h.elim
      | some b =>
        rw [e] at h
        obtain ⟨h1, h2, h3⟩ := isi1_ok st e rh r
        exact .inl ⟨_, _, _, _, b, rfl, ClsV.ty n, h2, h3, h.now rh (.bl _)⟩
    | cls n =>
      simp only at h
      cases e : isi1 T mh x (.cls n) with
      | none => rw [e] at h; exact h.elim
      | some b =>
        rw [e] at h
        obtain ⟨h1, h2, h3⟩ := isi1_ok st e rh r
        exact .inl ⟨_, _, _, _, b, rfl, ClsV.own _, h2, h3, h.now rh (.bl _)⟩
    | _ => exact h.elim
end
end Mi
end

section
/-! Mini, part 6: which small expression stands for which of the text (ck), and that it does the same. -/
namespace Mi
open PySem PySem.Spec PyProof.Rows L2

/-! ### the look at the text -/
def okN (x : Str) : Bool := !(x == ("__debug__" : Str)) && !(x == ("__classdict__" : Str)) && !(x == ("__name__" : Str))
def vis (sc : Scope) (x : Str) : Bool := (sc.names.lookup x == some .local || sc.names.lookup x == some .cell || sc.names.lookup x == some .free) && okN x
def glb (sc : Scope) (x : Str) : Bool := sc.names.lookup x == some .globalImplicit && okN x
def plainIx : Expr → Bool
  | .Slice _ _ _ _ => false
  | _ => true
def valTest : Expr → Bool
  | .UnaryOp _ _ _ => false
  | .BoolOp _ _ _ => false
  | .IfExp _ _ _ _ => false
  | .Compare _ _ _ _ => false
  | _ => true
def notSet : Expr → Bool
  | .Set _ _ _ => false
  | _ => true
def loc (sc : Scope) (x : Str) : Bool := sc.names.lookup x == some .local || sc.names.lookup x == some .cell
def ckNm (N : List Str) (sc : Scope) (i : Nat) : Expr → Bool
  | .Name x _ => decide (N[i]? = some x) && loc sc x
  | _ => false
def ckNms (N : List Str) (sc : Scope) : List Nat → List Expr → Bool
  | [], [] => true
  | i :: is, e :: es => ckNm N sc i e && ckNms N sc is es
  | _, _ => false
def ckCT (N : List Str) (sc : Scope) : CT → Expr → Bool
  | .nm i, e => ckNm N sc i e
  | .tp is, .Tuple es _ _ => ckNms N sc is es
  | _, _ => false
def ownOf (N : List Str) (vs : List Nat) : List (Str × Nat) := vs.map fun i => (N.getD i Str.empty, i)

def ckKey : L2.Key → Expr → Bool
  | .inl i, .Constant (.int j) _ _ => decide (i = j)
  | .inr x, .Constant (.str y) _ _ => decide (x = y)
  | _, _ => false
def ckDc1 : List (L2.Key × L2.Key) → List (Option Expr) → List Expr → Bool
  | [], [], [] => true
  | (k, v) :: r, some e :: es, f :: fs => ckKey k e && ckKey v f && ckDc1 r es fs
  | _, _, _ => false
def ckDc (kvs : List (L2.Key × L2.Key)) (keys : List (Option Expr)) (vals : List Expr) : Bool := ckDc1 kvs keys vals && decide (keys.length ≤ 15) && decide ((kvs.map (·.1)).Nodup)
mutual
def ckE (T : Tab) (N : List Str) (sc : Scope) : ME → Expr → Bool
  | .non, e => match e with | .Constant .none _ _ => true | _ => false
  | .bl b, e => match e with | .Constant (.bool c) _ _ => b == c | _ => false
  | .int i, e => match e with | .Constant (.int j) _ _ => decide (i = j) | _ => false
  | .str x, e => match e with | .Constant (.str y) _ _ => decide (x = y) | _ => false
  | .var i, e => match e with | .Name x _ => decide (N[i]? = some x) && vis sc x | _ => false
  | .ty n, e => match e with | .Name x _ => glb sc x && T.free x && decide (bootBuiltins x = some (.type n)) | _ => false
  | .cls c, e => match e with | .Name x _ => decide (x = c) && glb sc x && T.own c | _ => false
  | .gint y i, e => match e with | .Name x _ => decide (x = y) && glb sc x && T.gi y i | _ => false
  | .bin op a b, e => match e with | .BinOp a' op' b' _ => decide (opB op = op') && ckE T N sc a a' && ckE T N sc b b' | _ => false
  | .neg a, e => match e with | .UnaryOp .USub a' _ => ckE T N sc a a' | _ => false
  | .notE a, e => match e with | .UnaryOp .Not a' _ => ckE T N sc a a' | _ => false
  | .cmp op a b, e => match e with | .Compare a' [op'] [b'] _ => decide (opC op = op') && ckE T N sc a a' && ckE T N sc b b' && notSet b' | _ => false
  | .chain op1 op2 a b c, e => match e with
    | .Compare a' [p1, p2] [b', c'] _ => decide (opC op1 = p1) && decide (opC op2 = p2) && ckE T N sc a a' && ckE T N sc b b' && ckE T N sc c c' && notSet c'
    | _ => false
  | .chain3 op1 op2 op3 a b c d, e => match e with
    | .Compare a' [p1, p2, p3] [b', c', d'] _ => decide (opC op1 = p1) && decide (opC op2 = p2) && decide (opC op3 = p3) && ckE T N sc a a' && ckE T N sc b b' && ckE T N sc c c' && ckE T N sc d d' && notSet d'
    | _ => false
  | .and a b, e => match e with
    | .BoolOp .And (a' :: r) pos => ckE T N sc a a' && (match r with
      | [] => false
      | [b'] => ckE T N sc b b'
      | b' :: c' :: r' => ckE T N sc b (.BoolOp .And (b' :: c' :: r') pos))
    | _ => false
  | .or a b, e => match e with
    | .BoolOp .Or (a' :: r) pos => ckE T N sc a a' && (match r with
      | [] => false
      | [b'] => ckE T N sc b b'
      | b' :: c' :: r' => ckE T N sc b (.BoolOp .Or (b' :: c' :: r') pos))
    | _ => false
  | .ife c a b, e => match e with | .IfExp c' a' b' _ => ckT T N sc c c' && ckE T N sc a a' && ckE T N sc b b' | _ => false
  | .sub a i, e => match e with | .Subscript a' i' _ => ckE T N sc a a' && ckE T N sc i i' && plainIx i' | _ => false
  | .slc a lo hi, e => match e with | .Subscript a' (.Slice lo' hi' none _) _ => ckE T N sc a a' && ckO T N sc lo lo' && ckO T N sc hi hi' | _ => false
  | .rev a, e => match e with | .Subscript a' (.Slice none none (some (.UnaryOp .USub (.Constant (.int 1) _ _) _)) _) _ => ckE T N sc a a' | _ => false
  | .lsi a, e => match e with | .Call (.Name x _) [.Call (.Name y _) [a'] [] _] [] _ => decide (x = ("len" : Str)) && decide (y = ("set" : Str)) && glb sc x && glb sc y && T.free x && T.free y && ckE T N sc a a' | _ => false
  | .sst a, e => match e with | .Call (.Name x _) [.Call (.Name y _) [a'] [] _] [] _ => decide (x = ("sorted" : Str)) && decide (y = ("set" : Str)) && glb sc x && glb sc y && T.free x && T.free y && ckE T N sc a a' | _ => false
  | .gcd f es, e => match e with | .Call (.Name x _) (e1 :: es') [] _ => decide (x = f) && glb sc x && T.bf x "math.gcd" && ckEs T N sc es (e1 :: es') | _ => false
  | .dc kvs, e => match e with | .Dict keys vals _ => ckDc kvs keys vals | _ => false
  | .tup es, e => match e with | .Tuple es' _ _ => ckEs T N sc es es' | _ => false
  | .lst es, e => match e with | .List es' _ => ckEs T N sc es es' | _ => false
  | .call f es ks kes pm, e => match e with
    | .Call (.Name x _) es' kws _ => decide (x = f) && glb sc x && ckEs T N sc es es' && kwNames kws ks && ckK T N sc kes kws && pm.all (fun i => decide (i < ks.length)) && (match T.fn f with
      | some fi => fi.pats.contains (es'.length, ks, pm)
      | none => false)
    | _ => false
  | .mk c es, e => match e with
    | .Call (.Name x _) es' [] _ => decide (x = c) && glb sc x && T.own c && ckEs T N sc es es' && (match T.me c "__init__" with
      | some fi => fi.pats.contains (fi.np, [], [])
      | none => false)
    | _ => false
  | .meth o m es ks kes pm, e => match e with
    | .Call (.Attribute o' m' ap) es' kws pos => decide (m' = m) && ckE T N sc o o' && plainRecv o' && ckEs T N sc es es' && kwNames kws ks && ckK T N sc kes kws && pm.all (fun i => decide (i < ks.length)) &&
        decide (es'.length + kws.length < 29) && (ap.endLine == pos.line) && T.mp m (es'.length + 1, ks, pm)
    | _ => false
  | .bi b es, e => match e with
    | .Call (.Name x _) (e1 :: es') [] _ => decide (x = nmB b) && glb sc x && T.free x && ckEs T N sc es (e1 :: es')
    | _ => false
  | .app o v, e => match e with
    | .Call (.Attribute o' m' ap) [v'] [] pos => decide (m' = ("append" : Str)) && ckE T N sc o o' && plainRecv o' && ckE T N sc v v' && (ap.endLine == pos.line)
    | _ => false
  | .fld o f, e => match e with | .Attribute o' f' _ => decide (f' = f) && ckE T N sc o o' && plainRecv o' | _ => false
  | .efld i f, e => match e with | .Attribute (.Name x _) f' _ => decide (f' = f) && decide (N[i]? = some x) && vis sc x | _ => false
  | .comp vs t it c v, e => match e with
    | .ListComp elt [⟨tg, iter, ifs, 0⟩] scope _ => blkC N sc scope (ownOf N vs) && ckCT N scope t tg && ckI T N sc it tg iter && (match ifs with
        | [] => (match c with | .bl true => true | _ => false)
        | [c'] => ckT T N scope c c'
        | _ => false) && ckE T N scope v elt && ctIn vs t
    | _ => false
  | .comp2 vs t it c ws t1 it1 c1 v, e => match e with
    | .ListComp elt [⟨tg, iter, ifs, 0⟩, ⟨tg1, iter1, ifs1, 0⟩] scope _ => blkC N sc scope (ownOf N vs) && ckCT N scope t tg && ckI T N sc it tg iter && (match ifs with
        | [] => (match c with | .bl true => true | _ => false)
        | [c'] => ckT T N scope c c'
        | _ => false) && ckCT N scope t1 tg1 && ckI T N scope it1 tg1 iter1 && (match ifs1 with
        | [] => (match c1 with | .bl true => true | _ => false)
        | [c'] => ckT T N scope c1 c'
        | _ => false) && ckE T N scope v elt && ctIn vs t && ctIn ws t1 && ws.all (fun i => vs.contains i)
    | _ => false
def ckT (T : Tab) (N : List Str) (sc : Scope) : ME → Expr → Bool
  | .and a b, e => match e with
    | .BoolOp .And (a' :: r) pos => ckT T N sc a a' && (match r with
      | [] => false
      | [b'] => ckT T N sc b b'
      | b' :: c' :: r' => ckT T N sc b (.BoolOp .And (b' :: c' :: r') pos))
    | _ => false
  | .or a b, e => match e with
    | .BoolOp .Or (a' :: r) pos => ckT T N sc a a' && (match r with
      | [] => false
      | [b'] => ckT T N sc b b'
      | b' :: c' :: r' => ckT T N sc b (.BoolOp .Or (b' :: c' :: r') pos))
    | _ => false
  | .notE a, e => match e with | .UnaryOp .Not a' _ => ckT T N sc a a' | _ => false
  | .cmp op a b, e => match e with | .Compare a' [op'] [b'] _ => decide (opC op = op') && ckE T N sc a a' && ckE T N sc b b' && notSet b' | _ => false
  | .chain op1 op2 a b c, e => match e with
    | .Compare a' [p1, p2] [b', c'] _ => decide (opC op1 = p1) && decide (opC op2 = p2) && ckE T N sc a a' && ckE T N sc b b' && ckE T N sc c c' && notSet c'
    | _ => false
  | .bl b, e => match e with | .Constant (.bool c) _ _ => b == c | _ => false
  | .var i, e => match e with | .Name x _ => decide (N[i]? = some x) && vis sc x | _ => false
  | .sub a i, e => match e with | .Subscript a' i' _ => ckE T N sc a a' && ckE T N sc i i' && plainIx i' | _ => false
  | .call f es ks kes pm, e => match e with
    | .Call (.Name x _) es' kws _ => decide (x = f) && glb sc x && ckEs T N sc es es' && kwNames kws ks && ckK T N sc kes kws && pm.all (fun i => decide (i < ks.length)) && (match T.fn f with
      | some fi => fi.pats.contains (es'.length, ks, pm)
      | none => false)
    | _ => false
  | .bi b es, e => match e with
    | .Call (.Name x _) (e1 :: es') [] _ => decide (x = nmB b) && glb sc x && T.free x && ckEs T N sc es (e1 :: es')
    | _ => false
  | .meth o m es ks kes pm, e => match e with
    | .Call (.Attribute o' m' ap) es' kws pos => decide (m' = m) && ckE T N sc o o' && plainRecv o' && ckEs T N sc es es' && kwNames kws ks && ckK T N sc kes kws && pm.all (fun i => decide (i < ks.length)) &&
        decide (es'.length + kws.length < 29) && (ap.endLine == pos.line) && T.mp m (es'.length + 1, ks, pm)
    | _ => false
  | _, _ => false
def ckO (T : Tab) (N : List Str) (sc : Scope) : MOp → Option Expr → Bool
  | .no, none => true
  | .yes a, some e => ckE T N sc a e
  | _, _ => false
def ckI (T : Tab) (N : List Str) (sc : Scope) : MI → Expr → Expr → Bool
  | .of a, _, e => ckE T N sc a e && notSet e
  | .rng1 a, _, e => match e with | .Call (.Name x _) [a'] [] _ => decide (x = ("range" : Str)) && glb sc x && T.free x && ckE T N sc a a' | _ => false
  | .rng2 a b, _, e => match e with | .Call (.Name x _) [a', b'] [] _ => decide (x = ("range" : Str)) && glb sc x && T.free x && ckE T N sc a a' && ckE T N sc b b' | _ => false
  | .enum a, tg, e => match e with | .Call (.Name x _) [a'] [] _ => decide (x = ("enumerate" : Str)) && glb sc x && T.free x && ckE T N sc a a' && (match tg with | .Tuple _ _ _ => true | _ => false) | _ => false
def ckEs (T : Tab) (N : List Str) (sc : Scope) : MEs → List Expr → Bool
  | .nil, [] => true
  | .cons a as, e :: es => ckE T N sc a e && ckEs T N sc as es
  | _, _ => false
def ckK (T : Tab) (N : List Str) (sc : Scope) : MEs → List Keyword → Bool
  | .nil, [] => true
  | .cons a as, ⟨_, e, _⟩ :: es => ckE T N sc a e && ckK T N sc as es
  | _, _ => false
end
end Mi
end

section
/-! Mini, part 7: expressions. -/
namespace Mi
open PySem PySem.Spec PyProof.Rows L2

theorem takes_no {X : Cx} : L2N.Takes X (fun _ _ _ _ => False) := fun _ _ ⟨_, _, _, _, _, _, _, _, _, _, _, _, _, _, _, _, w⟩ => w.elim
/-- what own calls need -/
structure Calls (T : Tab) (CA : Str → Addr) (C : CallF) (k : Nat) (X : Cx) : Prop where
  fn : ∀ g fi, T.fn g = some fi → ∃ f, X.mg g = some (.ref f) ∧ PySem.W.keepIn X.K (.ref f) = true ∧ FnR CA C k X f fi
  me : ∀ c m fi, T.me c m = some fi → ∃ f, Cls X.K (CA c) ∧ Meth X.K (CA c) m f ∧ FnR CA C k X f fi
  mkc : ∀ c fi, T.me c "__init__" = some fi → ∃ f, Mk X.K (CA c) f ∧ FnR CA C k X f fi
  mp : ∀ c m fi p, T.me c m = some fi → T.mp m p = true → p.1 + p.2.1.length = fi.np → p ∈ fi.pats
/-- what calls do while an exception is handled -/
def CallsH (T : Tab) (CA : Str → Addr) (C : CallF) (X : Cx) : Prop := ∀ g fi, T.fn g = some fi → ∃ f, X.mg g = some (.ref f) ∧ PySem.W.keepIn X.K (.ref f) = true ∧ FnRH T CA C 2 X f fi
/-- the exception that is handled -/
structure XI (T : Tab) (CA : Str → Addr) (X : Cx) (a d : Addr) : Prop where
  ex : ∃ (oe : Obj) (c : Str) (vs : Array Value), (a, oe) ∈ X.pn ∧ L2N.Zn (.ref (CA c)) (some d) oe ∧ oe.data = .fields vs ∧ X.A.handled = some (.ref a) ∧ XfC X.K (CA c) ∧ ∀ f, T.xat f = true → PySem.W.findIn X.K (.ref (CA c)) f = some none
/-- where one stands, in all -/
structure Ct (T : Tab) (CA : Str → Addr) (N : List Str) (sc : Scope) (C : CallF) (X : Cx) (W : WX) (xi : Option (Nat × Addr × Addr)) : Prop where
  g : Gd T CA N sc X
  tk : L2N.Takes X W
  cl : X.calm = true → ∃ k, RM (k + 1) X.A ∧ Calls T CA C k X
  xi : ∀ j a d, xi = some (j, a, d) → XI T CA X a d
  fn : ∀ x, sc.names.lookup x = some .cell → X.fn x = true
  hc : CallsH T CA T.hc X
  rh : RMH 2 X.A ∨ (C = noCall ∧ RMH 1 X.A ∧ X.calm = false)
  ch : X.calm = false → C = noCall ∨ C = T.hc
  kd : sc.kind = .function

/-- the slots agree, the heap agrees -/
structure AtK (K : PySem.W.Frag) (cm : Bool) (CA : Str → Addr) (xi : Option (Nat × Addr × Addr)) (ρ : Rho) (me : Env) (mh : MH) (σ : L2.St) (H : Hp) : Prop where
  rs : RS CA xi ρ H me σ
  rh : RH K CA ρ mh H
  cm : me.ex.isSome = false → cm = true
abbrev At (CA : Str → Addr) (X : Cx) := AtK X.K X.calm CA

def RVn (CA : Str → Addr) (n : Nat) (ρ : Rho) (H : Hp) (a : List MV) (b : List V) : Prop := RVs CA ρ H a b ∧ a.length = n
section
variable (T : Tab) (CA : Str → Addr) (C : CallF) (X : Cx) (W : WX) (xi : Option (Nat × Addr × Addr))
def tE (m : ME) : TE := fun σ H Q => ∃ ρ me mh, At CA X xi ρ me mh σ H ∧ Aft X.K CA (RV CA) (fun c d H' => W c d σ H') ρ H (evE T C me m mh) Q
def tT (m : ME) : TT := fun σ H Q => ∃ ρ me mh, At CA X xi ρ me mh σ H ∧ Aft X.K CA (fun _ _ (a b : Bool) => a = b) (fun c d H' => W c d σ H') ρ H (evT T C me m mh) Q
def tO (m : MOp) : TO := fun σ H Q => ∃ ρ me mh, At CA X xi ρ me mh σ H ∧ Aft X.K CA (fun _ _ (a b : Option Int) => a = b) (fun c d H' => W c d σ H') ρ H (evO T C me m mh) Q
def tEs (m : MEs) : TA := fun σ H Q => ∃ ρ me mh, At CA X xi ρ me mh σ H ∧ Aft X.K CA (RVn CA m.len) (fun c d H' => W c d σ H') ρ H (evEs T C me m mh) Q
end

section
variable {T : Tab} {CA : Str → Addr} {N : List Str} {sc : Scope} {C : CallF} {X : Cx} {W : WX} {xi : Option (Nat × Addr × Addr)} {ρ ρ1 : Rho} {me : Env} {mh mh1 : MH} {σ : L2.St} {H H1 : Hp}
theorem AtK.to (h : At CA X xi ρ me mh σ H) (e : Ext ρ H ρ1 H1) (r : RH X.K CA ρ1 mh1 H1) : At CA X xi ρ1 me mh1 σ H1 := ⟨h.rs.mono e, r, h.cm⟩
theorem PE.to {e : Expr} {t t' : TE} (h : PE X e t) (k : ∀ σ H Q, t' σ H Q → t σ H Q) : PE X e t' := ⟨fun pins s σ H Q I q => h.run pins s σ H Q I (k σ H Q q)⟩
theorem PT.to {e : Expr} {t t' : TT} (h : PT X e t) (k : ∀ σ H Q, t' σ H Q → t σ H Q) : PT X e t' := ⟨fun pins s σ H Q I q => h.run pins s σ H Q I (k σ H Q q)⟩
theorem PW.to {e : Expr} {t t' : TT} (h : PW X e t) (k : ∀ σ H Q, t' σ H Q → t σ H Q) : PW X e t' := ⟨fun w pins s σ H Q I q => h.run w pins s σ H Q I (k σ H Q q)⟩
theorem PA.to {e : List Expr} {t t' : TA} (h : PA X e t) (k : ∀ σ H Q, t' σ H Q → t σ H Q) : PA X e t' := ⟨fun p pins s σ H Q I q => h.run p pins s σ H Q I (k σ H Q q)⟩
theorem PK.to {e : List Keyword} {t t' : TA} (h : PK X e t) (k : ∀ σ H Q, t' σ H Q → t σ H Q) : PK X e t' := ⟨fun p pins s σ H Q I q => h.run p pins s σ H Q I (k σ H Q q)⟩

theorem vis_of (g : Gd T CA N sc X) {x : Str} (h : vis sc x = true) : Vis X.env.scope x ∧ (x == ("__debug__" : Str)) = false ∧ (x == ("__classdict__" : Str)) = false := by
  unfold vis okN at h
  simp only [Bool.and_eq_true, Bool.or_eq_true, beq_iff_eq, Bool.not_eq_true'] at h
  obtain ⟨h1, ⟨h2, h3⟩, _⟩ := h
  refine ⟨?_, h2, h3⟩
  rcases h1 with (h1 | h1) | h1
  · rcases g.sc x _ h1 with z | ⟨z, _⟩
    · exact .inl z
    · cases z
  · rcases g.sc x _ h1 with z | ⟨z, _⟩
    · exact .inr (.inl z)
    · cases z
  · rcases g.sc x _ h1 with z | ⟨_, z⟩
    · exact .inr (.inr z)
    · exact .inr (.inl z)
theorem glb_of (g : Gd T CA N sc X) {x : Str} (h : glb sc x = true) : Gl X x ∧ (x == ("__debug__" : Str)) = false ∧ x ≠ "__name__" := by
  unfold glb okN at h
  simp only [Bool.and_eq_true, beq_iff_eq, Bool.not_eq_true'] at h
  obtain ⟨h1, ⟨h2, _⟩, h3⟩ := h
  refine ⟨?_, h2, fun e => ?_⟩
  · unfold Gl PySem.Env.kindOf
    rcases g.sc x _ h1 with z | ⟨z, _⟩
    · exact z
    · cases z
  · rw [e] at h3; simp at h3
theorem noStar_of : ∀ {m : ME} {e : Expr}, ckE T N sc m e = true → noStar e = true := fun {m e} h => by
  cases e <;> first | rfl | (cases m <;> (unfold ckE at h; cases h))
theorem noStars_of : ∀ {m : MEs} {es : List Expr}, ckEs T N sc m es = true → es.all noStar = true
  | .nil, [], _ => rfl
  | .cons a as, e :: es, h => by
    unfold ckEs at h
    rw [Bool.and_eq_true] at h
    rw [List.all_cons, noStar_of h.1, noStars_of h.2]; rfl
  | .nil, _ :: _, h => by unfold ckEs at h; cases h
  | .cons _ _, [], h => by unfold ckEs at h; cases h
theorem plainIx_of {e : Expr} (h : plainIx e = true) : PlainIx e := by
  cases e <;> first | exact fun _ _ => rfl | cases h
theorem valTest_of {e : Expr} (h : valTest e = true) (env : PySem.Env) : ∀ whole, isTrue e env whole = (do let v ← whole; standAt e.pos; holding [v] (truthy v)) := by
  cases e <;> first | exact fun _ => rfl | cases h
theorem notSet_mark {op : CmpOp} {e : Expr} (h : notSet e = true) : behindInMarks op e = false := by
  cases e <;> first | rfl | cases h
theorem notSet_last {p1 p2 : CmpOp} {b c : Expr} (h : notSet c = true) : lastMarks [p1, p2] [b, c] = false := by
  show behindInMarks p2 c = false
  exact notSet_mark h
theorem notSet_fold {e : Expr} (h : notSet e = true) (env : PySem.Env) : ∀ x, foldedSetIterable e env x = pure x := by
  cases e <;> first | exact fun _ => rfl | cases h

/-- a name in a slot -/
theorem pe_slot {i : Nat} {x : Str} {p : Pos} (c : Ct T CA N sc C X W xi) (hi : N[i]? = some x) (hv : vis sc x = true) : PE X (.Name x p) (tE T CA C X W xi (.var i)) := by
  obtain ⟨v, d1, d2⟩ := vis_of c.g hv
  refine PE.to (pe_var (i := i) (by rw [c.g.nm]; exact hi) v d1 d2) fun σ H Q ⟨ρ, me, mh, at_, h⟩ => ?_
  unfold evE at h
  cases e : me.sl[i]? with
  | none => rw [e] at h; exact h.elim
  | some o =>
    rw [e] at h
    cases o with
    | none => exact h.elim
    | some w =>
      obtain ⟨z, h1, h2⟩ := at_.rs.sl i w e
      exact ⟨z, h1, Aft.now (z := w) h at_.rh h2⟩
/-- e.f of the exception that is handled -/
theorem pe_exf {i : Nat} {x f : Str} {p pos : Pos} (c : Ct T CA N sc C X W xi) (hi : N[i]? = some x) (hv : vis sc x = true) : PE X (.Attribute (.Name x p) f pos) (tE T CA C X W xi (.efld i f)) := by
  obtain ⟨v, d1, d2⟩ := vis_of c.g hv
  refine ⟨fun pins s σ H Q I ⟨ρ, me, mh, at_, h⟩ => ?_⟩
  unfold evE at h
  cases ee : me.ex with
  | none => rw [ee] at h; exact h.elim
  | some q =>
    obtain ⟨j, n⟩ := q
    rw [ee] at h
    simp only at h
    by_cases hc : i = j ∧ i < me.sl.length ∧ T.xat f = true
    · rw [if_pos hc] at h
      obtain ⟨hj, hil, hx⟩ := hc
      subst hj
      obtain ⟨a, d, hxi, hds⟩ := at_.rs.ex i n ee
      obtain ⟨hd, hs⟩ := hds hil
      cases g : mh.get n with
      | none => rw [g] at h; exact h.elim
      | some o =>
        rw [g] at h
        cases o <;> try exact h.elim
        rename_i c' fs
        simp only at h
        cases l : fs.lookup f with
        | none => rw [l] at h; exact h.elim
        | some w =>
          rw [l] at h
          obtain ⟨gs, h1, h2⟩ := at_.rh.at g hd
          obtain ⟨z, h3, h4⟩ := RF.lookup h2 l
          have q := h.now at_.rh h4
          obtain ⟨oe, cc, vs, pn, hz, hdt, _, xf, hno⟩ := (c.xi i a d hxi).ex
          refine attr_of (base_plain rfl) (thn ((pe_var (X := X) (i := i) (pos := p) (by rw [c.g.nm]; exact hi) v d1 d2).run pins s σ H (fun y H' => y = .ref a ∧ H' = H) I ⟨_, hs, rfl, rfl⟩) fun u s1 ⟨y, H1, I1, ry, ey, eH⟩ => ?_)
          subst ey eH
          obtain rfl : u = Value.ref a := ry
          obtain ⟨ha, _⟩ := I1.pin (a, oe) (List.mem_append_left _ pn)
          have hx1 : ObjOk X.prog X.w H1 s1.heap d (.xd gs) := I1.hok d _ h1
          obtain ⟨mA, hns, hr⟩ := hx1
          obtain ⟨od, ho, hl⟩ := lookIn_ns hns
          obtain ⟨u, hu, ru⟩ := RelO.some_of (v := z) (o := mA f) (by rw [← h3]; exact hr f)
          have J : PySem.W.InstAt s1.heap a oe (CA cc) (some od) := ⟨ha, hz.1, by unfold PySem.W.notCls; rw [hdt] <;> rfl, by rw [hz.2.1]; exact ho⟩
          exact HandSPX.exc_get I1.kIn J xf.ga xf.gg xf.exC (PySem.W.findObj_own xf.hdC (hno f hx) rfl (by rw [hl, hu])) (handed_of ru) ⟨z, H1, I1.tok _, ru, q⟩
    · rw [if_neg hc] at h; exact h.elim

variable {a b c : ME} {ea eb ec : Expr} {pos : Pos}
/-- two values, then a rule -/
theorem two_ok {r : R2} {f : MV → MV → M MV} {me : Env} {Q : VK} (at_ : At CA X xi ρ me mh σ H) (h : Aft X.K CA (RV CA) (fun c d H' => W c d σ H') ρ H (M.bind (evE T C me a) (fun x => M.bind (evE T C me b) fun y => f x y) mh) Q)
    (k : ∀ {ρ : Rho} {mh : MH} {x y : MV} {u v : V} {H : Hp}, Aft X.K CA (RV CA) (fun c d H' => W c d σ H') ρ H (f x y mh) Q → RH X.K CA ρ mh H → RV CA ρ H x u → RV CA ρ H y v → r u v H Q) :
    tOp r (tE T CA C X W xi a) (tE T CA C X W xi b) σ H Q :=
  ⟨ρ, me, mh, at_, h.bnd.imp fun u H1 ⟨ρ1, mh1, x, e1, r1, q1, h1⟩ => ⟨ρ1, me, mh1, at_.to e1 r1, h1.bnd.imp fun v H2 ⟨ρ2, mh2, y, e2, r2, q2, h2⟩ => k h2 r2 (q1.mono e2) q2⟩⟩
theorem pe_bin {op : BOp} (ha : PE X ea (tE T CA C X W xi a)) (hb : PE X eb (tE T CA C X W xi b)) : PE X (.BinOp ea (opB op) eb pos) (tE T CA C X W xi (.bin op a b)) :=
  PE.to (pe_op (op_bin op) ha hb) fun σ H Q ⟨ρ, me, mh, at_, h⟩ => by
    unfold evE at h
    exact two_ok at_ h fun h2 rh q1 q2 => bin_ok h2 rh q1 q2
theorem pe_cmpM {op : COp} (sm : ∃ o, X.K.lookup sysModules = some o) (hu : X.A.units + 1250 < cLine) (hs : notSet eb = true) (ha : PE X ea (tE T CA C X W xi a)) (hb : PE X eb (tE T CA C X W xi b)) : PE X (.Compare ea [opC op] [eb] pos) (tE T CA C X W xi (.cmp op a b)) :=
  PE.to (pe_cmpR (op_cmp sm hu op) ha hb (notSet_mark hs)) fun σ H Q ⟨ρ, me, mh, at_, h⟩ => by
    unfold evE at h
    exact two_ok at_ h fun h2 rh q1 q2 => cmp_ok h2 rh q1 q2
/-- a bool in hand -/
theorem Aft.bool {x : MV} {u : V} {β : Type} {δ : Type} {R' : Rho → Hp → β → δ → Prop} {f : Bool → M β} {Q : δ → Hp → Prop} {Wf : WS} (h : Aft X.K CA R' Wf ρ H (M.bind (boolM x) f mh) Q) (r : RV CA ρ H x u) : ∃ k, x = .bl k ∧ u = .bl k ∧ Aft X.K CA R' Wf ρ H (f k mh) Q := by
  cases r <;> first | exact h.elim | exact ⟨_, rfl, rfl, h⟩
theorem pe_chainM {op op' : COp} (sm : ∃ o, X.K.lookup sysModules = some o) (hu : X.A.units + 1250 < cLine) (hs : notSet ec = true) (ha : PE X ea (tE T CA C X W xi a)) (hb : PE X eb (tE T CA C X W xi b)) (hc : PE X ec (tE T CA C X W xi c)) : PE X (.Compare ea [opC op, opC op'] [eb, ec] pos) (tE T CA C X W xi (.chain op op' a b c)) :=
  PE.to (pe_chain (op_cmp sm hu op) (op_cmp sm hu op') ha hb hc (notSet_last hs)) fun σ H Q ⟨ρ, me, mh, at_, h⟩ => by
    unfold evE at h
    refine ⟨ρ, me, mh, at_, h.bnd.imp fun u H1 ⟨ρ1, mh1, x, e1, r1, q1, h1⟩ => ⟨ρ1, me, mh1, at_.to e1 r1, h1.bnd.imp fun v H2 ⟨ρ2, mh2, y, e2, r2, q2, h2⟩ => ?_⟩⟩
    refine cmp_ok (h2.bnd.imp fun z H3 ⟨ρ3, mh3, w, e3, r3, q3, h3⟩ => ?_) r2 (q1.mono e2) q2
    obtain ⟨k, rfl, rfl, h4⟩ := h3.bool q3
    refine ⟨k, rfl, ?_⟩
    cases k with
    | true => exact ⟨ρ3, me, mh3, (at_.to e1 r1).to (e2.trans e3) r3, h4.bnd.imp fun t H4 ⟨ρ4, mh4, w4, e4, r4, q4, h5⟩ => cmp_ok h5 r4 (q2.mono (e3.trans e4)) q4⟩
    | false => exact Aft.now (z := MV.bl false) h4 r3 (.bl _)
/-- a op b op' c op2 d -/
def tChain3 (r r' r2 : R2) (ta tb tc td : TE) : TE := fun σ H Q => ta σ H fun x H1 => tb σ H1 fun y H2 => r x y H2 fun z H3 => ∃ k, z = .bl k ∧
  (if k = true then tc σ H3 fun w H4 => r' y w H4 fun z H5 => ∃ k, z = .bl k ∧ (if k = true then td σ H5 fun v H6 => r2 w v H6 Q else Q (.bl false) H5) else Q (.bl false) H3)
theorem pe_chain3 {X : Cx} {a b c d : Expr} {ta tb tc td : TE} {pos : Pos} {op op' op2 : CmpOp} {r r' r2 : R2} (ho : OpR X (compareOp op) r) (ho' : OpR X (compareOp op') r') (ho2 : OpR X (compareOp op2) r2) (ha : PE X a ta) (hb : PE X b tb) (hc : PE X c tc) (hd : PE X d td)
    (hm : lastMarks [op, op', op2] [b, c, d] = false) : PE X (.Compare a [op, op', op2] [b, c, d] pos) (tChain3 r r' r2 ta tb tc td) := by
  refine ⟨fun pins s σ H Q I h => ?_⟩
  refine Compare_chain (thn (ha.run pins s σ H _ I h) fun v s1 ⟨x, H1, I1, r1, q1⟩ => chain_link (thn (hb.run pins s1 σ H1 _ I1 q1) fun u s2 ⟨y, H2, I2, r2, q2⟩ =>
    thn (ho pins s2 σ H2 x y v u _ I2 r1 r2 q2) fun d s3 ⟨z, H3, I3, r3, k, e, q3⟩ => ?_)) hm
  subst e
  cases r3
  refine wpAny_truthy_bool ?_
  cases k with
  | false => exact ite_ff ⟨.bl false, H3, I3, rfl, q3⟩
  | true =>
    refine ite_tt (chain_link (thn (hc.run pins s3 σ H3 _ I3 q3) fun w' s4 ⟨z', H4, I4, r4, q4⟩ => thn (ho' pins s4 σ H4 y z' u w' _ I4 r2 r4 q4) fun d s5 ⟨z, H5, I5, r5, k, e, q5⟩ => ?_))
    subst e
    cases r5
    refine wpAny_truthy_bool ?_
    cases k with
    | false => exact ite_ff ⟨.bl false, H5, I5, rfl, q5⟩
    | true => exact ite_tt (chain_last (thn (hd.run pins s5 σ H5 _ I5 q5) fun w2 s6 ⟨z2, H6, I6, r6, q6⟩ => ho2 pins s6 σ H6 z' z2 w' w2 Q I6 r4 r6 q6))
theorem pe_chain3M {d : ME} {ed : Expr} {op op' op2 : COp} (sm : ∃ o, X.K.lookup sysModules = some o) (hu : X.A.units + 1250 < cLine) (hs : notSet ed = true) (ha : PE X ea (tE T CA C X W xi a)) (hb : PE X eb (tE T CA C X W xi b)) (hc : PE X ec (tE T CA C X W xi c)) (hd : PE X ed (tE T CA C X W xi d)) : PE X (.Compare ea [opC op, opC op', opC op2] [eb, ec, ed] pos) (tE T CA C X W xi (.chain3 op op' op2 a b c d)) :=
  PE.to (pe_chain3 (op_cmp sm hu op) (op_cmp sm hu op') (op_cmp sm hu op2) ha hb hc hd (notSet_mark hs)) fun σ H Q ⟨ρ, me, mh, at_, h⟩ => by
    unfold evE at h
    refine ⟨ρ, me, mh, at_, h.bnd.imp fun u H1 ⟨ρ1, mh1, x, e1, r1, q1, h1⟩ => ⟨ρ1, me, mh1, at_.to e1 r1, h1.bnd.imp fun v H2 ⟨ρ2, mh2, y, e2, r2, q2, h2⟩ => ?_⟩⟩
    refine cmp_ok (h2.bnd.imp fun z H3 ⟨ρ3, mh3, w, e3, r3, q3, h3⟩ => ?_) r2 (q1.mono e2) q2
    obtain ⟨k, rfl, rfl, h4⟩ := h3.bool q3
    refine ⟨k, rfl, ?_⟩
    cases k with
    | true =>
      refine ⟨ρ3, me, mh3, (at_.to e1 r1).to (e2.trans e3) r3, h4.bnd.imp fun t H4 ⟨ρ4, mh4, w4, e4, r4, q4, h5⟩ => ?_⟩
      refine cmp_ok (h5.bnd.imp fun z H5 ⟨ρ5, mh5, w5, e5, r5, q5, h6⟩ => ?_) r4 (q2.mono (e3.trans e4)) q4
      obtain ⟨k, rfl, rfl, h7⟩ := h6.bool q5
      refine ⟨k, rfl, ?_⟩
      cases k with
      | true => exact ⟨ρ5, me, mh5, ((at_.to e1 r1).to (e2.trans e3) r3).to (e4.trans e5) r5, h7.bnd.imp fun t H6 ⟨ρ6, mh6, w6, e6, r6, q6, h8⟩ => cmp_ok h8 r6 (q4.mono (e5.trans e6)) q6⟩
      | false => exact Aft.now (z := MV.bl false) h7 r5 (.bl _)
    | false => exact Aft.now (z := MV.bl false) h4 r3 (.bl _)
theorem pe_ands {r : List Expr} (ha : PE X ea (tE T CA C X W xi a)) (hb : PE X (.BoolOp .And (eb :: r) pos) (tE T CA C X W xi b)) : PE X (.BoolOp .And (ea :: eb :: r) pos) (tE T CA C X W xi (.and a b)) :=
  PE.to (pe_and ha hb) fun σ H Q ⟨ρ, me, mh, at_, h⟩ => by
    unfold evE at h
    refine ⟨ρ, me, mh, at_, h.bnd.imp fun u H1 ⟨ρ1, mh1, x, e1, r1, q1, h1⟩ => ?_⟩
    obtain ⟨k, rfl, rfl, h2⟩ := h1.bool q1
    refine ⟨k, rfl, ?_⟩
    cases k with
    | true => exact ⟨ρ1, me, mh1, at_.to e1 r1, h2⟩
    | false => exact Aft.now (z := MV.bl false) h2 r1 (.bl _)
theorem pe_ors {r : List Expr} (ha : PE X ea (tE T CA C X W xi a)) (hb : PE X (.BoolOp .Or (eb :: r) pos) (tE T CA C X W xi b)) : PE X (.BoolOp .Or (ea :: eb :: r) pos) (tE T CA C X W xi (.or a b)) :=
  PE.to (pe_or ha hb) fun σ H Q ⟨ρ, me, mh, at_, h⟩ => by
    unfold evE at h
    refine ⟨ρ, me, mh, at_, h.bnd.imp fun u H1 ⟨ρ1, mh1, x, e1, r1, q1, h1⟩ => ?_⟩
    obtain ⟨k, rfl, rfl, h2⟩ := h1.bool q1
    refine ⟨k, rfl, ?_⟩
    cases k with
    | true => exact Aft.now (z := MV.bl true) h2 r1 (.bl _)
    | false => exact ⟨ρ1, me, mh1, at_.to e1 r1, h2⟩
theorem pe_nots (ha : PE X ea (tE T CA C X W xi a)) : PE X (.UnaryOp .Not ea pos) (tE T CA C X W xi (.notE a)) :=
  PE.to (pe_not ha) fun σ H Q ⟨ρ, me, mh, at_, h⟩ => by
    unfold evE at h
    refine ⟨ρ, me, mh, at_, h.bnd.imp fun u H1 ⟨ρ1, mh1, x, e1, r1, q1, h1⟩ => ?_⟩
    obtain ⟨k, rfl, rfl, h2⟩ := h1.bool q1
    exact ⟨k, rfl, Aft.now (z := MV.bl (!k)) h2 r1 (.bl _)⟩
theorem pe_negs (ha : PE X ea (tE T CA C X W xi a)) : PE X (.UnaryOp .USub ea pos) (tE T CA C X W xi (.neg a)) :=
  PE.to (pe_un un_neg ha) fun σ H Q ⟨ρ, me, mh, at_, h⟩ => by
    unfold evE at h
    refine ⟨ρ, me, mh, at_, h.bnd.imp fun u H1 ⟨ρ1, mh1, x, e1, r1, q1, h1⟩ => ?_⟩
    cases q1 <;> first | exact h1.elim | exact ⟨_, rfl, Aft.now (z := MV.int _) h1 r1 (.int _)⟩
theorem pe_ifes (hc : PT X ec (tT T CA C X W xi c)) (ha : PE X ea (tE T CA C X W xi a)) (hb : PE X eb (tE T CA C X W xi b)) : PE X (.IfExp ec ea eb pos) (tE T CA C X W xi (.ife c a b)) :=
  PE.to (pe_ifExp hc ha hb) fun σ H Q ⟨ρ, me, mh, at_, h⟩ => by
    unfold evE at h
    refine ⟨ρ, me, mh, at_, h.bnd.imp fun u H1 ⟨ρ1, mh1, x, e1, r1, q1, h1⟩ => ?_⟩
    subst q1
    cases x with
    | true => exact ⟨ρ1, me, mh1, at_.to e1 r1, h1⟩
    | false => exact ⟨ρ1, me, mh1, at_.to e1 r1, h1⟩
theorem pe_subs (hp : plainIx eb = true) (ha : PE X ea (tE T CA C X W xi a)) (hb : PE X eb (tE T CA C X W xi b)) : PE X (.Subscript ea eb pos) (tE T CA C X W xi (.sub a b)) :=
  PE.to (pe_ix ix_seq ha hb (plainIx_of hp)) fun σ H Q ⟨ρ, me, mh, at_, h⟩ => by
    unfold evE at h
    exact two_ok at_ h fun h2 rh q1 q2 => sub_ok h2 rh q1 q2
theorem sl_both {X : Cx} : SlR X (rSlS X.K) := by
  intro pins s σ H x v vl vu lo hi sl Q I rx hs pl pu h
  rcases h with h | h
  · exact sl_list pins s σ H x v vl vu lo hi sl Q I rx hs pl pu h
  · exact sl_tupA pins s σ H x v vl vu lo hi sl Q I rx hs pl pu h
theorem pe_slcs {lo hi : MOp} {l h : Option Expr} {p2 : Pos} (ha : PE X ea (tE T CA C X W xi a)) (hl : PO X l (tO T CA C X W xi lo)) (hh : PO X h (tO T CA C X W xi hi)) : PE X (.Subscript ea (.Slice l h none p2) pos) (tE T CA C X W xi (.slc a lo hi)) :=
  PE.to (pe_slice sl_both ha hl hh) fun σ H Q ⟨ρ, me, mh, at_, h⟩ => by
    unfold evE at h
    refine ⟨ρ, me, mh, at_, h.bnd.imp fun u H1 ⟨ρ1, mh1, x, e1, r1, q1, h1⟩ => ⟨ρ1, me, mh1, at_.to e1 r1, h1.bnd.imp fun v H2 ⟨ρ2, mh2, y, e2, r2, q2, h2⟩ => ?_⟩⟩
    subst q2
    refine ⟨ρ2, me, mh2, (at_.to e1 r1).to e2 r2, h2.bnd.imp fun v H3 ⟨ρ3, mh3, z, e3, r3, q3, h3⟩ => ?_⟩
    subst q3
    exact slc_ok h3 r3 (q1.mono (e2.trans e3))
theorem pe_revs {p1 p2 p3 : Pos} {k : Nat} (ha : PE X ea (tE T CA C X W xi a)) : PE X (.Subscript ea (.Slice none none (some (.UnaryOp .USub (.Constant (.int 1) k p1) p2)) p3) pos) (tE T CA C X W xi (.rev a)) :=
  PE.to (pe_revL ha) fun σ H Q ⟨ρ, me, mh, at_, h⟩ => by
    unfold evE at h
    exact ⟨ρ, me, mh, at_, h.bnd.imp fun u H1 ⟨ρ1, mh1, x, e1, r1, q1, h1⟩ => rev_ok h1 r1 q1⟩
theorem pe_lsis {p p2 q : Pos} {x y : Str} (ct : Ct T CA N sc C X W xi) (hx : x = "len") (hy : y = "set") (gx : glb sc x = true) (gy : glb sc y = true) (fx : T.free x = true) (fy : T.free y = true) (ns : noStar ea = true) (ha : PE X ea (tE T CA C X W xi a)) :
    PE X (.Call (.Name x p) [.Call (.Name y p2) [ea] [] q] [] pos) (tE T CA C X W xi (.lsi a)) := by
  subst hx hy
  refine ⟨fun pins s σ H Q I ⟨ρ, me, mh, at_, h⟩ => ?_⟩
  unfold evE at h
  by_cases hc : me.ex.isSome = true
  · rw [if_pos hc] at h; exact h.elim
  · rw [if_neg hc] at h
    have hcalm : X.calm = true := at_.cm (by simpa using hc)
    refine (RZ.pe_lenSetI (glb_of ct.g gx).1 (ct.g.st.free _ fx) (glb_of ct.g gy).1 (ct.g.st.free _ fy) ha hcalm (star_cons ns)).run pins s σ H Q I ?_
    exact ⟨ρ, me, mh, at_, h.bnd.imp fun u H1 ⟨ρ1, mh1, x, e1, r1, q1, h1⟩ => lsi_ok h1 r1 q1⟩
/-- sorted(set(a)), a a tuple of ints -/
def tSrtSet (K : PySem.W.Frag) (ta : TE) : TE := fun σ H Q => ta σ H fun x H1 => ∃ (l : Addr) (ns : List Int), x = .ref l ∧ SqT K H1 l (ns.map V.int) ∧ ns.length ≤ 50 ∧ ∀ (out : List Int) (p : Addr), out.Pairwise (· < ·) → (∀ k : Int, k ∈ out ↔ k ∈ ns) → H1 p = none → Q (.ref p) (upd H1 p (.lst (out.map V.int)))
theorem boot_sorted1 : bootBuiltins ("sorted" : Str) = some (.builtin "sorted") := by decide +kernel
theorem pe_srtset {X : Cx} {a : Expr} {ta : TE} {p p2 q pos : Pos} (hg : Gl X "sorted") (hm : X.mg "sorted" = none) (hg2 : Gl X "set") (hm2 : X.mg "set" = none) (ha : PE X a ta) (hc : X.calm = true)
    (na : starEach [a] X.env = (false, eval a X.env) :: starEach [] X.env := by rfl) : PE X (.Call (.Name "sorted" p) [.Call (.Name "set" p2) [a] [] q] [] pos) (tSrtSet X.K ta) := by
  refine ⟨fun pins s σ H Q I h => ?_⟩
  refine Call_ (ld_blt I hg hm boot_sorted1 ?_)
  refine PyProof.Rows.callWith_builtin1 (PyProof.Rows.args_cons ?_ rfl) rfl rfl
  refine Call_ (ld_blt I hg2 hm2 PyProof.Rows.boot_set ?_)
  refine PyProof.Rows.callWith_type1 (PyProof.Rows.args_cons (thn (ha.run pins s σ H _ I h) fun v s1 ⟨x, H1, I1, r1, q1⟩ => PyProof.Rows.args_nil ?_) na) na rfl
  obtain ⟨l, ns, rfl, hq, h1, q1⟩ := q1
  cases r1
  obtain ⟨its, r, pt, hz⟩ := I1.tuple hq
  have hi : IntsAre its.toArray.toList ns := r.ints
  refine call_set_tupI ns (I1.ok.hd hc) (show s1.heap.IsTuple l its.toArray from pt) hi (by unfold scanBound; omega) fun h' tk c R1 hcn hk => ?_
  refine PyProof.Rows.args_nil ?_
  have I2 : Inv X pins σ H1 { s1 with heap := h', toks := tk } := I1.kept fun b o e => hk b o e
  have R2 : SetR X.w ({ s1 with heap := h', toks := tk } : Shared).heap s1.heap.objs.size (fun j => decide (j ∈ ns)) c := R1
  generalize hs2 : ({ s1 with heap := h', toks := tk } : Shared) = s2 at I2 R2 ⊢
  generalize s1.heap.objs.size = sz at R2 ⊢
  refine sorted_set R2 (I2.ok.hd hc) (by omega) fun s' p out c' ns' k g o hp hg' hi' hs hm' hl => ?_
  have hlen : (ns'.map V.int).length ≤ sizeLine := by rw [List.length_map, hl, sizeLine_eq]; omega
  have hn : H1 p = none := I2.hok.fresh hp
  have J : Inv X pins σ (upd H1 p (.lst (ns'.map V.int))) { s2 with heap := s'.heap, gens := s'.gens, drawn := s'.drawn, toks := s'.toks } :=
    I2.call (ch := []) (Un.laid k hp hn) (I2.hok.laid k hp ⟨hlen, out.toList, c', vals_of_ints hi', hg'⟩) (by rw [g]; exact I2.bare) (fun _ z => nomatch z)
  have e : s' = { s2 with heap := s'.heap, gens := s'.gens, drawn := s'.drawn, toks := s'.toks } := by
    cases s'
    cases s2
    cases o
    rfl
  rw [e]
  exact ⟨.ref p, _, J, rfl, q1 ns' p hs (fun j => by rw [hm' j, decide_eq_true_eq]) hn⟩
theorem pe_ssts {p p2 q : Pos} {x y : Str} (ct : Ct T CA N sc C X W xi) (hx : x = "sorted") (hy : y = "set") (gx : glb sc x = true) (gy : glb sc y = true) (fx : T.free x = true) (fy : T.free y = true) (ns : noStar ea = true) (ha : PE X ea (tE T CA C X W xi a)) :
    PE X (.Call (.Name x p) [.Call (.Name y p2) [ea] [] q] [] pos) (tE T CA C X W xi (.sst a)) := by
  subst hx hy
  refine ⟨fun pins s σ H Q I ⟨ρ, me, mh, at_, h⟩ => ?_⟩
  unfold evE at h
  by_cases hc : me.ex.isSome = true
  · rw [if_pos hc] at h; exact h.elim
  · rw [if_neg hc] at h
    have hcalm : X.calm = true := at_.cm (by simpa using hc)
    refine (pe_srtset (glb_of ct.g gx).1 (ct.g.st.free _ fx) (glb_of ct.g gy).1 (ct.g.st.free _ fy) ha hcalm (star_cons ns)).run pins s σ H Q I ?_
    exact ⟨ρ, me, mh, at_, h.bnd.imp fun u H1 ⟨ρ1, mh1, x, e1, r1, q1, h1⟩ => sst_ok h1 r1 q1⟩
theorem pe_gcds {as : MEs} {f x : Str} {p : Pos} {es : List Expr} (ct : Ct T CA N sc C X W xi) (hx : x = f) (hg : glb sc x = true) (hf : T.bf x "math.gcd" = true) (hn : (ea :: es).all noStar = true) (hs : PA X (ea :: es) (tEs T CA C X W xi as)) :
    PE X (.Call (.Name x p) (ea :: es) [] pos) (tE T CA C X W xi (.gcd f as)) := by
  obtain ⟨g1, g2, g3⟩ := glb_of ct.g hg
  have hm := ct.g.st.bf x _ hf
  rw [List.all_cons, Bool.and_eq_true] at hn
  refine ⟨fun pins s σ H Q I ⟨ρ, me, mh, at_, h⟩ => ?_⟩
  unfold evE at h
  by_cases hc : me.ex.isSome = true
  · rw [if_pos hc] at h; exact h.elim
  · rw [if_neg hc] at h
    refine (pe_callBfun cr_gcd g1 hm hs g2 (star_cons hn.1) (star_none hn.2)).run pins s σ H Q I ?_
    refine ⟨ρ, me, mh, at_, h.bnd.imp fun u H1 ⟨ρ1, mh1, z, e1, r1, q1, h1⟩ => ?_⟩
    obtain ⟨rs, _⟩ := q1
    cases rs with
    | nil => exact h1.elim
    | cons r2 rs =>
      cases r2 <;> try exact h1.elim
      cases rs with
      | nil => exact h1.elim
      | cons r3 rs =>
        cases r3 <;> try exact h1.elim
        cases rs with
        | nil => exact ⟨_, _, rfl, h1.now r1 (.int _)⟩
        | cons r4 rs => exact h1.elim
/-! ### dicts, displayed -/
theorem key_pe {k : L2.Key} {e : Expr} (h : ckKey k e = true) : PE X e (tC (kV k)) := by
  unfold ckKey at h
  split at h
  · obtain rfl := of_decide_eq_true h; exact pe_int
  · obtain rfl := of_decide_eq_true h; exact pe_str
  · cases h
theorem pps_const : ∀ {kvs : List (L2.Key × L2.Key)} {keys : List (Option Expr)} {vals : List Expr}, ckDc1 kvs keys vals = true → PPs X pos keys vals (kvs.map fun p => (tC (kV p.1), tC (kV p.2))) ∧ keys.all (·.isSome) = true ∧ keys.length = vals.length ∧ keys.length = kvs.length
  | [], [], [], _ => ⟨pps_nil, rfl, rfl, rfl⟩
  | (k, v) :: r, some e :: es, f :: fs, h => by
    unfold ckDc1 at h
    rw [Bool.and_eq_true, Bool.and_eq_true] at h
    obtain ⟨i1, i2, i3, i4⟩ := pps_const h.2
    exact ⟨pps_cons (key_pe h.1.1) (key_pe h.1.2) i1, by simpa using i2, by simp [i3], by simp [i4]⟩
  | [], [], _ :: _, h => by cases h
  | [], _ :: _, _, h => by cases h
  | _ :: _, [], _, h => by cases h
  | _ :: _, none :: _, _, h => by cases h
  | _ :: _, some _ :: _, [], h => by cases h
theorem tPairs_const {σ : L2.St} {H : Hp} : ∀ {kvs : List (L2.Key × L2.Key)} {Q : List (V × V) → Hp → Prop}, Q (kvs.map fun p => (kV p.1, kV p.2)) H → tPairs (kvs.map fun p => (tC (kV p.1), tC (kV p.2))) σ H Q
  | [], _, q => q
  | (k, v) :: r, Q, q => tPairs_const (kvs := r) (Q := fun ps H3 => Q ((kV k, kV v) :: ps) H3) q
theorem pe_dcs {kvs : List (L2.Key × L2.Key)} {keys : List (Option Expr)} {vals : List Expr} (h : ckDc kvs keys vals = true) : PE X (.Dict keys vals pos) (tE T CA C X W xi (.dc kvs)) := by
  unfold ckDc at h
  rw [Bool.and_eq_true, Bool.and_eq_true] at h
  obtain ⟨⟨h1, h2⟩, h3⟩ := h
  obtain ⟨pp, ha, hl, hk⟩ := pps_const (X := X) (pos := pos) h1
  have new : ∀ {σ : L2.St} {H : Hp} {Q : VK}, tE T CA C X W xi (.dc kvs) σ H Q → ∀ p, H p = none → Q (.ref p) (upd H p (.dK (kvs.map fun p => (p.1, kV p.2)))) := fun ⟨ρ, me, mh, at_, h⟩ => by
    unfold evE at h
    exact newD_ok h at_.rh fun ρ' H' _ => rk_const kvs
  cases kvs with
  | nil =>
    cases keys with
    | cons _ _ => simp at hk
    | nil =>
      cases vals with
      | cons _ _ => simp at hl
      | nil => exact PE.to pe_dnewK fun σ H Q q => new q
  | cons kv r =>
    refine PE.to (pe_disp pp ha hl (by intro z; rw [z] at hk; simp at hk) (of_decide_eq_true h2)) fun σ H Q q p hp => ?_
    refine tPairs_const ⟨upd_same, (kv :: r).map (fun p => (p.1, kV p.2)), by rw [List.map_map]; rfl, by have := of_decide_eq_true h2; simp at hk ⊢; omega, ?_⟩
    have nd : ((([] : List (L2.Key × V)) ++ (kv :: r).map (fun p => (p.1, kV p.2))).map (·.1)).Nodup := by
      rw [List.nil_append, List.map_map]
      exact of_decide_eq_true h3
    rw [merge_nodup _ _ nd, List.nil_append, upd_upd]
    exact new q p hp
theorem po_nos : PO X none (tO T CA C X W xi .no) := ⟨fun pins s σ H Q I ⟨ρ, me, mh, at_, h⟩ => po_none.run pins s σ H Q I (by unfold evO at h; exact Aft.now (z := (none : Option Int)) h at_.rh rfl)⟩
theorem po_yess (ha : PE X ea (tE T CA C X W xi a)) : PO X (some ea) (tO T CA C X W xi (.yes a)) := ⟨fun pins s σ H Q I ⟨ρ, me, mh, at_, h⟩ => (po_some ha).run pins s σ H Q I (by
  unfold evO at h
  refine ⟨ρ, me, mh, at_, h.bnd.imp fun u H1 ⟨ρ1, mh1, x, e1, r1, q1, h1⟩ => ?_⟩
  cases q1 <;> first | exact h1.elim | exact ⟨_, rfl, Aft.now (z := some _) h1 r1 rfl⟩)⟩
theorem pa_nils : PA X [] (tEs T CA C X W xi .nil) := PA.to pa_nil fun σ H Q ⟨ρ, me, mh, at_, h⟩ => by
  unfold evEs at h
  exact Aft.now (z := ([] : List MV)) h at_.rh ⟨.nil, rfl⟩
theorem pk_nils : PK X [] (tEs T CA C X W xi .nil) := PK.to pk_nil fun σ H Q ⟨ρ, me, mh, at_, h⟩ => by
  unfold evEs at h
  exact Aft.now (z := ([] : List MV)) h at_.rh ⟨.nil, rfl⟩
theorem cons_ok {as : MEs} {me : Env} {Q : List V → Hp → Prop} (at_ : At CA X xi ρ me mh σ H) (h : Aft X.K CA (RVn CA (as.len + 1)) (fun c d H' => W c d σ H') ρ H (evEs T C me (.cons a as) mh) Q) : tCons (tE T CA C X W xi a) (tEs T CA C X W xi as) σ H Q := by
  unfold evEs at h
  refine ⟨ρ, me, mh, at_, h.bnd.imp fun u H1 ⟨ρ1, mh1, x, e1, r1, q1, h1⟩ => ⟨ρ1, me, mh1, at_.to e1 r1, h1.bnd.imp fun v H2 ⟨ρ2, mh2, y, e2, r2, q2, h2⟩ => ?_⟩⟩
  exact Aft.now (z := x :: y) h2 r2 ⟨.cons (q1.mono e2) q2.1, by rw [List.length_cons, q2.2]⟩
theorem pa_conss {as : MEs} {es : List Expr} (hn : noStar ea = true) (ha : PE X ea (tE T CA C X W xi a)) (hs : PA X es (tEs T CA C X W xi as)) : PA X (ea :: es) (tEs T CA C X W xi (.cons a as)) :=
  PA.to (pa_cons ha hs (star_cons hn)) fun σ H Q ⟨ρ, me, mh, at_, h⟩ => cons_ok at_ h
theorem pk_conss {as : MEs} {es : List Keyword} {nm : Option Str} {p : Pos} (ha : PE X ea (tE T CA C X W xi a)) (hs : PK X es (tEs T CA C X W xi as)) : PK X (⟨nm, ea, p⟩ :: es) (tEs T CA C X W xi (.cons a as)) :=
  PK.to (pk_cons ha hs) fun σ H Q ⟨ρ, me, mh, at_, h⟩ => cons_ok at_ h
theorem pe_tups {as : MEs} {es : List Expr} {n : Nat} (hs : PA X es (tEs T CA C X W xi as)) : PE X (.Tuple es n pos) (tE T CA C X W xi (.tup as)) :=
  PE.to (pe_tup hs) fun σ H Q ⟨ρ, me, mh, at_, h⟩ => by
    unfold evE at h
    refine ⟨ρ, me, mh, at_, h.bnd.imp fun u H1 ⟨ρ1, mh1, x, e1, r1, q1, h1⟩ => ?_⟩
    by_cases hz : x.length ≤ sizeLine
    · rw [if_pos hz] at h1
      exact ⟨by rw [← q1.1.length]; exact hz, newT_ok h1 r1 q1.1⟩
    · rw [if_neg hz] at h1; exact h1.elim
theorem pe_lsts {as : MEs} {es : List Expr} (hs : PA X es (tEs T CA C X W xi as)) : PE X (.List es pos) (tE T CA C X W xi (.lst as)) :=
  PE.to (pe_lst hs) fun σ H Q ⟨ρ, me, mh, at_, h⟩ => by
    unfold evE at h
    exact ⟨ρ, me, mh, at_, h.bnd.imp fun u H1 ⟨ρ1, mh1, x, e1, r1, q1, h1⟩ => newL_ok h1 r1 q1.1⟩
theorem pe_bis {as : MEs} {bb : BI} {x : Str} {p : Pos} {es : List Expr} (ct : Ct T CA N sc C X W xi) (hx : x = nmB bb) (hg : glb sc x = true) (hf : T.free x = true) (hn : (ea :: es).all noStar = true) (hs : PA X (ea :: es) (tEs T CA C X W xi as)) :
    PE X (.Call (.Name x p) (ea :: es) [] pos) (tE T CA C X W xi (.bi bb as)) := by
  obtain ⟨g1, g2, g3⟩ := glb_of ct.g hg
  have hm := ct.g.st.free x hf
  rw [List.all_cons, Bool.and_eq_true] at hn
  refine ⟨fun pins s σ H Q I ⟨ρ, me, mh, at_, h⟩ => ?_⟩
  unfold evE at h
  by_cases hc : calmB bb = true ∧ me.ex.isSome = true
  · rw [if_pos hc] at h; exact h.elim
  · rw [if_neg hc] at h
    have hcalm : calmB bb = true → X.calm = true := fun z => at_.cm (by
      cases q : me.ex.isSome with
      | false => rfl
      | true => exact absurd ⟨z, q⟩ hc)
    have R := bi_ok (T := T) (CA := CA) (W := fun c d H' => W c d σ H') ct.g.st ct.g.gd ct.g.un bb hcalm
    have hb := boot_B bb
    rw [← hx] at hb
    have q : tCB (rB T CA X.K (fun c d H' => W c d σ H') bb) (tEs T CA C X W xi as) σ H Q := ⟨ρ, me, mh, at_, h.bnd.imp fun u H1 ⟨ρ1, mh1, z, e1, r1, q1, h1⟩ => ⟨ρ1, mh1, z, q1.1, r1, h1⟩⟩
    cases bb with
    | str1 => exact (pe_callTy R g1 hm hb hs g3 g2 (star_cons hn.1) (star_none hn.2)).run pins s σ H Q I q
    | int1 => exact (pe_callTy R g1 hm hb hs g3 g2 (star_cons hn.1) (star_none hn.2)).run pins s σ H Q I q
    | list1 => exact (pe_callTy R g1 hm hb hs g3 g2 (star_cons hn.1) (star_none hn.2)).run pins s σ H Q I q
    | tuple1 => exact (pe_callTy R g1 hm hb hs g3 g2 (star_cons hn.1) (star_none hn.2)).run pins s σ H Q I q
    | _ => exact (pe_callB R g1 hm hb hs g3 g2 (star_cons hn.1) (star_none hn.2)).run pins s σ H Q I q
end
end Mi
end

section
/-! Mini: enumerate over a tuple. -/
namespace Mi
open PySem PySem.Spec PyProof.Rows L2

theorem meets_enum_tup (l : Addr) (items : Array Value) (n : Nat) (dct : Option Addr) (sl : Array (Option Value)) :
    Meets (Builtin.«enumerate.__new__» ⟨[.type "enumerate", .ref l], []⟩) (fun _ R s => s.heap.get? l = some { cls := .type "tuple", dict := dct, data := .seq items n, slots := sl } ∧
      R (.ok (.ret (.ref (s.heap.push { cls := .type "tuple_iterator", data := .fields #[.ref l, .int 0 0] }).objs.size)))
        { s with heap := (s.heap.push { cls := .type "tuple_iterator", data := .fields #[.ref l, .int 0 0] }).push { cls := .type "enumerate", data := .fields #[.none, .bool false, .ref s.heap.objs.size, rawInt 0, .none, .none] } }) :=
  .of_wp fun prog w A R s h => by
    obtain ⟨hp, g, d, tk, os⟩ := s; obtain ⟨hl, h⟩ := h
    have hsub := sub_enumerate
    have hL : Heap.IsTuple (Shared.heap ⟨hp, g, d, tk, os⟩) l items := ⟨_, hl, rfl, n, rfl⟩
    wp_walk using AutoSeq1.wpAny_loadPart' hl
    refine wpAny_stack_any fun st => wpAny_pure ?_
    split
    · rename_i c _ _ _ _ _
      cases (c == Value.type "enumerate")
      · wp_walk using AutoSeq1.wpAny_loadPart' hl, wpAny_pyIter_tuple hL
        exact ⟨_, rfl, h⟩
      · wp_walk using AutoSeq1.wpAny_loadPart' hl, wpAny_pyIter_tuple hL
        exact ⟨_, rfl, h⟩
    · wp_walk using AutoSeq1.wpAny_loadPart' hl, wpAny_pyIter_tuple hL
      exact ⟨_, rfl, h⟩
section
variable {prog : Program} {w : World} {A : Around} {E : Value → Shared → Prop} {s : Shared}
theorem call_enum_tup {l : Addr} {items : Array Value} {Q : Value → Shared → Prop} (hL : s.heap.IsTuple l items)
    (h : ∀ h', IsEnum h' (s.heap.objs.size + 1) s.heap.objs.size 0 .none → h'.IsTupleIter s.heap.objs.size l 0 → (∀ b o, s.heap.get? b = some o → h'.get? b = some o) → Q (.ref (s.heap.objs.size + 1)) { s with heap := h' }) :
    wpAny (model prog w) A (call (.type "enumerate") [.ref l]) Q E s := by
  obtain ⟨⟨c, dct, dt, sl⟩, hl, hc, n, hd⟩ := hL
  replace hc : c = .type "tuple" := hc
  replace hd : dt = .seq items n := hd
  subst hc hd
  refine callType_new F.called_enumerate (by decide) (F.typeCall_enumerate_1 _) (F.newCall_enumerate_1 _) (fun obj => F.args_object_init_2 obj _) F.entry_enumerate_new
    (meets_enum_tup l items n dct sl) ⟨hl, ?_⟩
  have hz : (s.heap.push { cls := .type "tuple_iterator", data := .fields #[.ref l, .int 0 0] }).objs.size = s.heap.objs.size + 1 := Heap.size_push ..
  show _ ∧ _
  rw [hz]
  have he : IsEnum ((s.heap.push { cls := .type "tuple_iterator", data := .fields #[.ref l, .int 0 0] }).push
      { cls := .type "enumerate", data := .fields #[.none, .bool false, .ref s.heap.objs.size, rawInt 0, .none, .none] }) (s.heap.objs.size + 1) s.heap.objs.size 0 .none := by
    have := Heap.get?_push_size (s.heap.push { cls := .type "tuple_iterator", data := .fields #[.ref l, .int 0 0] })
      (o := { cls := .type "enumerate", data := .fields #[.none, .bool false, .ref s.heap.objs.size, rawInt 0, .none, .none] }) rfl
    rw [hz] at this; exact this
  exact ⟨⟨_, he, rfl⟩, h _ he ⟨_, Heap.get?_push_of_some _ (Heap.get?_push_size _ rfl), rfl, rfl⟩ fun b o x => Heap.get?_push_of_some _ (Heap.get?_push_of_some _ x)⟩
end
/-- the tuple at a, each item in a new pair -/
def IteT (K : PySem.W.Frag) (a : Addr) : L2.It :=
  ⟨fun i H => ∃ (xs : List V) (x : V), SqT K H a xs ∧ xs[i]? = some x, fun i H v H' => ∃ T x, v = .ref T ∧ H T = none ∧ H' = upd H T (.tup [.int (i : Nat), x]) ∧ ∀ xs, SqT K H a xs → xs[i]? = some x, fun i H => ∃ xs : List V, SqT K H a xs ∧ xs.length ≤ i⟩
theorem turn_enumT {P : Program} {w : World} {K : PySem.W.Frag} {elts : List Expr} {kk : Nat} {tpos : Pos} (a e it : Addr) :
    Turn P w K (.Tuple elts kk tpos) (IteT K a) [e, it] e (fun i h => (∃ old, IsEnum h e it ((i : Nat) : Int) old) ∧ h.IsTupleIter it a i ∧ e ≠ it) where
  mem := by simp
  obj := fun i h st b hb => by
    obtain ⟨⟨old, he⟩, ⟨o, ho, hc, hd⟩, _⟩ := st
    have e' : b = e ∨ b = it := by simpa using hb
    rcases e' with z | z
    · rw [z]; exact ⟨_, he, fun v q => nomatch q⟩
    · rw [z]; exact ⟨o, ho, fun v q => by rw [hd] at q; cases q⟩
  keep := fun i h h' st k => let ⟨⟨old, he⟩, hi, hne⟩ := st; ⟨⟨old, k e (by simp) _ he⟩, hi.at fun o q => k it (by simp) o q, hne⟩
  item := by
    intro X hP hw hK hc i pins s σ H E I hf st hg
    subst hP hw hK
    obtain ⟨⟨old, he⟩, hit, hne⟩ := st
    obtain ⟨xs, x, hq, hx⟩ := hg
    obtain ⟨its, rv, p, hz⟩ := I.tuple hq
    obtain ⟨u, hu, ru⟩ := rv.get hx
    have hel : e < s.heap.objs.size := Heap.lt_size he
    have hil : it < s.heap.objs.size := by obtain ⟨_, q, _⟩ := hit; exact Heap.lt_size q
    have pT : s.heap.IsTuple a its.toArray := p
    have ae : a ≠ e := fun z => by
      obtain ⟨o, ho, hoc, _⟩ := pT
      rw [z, he] at ho
      cases ho
      have hoc' : Value.type "enumerate" = Value.type "tuple" := hoc
      exact absurd hoc' (by simp)
    have ai : a ≠ it := fun z => by
      obtain ⟨o, ho, hoc, _⟩ := pT
      obtain ⟨o2, ho2, hoc2, _⟩ := hit
      rw [z, ho2] at ho
      cases ho
      rw [hoc2] at hoc
      exact absurd hoc (by simp)
    have hlt : i < its.toArray.size := by
      have := (List.getElem?_eq_some_iff.mp hu).1
      simpa using this
    have hA : X.A.in1.handled = none := I.ok.hd hc
    refine wpAny_pyNext_enum_itemC (Draws.tuple (prog := X.prog) (w := X.w) hA it a ai its.toArray) he ⟨hit, pT⟩ hlt hne (by simp [hne, Ne.symm ae]) fun y h' tk hy ho hit' hT hsz hk => ?_
    have ey : y = u := by
      have hy' : its.toArray[i]? = some y := hy
      have hu' : its.toArray[i]? = some u := by simpa using hu
      rw [hu'] at hy'
      exact (Option.some.inj hy').symm
    subst ey
    refine ⟨_, rfl, wpAny_letOwnedTupleGo_enum (s := { s with heap := h', toks := tk + 1 }) ho fun h'' he' sb => ?_⟩
    have hT2 : h''.get? s.heap.objs.size = some { cls := .type "tuple", data := .seq #[.int i tk, y] } := (sb.2 _ (Nat.ne_of_gt hel)).trans hT
    have new : ObjOk X.prog X.w (upd H s.heap.objs.size (.tup [.int (i : Nat), x])) h'' s.heap.objs.size (.tup [.int (i : Nat), x]) :=
      ⟨by show 2 ≤ sizeLine; decide, [.int i tk, y], .cons ⟨_, rfl⟩ (.cons ru .nil), ⟨_, hT2, rfl, _, rfl⟩⟩
    have I1 : L2.Inv X pins σ (upd H s.heap.objs.size (.tup [.int (i : Nat), x])) { s with heap := h'', toks := tk + 1 } :=
      I.turnedNew (ch := [e, it]) (fun b ob hb q => (sb.2 b (fun z => hb (by simp [z]))).trans (hk b ob (fun z => hb (by simp [z])) (fun z => hb (by simp [z])) q)) hf (Nat.le_refl _) new
    refine ⟨.ref s.heap.objs.size, _, I1, rfl, ⟨_, x, rfl, I.hok.fresh (Nat.le_refl _), rfl, fun ys hy => by rw [I.tuple_inj hy hq]; exact hx⟩, ⟨⟨y, ?_⟩, hit'.1.at fun o q => (sb.2 it (Ne.symm hne)).trans q, hne⟩, fun b hb => ?_⟩
    · have e1 : ((i + 1 : Nat) : Int) = (i : Int) + 1 := by omega
      rw [e1]; exact he'
    · have hb' : b < s.heap.objs.size := by
        have e' : b = e ∨ b = it := by simpa using hb
        rcases e' with z | z
        · rw [z]; exact hel
        · rw [z]; exact hil
      rw [upd_ne (Nat.ne_of_lt hb')]
      exact (hf b hb).1
  done := by
    intro X hP hw hK hc i pins s σ H E I hf st hg
    subst hP hw hK
    obtain ⟨⟨old, he⟩, hit, hne⟩ := st
    obtain ⟨xs, hq, hx⟩ := hg
    obtain ⟨its, rv, p, hz⟩ := I.tuple hq
    obtain ⟨f0, f1, f2, f3, f4, f5⟩ := hf it (by simp)
    have hl := rv.length
    have pT : s.heap.IsTuple a its.toArray := p
    have hT : s.TypeIs (.ref e) "enumerate" := ⟨_, he, rfl⟩
    have hA : X.A.in1.handled = none := I.ok.hd hc
    unfold pyNext
    refine wpAny_bind (wpAny_attempt (wpAny_callSpecial?_slot (name := Str.ofString "__next__") hT F.slot_enumerate_next
      (wpAny_call_entry F.slot_enumerate_next hT F.entry_enumerate_next ?_ (F.args_enumerate_next_1 _))))
    show wpAny _ _ (field (.ref e) 2 >>= _) _ _ _
    refine wpAny_bind (wpAny_field he rfl (x := .ref it) rfl ?_)
    refine wpAny_bind (PySem.wpAny_nextOf_tuple_end hA hit pT (by simp; omega) fun h' x he' hx' => ?_)
    obtain ⟨o, ho, hc'⟩ := hx'
    refine wpAny_bind (wpAny_isInstance (T := "StopIteration") (b := true) ⟨o, ho, hc'⟩ isSubtype_stop ?_)
    exact wpAny_pure ⟨rfl, I.turned (t' := s.toks) (fun b o hb q => he' b o hb q) f0 f1 f3 f4 f5⟩
  self := fun A i s Q E st h => let ⟨⟨_, he⟩, _⟩ := st; wpAny_pyIter_enum he h
theorem pi_enumT {X : Cx} {e : Expr} {ta : TA} {p pos tpos : Pos} {elts : List Expr} {kk : Nat} (hg : Gl X "enumerate") (hm : X.mg "enumerate" = none) (ha : PA X [e] ta) (hs : starEach [e] X.env = [(false, eval e X.env)]) :
    PI X (.Tuple elts kk tpos) (.Call (.Name "enumerate" p) [e] [] pos) (fun σ H R => ta σ H fun vs H1 => ∃ a, vs = [.ref a] ∧ ((∃ xs, SqL X.K H1 a xs ∧ R (Ite X.K a) H1) ∨ ∃ xs, SqT X.K H1 a xs ∧ R (IteT X.K a) H1)) := by
  refine ⟨fun pins s σ H R I h => ?_⟩
  refine Call_ (ld_blt I hg hm boot_enumerate (PyProof.Rows.callWith_type1 (thn (ha.run pos pins s σ H _ I h) fun us s1 ⟨vs, H1, I1, r1, q1⟩ => ?_) hs rfl))
  obtain ⟨a, ex, q1⟩ := q1
  subst ex
  cases r1 with
  | cons r rr =>
    cases rr
    cases r
    have fr : ∀ b, b = s1.heap.objs.size + 1 ∨ b = s1.heap.objs.size → FpOk X pins H1 b := fun b e' => by
      have hle : s1.heap.objs.size ≤ b := by
        rcases e' with z | z
        · rw [z]; exact Nat.le_add_right _ _
        · rw [z]; exact Nat.le_refl _
      exact I1.fpOk hle (I1.hok.fresh hle)
    rcases q1 with ⟨xs, hq, q⟩ | ⟨xs, hq, q⟩
    · obtain ⟨its, rv, p', hz⟩ := I1.list hq
      refine call_enumerate_list p'.isList fun h' he hit hsz hk => wpAny_pyIter_enum he ?_
      exact ⟨s1.heap.objs.size + 1, [s1.heap.objs.size + 1, s1.heap.objs.size], _, _, H1, rfl, I1.kept (t' := s1.toks) hk, turn_enum a (s1.heap.objs.size + 1) s1.heap.objs.size, ⟨⟨.none, he⟩, hit, Nat.succ_ne_self _⟩, fun b hb => fr b (by simpa using hb), q⟩
    · obtain ⟨its, rv, p', hz⟩ := I1.tuple hq
      refine call_enum_tup (show s1.heap.IsTuple a its.toArray from p') fun h' he hit hk => wpAny_pyIter_enum he ?_
      exact ⟨s1.heap.objs.size + 1, [s1.heap.objs.size + 1, s1.heap.objs.size], _, _, H1, rfl, I1.kept (t' := s1.toks) hk, turn_enumT a (s1.heap.objs.size + 1) s1.heap.objs.size, ⟨⟨.none, he⟩, hit, Nat.succ_ne_self _⟩, fun b hb => fr b (by simpa using hb), q⟩
end Mi
end

section
/-! Mini, part 8: calls and comprehensions within expressions; every expression that the look lets by does what its small one does. -/
namespace Mi
open PySem PySem.Spec PyProof.Rows L2

section
variable {T : Tab} {CA : Str → Addr} {N : List Str} {sc : Scope} {C : CallF} {X : Cx} {W : WX} {xi : Option (Nat × Addr × Addr)} {ρ ρ1 : Rho} {me : Env} {mh mh1 : MH} {σ : L2.St} {H H1 : Hp}
variable {a b c : ME} {ea eb ec : Expr} {pos : Pos}
theorem ckEs_len : ∀ {as : MEs} {es : List Expr}, ckEs T N sc as es = true → as.len = es.length
  | .nil, [], _ => rfl
  | .cons _ as, _ :: es, h => by
    unfold ckEs at h
    rw [Bool.and_eq_true] at h
    show as.len + 1 = es.length + 1
    rw [ckEs_len h.2]
  | .nil, _ :: _, h => by unfold ckEs at h; cases h
  | .cons _ _, [], h => by unfold ckEs at h; cases h
theorem ckK_len : ∀ {as : MEs} {es : List Keyword}, ckK T N sc as es = true → as.len = es.length
  | .nil, [], _ => rfl
  | .cons _ as, ⟨_, _, _⟩ :: es, h => by
    unfold ckK at h
    rw [Bool.and_eq_true] at h
    show as.len + 1 = es.length + 1
    rw [ckK_len h.2]
  | .nil, _ :: _, h => by unfold ckK at h; cases h
  | .cons _ _, [], h => by unfold ckK at h; cases h
theorem kwNames_len : ∀ {kws : List Keyword} {ks : List Str}, kwNames kws ks = true → kws.length = ks.length
  | [], [], _ => rfl
  | ⟨some n, e, p⟩ :: r, k :: ks, h => by
    have h' : (decide (n = k) && kwNames r ks) = true := h
    rw [Bool.and_eq_true] at h'
    rw [List.length_cons, List.length_cons, kwNames_len h'.2]
  | ⟨none, _, _⟩ :: _, _ :: _, h => by cases h
  | ⟨none, _, _⟩ :: _, [], h => by cases h
  | ⟨some _, _, _⟩ :: _, [], h => by cases h
  | [], _ :: _, h => by cases h
theorem tEs_nil {es : List Expr} {as : MEs} (hl : as.len = es.length) (he : es = []) (σ : L2.St) (H : Hp) (Q : List V → Hp → Prop) (h : tEs T CA C X W xi as σ H Q) : Q [] H := by
  subst he
  cases as with
  | nil =>
    obtain ⟨ρ, me, mh, at_, h⟩ := h
    unfold evEs at h
    exact Aft.now (z := ([] : List MV)) h at_.rh ⟨.nil, rfl⟩
  | cons a as => cases hl

/-- f(..) -/
theorem pe_calls {as bs : MEs} {x f : Str} {p : Pos} {es : List Expr} {kws : List Keyword} {ks : List Str} {pm : List Nat} {fi : FnI} (ct : Ct T CA N sc C X W xi) (hx : x = f) (hg : glb sc x = true) (hf : T.fn f = some fi) (hp : (es.length, ks, pm) ∈ fi.pats)
    (hpm : ∀ i ∈ pm, i < ks.length) (hks : kwNames kws ks = true) (hn : es.all noStar = true) (hl : as.len = es.length) (hl2 : bs.len = kws.length) (ha : PA X es (tEs T CA C X W xi as)) (hb : PK X kws (tEs T CA C X W xi bs)) :
    PE X (.Call (.Name x p) es kws pos) (tE T CA C X W xi (.call f as ks bs pm)) := by
  subst hx
  obtain ⟨g1, g2, g3⟩ := glb_of ct.g hg
  refine ⟨fun pins s σ H Q I ⟨ρ, me, mh, at_, h⟩ => ?_⟩
  unfold evE at h
  cases hcm : X.calm with
  | true =>
    obtain ⟨k, hr, cs⟩ := ct.cl hcm
    obtain ⟨g, hm, hk, F⟩ := cs.fn x fi hf
    refine (pe_cal (r := rFn CA C X W fi ks pm) hn hks ha (fun e σ H Q q => tEs_nil hl e σ H Q q) hb g1 hm hk (cal_fn F (hr.mono (Nat.le_succ _)) ct.tk) g2).run pins s σ H Q I ?_
    refine ⟨ρ, me, mh, at_, h.bnd.imp fun vs H1 ⟨ρ1, mh1, ms, e1, r1, q1, h1⟩ => ⟨ρ1, me, mh1, at_.to e1 r1, h1.bnd.imp fun zs H2 ⟨ρ2, mh2, ns, e2, r2, q2, h2⟩ => ?_⟩⟩
    unfold callM at h2
    rw [hf] at h2
    simp only at h2
    cases e : argsOf fi.np ms ns pm with
    | none => rw [e] at h2; exact h2.elim
    | some as' =>
      rw [e] at h2
      have l1 : vs.length = es.length := by rw [← hl, ← q1.2, q1.1.length]
      have l2 : zs.length = ks.length := by rw [← kwNames_len hks, ← hl2, ← q2.2, q2.1.length]
      exact ⟨ρ2, mh2, ms, ns, as', q1.1.mono e2, q2.1, r2, e, by rw [l1]; exact hp, hpm, l2, h2⟩
  | false =>
    cases ee : me.ex with
    | none => exact absurd (at_.cm (by rw [ee]; rfl)) (by rw [hcm]; decide)
    | some q0 =>
    obtain ⟨j0, n0⟩ := q0
    obtain ⟨a0, d0, hxi, _⟩ := at_.rs.ex j0 n0 ee
    obtain ⟨oe, cc, vs0, hpn, hz, hdt, hh, xf, hno⟩ := (ct.xi j0 a0 d0 hxi).ex
    have hot : HotP T CA X.K X.A (a0, oe) d0 := ⟨⟨hh, vs0, hdt, hz.2.2 vs0 hdt⟩, cc, vs0, hz, hdt, xf, hno⟩
    obtain ⟨g, hm, hk, F0⟩ := ct.hc x fi hf
    obtain ⟨kk, rm, F⟩ : ∃ kk, RMH kk X.A ∧ FnRH T CA C kk X g fi := by
      have no : C = noCall → ∀ kk, FnRH T CA C kk X g fi := fun z kk => by
        obtain ⟨fd, ps, pt, _⟩ := F0.ex
        exact ⟨fd, ps, pt, by rw [z]; exact fnmh_no⟩
      rcases ct.rh with r | ⟨z, r, _⟩
      · rcases ct.ch hcm with z | z
        · exact ⟨2, r, no z 2⟩
        · exact ⟨2, r, by rw [z]; exact F0⟩
      · exact ⟨1, r, no z 1⟩
    refine (pe_cal (r := rFn CA C X W fi ks pm) hn hks ha (fun e σ H Q q => tEs_nil hl e σ H Q q) hb g1 hm hk (cal_fnH F rm hot hpn ct.tk) g2).run pins s σ H Q I ?_
    refine ⟨ρ, me, mh, at_, h.bnd.imp fun vs H1 ⟨ρ1, mh1, ms, e1, r1, q1, h1⟩ => ⟨ρ1, me, mh1, at_.to e1 r1, h1.bnd.imp fun zs H2 ⟨ρ2, mh2, ns, e2, r2, q2, h2⟩ => ?_⟩⟩
    unfold callM at h2
    rw [hf] at h2
    simp only at h2
    cases e : argsOf fi.np ms ns pm with
    | none => rw [e] at h2; exact h2.elim
    | some as' =>
      rw [e] at h2
      have l1 : vs.length = es.length := by rw [← hl, ← q1.2, q1.1.length]
      have l2 : zs.length = ks.length := by rw [← kwNames_len hks, ← hl2, ← q2.2, q2.1.length]
      exact ⟨ρ2, mh2, ms, ns, as', q1.1.mono e2, q2.1, r2, e, by rw [l1]; exact hp, hpm, l2, h2⟩
/-- C(..) -/
theorem pe_mks {as : MEs} {x cn : Str} {p : Pos} {es : List Expr} {fi : FnI} (ct : Ct T CA N sc C X W xi) (hx : x = cn) (hg : glb sc x = true) (ho : T.own cn = true) (hf : T.me cn "__init__" = some fi) (hp : (fi.np, [], []) ∈ fi.pats)
    (hn : es.all noStar = true) (hl : as.len = es.length) (ha : PA X es (tEs T CA C X W xi as)) : PE X (.Call (.Name x p) es [] pos) (tE T CA C X W xi (.mk cn as)) := by
  subst hx
  obtain ⟨g1, g2, g3⟩ := glb_of ct.g hg
  refine ⟨fun pins s σ H Q I ⟨ρ, me, mh, at_, h⟩ => ?_⟩
  unfold evE at h
  by_cases hc : me.ex.isSome = true
  · rw [if_pos hc] at h; exact h.elim
  · rw [if_neg hc] at h
    obtain ⟨k, hr, cs⟩ := ct.cl (at_.cm (by simpa using hc))
    obtain ⟨g, M, F⟩ := cs.mkc x fi hf
    refine (pe_cal (ks := []) (r := rMk T CA C X W x) hn rfl ha (fun e σ H Q q => tEs_nil hl e σ H Q q) pk_nil g1 (ct.g.st.cls x ho) M.kp (cal_mk hf hp M F hr ct.tk) g2).run pins s σ H Q I ?_
    exact ⟨ρ, me, mh, at_, h.bnd.imp fun vs H1 ⟨ρ1, mh1, ms, e1, r1, q1, h1⟩ => ⟨ρ1, mh1, ms, q1.1, r1, rfl, h1⟩⟩
/-- o.m(..) -/
theorem pe_meths {as bs : MEs} {m : Str} {ap : Pos} {es : List Expr} {kws : List Keyword} {ks : List Str} {pm : List Nat} (ct : Ct T CA N sc C X W xi) (hr : plainRecv ea = true) (hp : T.mp m (es.length + 1, ks, pm) = true)
    (hpm : ∀ i ∈ pm, i < ks.length) (hks : kwNames kws ks = true) (hn : es.all noStar = true) (hl : as.len = es.length) (hl2 : bs.len = kws.length) (h29 : es.length + kws.length < 29) (hli : (ap.endLine == pos.line) = true)
    (hop : PE X ea (tE T CA C X W xi a)) (ha : PA X es (tEs T CA C X W xi as)) (hb : PK X kws (tEs T CA C X W xi bs)) : PE X (.Call (.Attribute ea m ap) es kws pos) (tE T CA C X W xi (.meth a m as ks bs pm)) := by
  refine ⟨fun pins s σ H Q I ⟨ρ, me, mh, at_, h⟩ => ?_⟩
  unfold evE at h
  by_cases hc : me.ex.isSome = true
  · rw [if_pos hc] at h; exact h.elim
  · rw [if_neg hc] at h
    obtain ⟨k, hrm, cs⟩ := ct.cl (at_.cm (by simpa using hc))
    refine (pe_mth (r := fun g vs zs σ H Q => ∃ fi, FnR CA C k X g fi ∧ rFn CA C X W fi ks pm vs zs σ H Q) hr hn hks h29 hli hop ha (fun e σ H Q q => tEs_nil hl e σ H Q q) hb
      (fun g _ pins s σ H us ws vs zs Q I r1 r2 q => by
        obtain ⟨fi, F, q⟩ := q
        exact cal_fn F (hrm.mono (Nat.le_succ _)) ct.tk pins s σ H us ws vs zs Q I r1 r2 q)).run pins s σ H Q I ?_
    refine ⟨ρ, me, mh, at_, h.bnd.imp fun u H1 ⟨ρ1, mh1, x, e1, r1, q1, h1⟩ => ?_⟩
    cases q1 with
    | @ref n pa q =>
      unfold methM at h1
      simp only at h1
      cases g : mh1.get n with
      | none => rw [g] at h1; exact h1.elim
      | some o =>
        rw [g] at h1
        cases o <;> try exact h1.elim
        rename_i cn fs
        simp only at h1
        cases l : fs.lookup m with
        | some z => rw [l] at h1; exact h1.elim
        | none =>
          rw [l] at h1
          cases hme : T.me cn m with
          | none => rw [hme] at h1; exact h1.elim
          | some fi =>
            rw [hme] at h1
            simp only at h1
            obtain ⟨dx, gs, ho, hfs⟩ := r1.at g q
            obtain ⟨gf, hcl, hmt, F⟩ := cs.me cn m fi hme
            refine ⟨pa, CA cn, dx, gs, gf, rfl, ho, hcl, hmt, RF.lookup_none hfs l, ?_⟩
            refine ⟨ρ1, me, mh1, at_.to e1 r1, h1.bnd.imp fun vs H2 ⟨ρ2, mh2, ms, e2, r2, q2, h2⟩ => ⟨ρ2, me, mh2, (at_.to e1 r1).to e2 r2, h2.bnd.imp fun zs H3 ⟨ρ3, mh3, ns, e3, r3, q3, h3⟩ => ?_⟩⟩
            cases e : argsOf fi.np (.ref n :: ms) ns pm with
            | none => rw [e] at h3; exact h3.elim
            | some as' =>
              rw [e] at h3
              have l1 : vs.length = es.length := by rw [← hl, ← q2.2, q2.1.length]
              have l2 : zs.length = ks.length := by rw [← kwNames_len hks, ← hl2, ← q3.2, q3.1.length]
              have hnp : (vs.length + 1) + ks.length = fi.np := by
                unfold argsOf at e
                simp only at e
                split at e
                · rename_i hh
                  have := hh.2.1
                  rw [List.length_cons, q2.1.length, q3.1.length, l2] at this
                  exact this
                · cases e
              exact ⟨fi, F, ρ3, mh3, .ref n :: ms, ns, as', .cons (.ref ((e2.trans e3).map _ _ q)) (q2.1.mono e3), q3.1, r3, e,
                cs.mp cn m fi (vs.length + 1, ks, pm) hme (by rw [l1]; exact hp) hnp, hpm, l2, h3⟩
    | _ => exact h1.elim
/-- o.append(v) -/
theorem pe_apps {ap : Pos} (hr : plainRecv ea = true) (hn : noStar eb = true) (hli : (ap.endLine == pos.line) = true) (hop : PE X ea (tE T CA C X W xi a)) (hb : PE X eb (tE T CA C X W xi b)) : PE X (.Call (.Attribute ea "append" ap) [eb] [] pos) (tE T CA C X W xi (.app a b)) :=
  PE.to (pe_bm PySem.F.plainAttrs_list PySem.F.slot_list_append PySem.F.type_list_append (r := rAppend) mt_append hop (pa_cons hb pa_nil (star_cons hn)) (base_plain hr) (by
      rw [star_cons hn]; rfl) hli (star_cons hn) rfl) fun σ H Q ⟨ρ, me, mh, at_, h⟩ => by
    unfold evE at h
    refine ⟨ρ, me, mh, at_, h.bnd.imp fun u H1 ⟨ρ1, mh1, x, e1, r1, q1, h1⟩ => ?_⟩
    cases q1 with
    | @ref n pa q =>
      have h1' : Aft X.K CA (RV CA) (fun c d H' => W c d σ H') ρ1 H1 (M.bind (isLst (.ref n)) (fun _ => M.bind (evE T C me b) fun v => appM (.ref n) v) mh1) Q := h1
      unfold M.bind isLst at h1'
      simp only at h1'
      cases g : mh1.get n with
      | none => rw [g] at h1'; exact h1'.elim
      | some o =>
        rw [g] at h1'
        cases o <;> try exact h1'.elim
        rename_i xs
        have h2 : Aft X.K CA (RV CA) (fun c d H' => W c d σ H') ρ1 H1 (M.bind (evE T C me b) (fun v => appM (.ref n) v) mh1) Q := h1'
        obtain ⟨vs, ho, rs⟩ := r1.at g q
        refine ⟨.inl ⟨rfl, vs, SqL.of ho⟩, ρ1, me, mh1, at_.to e1 r1, h2.bnd.imp fun v H2 ⟨ρ2, mh2, y, e2, r2, q2, h3⟩ => ?_⟩
        have q' := e2.map _ _ q
        unfold appM at h3
        simp only at h3
        cases g2 : mh2.get n with
        | none => rw [g2] at h3; exact h3.elim
        | some o2 =>
          rw [g2] at h3
          cases o2 <;> try exact h3.elim
          rename_i ys
          simp only at h3
          by_cases hz : ys.length < sizeLine
          · rw [if_pos hz] at h3
            obtain ⟨ws, ho2, rs2⟩ := r2.at g2 q'
            obtain ⟨r3, e3⟩ := r2.write (o' := .lst (ys ++ [y])) (u := .lst (ws ++ [v])) g2 q' rfl rfl fun H' eq ex => ⟨_, by rw [eq, upd_same], (rs2.append (.cons q2 .nil)).mono ex⟩
            exact ⟨pa, ws, v, rfl, rfl, ho2, by rw [← rs2.length]; exact hz, h3 ρ2 _ .non e3 r3 .non⟩
          · rw [if_neg hz] at h3; exact h3.elim
    | _ => exact h1.elim
/-- o.f -/
theorem pe_flds {f : Str} (ct : Ct T CA N sc C X W xi) (hr : plainRecv ea = true) (hop : PE X ea (tE T CA C X W xi a)) : PE X (.Attribute ea f pos) (tE T CA C X W xi (.fld a f)) :=
  PE.to (pe_fld hop (base_plain hr)) fun σ H Q ⟨ρ, me, mh, at_, h⟩ => by
    unfold evE at h
    refine ⟨ρ, me, mh, at_, h.bnd.imp fun u H1 ⟨ρ1, mh1, x, e1, r1, q1, h1⟩ => ?_⟩
    cases q1 with
    | @ref n pa q =>
      unfold fldM at h1
      simp only at h1
      cases g : mh1.get n with
      | none => rw [g] at h1; exact h1.elim
      | some o =>
        rw [g] at h1
        cases o <;> try exact h1.elim
        rename_i cn fs
        simp only at h1
        by_cases hz : T.noat cn f = true
        · rw [if_pos hz] at h1
          cases l : fs.lookup f with
          | none => rw [l] at h1; exact h1.elim
          | some w =>
            rw [l] at h1
            obtain ⟨dx, gs, ho, hfs⟩ := r1.at g q
            obtain ⟨z, h3, h4⟩ := RF.lookup hfs l
            obtain ⟨n1, n2⟩ := ct.g.st.noat cn f hz
            exact ⟨pa, CA cn, dx, gs, z, rfl, ho, n2, n1, h3, h1.now r1 h4⟩
        · rw [if_neg hz] at h1; exact h1.elim
    | _ => exact h1.elim

/-! ### iterators -/
def RIt (K : PySem.W.Frag) (CA : Str → Addr) (ρ : Rho) (H : Hp) : It → L2.It → Prop
  | .lst n, J => ∃ a, ρ n = some a ∧ J = Itl K a
  | .tup xs, J => ∃ a vs, H a = some (.tup vs) ∧ RVs CA ρ H xs vs ∧ J = Itt K a
  | .rng lo n, J => J = Itr lo n
  | .enum n, J => ∃ a, ρ n = some a ∧ J = Ite K a
  | .enumT xs, J => ∃ a vs, H a = some (.tup vs) ∧ RVs CA ρ H xs vs ∧ J = IteT K a
def tI (T : Tab) (CA : Str → Addr) (C : CallF) (X : Cx) (W : WX) (xi : Option (Nat × Addr × Addr)) (m : MI) : TI := fun σ H R => ∃ ρ me mh, At CA X xi ρ me mh σ H ∧ Aft X.K CA (RIt X.K CA) (fun c d H' => W c d σ H') ρ H (evI T C me m mh) R
theorem PI.to {tg e : Expr} {t t' : TI} (h : PI X tg e t) (k : ∀ σ H R, t' σ H R → t σ H R) : PI X tg e t' := ⟨fun pins s σ H Q I q => h.run pins s σ H Q I (k σ H Q q)⟩
/-- a list or a tuple -/
theorem pi_seq {tg l : Expr} {tl : TE} (hl : PE X l tl) : PI X tg l (fun σ H R => tl σ H fun x H1 => ∃ a, x = .ref a ∧ (((∃ xs, SqL X.K H1 a xs) ∧ R (Itl X.K a) H1) ∨ ((∃ xs, SqT X.K H1 a xs) ∧ R (Itt X.K a) H1))) := by
  refine ⟨fun pins s σ H R I h => thn (hl.run pins s σ H _ I h) fun v s1 ⟨x, H1, I1, r1, a, e, q1⟩ => ?_⟩
  subst e
  cases r1
  have fresh : ∀ b ∈ [s1.heap.objs.size], FpOk X pins H1 b := fun b hb => by
    obtain rfl : b = s1.heap.objs.size := by simpa using hb
    exact I1.fpOk (Nat.le_refl _) (I1.hok.fresh (Nat.le_refl _))
  rcases q1 with ⟨⟨xs, hq⟩, q⟩ | ⟨⟨xs, hq⟩, q⟩
  · obtain ⟨its, rv, p, hz⟩ := I1.list hq
    exact wpAny_pyIter_list p.isList ⟨_, [s1.heap.objs.size], _, _, H1, rfl, I1.kept (t' := s1.toks) (fun b o e => Heap.get?_push_of_some _ e), turn_list a _, ⟨_, Heap.get?_push_size _ rfl, rfl, rfl⟩, fresh, q⟩
  · obtain ⟨its, rv, p, hz⟩ := I1.tuple hq
    exact wpAny_pyIter_tuple (show s1.heap.IsTuple a its.toArray from p) ⟨_, [s1.heap.objs.size], _, _, H1, rfl, I1.kept (t' := s1.toks) (fun b o e => Heap.get?_push_of_some _ e), turn_tuple a _, ⟨_, Heap.get?_push_size _ rfl, rfl, rfl⟩, fresh, q⟩
theorem pi_ofs {tg : Expr} (ha : PE X ea (tE T CA C X W xi a)) : PI X tg ea (tI T CA C X W xi (.of a)) :=
  PI.to (pi_seq ha) fun σ H R ⟨ρ, me, mh, at_, h⟩ => by
    unfold evI at h
    refine ⟨ρ, me, mh, at_, h.bnd.imp fun u H1 ⟨ρ1, mh1, x, e1, r1, q1, h1⟩ => ?_⟩
    cases q1 with
    | @ref n pa q =>
      unfold itOf at h1
      simp only at h1
      cases g : asList mh1 (.ref n) with
      | none => rw [g] at h1; exact h1.elim
      | some xs =>
        rw [g] at h1
        obtain ⟨vs, h3, h4⟩ := seqL_of r1 g q
        exact ⟨pa, rfl, .inl ⟨⟨vs, h3⟩, Aft.now (z := It.lst n) h1 r1 ⟨pa, q, rfl⟩⟩⟩
    | @tup xs pa vs q rs => exact ⟨pa, rfl, .inr ⟨⟨vs, SqT.of q⟩, Aft.now (z := It.tup xs) h1 r1 ⟨pa, vs, q, rs, rfl⟩⟩⟩
    | _ => exact h1.elim
theorem pi_rng1s {tg : Expr} {x : Str} {p : Pos} (ct : Ct T CA N sc C X W xi) (hx : x = "range") (hg : glb sc x = true) (hf : T.free x = true) (hn : noStar ea = true) (ha : PE X ea (tE T CA C X W xi a)) : PI X tg (.Call (.Name x p) [ea] [] pos) (tI T CA C X W xi (.rng1 a)) := by
  subst hx
  obtain ⟨g1, _, _⟩ := glb_of ct.g hg
  refine PI.to (pi_range1 g1 (ct.g.st.free _ hf) (pa_cons ha pa_nil (star_cons hn)) (star_cons hn)) fun σ H R ⟨ρ, me, mh, at_, h⟩ => ?_
  unfold evI at h
  refine ⟨ρ, me, mh, at_, h.bnd.imp fun u H1 ⟨ρ1, mh1, x, e1, r1, q1, h1⟩ => ?_⟩
  cases q1 with
  | int j =>
    simp only at h1
    by_cases hz : rngOk j
    · rw [if_pos hz] at h1
      exact ⟨j, rfl, hz.1, hz.2, Aft.now (z := It.rng 0 j.toNat) h1 r1 rfl⟩
    · rw [if_neg hz] at h1; exact h1.elim
  | _ => exact h1.elim
theorem pi_rng2s {tg : Expr} {x : Str} {p : Pos} (ct : Ct T CA N sc C X W xi) (hx : x = "range") (hg : glb sc x = true) (hf : T.free x = true) (hn : noStar ea = true) (hn2 : noStar eb = true) (ha : PE X ea (tE T CA C X W xi a)) (hb : PE X eb (tE T CA C X W xi b)) :
    PI X tg (.Call (.Name x p) [ea, eb] [] pos) (tI T CA C X W xi (.rng2 a b)) := by
  subst hx
  obtain ⟨g1, _, _⟩ := glb_of ct.g hg
  refine PI.to (pi_range2 g1 (ct.g.st.free _ hf) (pa_cons ha (pa_cons hb pa_nil (star_cons hn2)) (star_cons hn)) (by rw [star_cons hn, star_cons hn2]; rfl) (star_cons hn2)) fun σ H R ⟨ρ, me, mh, at_, h⟩ => ?_
  unfold evI at h
  refine ⟨ρ, me, mh, at_, h.bnd.imp fun u H1 ⟨ρ1, mh1, x, e1, r1, q1, h1⟩ => ⟨ρ1, me, mh1, at_.to e1 r1, h1.bnd.imp fun v H2 ⟨ρ2, mh2, y, e2, r2, q2, h2⟩ => ?_⟩⟩
  cases q1 with
  | int i =>
    cases q2 with
    | int j =>
      simp only at h2
      by_cases hz : rngOk i ∧ rngOk j
      · rw [if_pos hz] at h2
        exact ⟨i, j, rfl, ⟨hz.1.1, hz.1.2, hz.2.1, hz.2.2⟩, Aft.now (z := It.rng i (j - i).toNat) h2 r2 rfl⟩
      · rw [if_neg hz] at h2; exact h2.elim
    | _ => exact h2.elim
  | _ => exact h2.elim
theorem pi_enums {tel : List Expr} {tk : Nat} {tp : Pos} {x : Str} {p : Pos} (ct : Ct T CA N sc C X W xi) (hx : x = "enumerate") (hg : glb sc x = true) (hf : T.free x = true) (hn : noStar ea = true) (ha : PE X ea (tE T CA C X W xi a)) :
    PI X (.Tuple tel tk tp) (.Call (.Name x p) [ea] [] pos) (tI T CA C X W xi (.enum a)) := by
  subst hx
  obtain ⟨g1, _, _⟩ := glb_of ct.g hg
  refine PI.to (pi_enumT g1 (ct.g.st.free _ hf) (pa_cons ha pa_nil (star_cons hn)) (star_cons hn)) fun σ H R ⟨ρ, me, mh, at_, h⟩ => ?_
  unfold evI at h
  refine ⟨ρ, me, mh, at_, h.bnd.imp fun u H1 ⟨ρ1, mh1, x, e1, r1, q1, h1⟩ => ?_⟩
  cases q1 with
  | @ref n pa q =>
    simp only at h1
    cases g : asList mh1 (.ref n) with
    | none => rw [g] at h1; exact h1.elim
    | some xs =>
      rw [g] at h1
      obtain ⟨vs, h3, h4⟩ := seqL_of r1 g q
      exact ⟨pa, rfl, .inl ⟨vs, h3, Aft.now (z := It.enum n) h1 r1 ⟨pa, q, rfl⟩⟩⟩
  | @tup xs pa vs q rs => exact ⟨pa, rfl, .inr ⟨vs, SqT.of q, Aft.now (z := It.enumT xs) h1 r1 ⟨pa, vs, q, rs, rfl⟩⟩⟩
  | _ => exact h1.elim
end
end Mi
end

section
/-! Mini, part 9: comprehensions; the theorem about expressions. -/
namespace Mi
open PySem PySem.Spec PyProof.Rows L2

theorem bind_assoc {α β γ : Type} (x : M α) (f : α → M β) (g : β → M γ) : M.bind (M.bind x f) g = M.bind x fun a => M.bind (f a) g := by
  funext h
  unfold M.bind
  cases x h <;> rfl
theorem quiet_bind {α β : Type} (x : M α) (f : α → M β) : quiet (M.bind x f) = M.bind (quiet x) fun a => quiet (f a) := by
  funext h
  unfold M.bind quiet
  cases e : x h <;> simp only [e]
def WF : WX := fun _ _ _ _ => False

section
variable {α β γ δ : Type} {K : PySem.W.Frag} {CA : Str → Addr} {R : Rho → Hp → α → β → Prop} {R' : Rho → Hp → γ → δ → Prop} {W : Value → Option Addr → Hp → Prop} {ρ : Rho} {H : Hp} {Q : β → Hp → Prop} {mh : MH}
/-- x, from which nothing may leave, then f -/
theorem Aft.bndq {x : M γ} {f : γ → M α} {σ : L2.St} (h : Aft K CA R W ρ H (M.bind (quiet x) f mh) Q) :
    Aft K CA R' (fun c d H' => WF c d σ H') ρ H (x mh) (fun b H1 => ∃ ρ1 mh1 a, Ext ρ H ρ1 H1 ∧ RH K CA ρ1 mh1 H1 ∧ R' ρ1 H1 a b ∧ Aft K CA R W ρ1 H1 (f a mh1) Q) := by
  unfold M.bind quiet at h
  cases e : x mh with
  | ok a m =>
    rw [e] at h
    exact fun ρ1 H1 b e1 r1 q => ⟨ρ1, m, a, e1, r1, q, Aft.ext h e1⟩
  | exc c n m => rw [e] at h; exact h.elim
  | stuck => rw [e] at h; exact h.elim
end

/-! ### slots wiped -/
theorem wipe_setN {σ : L2.St} {i : Nat} {y : Option V} : ∀ {vs : List Nat}, i ∉ vs → wipe (σ.set i y) vs = (wipe σ vs).set i y
  | [], _ => rfl
  | v :: vs, h => by
    have h1 : i ≠ v := fun e => h (by rw [e]; exact List.mem_cons_self)
    have h2 : i ∉ vs := fun e => h (List.mem_cons_of_mem _ e)
    show (wipe (σ.set i y) vs).set v none = ((wipe σ vs).set v none).set i y
    rw [wipe_setN h2]
    exact List.set_comm _ _ h1
theorem wipe_set {σ : L2.St} {i : Nat} {y : Option V} : ∀ {vs : List Nat}, i ∈ vs → wipe (σ.set i y) vs = wipe σ vs
  | v :: vs, h => by
    show (wipe (σ.set i y) vs).set v none = (wipe σ vs).set v none
    by_cases h2 : i ∈ vs
    · rw [wipe_set h2]
    · have e : i = v := by
        rcases List.mem_cons.mp h with e | e
        · exact e
        · exact absurd e h2
      subst e
      rw [wipe_setN h2, List.set_set]
theorem wipeM_get {sl : List (Option MV)} {i : Nat} {v : MV} : ∀ {vs : List Nat}, (vs.foldr (fun v (s : List (Option MV)) => s.set v none) sl)[i]? = some (some v) → sl[i]? = some (some v) ∧ i ∉ vs
  | [], h => ⟨h, by simp⟩
  | w :: vs, h => by
    rw [List.foldr_cons, List.getElem?_set] at h
    by_cases e : w = i
    · rw [if_pos e] at h; split at h <;> cases h
    · rw [if_neg e] at h
      obtain ⟨h1, h2⟩ := wipeM_get h
      exact ⟨h1, fun z => by rcases List.mem_cons.mp z with z | z; exact e z.symm; exact h2 z⟩
theorem wipeM_len {sl : List (Option MV)} : ∀ {vs : List Nat}, (vs.foldr (fun v (s : List (Option MV)) => s.set v none) sl).length = sl.length
  | [] => rfl
  | w :: vs => by rw [List.foldr_cons, List.length_set, wipeM_len]

section
variable {T : Tab} {CA : Str → Addr} {N : List Str} {sc : Scope} {C : CallF} {X : Cx} {W : WX} {xi : Option (Nat × Addr × Addr)} {ρ ρ1 : Rho} {me : Env} {mh mh1 : MH} {σ : L2.St} {H H1 : Hp}
variable {a b c : ME} {ea eb ec : Expr} {pos : Pos}
theorem RS.wipe (r : RS CA xi ρ H me σ) (he : me.ex = none) (vs : List Nat) : RS CA none ρ H (wipeM me vs) (L2.wipe σ vs) where
  len := by
    show (vs.foldr (fun v (s : List (Option MV)) => s.set v none) me.sl).length = _
    rw [wipeM_len, wipe_length]; exact r.len
  sl := fun i v h => by
    obtain ⟨h1, h2⟩ := wipeM_get h
    obtain ⟨x, h3, h4⟩ := r.sl i v h1
    exact ⟨x, by rw [wipe_out h2]; exact h3, h4⟩
  ex := fun j n h => by
    have h' : me.ex = some (j, n) := h
    rw [he] at h'; cases h'
theorem RS.set {i : Nat} {x : MV} {v : V} (r : RS CA xi ρ H me σ) (he : (me.ex.map (·.1)) ≠ some i) (rv : RV CA ρ H x v) : RS CA xi ρ H (me.set i x) (σ.set i (some v)) where
  len := by show (me.sl.set i (some x)).length = _; rw [List.length_set, List.length_set]; exact r.len
  sl := fun j w h => by
    have h' : (me.sl.set i (some x))[j]? = some (some w) := h
    rw [List.getElem?_set] at h'
    by_cases e : i = j
    · rw [if_pos e] at h'
      split at h'
      · rename_i hl
        cases h'
        refine ⟨v, ?_, rv⟩
        rw [← e, List.getElem?_set_self (by rw [← r.len]; exact e ▸ hl)]
      · cases h'
    · rw [if_neg e] at h'
      obtain ⟨z, h1, h2⟩ := r.sl j w h'
      exact ⟨z, by rw [List.getElem?_set_ne e]; exact h1, h2⟩
  ex := fun j n h => by
    have h' : me.ex = some (j, n) := h
    obtain ⟨a, d, h1, h2⟩ := r.ex j n h'
    refine ⟨a, d, h1, fun l => ?_⟩
    have l' : j < me.sl.length := by
      have : j < (me.sl.set i (some x)).length := l
      simpa using this
    refine ⟨(h2 l').1, ?_⟩
    rw [List.getElem?_set_ne]
    · exact (h2 l').2
    · intro e
      apply he
      rw [h', e]; rfl

/-! ### targets -/
/-- an item is stored to a target -/
def gCT (CA : Str → Addr) (X : Cx) (xi : Option (Nat × Addr × Addr)) (t : CT) : TG := fun v σ H Q => ∃ ρ me mh x me', At CA X xi ρ me mh σ H ∧ me.ex = none ∧ RV CA ρ H x v ∧ setT mh me x t = some me' ∧
  ∀ σ', RS CA xi ρ H me' σ' → me'.ex = none → (∀ vs, ctIn vs t = true → L2.wipe σ' vs = L2.wipe σ vs) → Q σ' H
theorem ckNm_of {i : Nat} {e : Expr} (h : ckNm N sc i e = true) : ∃ x p, e = .Name x p ∧ N[i]? = some x ∧ (sc.names.lookup x = some .local ∨ sc.names.lookup x = some .cell) := by
  unfold ckNm at h
  split at h
  · rename_i x p
    unfold loc at h
    simp only [Bool.and_eq_true, Bool.or_eq_true, decide_eq_true_eq, beq_iff_eq] at h
    exact ⟨x, p, rfl, h.1, h.2⟩
  · cases h
theorem loc_of (g : Gd T CA N sc X) {x : Str} (h : sc.names.lookup x = some .local ∨ sc.names.lookup x = some .cell) : Loc X.env.scope x ∧ (sc.names.lookup x = some .local → X.env.scope.names.lookup x = some .local) := by
  have key : ∀ k, k ≠ .free → sc.names.lookup x = some k → X.env.scope.names.lookup x = some k := fun k hk q => by
    rcases g.sc x _ q with z | ⟨z, _⟩
    · exact z
    · exact absurd z hk
  refine ⟨?_, key _ (by decide)⟩
  rcases h with h | h
  · exact .inl (key _ (by decide) h)
  · exact .inr (key _ (by decide) h)
theorem cell_of (g : Gd T CA N sc X) {x : Str} (h : sc.names.lookup x = some .cell) : X.env.scope.names.lookup x = some .cell := by
  rcases g.sc x _ h with z | ⟨z, _⟩
  · exact z
  · cases z
/-- names that a cell holds may be stored here -/
abbrev Fns (sc : Scope) (X : Cx) : Prop := ∀ x, sc.names.lookup x = some .cell → X.fn x = true
theorem pg_nm {i : Nat} {e : Expr} (g : Gd T CA N sc X) (hf : Fns sc X) (h : ckNm N sc i e = true) : PG X e (gName i) := by
  obtain ⟨x, p, rfl, h1, h2⟩ := ckNm_of h
  obtain ⟨h3, h4⟩ := loc_of g h2
  refine pg_name g.nd (by rw [g.nm]; exact h1) h3 ?_
  rcases h2 with z | z
  · exact .inr (h4 z)
  · exact .inl (hf x z)
/-- the slots is, one after another -/
def gNms : List Nat → TGs
  | [] => gNil
  | i :: is => gCons (gName i) (gNms is)
theorem asEach {x : Str} {p : Pos} {es : List Expr} {env : PySem.Env} : assignEach (.Name x p :: es) env = (false, assign (.Name x p) env) :: assignEach es env := rfl
theorem pgs_nms (g : Gd T CA N sc X) (hf : Fns sc X) : ∀ {is : List Nat} {es : List Expr}, ckNms N sc is es = true → PGs X es (gNms is)
  | [], [], _ => pgs_nil
  | i :: is, e :: es, h => by
    unfold ckNms at h
    rw [Bool.and_eq_true] at h
    obtain ⟨x, p, rfl, _, _⟩ := ckNm_of h.1
    exact pgs_cons (pg_nm g hf h.1) (pgs_nms g hf h.2) rfl
  | [], _ :: _, h => by unfold ckNms at h; cases h
  | _ :: _, [], h => by unfold ckNms at h; cases h
theorem nms_len : ∀ {is : List Nat} {es : List Expr} {env : PySem.Env}, ckNms N sc is es = true → (assignEach es env).length = is.length ∧ (assignEach es env).findIdx? (·.1) = none
  | [], [], env, _ => ⟨rfl, rfl⟩
  | i :: is, e :: es, env, h => by
    unfold ckNms at h
    rw [Bool.and_eq_true] at h
    obtain ⟨x, p, rfl, _, _⟩ := ckNm_of h.1
    obtain ⟨l1, l2⟩ := nms_len (env := env) h.2
    rw [asEach]
    refine ⟨by rw [List.length_cons, List.length_cons, l1], ?_⟩
    rw [List.findIdx?_cons]
    simp only [Bool.false_eq_true, if_false, l2, Option.map_none]
  | [], _ :: _, _, h => by unfold ckNms at h; cases h
  | _ :: _, [], _, h => by unfold ckNms at h; cases h
/-- slots set one after another -/
theorem nms_run {xi : Option (Nat × Addr × Addr)} {Q : L2.St → Hp → Prop} : ∀ {is : List Nat} {xs : List MV} {vs : List V} {me : Env} {σ : L2.St}, xs.length = is.length → RS CA xi ρ H me σ → me.ex = none → RVs CA ρ H xs vs →
    (∀ σ', RS CA xi ρ H ((is.zip xs).foldl (fun m p => m.set p.1 p.2) me) σ' → ((is.zip xs).foldl (fun m p => m.set p.1 p.2) me).ex = none → (∀ ws : List Nat, (∀ i ∈ is, i ∈ ws) → L2.wipe σ' ws = L2.wipe σ ws) → Q σ' H) → gNms is vs σ H Q
  | [], [], _, me, σ, _, r, he, .nil, k => ⟨rfl, k σ r he fun _ _ => rfl⟩
  | i :: is, x :: xs, _, me, σ, hl, r, he, .cons rv rs, k => by
    refine ⟨_, _, rfl, ?_⟩
    refine nms_run (me := me.set i x) (by simpa using hl) (r.set (by rw [he]; simp) rv) he rs fun σ' r' e' hw => k σ' r' e' fun ws hws => ?_
    rw [hw ws fun j hj => hws j (List.mem_cons_of_mem _ hj)]
    exact wipe_set (hws i List.mem_cons_self)
  | [], _ :: _, _, _, _, hl, _, _, _, _ => by cases hl
  | _ :: _, [], _, _, _, hl, _, _, _, _ => by cases hl
theorem pg_either {es : List Expr} {k : Nat} {is : List Nat} (g : Gd T CA N sc X) (hf : Fns sc X) (hc : X.calm = true) (h : ckNms N sc is es = true) : PG X (.Tuple es k pos) (fun v σ H Q => gTup X.K is.length (gNms is) v σ H Q ∨ gUnl X.K is.length (gNms is) v σ H Q) := by
  obtain ⟨l1, l2⟩ := nms_len (env := X.env) h
  have P1 : PG X (.Tuple es k pos) (gTup X.K is.length (gNms is)) := pg_tup hc (pgs_nms g hf h) l1 l2
  have P2 : PG X (.Tuple es k pos) (gUnl X.K is.length (gNms is)) := pg_unl hc (pgs_nms g hf h) l1 l2
  refine ⟨fun pins s σ H v u Q I r q => ?_⟩
  rcases q with q | q
  · exact P1.run pins s σ H v u Q I r q
  · exact P2.run pins s σ H v u Q I r q
theorem pg_ct {t : CT} {e : Expr} (g : Gd T CA N sc X) (hf : Fns sc X) (hc : X.calm = true) (h : ckCT N sc t e = true) : PG X e (gCT CA X xi t) := by
  cases t with
  | nm i =>
    have P := pg_nm (i := i) (e := e) g hf h
    refine ⟨fun pins s σ H v u Q I r ⟨ρ, me, mh, x, me', at_, he, rv, es, k⟩ => P.run pins s σ H v u Q I r ?_⟩
    cases es
    exact k _ (at_.rs.set (by rw [he]; simp) rv) he fun vs hv => wipe_set (by simpa [ctIn] using hv)
  | tp is =>
    cases e <;> try (unfold ckCT at h; cases h; done)
    rename_i es kk pp
    have h' : ckNms N sc is es = true := h
    obtain ⟨l1, l2⟩ := nms_len (env := X.env) h'
    have P := pg_either (pos := pp) (k := kk) g hf hc h'
    refine ⟨fun pins s σ H v u Q I r ⟨ρ, me, mh, x, me', at_, he, rv, es, k⟩ => P.run pins s σ H v u Q I r ?_⟩
    unfold setT at es
    simp only at es
    cases e : asSeq mh x with
    | none => rw [e] at es; cases es
    | some xs =>
      rw [e] at es
      simp only at es
      by_cases hl : xs.length = is.length
      · rw [if_pos hl] at es
        cases es
        obtain ⟨p, vs, rfl, sq, rs⟩ := seq_of at_.rh e rv
        have fin := nms_run (Q := Q) hl at_.rs he rs fun σ' r' e' hw => k σ' r' e' fun ws hws => hw ws fun i hi => by
          have hws' : is.all (fun i => ws.contains i) = true := hws
          simpa using List.all_eq_true.mp hws' i hi
        rcases sq with sq | sq
        · exact .inr ⟨p, vs, rfl, sq, by rw [← rs.length]; exact hl, fin⟩
        · exact .inl ⟨p, vs, rfl, sq, by rw [← rs.length]; exact hl, fin⟩
      · rw [if_neg hl] at es; cases es

/-! ### iterators' items -/
theorem it_stop {it : It} {J : L2.It} {i : Nat} (r : RIt X.K CA ρ H it J) (rh : RH X.K CA ρ mh H) (h : it.at mh i = some none) : J.stop i H := by
  cases it with
  | lst n =>
    obtain ⟨a, q, rfl⟩ := r
    obtain ⟨xs, h1, h2⟩ := Option.map_eq_some_iff.mp (show (asList mh (.ref n)).map (fun xs => xs[i]?) = some none from h)
    obtain ⟨vs, h3, h4⟩ := seqL_of rh h1 q
    exact ⟨vs, h3, by rw [← h4.length]; simpa using h2⟩
  | tup xs =>
    obtain ⟨a, vs, q, rs, rfl⟩ := r
    have h' : xs[i]? = none := Option.some.inj h
    exact ⟨vs, SqT.of q, by rw [← rs.length]; simpa using h'⟩
  | rng lo n =>
    cases r
    have h' : (if i < n then some (MV.int (lo + i)) else none) = none := Option.some.inj h
    show n ≤ i
    split at h'
    · cases h'
    · omega
  | enum n =>
    obtain ⟨a, q, rfl⟩ := r
    obtain ⟨xs, h1, h2⟩ := Option.map_eq_some_iff.mp (show (asList mh (.ref n)).map (fun xs => (xs[i]?).map fun x => MV.tup [.int i, x]) = some none from h)
    obtain ⟨vs, h3, h4⟩ := seqL_of rh h1 q
    exact ⟨vs, h3, by rw [← h4.length]; simpa using h2⟩
  | enumT xs =>
    obtain ⟨a, vs, q, rs, rfl⟩ := r
    have h' : (xs[i]?).map (fun x => MV.tup [.int i, x]) = none := Option.some.inj h
    exact ⟨vs, SqT.of q, by rw [← rs.length]; simpa using h'⟩
theorem it_go {it : It} {J : L2.It} {i : Nat} {v : MV} (r : RIt X.K CA ρ H it J) (rh : RH X.K CA ρ mh H) (h : it.at mh i = some (some v)) :
    J.go i H ∧ ∀ x H', J.yld i H x H' → Ext ρ H ρ H' ∧ RH X.K CA ρ mh H' ∧ RV CA ρ H' v x := by
  cases it with
  | lst n =>
    obtain ⟨a, q, rfl⟩ := r
    obtain ⟨xs, h1, h2⟩ := Option.map_eq_some_iff.mp (show (asList mh (.ref n)).map (fun xs => xs[i]?) = some (some v) from h)
    obtain ⟨vs, h3, h4⟩ := seqL_of rh h1 q
    obtain ⟨u, h5, h6⟩ := h4.get h2
    refine ⟨⟨vs, u, h3, h5⟩, fun x H' y => ?_⟩
    obtain ⟨rfl, y⟩ := y
    have := y vs h3
    rw [h5] at this; cases this
    exact ⟨Ext.refl, rh, h6⟩
  | tup xs =>
    obtain ⟨a, vs, q, rs, rfl⟩ := r
    have h' : xs[i]? = some v := Option.some.inj h
    obtain ⟨u, h5, h6⟩ := rs.get h'
    refine ⟨⟨vs, u, SqT.of q, h5⟩, fun x H' y => ?_⟩
    obtain ⟨rfl, y⟩ := y
    have := y vs (SqT.of q)
    rw [h5] at this; cases this
    exact ⟨Ext.refl, rh, h6⟩
  | rng lo n =>
    cases r
    have h' : (if i < n then some (MV.int (lo + i)) else none) = some v := Option.some.inj h
    split at h'
    · rename_i hl
      cases h'
      refine ⟨hl, fun x H' y => ?_⟩
      obtain ⟨rfl, rfl⟩ := y
      exact ⟨Ext.refl, rh, .int _⟩
    · cases h'
  | enum n =>
    obtain ⟨a, q, rfl⟩ := r
    obtain ⟨xs, h1, h2⟩ := Option.map_eq_some_iff.mp (show (asList mh (.ref n)).map (fun xs => (xs[i]?).map fun x => MV.tup [.int i, x]) = some (some v) from h)
    obtain ⟨y, h2a, h2b⟩ := Option.map_eq_some_iff.mp h2
    subst h2b
    obtain ⟨vs, h3, h4⟩ := seqL_of rh h1 q
    obtain ⟨u, h5, h6⟩ := h4.get h2a
    refine ⟨⟨vs, u, h3, h5⟩, fun x H' z => ?_⟩
    obtain ⟨t, w, rfl, ht, rfl, z⟩ := z
    have := z vs h3
    rw [h5] at this; cases this
    obtain ⟨r1, e1⟩ := rh.same (H' := upd H t (.tup [.int (i : Nat), u])) fun c o z => by rw [upd_ne (ne_of_none z ht)]; exact z
    exact ⟨e1, r1, .tup upd_same (.cons (.int _) (.cons (h6.mono e1) .nil))⟩
  | enumT xs =>
    obtain ⟨a, vs, q, rs, rfl⟩ := r
    have h' : (xs[i]?).map (fun x => MV.tup [.int i, x]) = some v := Option.some.inj h
    obtain ⟨y, h2a, h2b⟩ := Option.map_eq_some_iff.mp h'
    subst h2b
    obtain ⟨u, h5, h6⟩ := rs.get h2a
    refine ⟨⟨vs, u, SqT.of q, h5⟩, fun x H' z => ?_⟩
    obtain ⟨t, w, rfl, ht, rfl, z⟩ := z
    have := z vs (SqT.of q)
    rw [h5] at this; cases this
    obtain ⟨r1, e1⟩ := rh.same (H' := upd H t (.tup [.int (i : Nat), u])) fun c o z => by rw [upd_ne (ne_of_none z ht)]; exact z
    exact ⟨e1, r1, .tup upd_same (.cons (.int _) (.cons (h6.mono e1) .nil))⟩
theorem RIt.mono {it : It} {J : L2.It} {ρ' : Rho} {H' : Hp} (r : RIt X.K CA ρ H it J) (e : Ext ρ H ρ' H') : RIt X.K CA ρ' H' it J := by
  cases it with
  | lst n => obtain ⟨a, q, rfl⟩ := r; exact ⟨a, e.map _ _ q, rfl⟩
  | tup xs => obtain ⟨a, vs, q, rs, rfl⟩ := r; exact ⟨a, vs, e.tups _ _ q, rs.mono e, rfl⟩
  | rng lo n => exact r
  | enum n => obtain ⟨a, q, rfl⟩ := r; exact ⟨a, e.map _ _ q, rfl⟩
  | enumT xs => obtain ⟨a, vs, q, rs, rfl⟩ := r; exact ⟨a, vs, e.tups _ _ q, rs.mono e, rfl⟩
end
end Mi
end

section
/-! Mini, part 10: comprehensions; the theorem about expressions. -/
namespace Mi
open PySem PySem.Spec PyProof.Rows L2

section
variable {T : Tab} {CA : Str → Addr} {N : List Str} {sc : Scope} {C : CallF} {X : Cx} {W : WX} {xi : Option (Nat × Addr × Addr)} {ρ ρ1 : Rho} {me : Env} {mh mh1 : MH} {σ : L2.St} {H H1 : Hp}
variable {a b c : ME} {ea eb ec : Expr} {pos : Pos}
theorem map_names {f : Str → NameKind → NameKind} (hf : ∀ n k, f n k = k ∨ (k = .free ∧ f n k = .cell)) {x : Str} {k : NameKind} : ∀ {names : List (Str × NameKind)}, names.lookup x = some k →
    (names.map fun p => (p.1, f p.1 p.2)).lookup x = some k ∨ (k = .free ∧ (names.map fun p => (p.1, f p.1 p.2)).lookup x = some .cell)
  | [], h => by cases h
  | (n, j) :: r, h => by
    rw [List.map_cons, List.lookup_cons]
    rw [List.lookup_cons] at h
    cases e : x == n with
    | true =>
      rw [e] at h
      cases h
      rcases hf n k with z | ⟨z, w⟩
      · exact .inl (congrArg some z)
      · exact .inr ⟨z, congrArg some w⟩
    | false =>
      rw [e] at h
      exact map_names hf h
theorem relabel_ok {scope : Scope} {cl : List (Str × Addr)} {C0 : Addr} {env : PySem.Env} {x : Str} {k : NameKind} (h : scope.names.lookup x = some k) :
    (compEnvC scope cl C0 env).scope.names.lookup x = some k ∨ (k = .free ∧ (compEnvC scope cl C0 env).scope.names.lookup x = some .cell) := by
  have e : (compEnvC scope cl C0 env).scope.names = scope.names.map fun p => (p.1, if (p.2 == NameKind.free && env.scope.kind == .function && env.kindOf p.1 == some .cell) = true then NameKind.cell else p.2) := by
    show (scope.names.map _) = _
    refine congrArg (fun f => scope.names.map f) (funext fun p => ?_)
    obtain ⟨n, k⟩ := p
    show (if _ then _ else _) = _
    split <;> rfl
  rw [e]
  refine map_names (f := fun n k => if (k == NameKind.free && env.scope.kind == .function && env.kindOf n == some .cell) = true then NameKind.cell else k) (fun n k => ?_) h
  by_cases hc : (k == NameKind.free && env.scope.kind == .function && env.kindOf n == some .cell) = true
  · simp only [Bool.and_eq_true, beq_iff_eq] at hc
    exact .inr ⟨hc.1.1, by simp [hc]⟩
  · exact .inl (if_neg hc)
/-- a comprehension's block -/
theorem Ct.blk {s : Shared} {H : Hp} {scope : Scope} {C0 : Addr} {cl : List (Str × Addr)} {fp : List Addr} (ct : Ct T CA N sc C X W xi) (hk : scope.kind = .function) : Ct T CA N scope C (X.blk s H scope (compEnvC scope cl C0 X.env) fp) WF none where
  g := { nm := ct.g.nm, nd := ct.g.nd, sc := fun x k h => relabel_ok h, st := ct.g.st, gd := ct.g.gd, un := ct.g.un }
  tk := takes_no
  cl := fun h => by
    obtain ⟨k, hr, cs⟩ := ct.cl h
    refine ⟨k, hr, ⟨fun g fi q => ?_, fun c m fi q => ?_, fun c fi q => ?_, cs.mp⟩⟩
    · obtain ⟨f, h1, h2, h3⟩ := cs.fn g fi q; exact ⟨f, h1, h2, ⟨h3.ex⟩⟩
    · obtain ⟨f, h1, h2, h3⟩ := cs.me c m fi q; exact ⟨f, h1, h2, ⟨h3.ex⟩⟩
    · obtain ⟨f, h1, h3⟩ := cs.mkc c fi q; exact ⟨f, h1, ⟨h3.ex⟩⟩
  xi := fun j a d h => by cases h
  fn := fun x h => by show (scope.names.lookup x == some .cell) = true; rw [h]; rfl
  hc := fun g fi q => by obtain ⟨f, h1, h2, h3⟩ := ct.hc g fi q; exact ⟨f, h1, h2, ⟨h3.ex⟩⟩
  rh := ct.rh
  ch := ct.ch
  kd := hk

/-! ### tests -/
theorem tB_of {m : ME} {Q : Bool → Hp → Prop} (at_ : At CA X xi ρ me mh σ H) (h : Aft X.K CA (fun _ _ (a b : Bool) => a = b) (fun c d H' => W c d σ H') ρ H (M.bind (evE T C me m) boolM mh) Q) : tE T CA C X W xi m σ H (fun x H1 => ∃ k, x = .bl k ∧ Q k H1) :=
  ⟨ρ, me, mh, at_, h.bnd.imp fun u H1 ⟨ρ1, mh1, x, e1, r1, q1, h1⟩ => by
    cases q1 <;> first | exact h1.elim | exact ⟨_, rfl, Aft.now (z := (_ : Bool)) h1 r1 rfl⟩⟩
theorem pt_vals {m : ME} {e : Expr} (hv : valTest e = true) (hp : PE X e (tE T CA C X W xi m)) (hm : ∀ me, evT T C me m = M.bind (evE T C me m) boolM) : PT X e (tT T CA C X W xi m) :=
  PT.to (pt_val hp (valTest_of hv _)) fun σ H Q ⟨ρ, me, mh, at_, h⟩ => by
    rw [hm] at h
    exact tB_of at_ h
theorem cmp_rd {op : COp} {Q : VK} (h : tE T CA C X W xi (.cmp op a b) σ H Q) : tOp (rCmp X.K op) (tE T CA C X W xi a) (tE T CA C X W xi b) σ H Q := by
  obtain ⟨ρ, me, mh, at_, h⟩ := h
  unfold evE at h
  exact two_ok at_ h fun h2 rh q1 q2 => cmp_ok h2 rh q1 q2
theorem pt_cmps {op : COp} (sm : ∃ o, X.K.lookup sysModules = some o) (hu : X.A.units + 1250 < cLine) (hs : notSet eb = true) (ha : PE X ea (tE T CA C X W xi a)) (hb : PE X eb (tE T CA C X W xi b)) : PT X (.Compare ea [opC op] [eb] pos) (tT T CA C X W xi (.cmp op a b)) :=
  PT.to (pt_cmpR (op_cmp sm hu op) ha hb (notSet_mark hs)) fun σ H Q ⟨ρ, me, mh, at_, h⟩ => by
    refine cmp_rd (tB_of (m := .cmp op a b) at_ ?_)
    unfold evT at h
    unfold evE
    exact h
theorem chain_rd {op op' : COp} {Q : VK} (h : tE T CA C X W xi (.chain op op' a b c) σ H Q) : tChain (rCmp X.K op) (rCmp X.K op') (tE T CA C X W xi a) (tE T CA C X W xi b) (tE T CA C X W xi c) σ H Q := by
  obtain ⟨ρ, me, mh, at_, h⟩ := h
  unfold evE at h
  refine ⟨ρ, me, mh, at_, h.bnd.imp fun u H1 ⟨ρ1, mh1, x, e1, r1, q1, h1⟩ => ⟨ρ1, me, mh1, at_.to e1 r1, h1.bnd.imp fun v H2 ⟨ρ2, mh2, y, e2, r2, q2, h2⟩ => ?_⟩⟩
  refine cmp_ok (h2.bnd.imp fun z H3 ⟨ρ3, mh3, w, e3, r3, q3, h3⟩ => ?_) r2 (q1.mono e2) q2
  obtain ⟨k, rfl, rfl, h4⟩ := h3.bool q3
  refine ⟨k, rfl, ?_⟩
  cases k with
  | true => exact ⟨ρ3, me, mh3, (at_.to e1 r1).to (e2.trans e3) r3, h4.bnd.imp fun t H4 ⟨ρ4, mh4, w4, e4, r4, q4, h5⟩ => cmp_ok h5 r4 (q2.mono (e3.trans e4)) q4⟩
  | false => exact Aft.now (z := MV.bl false) h4 r3 (.bl _)
theorem pt_chains {op op' : COp} (sm : ∃ o, X.K.lookup sysModules = some o) (hu : X.A.units + 1250 < cLine) (hs : notSet ec = true) (ha : PE X ea (tE T CA C X W xi a)) (hb : PE X eb (tE T CA C X W xi b)) (hc : PE X ec (tE T CA C X W xi c)) : PT X (.Compare ea [opC op, opC op'] [eb, ec] pos) (tT T CA C X W xi (.chain op op' a b c)) :=
  PT.to (pt_chain (op_cmp sm hu op) (op_cmp sm hu op') ha hb hc (notSet_last hs)) fun σ H Q ⟨ρ, me, mh, at_, h⟩ => by
    refine chain_rd (tB_of (m := .chain op op' a b c) at_ ?_)
    unfold evT at h
    unfold evE
    exact h
theorem pw_ands {r : List Expr} (ha : PT X ea (tT T CA C X W xi a)) (hb : PW X (.BoolOp .And (eb :: r) pos) (tT T CA C X W xi b)) : PW X (.BoolOp .And (ea :: eb :: r) pos) (tT T CA C X W xi (.and a b)) :=
  PW.to (pw_and ha hb) fun σ H Q ⟨ρ, me, mh, at_, h⟩ => by
    unfold evT at h
    refine ⟨ρ, me, mh, at_, h.bnd.imp fun u H1 ⟨ρ1, mh1, x, e1, r1, q1, h1⟩ => ?_⟩
    subst q1
    cases x with
    | true => exact ⟨ρ1, me, mh1, at_.to e1 r1, h1⟩
    | false => exact Aft.now (z := false) h1 r1 rfl
theorem pw_ors {r : List Expr} (ha : PT X ea (tT T CA C X W xi a)) (hb : PW X (.BoolOp .Or (eb :: r) pos) (tT T CA C X W xi b)) : PW X (.BoolOp .Or (ea :: eb :: r) pos) (tT T CA C X W xi (.or a b)) :=
  PW.to (pw_or ha hb) fun σ H Q ⟨ρ, me, mh, at_, h⟩ => by
    unfold evT at h
    refine ⟨ρ, me, mh, at_, h.bnd.imp fun u H1 ⟨ρ1, mh1, x, e1, r1, q1, h1⟩ => ?_⟩
    subst q1
    cases x with
    | true => exact Aft.now (z := true) h1 r1 rfl
    | false => exact ⟨ρ1, me, mh1, at_.to e1 r1, h1⟩
theorem pt_nots (ha : PT X ea (tT T CA C X W xi a)) : PT X (.UnaryOp .Not ea pos) (tT T CA C X W xi (.notE a)) :=
  PT.to (pt_not ha) fun σ H Q ⟨ρ, me, mh, at_, h⟩ => by
    unfold evT at h
    refine ⟨ρ, me, mh, at_, h.bnd.imp fun u H1 ⟨ρ1, mh1, x, e1, r1, q1, h1⟩ => ?_⟩
    subst q1
    exact Aft.now (z := !x) h1 r1 rfl

/-! ### comprehensions -/
theorem wipe_at (σ : L2.St) (j : Nat) : ∀ vs : List Nat, (L2.wipe σ vs : List (Option V))[j]? = if j ∈ vs then (σ[j]? : Option (Option V)).map (fun _ => none) else σ[j]?
  | [] => rfl
  | v :: vs => by
    show ((L2.wipe σ vs).set v none)[j]? = _
    rw [List.getElem?_set, wipe_length]
    by_cases e : v = j
    · subst e
      rw [if_pos rfl, if_pos List.mem_cons_self]
      by_cases hl : v < σ.length
      · rw [if_pos hl]; simp [hl]
      · rw [if_neg hl]; simp [Nat.le_of_not_lt hl]
    · rw [if_neg e, wipe_at σ j vs]
      by_cases h : j ∈ vs
      · rw [if_pos h, if_pos (List.mem_cons_of_mem _ h)]
      · rw [if_neg h, if_neg (fun z => by rcases List.mem_cons.mp z with z | z; exact e z.symm; exact h z)]
theorem wipe_wipe (σ : L2.St) (vs : List Nat) : L2.wipe (L2.wipe σ vs) vs = L2.wipe σ vs := by
  refine List.ext_getElem? fun j => ?_
  rw [wipe_at (L2.wipe σ vs) j vs, wipe_at σ j vs]
  by_cases h : j ∈ vs
  · rw [if_pos h, if_pos h]; cases (σ[j]? : Option (Option V)) <;> rfl
  · rw [if_neg h, if_neg h]
theorem own_snd {vs : List Nat} : (ownOf N vs).map (·.2) = vs := by
  unfold ownOf
  rw [List.map_map]
  exact List.map_id _
theorem bind_at {α β : Type} (x : M α) (f : α → M β) (h : MH) : M.bind x f h = (match x h with | .ok a h' => f a h' | .exc c n h' => .exc c n h' | .stuck => .stuck) := rfl
/-- a turn of a comprehension -/
def stpC (T : Tab) (C : CallF) (me : Env) (vs : List Nat) (t : CT) (c v : ME) : MV → M (Option MV) := fun w h => match setT h (wipeM me vs) w t with
  | some me' => quiet (M.bind (evT T C me' c) fun k => if k = true then M.bind (evE T C me' v) fun w => M.pure (some w) else M.pure none) h
  | none => .stuck
/-- the turns of a comprehension over J, its list at D; then Kc -/
theorem turns_rd {α β : Type} {R : Rho → Hp → α → β → Prop} {W0 : WS} {Q0 : β → Hp → Prop} {vs : List Nat} {t : CT} {c v : ME} {it1 : It} {J : L2.It} {n m0 : Nat} {D : Addr} {Kc : M α} (hv : ctIn vs t = true) (hex : me.ex = none) (hcalm : X.calm = true)
    (rs : RS CA xi ρ1 H1 me σ) (r1 : RH X.K CA ρ1 mh1 H1) (qJ0 : RIt X.K CA ρ1 H1 it1 J) (qD : ρ1 n = some D) (h2 : Aft X.K CA R W0 ρ1 H1 (M.bind (compL (stpC T C me vs t c v) it1 n m0 0) (fun _ => Kc) mh1) Q0) :
    ∃ Wi : Nat → Nat → Hp → Prop, (∃ m, Wi 0 m H1) ∧ ∀ i m H, Wi i m H → (J.stop i H ∧ ∃ ρ2 mh2, Ext ρ1 H1 ρ2 H ∧ RH X.K CA ρ2 mh2 H ∧ Aft X.K CA R W0 ρ2 H (Kc mh2) Q0) ∨
      (J.go i H ∧ ∃ Nx : Hp → Prop, (∀ H', Nx H' → ∃ m', m' < m ∧ Wi (i + 1) m' H') ∧ ∀ x H', J.yld i H x H' → gCT CA X none t x (L2.wipe σ vs) H' fun σ2 H2 => L2.wipe σ2 vs = L2.wipe σ vs ∧ tT T CA C X WF none c σ2 H2 fun b H3 =>
        if b = true then tE T CA C X WF none v σ2 H3 fun y H4 => ∃ acc, H4 D = some (.lst acc) ∧ acc.length < sizeLine ∧ Nx (upd H4 D (.lst (acc ++ [y]))) else Nx H3) := by
    generalize hstep : stpC T C me vs t c v = step at h2
    refine ⟨fun i m H => ∃ ρ2 mh2, Ext ρ1 H1 ρ2 H ∧ RH X.K CA ρ2 mh2 H ∧ Aft X.K CA R W0 ρ2 H (M.bind (compL step it1 n m i) (fun _ => Kc) mh2) Q0,
      ⟨m0, _, _, Ext.refl, r1, h2⟩, ?_⟩
    rintro i m H2 ⟨ρ2, mh2, e3, r3, h3⟩
    have qJ := qJ0.mono e3
    have qD2 : ρ2 n = some D := e3.map _ _ qD
    have stop : it1.at mh2 i = some none → Aft X.K CA R W0 ρ2 H2 (Kc mh2) Q0 → (J.stop i H2 ∧ ∃ ρ2 mh2, Ext ρ1 H1 ρ2 H2 ∧ RH X.K CA ρ2 mh2 H2 ∧ Aft X.K CA R W0 ρ2 H2 (Kc mh2) Q0) := fun hs hq => ⟨it_stop qJ r3 hs, ρ2, mh2, e3, r3, hq⟩
    unfold M.bind at h3
    cases m with
    | zero =>
      unfold compL at h3
      cases ei : it1.at mh2 i with
      | none => simp only [ei] at h3; exact h3.elim
      | some o =>
        cases o with
        | none => simp only [ei] at h3; exact .inl (stop ei h3)
        | some v => simp only [ei] at h3; exact h3.elim
    | succ m =>
      unfold compL at h3
      cases ei : it1.at mh2 i with
      | none => simp only [ei] at h3; exact h3.elim
      | some o =>
        cases o with
        | none => simp only [ei] at h3; exact .inl (stop ei h3)
        | some w =>
          simp only [ei] at h3
          obtain ⟨g1, g2⟩ := it_go qJ r3 ei
          refine .inr ⟨g1, fun H => ∃ ρ2 mh2, Ext ρ1 H1 ρ2 H ∧ RH X.K CA ρ2 mh2 H ∧ Aft X.K CA R W0 ρ2 H (M.bind (compL step it1 n m (i + 1)) (fun _ => Kc) mh2) Q0,
            fun H' z => ⟨m, Nat.lt_succ_self m, z⟩, fun x H3 y => ?_⟩
          obtain ⟨e4, r4, rv⟩ := g2 x H3 y
          -- the target
          cases es : setT mh2 (wipeM me vs) w t with
          | none =>
            have hst : step w mh2 = .stuck := by rw [← hstep]; unfold stpC; simp only [es]
            unfold M.bind at h3
            simp only [hst] at h3
            exact h3.elim
          | some me' =>
            have at0 : At CA X none ρ2 (wipeM me vs) mh2 (L2.wipe σ vs) H3 := ⟨((rs.mono e3).mono e4).wipe hex vs, r4, fun _ => hcalm⟩
            refine ⟨ρ2, wipeM me vs, mh2, w, me', at0, hex, rv, es, fun σ' rs' hex' hw => ?_⟩
            refine ⟨by rw [hw vs hv]; exact wipe_wipe σ vs, ?_⟩
            have h4 : Aft X.K CA R W0 ρ2 H3 (M.bind (quiet (M.bind (evT T C me' c) fun k => if k = true then M.bind (evE T C me' v) fun w => M.pure (some w) else M.pure none))
                (fun o => M.bind (fun h => match o with
                  | none => compL step it1 n m (i + 1) h
                  | some w => match h.get n with
                    | some (.lst acc) => if acc.length < sizeLine then compL step it1 n m (i + 1) (h.put n (.lst (acc ++ [w]))) else .stuck
                    | _ => .stuck) (fun _ => Kc)) mh2) Q0 := by
              refine Aft.ext ?_ e4
              have hst : step w mh2 = quiet (M.bind (evT T C me' c) fun k => if k = true then M.bind (evE T C me' v) fun w => M.pure (some w) else M.pure none) mh2 := by rw [← hstep]; unfold stpC; simp only [es]
              rw [bind_at, ← hst]
              unfold M.bind at h3 ⊢
              cases hx : step w mh2 with
              | ok o h' =>
                simp only [hx] at h3 ⊢
                cases o <;> exact h3
              | exc cc n h' => simp only [hx] at h3 ⊢; exact h3
              | stuck => simp only [hx] at h3 ⊢; exact h3
            rw [quiet_bind, bind_assoc] at h4
            refine ⟨ρ2, me', mh2, ⟨rs', r4, fun _ => hcalm⟩, (Aft.bndq (σ := σ') h4).imp fun k H4 ⟨ρ5, mh5, k', e5, r5, q5, h5⟩ => ?_⟩
            subst q5
            cases k' with
            | true =>
              rw [if_pos rfl] at h5
              rw [if_pos rfl]
              rw [quiet_bind, bind_assoc] at h5
              refine ⟨ρ5, me', mh5, ⟨rs'.mono e5, r5, fun _ => hcalm⟩, (Aft.bndq (σ := σ') h5).imp fun y H5 ⟨ρ6, mh6, w', e6, r6, q6, h6⟩ => ?_⟩
              have h6' : Aft X.K CA R W0 ρ6 H5 (M.bind (fun h => match h.get n with
                    | some (.lst acc) => if acc.length < sizeLine then compL step it1 n m (i + 1) (h.put n (.lst (acc ++ [w']))) else .stuck
                    | _ => .stuck) (fun _ => Kc) mh6) Q0 := h6
              unfold M.bind at h6'
              cases gg : mh6.get n with
              | none => simp only [gg] at h6'; exact h6'.elim
              | some oo =>
                simp only [gg] at h6'
                cases oo <;> try exact h6'.elim
                rename_i acc
                simp only at h6'
                by_cases hz : acc.length < sizeLine
                · rw [if_pos hz] at h6'
                  have qD6 := (e5.trans e6).map _ _ (e4.map _ _ qD2)
                  obtain ⟨accV, ha, rs6⟩ := r6.at gg qD6
                  obtain ⟨r7, e7⟩ := r6.write (o' := .lst (acc ++ [w'])) (u := .lst (accV ++ [y])) gg qD6 rfl rfl fun H' eq ex => ⟨_, by rw [eq, upd_same], (rs6.append (.cons q6 .nil)).mono ex⟩
                  exact ⟨accV, ha, by rw [← rs6.length]; exact hz, ρ6, _, e3.trans (e4.trans (e5.trans (e6.trans e7))), r7, Aft.ext h6' e7⟩
                · rw [if_neg hz] at h6'; exact h6'.elim
            | false =>
              rw [if_neg (by decide)] at h5
              rw [if_neg (by decide)]
              exact ⟨ρ5, mh5, e3.trans (e4.trans e5), r5, h5⟩
/-- a new list for a comprehension -/
theorem fresh_rd {D : Addr} (r1 : RH X.K CA ρ1 mh1 H1) (hD : H1 D = none) : RH X.K CA (rput ρ1 mh1.next D) (mh1.new (.lst [])) (upd H1 D (.lst [])) ∧ Ext ρ1 H1 (rput ρ1 mh1.next D) (upd H1 D (.lst [])) ∧ rput ρ1 mh1.next D mh1.next = some D :=
  r1.add (o := .lst []) (p := D) (H' := upd H1 D (.lst [])) (fun c o z => by rw [upd_ne (ne_of_none z hD)]; exact z) hD (fun ρ' e => ⟨[], upd_same, .nil⟩)
theorem comp_rd {vs : List Nat} {t : CT} {it : MI} {c v : ME} {Q : VK} (hv : ctIn vs t = true) (at_ : At CA X xi ρ me mh σ H) (hex : me.ex = none)
    (h : Aft X.K CA (RV CA) (fun c d H' => W c d σ H') ρ H (M.bind (evI T C me it) (fun J => fun h => M.bind (newL []) (fun r => match r with
    | .ref n => fun h' => M.bind (compL (fun v_1 h_1 => match setT h_1 (wipeM me vs) v_1 t with
        | some me' => quiet (M.bind (evT T C me' c) fun k => if k = true then M.bind (evE T C me' v) fun w => M.pure (some w) else M.pure none) h_1
        | none => .stuck) J n (J.size h) 0) (fun _ => M.pure (.ref n)) h'
    | _ => M.stuck) h) mh) Q) :
    tLc (tI T CA C X W xi it) (gCT CA X none t) (tT T CA C X WF none c) (tE T CA C X WF none v) ((ownOf N vs).map (·.2)) σ H Q := by
    have hcalm := at_.cm (by rw [hex]; rfl)
    rw [show tLc (tI T CA C X W xi it) (gCT CA X none t) (tT T CA C X WF none c) (tE T CA C X WF none v) ((ownOf N vs).map (·.2)) σ H Q = tLc (tI T CA C X W xi it) (gCT CA X none t) (tT T CA C X WF none c) (tE T CA C X WF none v) vs σ H Q from by rw [own_snd]]
    refine ⟨ρ, me, mh, at_, h.bnd.imp fun J H1 ⟨ρ1, mh1, it1, e1, r1, q1, h1⟩ => ?_⟩
    intro D hD
    obtain ⟨r2, e2, qD⟩ := fresh_rd r1 hD
    have h2 : Aft X.K CA (RV CA) (fun c d H' => W c d σ H') (rput ρ1 mh1.next D) (upd H1 D (.lst [])) (M.bind (compL (stpC T C me vs t c v) it1 mh1.next (it1.size mh1) 0) (fun _ => M.pure (.ref mh1.next)) (mh1.new (.lst []))) Q := Aft.ext h1 e2
    obtain ⟨Wi, w0, wn⟩ := turns_rd (m0 := it1.size mh1) hv hex hcalm (at_.rs.mono (e1.trans e2)) r2 (q1.mono e2) qD h2
    refine ⟨Wi, w0, fun i m H z => ?_⟩
    rcases wn i m H z with ⟨s, ρ2, mh2, e3, r3, h3⟩ | g
    · exact .inl ⟨s, Aft.now (z := MV.ref mh1.next) h3 r3 (.ref (e3.map _ _ qD))⟩
    · exact .inr g
/-- a turn of the outer generator -/
def stpO (T : Tab) (C : CallF) (me : Env) (vs : List Nat) (t : CT) (c : ME) (ws : List Nat) (t1 : CT) (it1 : MI) (c1 v : ME) (n : Nat) : MV → M Unit := fun w h => match setT h (wipeM me vs) w t with
  | some me' => M.bind (quiet (evT T C me' c)) (fun k => if k = true then M.bind (quiet (evI T C me' it1)) (fun J1 => fun h => compL (stpC T C me' ws t1 c1 v) J1 n (J1.size h) 0 h) else M.pure ()) h
  | none => .stuck
theorem comp2_rd {vs ws : List Nat} {t t1 : CT} {it it1 : MI} {c c1 v : ME} {Q : VK} (hv : ctIn vs t = true) (hv1 : ctIn ws t1 = true) (at_ : At CA X xi ρ me mh σ H) (hex : me.ex = none)
    (h : Aft X.K CA (RV CA) (fun c d H' => W c d σ H') ρ H (M.bind (evI T C me it) (fun J => fun h => M.bind (newL []) (fun r => match r with
    | .ref n => fun h' => M.bind (compO (stpO T C me vs t c ws t1 it1 c1 v n) J (J.size h) 0) (fun _ => M.pure (.ref n)) h'
    | _ => M.stuck) h) mh) Q) :
    tLc2 (tI T CA C X W xi it) (gCT CA X none t) (tT T CA C X WF none c) (tI T CA C X WF none it1) (gCT CA X none t1) (tT T CA C X WF none c1) (tE T CA C X WF none v) ((ownOf N vs).map (·.2)) ws σ H Q := by
    have hcalm := at_.cm (by rw [hex]; rfl)
    rw [own_snd]
    refine ⟨ρ, me, mh, at_, h.bnd.imp fun J H1 ⟨ρ1, mh1, jt, e1, r1, q1, h1⟩ => ?_⟩
    intro D hD
    obtain ⟨r2, e2, qD⟩ := fresh_rd r1 hD
    have h2 : Aft X.K CA (RV CA) (fun c d H' => W c d σ H') (rput ρ1 mh1.next D) (upd H1 D (.lst [])) (M.bind (compO (stpO T C me vs t c ws t1 it1 c1 v mh1.next) jt (jt.size mh1) 0) (fun _ => M.pure (.ref mh1.next)) (mh1.new (.lst []))) Q := Aft.ext h1 e2
    have rs := at_.rs.mono (e1.trans e2)
    have qJ0 := q1.mono e2
    generalize rput ρ1 mh1.next D = ρ0 at *
    generalize hH0 : upd H1 D (.lst []) = H0 at *
    generalize mh1.next = n at *
    generalize mh1.new (.lst []) = mh0 at *
    generalize hstep : stpO T C me vs t c ws t1 it1 c1 v n = step at h2
    refine ⟨fun i m H => ∃ ρ2 mh2, Ext ρ0 H0 ρ2 H ∧ RH X.K CA ρ2 mh2 H ∧ Aft X.K CA (RV CA) (fun c d H' => W c d σ H') ρ2 H (M.bind (compO step jt m i) (fun _ => M.pure (.ref n)) mh2) Q,
      ⟨jt.size mh1, _, _, Ext.refl, r2, h2⟩, ?_⟩
    rintro i m H2 ⟨ρ2, mh2, e3, r3, h3⟩
    have qJ := qJ0.mono e3
    have qD2 : ρ2 n = some D := e3.map _ _ qD
    have stop : jt.at mh2 i = some none → Aft X.K CA (RV CA) (fun c d H' => W c d σ H') ρ2 H2 (.ok (.ref n) mh2) Q → (J.stop i H2 ∧ Q (.ref D) H2) := fun hs hq => ⟨it_stop qJ r3 hs, Aft.now (z := MV.ref n) hq r3 (.ref qD2)⟩
    cases m with
    | zero =>
      unfold M.bind at h3
      unfold compO at h3
      cases ei : jt.at mh2 i with
      | none => simp only [ei] at h3; exact h3.elim
      | some o =>
        cases o with
        | none => simp only [ei] at h3; exact .inl (stop ei h3)
        | some v => simp only [ei] at h3; exact h3.elim
    | succ m =>
      cases ei : jt.at mh2 i with
      | none => unfold M.bind at h3; unfold compO at h3; simp only [ei] at h3; exact h3.elim
      | some o =>
        cases o with
        | none => unfold M.bind at h3; unfold compO at h3; simp only [ei] at h3; exact .inl (stop ei h3)
        | some w =>
          have h3' : Aft X.K CA (RV CA) (fun c d H' => W c d σ H') ρ2 H2 (M.bind (step w) (fun _ => M.bind (compO step jt m (i + 1)) (fun _ => M.pure (.ref n))) mh2) Q := by
            have : M.bind (compO step jt (m + 1) i) (fun _ => M.pure (.ref n)) mh2 = M.bind (step w) (fun _ => M.bind (compO step jt m (i + 1)) (fun _ => M.pure (MV.ref n))) mh2 := by
              conv => lhs; unfold M.bind compO
              simp only [ei]
              unfold M.bind
              cases step w mh2 <;> rfl
            rw [← this]; exact h3
          obtain ⟨g1, g2⟩ := it_go qJ r3 ei
          refine .inr ⟨g1, fun H => ∃ ρ2 mh2, Ext ρ0 H0 ρ2 H ∧ RH X.K CA ρ2 mh2 H ∧ Aft X.K CA (RV CA) (fun c d H' => W c d σ H') ρ2 H (M.bind (compO step jt m (i + 1)) (fun _ => M.pure (.ref n)) mh2) Q,
            fun H' z => ⟨m, Nat.lt_succ_self m, z⟩, fun x H3 y => ?_⟩
          obtain ⟨e4, r4, rv⟩ := g2 x H3 y
          cases es : setT mh2 (wipeM me vs) w t with
          | none =>
            have hst : step w mh2 = .stuck := by rw [← hstep]; unfold stpO; simp only [es]
            unfold M.bind at h3'
            simp only [hst] at h3'
            exact h3'.elim
          | some me' =>
            have at0 : At CA X none ρ2 (wipeM me vs) mh2 (L2.wipe σ vs) H3 := ⟨((rs.mono e3).mono e4).wipe hex vs, r4, fun _ => hcalm⟩
            refine ⟨ρ2, wipeM me vs, mh2, w, me', at0, hex, rv, es, fun σ' rs' hex' hw => ?_⟩
            refine ⟨by rw [hw vs hv]; exact wipe_wipe σ vs, ?_⟩
            generalize hrest : M.bind (compO step jt m (i + 1)) (fun _ => M.pure (MV.ref n)) = rest at h3' ⊢
            have h4 : Aft X.K CA (RV CA) (fun c d H' => W c d σ H') ρ2 H3 (M.bind (quiet (evT T C me' c)) (fun k => M.bind (if k = true then M.bind (quiet (evI T C me' it1)) (fun J1 => fun h => compL (stpC T C me' ws t1 c1 v) J1 n (J1.size h) 0 h) else M.pure ()) (fun _ => rest)) mh2) Q := by
              refine Aft.ext ?_ e4
              rw [← bind_assoc]
              have hst : step w mh2 = M.bind (quiet (evT T C me' c)) (fun k => if k = true then M.bind (quiet (evI T C me' it1)) (fun J1 => fun h => compL (stpC T C me' ws t1 c1 v) J1 n (J1.size h) 0 h) else M.pure ()) mh2 := by rw [← hstep]; unfold stpO; simp only [es]
              rw [bind_at, ← hst]
              rw [bind_at] at h3'
              exact h3'
            refine ⟨ρ2, me', mh2, ⟨rs', r4, fun _ => hcalm⟩, (Aft.bndq (σ := σ') h4).imp fun k H4 ⟨ρ5, mh5, k', e5, r5, q5, h5⟩ => ?_⟩
            subst q5
            cases k' with
            | true =>
              rw [if_pos rfl] at h5
              rw [if_pos rfl]
              rw [bind_assoc] at h5
              refine ⟨ρ5, me', mh5, ⟨rs'.mono e5, r5, fun _ => hcalm⟩, (Aft.bndq (σ := σ') h5).imp fun J1 H5 ⟨ρ6, mh6, it2, e6, r6, q6, h6⟩ => ?_⟩
              have h6' : Aft X.K CA (RV CA) (fun c d H' => W c d σ H') ρ6 H5 (M.bind (compL (stpC T C me' ws t1 c1 v) it2 n (it2.size mh6) 0) (fun _ => rest) mh6) Q := h6
              obtain ⟨Wi, w0, wn⟩ := turns_rd (xi := none) hv1 hex' hcalm ((rs'.mono e5).mono e6) r6 q6 ((e5.trans e6).map _ _ (e4.map _ _ qD2)) h6'
              refine ⟨Wi, w0, fun j k H z => ?_⟩
              rcases wn j k H z with ⟨s, ρ7, mh7, e7, r7, h7⟩ | g
              · exact .inl ⟨s, ρ7, mh7, e3.trans (e4.trans (e5.trans (e6.trans e7))), r7, h7⟩
              · exact .inr g
            | false =>
              rw [if_neg (by decide)] at h5
              rw [if_neg (by decide)]
              exact ⟨ρ5, mh5, e3.trans (e4.trans e5), r5, h5⟩
theorem pe_comps2 {vs ws : List Nat} {t t1 : CT} {it it1 : MI} {c c1 v : ME} {elt tg iter tg1 iter1 : Expr} {ifs ifs1 : List Expr} {scope : Scope} (ct : Ct T CA N sc C X W xi) (hb : blkC N sc scope (ownOf N vs) = true) (ht : ckCT N scope t tg = true) (hv : ctIn vs t = true) (ht1 : ckCT N scope t1 tg1 = true) (hv1 : ctIn ws t1 = true) (hws : ws.all (fun i => vs.contains i) = true)
    (hi : PI X tg iter (tI T CA C X W xi it)) (hfs : ∀ x, foldedSetIterable iter X.env x = pure x)
    (hif : ∀ (s : Shared) (H : Hp) (C0 : Addr) (cl : List (Str × Addr)) (fp : List Addr), PTs (X.blk s H scope (compEnvC scope cl C0 X.env) fp) ifs (tT T CA C X WF none c))
    (hi1 : ∀ (s : Shared) (H : Hp) (C0 : Addr) (cl : List (Str × Addr)) (fp : List Addr), PI (X.blk s H scope (compEnvC scope cl C0 X.env) fp) tg1 iter1 (tI T CA C X WF none it1)) (hfs1 : ∀ (s : Shared) env x, foldedSetIterable iter1 env x = pure x)
    (hif1 : ∀ (s : Shared) (H : Hp) (C0 : Addr) (cl : List (Str × Addr)) (fp : List Addr), PTs (X.blk s H scope (compEnvC scope cl C0 X.env) fp) ifs1 (tT T CA C X WF none c1))
    (he : ∀ (s : Shared) (H : Hp) (C0 : Addr) (cl : List (Str × Addr)) (fp : List Addr), PE (X.blk s H scope (compEnvC scope cl C0 X.env) fp) elt (tE T CA C X WF none v)) :
    PE X (.ListComp elt [⟨tg, iter, ifs, 0⟩, ⟨tg1, iter1, ifs1, 0⟩] scope pos) (tE T CA C X W xi (.comp2 vs t it c ws t1 it1 c1 v)) := by
  have ok0 : BlkOk N sc scope (ownOf N vs) := blkOk_by hb
  have ok : BlkOk X.N X.env.scope scope (ownOf N vs) := by
    rw [ct.g.nm]
    refine ⟨ok0.kind, ok0.uniq, ok0.ix, fun y hy hf => ?_, ok0.own⟩
    rcases ok0.free y hy hf with z | z
    · rcases ct.g.sc _ _ z with q | ⟨q, _⟩
      · exact .inl q
      · cases q
    · rcases ct.g.sc _ _ z with q | ⟨_, q⟩
      · exact .inr q
      · exact .inl q
  refine ⟨fun pins s σ H Q I ⟨ρ, me, mh, at_, h⟩ => ?_⟩
  unfold evE at h
  by_cases hc : me.ex.isSome = true
  · rw [if_pos hc] at h; exact h.elim
  · rw [if_neg hc] at h
    have hex : me.ex = none := by simpa using hc
    have hcalm := at_.cm (by simpa using hc)
    refine (pe_lc2 (g := gCT CA X none t) (g1 := gCT CA X none t1) (vs1 := ws) hcalm ct.g.nd hi ok (fun i hi => by rw [own_snd]; have := List.all_eq_true.mp hws i hi; simpa using this) (fun s H C0 cl fp => pg_ct (xi := none) (X := X.blk s H scope (compEnvC scope cl C0 X.env) fp) (ct.blk (s := s) (H := H) (cl := cl) (C0 := C0) (fp := fp) ok.kind).g (ct.blk (s := s) (H := H) (cl := cl) (C0 := C0) (fp := fp) ok.kind).fn hcalm ht) hif hi1 (fun s H C0 cl fp => pg_ct (xi := none) (X := X.blk s H scope (compEnvC scope cl C0 X.env) fp) (ct.blk (s := s) (H := H) (cl := cl) (C0 := C0) (fp := fp) ok.kind).g (ct.blk (s := s) (H := H) (cl := cl) (C0 := C0) (fp := fp) ok.kind).fn hcalm ht1) hif1 he hfs (hfs1 s)).run pins s σ H Q I ?_
    exact comp2_rd hv hv1 at_ hex h
theorem pe_comps {vs : List Nat} {t : CT} {it : MI} {c v : ME} {elt tg iter : Expr} {ifs : List Expr} {scope : Scope} (ct : Ct T CA N sc C X W xi) (hb : blkC N sc scope (ownOf N vs) = true) (ht : ckCT N scope t tg = true) (hv : ctIn vs t = true)
    (hi : PI X tg iter (tI T CA C X W xi it)) (hfs : ∀ x, foldedSetIterable iter X.env x = pure x)
    (hif : ∀ (s : Shared) (H : Hp) (C0 : Addr) (cl : List (Str × Addr)) (fp : List Addr), PTs (X.blk s H scope (compEnvC scope cl C0 X.env) fp) ifs (tT T CA C X WF none c))
    (he : ∀ (s : Shared) (H : Hp) (C0 : Addr) (cl : List (Str × Addr)) (fp : List Addr), PE (X.blk s H scope (compEnvC scope cl C0 X.env) fp) elt (tE T CA C X WF none v)) :
    PE X (.ListComp elt [⟨tg, iter, ifs, 0⟩] scope pos) (tE T CA C X W xi (.comp vs t it c v)) := by
  have ok0 : BlkOk N sc scope (ownOf N vs) := blkOk_by hb
  have ok : BlkOk X.N X.env.scope scope (ownOf N vs) := by
    rw [ct.g.nm]
    refine ⟨ok0.kind, ok0.uniq, ok0.ix, fun y hy hf => ?_, ok0.own⟩
    rcases ok0.free y hy hf with z | z
    · rcases ct.g.sc _ _ z with q | ⟨q, _⟩
      · exact .inl q
      · cases q
    · rcases ct.g.sc _ _ z with q | ⟨_, q⟩
      · exact .inr q
      · exact .inl q
  refine ⟨fun pins s σ H Q I ⟨ρ, me, mh, at_, h⟩ => ?_⟩
  unfold evE at h
  by_cases hc : me.ex.isSome = true
  · rw [if_pos hc] at h; exact h.elim
  · rw [if_neg hc] at h
    have hex : me.ex = none := by simpa using hc
    have hcalm := at_.cm (by simpa using hc)
    refine (pe_lc (g := gCT CA X none t) hcalm ct.g.nd hi ok (fun s H C0 cl fp => pg_ct (xi := none) (X := X.blk s H scope (compEnvC scope cl C0 X.env) fp) (ct.blk (s := s) (H := H) (cl := cl) (C0 := C0) (fp := fp) ok.kind).g (ct.blk (s := s) (H := H) (cl := cl) (C0 := C0) (fp := fp) ok.kind).fn hcalm ht) hif he hfs).run pins s σ H Q I ?_
    exact comp_rd hv at_ hex h
end
end Mi
end

section
/-! Mini, part 11: the theorem about expressions. -/
namespace Mi
open PySem PySem.Spec PyProof.Rows L2

def isBool : Expr → Bool
  | .BoolOp _ _ _ => true
  | _ => false
theorem ba {a b : Bool} (h : (a && b) = true) : a = true ∧ b = true := Bool.and_eq_true_iff.mp h
theorem dc {p : Prop} [Decidable p] (h : decide p = true) : p := of_decide_eq_true h
theorem isTru {c : ME} (h : (match c with | .bl true => true | _ => false) = true) : c = .bl true := by
  split at h
  · rfl
  · cases h
variable {T : Tab} {CA : Str → Addr} {C : CallF}
mutual
theorem sndE : ∀ (m : ME) (e : Expr) {N : List Str} {sc : Scope} {X : Cx} {W : WX} {xi : Option (Nat × Addr × Addr)}, Ct T CA N sc C X W xi → ckE T N sc m e = true → PE X e (tE T CA C X W xi m)
  | .non, e, N, sc, X, W, xi, ct, h => by
    unfold ckE at h
    split at h
    · exact PE.to pe_non fun σ H Q ⟨ρ, me, mh, at_, h⟩ => by unfold evE at h; exact Aft.now (z := MV.non) h at_.rh .non
    · cases h
  | .bl b, e, N, sc, X, W, xi, ct, h => by
    unfold ckE at h
    split at h
    · rename_i c _ _
      obtain rfl : b = c := beq_iff_eq.mp h
      exact PE.to pe_bl fun σ H Q ⟨ρ, me, mh, at_, h⟩ => by unfold evE at h; exact Aft.now (z := MV.bl b) h at_.rh (.bl _)
    · cases h
  | .int i, e, N, sc, X, W, xi, ct, h => by
    unfold ckE at h
    split at h
    · rename_i c _ _
      obtain rfl : i = c := dc h
      exact PE.to pe_int fun σ H Q ⟨ρ, me, mh, at_, h⟩ => by unfold evE at h; exact Aft.now (z := MV.int i) h at_.rh (.int _)
    · cases h
  | .str i, e, N, sc, X, W, xi, ct, h => by
    unfold ckE at h
    split at h
    · rename_i c _ _
      obtain rfl : i = c := dc h
      exact PE.to pe_str fun σ H Q ⟨ρ, me, mh, at_, h⟩ => by unfold evE at h; exact Aft.now (z := MV.str i) h at_.rh (.str _)
    · cases h
  | .var i, e, N, sc, X, W, xi, ct, h => by
    unfold ckE at h
    split at h
    · obtain ⟨h1, h2⟩ := ba h
      exact pe_slot ct (dc h1) h2
    · cases h
  | .ty n, e, N, sc, X, W, xi, ct, h => by
    unfold ckE at h
    split at h
    · rename_i x p
      obtain ⟨h, h3⟩ := ba h
      obtain ⟨h1, h2⟩ := ba h
      obtain ⟨g1, g2, g3⟩ := glb_of ct.g h1
      exact PE.to (pe_bltn (v := .ty n) g1 (ct.g.st.free x h2) (dc h3) rfl g3 g2) fun σ H Q ⟨ρ, me, mh, at_, h⟩ => by unfold evE at h; exact Aft.now (z := MV.ty n) h at_.rh (.ty _)
    · cases h
  | .cls n, e, N, sc, X, W, xi, ct, h => by
    unfold ckE at h
    split at h
    · rename_i x p
      obtain ⟨h, h3⟩ := ba h
      obtain ⟨h1, h2⟩ := ba h
      obtain ⟨g1, g2, g3⟩ := glb_of ct.g h2
      obtain rfl : x = n := dc h1
      exact PE.to (pe_glob (v := .ref (CA x)) g1 (ct.g.st.cls x h3) rfl g2) fun σ H Q ⟨ρ, me, mh, at_, h⟩ => by unfold evE at h; exact Aft.now (z := MV.cls x) h at_.rh (.cls _)
    · cases h
  | .gint y i, e, N, sc, X, W, xi, ct, h => by
    unfold ckE at h
    split at h
    · rename_i x p
      obtain ⟨h, h3⟩ := ba h
      obtain ⟨h1, h2⟩ := ba h
      obtain ⟨g1, g2, g3⟩ := glb_of ct.g h2
      obtain rfl : x = y := dc h1
      obtain ⟨t, ht⟩ := ct.g.st.gi x i h3
      exact PE.to (pe_glob (v := .int i) g1 ht ⟨t, rfl⟩ g2) fun σ H Q ⟨ρ, me, mh, at_, h⟩ => by unfold evE at h; exact Aft.now (z := MV.int i) h at_.rh (.int _)
    · cases h
  | .bin op a b, e, N, sc, X, W, xi, ct, h => by
    unfold ckE at h
    split at h
    · obtain ⟨h, h3⟩ := ba h
      obtain ⟨h1, h2⟩ := ba h
      obtain rfl := dc h1
      exact pe_bin (sndE a _ ct h2) (sndE b _ ct h3)
    · cases h
  | .neg a, e, N, sc, X, W, xi, ct, h => by
    unfold ckE at h
    split at h
    · exact pe_negs (sndE a _ ct h)
    · cases h
  | .notE a, e, N, sc, X, W, xi, ct, h => by
    unfold ckE at h
    split at h
    · exact pe_nots (sndE a _ ct h)
    · cases h
  | .cmp op a b, e, N, sc, X, W, xi, ct, h => by
    unfold ckE at h
    split at h
    · obtain ⟨h, h4⟩ := ba h
      obtain ⟨h, h3⟩ := ba h
      obtain ⟨h1, h2⟩ := ba h
      obtain rfl := dc h1
      exact pe_cmpM ct.g.st.sm ct.g.un h4 (sndE a _ ct h2) (sndE b _ ct h3)
    · cases h
  | .chain op1 op2 a b c, e, N, sc, X, W, xi, ct, h => by
    unfold ckE at h
    split at h
    · obtain ⟨h, h6⟩ := ba h
      obtain ⟨h, h5⟩ := ba h
      obtain ⟨h, h4⟩ := ba h
      obtain ⟨h, h3⟩ := ba h
      obtain ⟨h1, h2⟩ := ba h
      obtain rfl := dc h1
      obtain rfl := dc h2
      exact pe_chainM ct.g.st.sm ct.g.un h6 (sndE a _ ct h3) (sndE b _ ct h4) (sndE c _ ct h5)
    · cases h
  | .chain3 op1 op2 op3 a b c d, e, N, sc, X, W, xi, ct, h => by
    unfold ckE at h
    split at h
    · obtain ⟨h, h8⟩ := ba h
      obtain ⟨h, h7⟩ := ba h
      obtain ⟨h, h6⟩ := ba h
      obtain ⟨h, h5⟩ := ba h
      obtain ⟨h, h4⟩ := ba h
      obtain ⟨h, h3⟩ := ba h
      obtain ⟨h1, h2⟩ := ba h
      obtain rfl := dc h1
      obtain rfl := dc h2
      obtain rfl := dc h3
      exact pe_chain3M ct.g.st.sm ct.g.un h8 (sndE a _ ct h4) (sndE b _ ct h5) (sndE c _ ct h6) (sndE d _ ct h7)
    · cases h
  | .and a b, e, N, sc, X, W, xi, ct, h => by
    unfold ckE at h
    split at h
    · rename_i a' r pos
      obtain ⟨h1, h2⟩ := ba h
      cases r with
      | nil => cases h2
      | cons b' r =>
        cases r with
        | nil => exact pe_ands (sndE a _ ct h1) (pe_one (sndE b _ ct h2))
        | cons c' r => exact pe_ands (sndE a _ ct h1) (sndE b _ ct h2)
    · cases h
  | .or a b, e, N, sc, X, W, xi, ct, h => by
    unfold ckE at h
    split at h
    · rename_i a' r pos
      obtain ⟨h1, h2⟩ := ba h
      cases r with
      | nil => cases h2
      | cons b' r =>
        cases r with
        | nil => exact pe_ors (sndE a _ ct h1) (pe_one (sndE b _ ct h2))
        | cons c' r => exact pe_ors (sndE a _ ct h1) (sndE b _ ct h2)
    · cases h
  | .ife c a b, e, N, sc, X, W, xi, ct, h => by
    unfold ckE at h
    split at h
    · obtain ⟨h, h3⟩ := ba h
      obtain ⟨h1, h2⟩ := ba h
      exact pe_ifes (sndT c _ ct h1).1 (sndE a _ ct h2) (sndE b _ ct h3)
    · cases h
  | .sub a i, e, N, sc, X, W, xi, ct, h => by
    unfold ckE at h
    split at h
    · obtain ⟨h, h3⟩ := ba h
      obtain ⟨h1, h2⟩ := ba h
      exact pe_subs h3 (sndE a _ ct h1) (sndE i _ ct h2)
    · cases h
  | .slc a lo hi, e, N, sc, X, W, xi, ct, h => by
    unfold ckE at h
    split at h
    · obtain ⟨h, h3⟩ := ba h
      obtain ⟨h1, h2⟩ := ba h
      exact pe_slcs (sndE a _ ct h1) (sndO lo _ ct h2) (sndO hi _ ct h3)
    · cases h
  | .dc kvs, e, N, sc, X, W, xi, ct, h => by
    unfold ckE at h
    split at h
    · exact pe_dcs h
    · cases h
  | .rev a, e, N, sc, X, W, xi, ct, h => by
    unfold ckE at h
    split at h
    · exact pe_revs (sndE a _ ct h)
    · cases h
  | .lsi a, e, N, sc, X, W, xi, ct, h => by
    unfold ckE at h
    split at h
    · obtain ⟨h, h7⟩ := ba h
      obtain ⟨h, h6⟩ := ba h
      obtain ⟨h, h5⟩ := ba h
      obtain ⟨h, h4⟩ := ba h
      obtain ⟨h, h3⟩ := ba h
      obtain ⟨h1, h2⟩ := ba h
      exact pe_lsis ct (dc h1) (dc h2) h3 h4 h5 h6 (noStar_of h7) (sndE a _ ct h7)
    · cases h
  | .sst a, e, N, sc, X, W, xi, ct, h => by
    unfold ckE at h
    split at h
    · obtain ⟨h, h7⟩ := ba h
      obtain ⟨h, h6⟩ := ba h
      obtain ⟨h, h5⟩ := ba h
      obtain ⟨h, h4⟩ := ba h
      obtain ⟨h, h3⟩ := ba h
      obtain ⟨h1, h2⟩ := ba h
      exact pe_ssts ct (dc h1) (dc h2) h3 h4 h5 h6 (noStar_of h7) (sndE a _ ct h7)
    · cases h
  | .gcd f es, e, N, sc, X, W, xi, ct, h => by
    unfold ckE at h
    split at h
    · obtain ⟨h, h4⟩ := ba h
      obtain ⟨h, h3⟩ := ba h
      obtain ⟨h1, h2⟩ := ba h
      exact pe_gcds ct (dc h1) h2 h3 (noStars_of h4) (sndEs es _ ct h4)
    · cases h
  | .tup es, e, N, sc, X, W, xi, ct, h => by
    unfold ckE at h
    split at h
    · exact pe_tups (sndEs es _ ct h)
    · cases h
  | .lst es, e, N, sc, X, W, xi, ct, h => by
    unfold ckE at h
    split at h
    · exact pe_lsts (sndEs es _ ct h)
    · cases h
  | .call f es ks kes pm, e, N, sc, X, W, xi, ct, h => by
    unfold ckE at h
    split at h
    · obtain ⟨h, h7⟩ := ba h
      obtain ⟨h, h6⟩ := ba h
      obtain ⟨h, h5⟩ := ba h
      obtain ⟨h, h4⟩ := ba h
      obtain ⟨h, h3⟩ := ba h
      obtain ⟨h1, h2⟩ := ba h
      cases hf : T.fn f with
      | none => rw [hf] at h7; cases h7
      | some fi =>
        rw [hf] at h7
        exact pe_calls ct (dc h1) h2 hf (by simpa using h7) (fun i hi => dc (List.all_eq_true.mp h6 i hi)) h4 (noStars_of h3) (ckEs_len h3) (ckK_len h5) (sndEs es _ ct h3) (sndK kes _ ct h5)
    · cases h
  | .mk c es, e, N, sc, X, W, xi, ct, h => by
    unfold ckE at h
    split at h
    · obtain ⟨h, h5⟩ := ba h
      obtain ⟨h, h4⟩ := ba h
      obtain ⟨h, h3⟩ := ba h
      obtain ⟨h1, h2⟩ := ba h
      cases hf : T.me c "__init__" with
      | none => rw [hf] at h5; cases h5
      | some fi =>
        rw [hf] at h5
        exact pe_mks ct (dc h1) h2 h3 hf (by simpa using h5) (noStars_of h4) (ckEs_len h4) (sndEs es _ ct h4)
    · cases h
  | .meth o m es ks kes pm, e, N, sc, X, W, xi, ct, h => by
    unfold ckE at h
    split at h
    · obtain ⟨h, h10⟩ := ba h
      obtain ⟨h, h9⟩ := ba h
      obtain ⟨h, h8⟩ := ba h
      obtain ⟨h, h7⟩ := ba h
      obtain ⟨h, h6⟩ := ba h
      obtain ⟨h, h5⟩ := ba h
      obtain ⟨h, h4⟩ := ba h
      obtain ⟨h, h3⟩ := ba h
      obtain ⟨h1, h2⟩ := ba h
      obtain rfl := dc h1
      exact pe_meths ct h3 h10 (fun i hi => dc (List.all_eq_true.mp h7 i hi)) h5 (noStars_of h4) (ckEs_len h4) (ckK_len h6) (dc h8) h9 (sndE o _ ct h2) (sndEs es _ ct h4) (sndK kes _ ct h6)
    · cases h
  | .bi b es, e, N, sc, X, W, xi, ct, h => by
    unfold ckE at h
    split at h
    · obtain ⟨h, h4⟩ := ba h
      obtain ⟨h, h3⟩ := ba h
      obtain ⟨h1, h2⟩ := ba h
      exact pe_bis ct (dc h1) h2 h3 (noStars_of h4) (sndEs es _ ct h4)
    · cases h
  | .app o v, e, N, sc, X, W, xi, ct, h => by
    unfold ckE at h
    split at h
    · obtain ⟨h, h5⟩ := ba h
      obtain ⟨h, h4⟩ := ba h
      obtain ⟨h, h3⟩ := ba h
      obtain ⟨h1, h2⟩ := ba h
      obtain rfl := dc h1
      exact pe_apps h3 (noStar_of h4) h5 (sndE o _ ct h2) (sndE v _ ct h4)
    · cases h
  | .fld o f, e, N, sc, X, W, xi, ct, h => by
    unfold ckE at h
    split at h
    · obtain ⟨h, h3⟩ := ba h
      obtain ⟨h1, h2⟩ := ba h
      obtain rfl := dc h1
      exact pe_flds ct h3 (sndE o _ ct h2)
    · cases h
  | .efld i f, e, N, sc, X, W, xi, ct, h => by
    unfold ckE at h
    split at h
    · obtain ⟨h, h3⟩ := ba h
      obtain ⟨h1, h2⟩ := ba h
      obtain rfl := dc h1
      exact pe_exf ct (dc h2) h3
    · cases h
  | .comp vs t it c v, e, N, sc, X, W, xi, ct, h => by
    unfold ckE at h
    split at h
    · rename_i elt tg iter ifs scope pos
      obtain ⟨h, h6⟩ := ba h
      obtain ⟨h, h5⟩ := ba h
      obtain ⟨h, h4⟩ := ba h
      obtain ⟨h, h3⟩ := ba h
      obtain ⟨h1, h2⟩ := ba h
      have hk : scope.kind = .function := (blkOk_by h1).kind
      refine pe_comps ct h1 h2 h6 (sndI it tg iter ct h3).1 ((sndI it tg iter ct h3).2 _) (fun s H C0 cl fp => ?_) (fun s H C0 cl fp => sndE v elt (ct.blk hk) h5)
      cases ifs with
      | nil =>
        have hcc : c = .bl true := isTru h4
        subst hcc
        refine ⟨fun pins s σ H Q I ⟨ρ, me, mh, at_, h⟩ => pts_nil.run pins s σ H Q I ?_⟩
        unfold evT at h
        exact Aft.now (z := true) h at_.rh rfl
      | cons c' r =>
        cases r with
        | nil => exact pts_one (sndT c c' (ct.blk hk) h4).1
        | cons _ _ => cases h4
    · cases h
  | .comp2 vs t it c ws t1 it1 c1 v, e, N, sc, X, W, xi, ct, h => by
    unfold ckE at h
    split at h
    · rename_i elt tg iter ifs tg1 iter1 ifs1 scope pos
      obtain ⟨h, h11⟩ := ba h
      obtain ⟨h, h10⟩ := ba h
      obtain ⟨h, h9⟩ := ba h
      obtain ⟨h, h8⟩ := ba h
      obtain ⟨h, h7⟩ := ba h
      obtain ⟨h, h6⟩ := ba h
      obtain ⟨h, h5⟩ := ba h
      obtain ⟨h, h4⟩ := ba h
      obtain ⟨h, h3⟩ := ba h
      obtain ⟨h1, h2⟩ := ba h
      have hk : scope.kind = .function := (blkOk_by h1).kind
      refine pe_comps2 ct h1 h2 h9 h5 h10 h11 (sndI it tg iter ct h3).1 ((sndI it tg iter ct h3).2 _) (fun s H C0 cl fp => ?_) (fun s H C0 cl fp => (sndI it1 tg1 iter1 (ct.blk hk) h6).1) (fun s env x => (sndI it1 tg1 iter1 (ct.blk (s := s) (H := fun _ => none) (C0 := 0) (cl := []) (fp := []) hk) h6).2 env x) (fun s H C0 cl fp => ?_) (fun s H C0 cl fp => sndE v elt (ct.blk hk) h8)
      · cases ifs with
        | nil =>
          have hcc : c = .bl true := isTru h4
          subst hcc
          refine ⟨fun pins s σ H Q I ⟨ρ, me, mh, at_, h⟩ => pts_nil.run pins s σ H Q I ?_⟩
          unfold evT at h
          exact Aft.now (z := true) h at_.rh rfl
        | cons c' r =>
          cases r with
          | nil => exact pts_one (sndT c c' (ct.blk hk) h4).1
          | cons _ _ => cases h4
      · cases ifs1 with
        | nil =>
          have hcc : c1 = .bl true := isTru h7
          subst hcc
          refine ⟨fun pins s σ H Q I ⟨ρ, me, mh, at_, h⟩ => pts_nil.run pins s σ H Q I ?_⟩
          unfold evT at h
          exact Aft.now (z := true) h at_.rh rfl
        | cons c' r =>
          cases r with
          | nil => exact pts_one (sndT c1 c' (ct.blk hk) h7).1
          | cons _ _ => cases h7
    · cases h
theorem sndT : ∀ (m : ME) (e : Expr) {N : List Str} {sc : Scope} {X : Cx} {W : WX} {xi : Option (Nat × Addr × Addr)}, Ct T CA N sc C X W xi → ckT T N sc m e = true → PT X e (tT T CA C X W xi m) ∧ (isBool e = true → PW X e (tT T CA C X W xi m))
  | .and a b, e, N, sc, X, W, xi, ct, h => by
    unfold ckT at h
    split at h
    · rename_i a' r pos
      obtain ⟨h1, h2⟩ := ba h
      have P : PW X (.BoolOp .And (a' :: r) pos) (tT T CA C X W xi (.and a b)) := by
        cases r with
        | nil => cases h2
        | cons b' r =>
          cases r with
          | nil => exact pw_ands (sndT a _ ct h1).1 (pw_and1 (sndT b _ ct h2).1)
          | cons c' r => exact pw_ands (sndT a _ ct h1).1 ((sndT b _ ct h2).2 rfl)
      exact ⟨P.pt, fun _ => P⟩
    · cases h
  | .or a b, e, N, sc, X, W, xi, ct, h => by
    unfold ckT at h
    split at h
    · rename_i a' r pos
      obtain ⟨h1, h2⟩ := ba h
      have P : PW X (.BoolOp .Or (a' :: r) pos) (tT T CA C X W xi (.or a b)) := by
        cases r with
        | nil => cases h2
        | cons b' r =>
          cases r with
          | nil => exact pw_ors (sndT a _ ct h1).1 (pw_or1 (sndT b _ ct h2).1)
          | cons c' r => exact pw_ors (sndT a _ ct h1).1 ((sndT b _ ct h2).2 rfl)
      exact ⟨P.pt, fun _ => P⟩
    · cases h
  | .notE a, e, N, sc, X, W, xi, ct, h => by
    unfold ckT at h
    split at h
    · exact ⟨pt_nots (sndT a _ ct h).1, fun z => by cases z⟩
    · cases h
  | .cmp op a b, e, N, sc, X, W, xi, ct, h => by
    unfold ckT at h
    split at h
    · obtain ⟨h, h4⟩ := ba h
      obtain ⟨h, h3⟩ := ba h
      obtain ⟨h1, h2⟩ := ba h
      obtain rfl := dc h1
      exact ⟨pt_cmps ct.g.st.sm ct.g.un h4 (sndE a _ ct h2) (sndE b _ ct h3), fun z => by cases z⟩
    · cases h
  | .chain op1 op2 a b c, e, N, sc, X, W, xi, ct, h => by
    unfold ckT at h
    split at h
    · obtain ⟨h, h6⟩ := ba h
      obtain ⟨h, h5⟩ := ba h
      obtain ⟨h, h4⟩ := ba h
      obtain ⟨h, h3⟩ := ba h
      obtain ⟨h1, h2⟩ := ba h
      obtain rfl := dc h1
      obtain rfl := dc h2
      exact ⟨pt_chains ct.g.st.sm ct.g.un h6 (sndE a _ ct h3) (sndE b _ ct h4) (sndE c _ ct h5), fun z => by cases z⟩
    · cases h
  | .bl b, e, N, sc, X, W, xi, ct, h => by
    unfold ckT at h
    split at h
    · rename_i c _ _
      obtain rfl : b = c := beq_iff_eq.mp h
      exact ⟨pt_vals rfl (PE.to pe_bl fun σ H Q ⟨ρ, me, mh, at_, h⟩ => by unfold evE at h; exact Aft.now (z := MV.bl b) h at_.rh (.bl _)) fun me => by unfold evT evE; rfl, fun z => by cases z⟩
    · cases h
  | .var i, e, N, sc, X, W, xi, ct, h => by
    unfold ckT at h
    split at h
    · obtain ⟨h1, h2⟩ := ba h
      exact ⟨pt_vals rfl (pe_slot ct (dc h1) h2) fun me => by unfold evT evE; rfl, fun z => by cases z⟩
    · cases h
  | .sub a i, e, N, sc, X, W, xi, ct, h => by
    unfold ckT at h
    split at h
    · obtain ⟨h, h3⟩ := ba h
      obtain ⟨h1, h2⟩ := ba h
      exact ⟨pt_vals rfl (pe_subs h3 (sndE a _ ct h1) (sndE i _ ct h2)) fun me => by unfold evT; conv => rhs; unfold evE, fun z => by cases z⟩
    · cases h
  | .call f es ks kes pm, e, N, sc, X, W, xi, ct, h => by
    unfold ckT at h
    split at h
    · obtain ⟨h, h7⟩ := ba h
      obtain ⟨h, h6⟩ := ba h
      obtain ⟨h, h5⟩ := ba h
      obtain ⟨h, h4⟩ := ba h
      obtain ⟨h, h3⟩ := ba h
      obtain ⟨h1, h2⟩ := ba h
      cases hf : T.fn f with
      | none => rw [hf] at h7; cases h7
      | some fi =>
        rw [hf] at h7
        exact ⟨pt_vals rfl (pe_calls ct (dc h1) h2 hf (by simpa using h7) (fun i hi => dc (List.all_eq_true.mp h6 i hi)) h4 (noStars_of h3) (ckEs_len h3) (ckK_len h5) (sndEs es _ ct h3) (sndK kes _ ct h5)) fun me => by unfold evT; conv => rhs; unfold evE, fun z => by cases z⟩
    · cases h
  | .meth o m es ks kes pm, e, N, sc, X, W, xi, ct, h => by
    unfold ckT at h
    split at h
    · obtain ⟨h, h10⟩ := ba h
      obtain ⟨h, h9⟩ := ba h
      obtain ⟨h, h8⟩ := ba h
      obtain ⟨h, h7⟩ := ba h
      obtain ⟨h, h6⟩ := ba h
      obtain ⟨h, h5⟩ := ba h
      obtain ⟨h, h4⟩ := ba h
      obtain ⟨h, h3⟩ := ba h
      obtain ⟨h1, h2⟩ := ba h
      obtain rfl := dc h1
      exact ⟨pt_vals rfl (pe_meths ct h3 h10 (fun i hi => dc (List.all_eq_true.mp h7 i hi)) h5 (noStars_of h4) (ckEs_len h4) (ckK_len h6) (dc h8) h9 (sndE o _ ct h2) (sndEs es _ ct h4) (sndK kes _ ct h6)) fun me => by unfold evT; conv => rhs; unfold evE, fun z => by cases z⟩
    · cases h
  | .bi b es, e, N, sc, X, W, xi, ct, h => by
    unfold ckT at h
    split at h
    · obtain ⟨h, h4⟩ := ba h
      obtain ⟨h, h3⟩ := ba h
      obtain ⟨h1, h2⟩ := ba h
      exact ⟨pt_vals rfl (pe_bis ct (dc h1) h2 h3 (noStars_of h4) (sndEs es _ ct h4)) fun me => by unfold evT; conv => rhs; unfold evE, fun z => by cases z⟩
    · cases h
  | .non, e, N, sc, X, W, xi, ct, h => by unfold ckT at h; cases h
  | .int i, e, N, sc, X, W, xi, ct, h => by unfold ckT at h; cases h
  | .str i, e, N, sc, X, W, xi, ct, h => by unfold ckT at h; cases h
  | .ty n, e, N, sc, X, W, xi, ct, h => by unfold ckT at h; cases h
  | .cls n, e, N, sc, X, W, xi, ct, h => by unfold ckT at h; cases h
  | .gint y i, e, N, sc, X, W, xi, ct, h => by unfold ckT at h; cases h
  | .bin op a b, e, N, sc, X, W, xi, ct, h => by unfold ckT at h; cases h
  | .neg a, e, N, sc, X, W, xi, ct, h => by unfold ckT at h; cases h
  | .ife c a b, e, N, sc, X, W, xi, ct, h => by unfold ckT at h; cases h
  | .slc a lo hi, e, N, sc, X, W, xi, ct, h => by unfold ckT at h; cases h
  | .rev a, e, N, sc, X, W, xi, ct, h => by unfold ckT at h; cases h
  | .comp2 vs t it c ws t1 it1 c1 v, e, N, sc, X, W, xi, ct, h => by unfold ckT at h; cases h
  | .dc kvs, e, N, sc, X, W, xi, ct, h => by unfold ckT at h; cases h
  | .lsi a, e, N, sc, X, W, xi, ct, h => by unfold ckT at h; cases h
  | .gcd f es, e, N, sc, X, W, xi, ct, h => by unfold ckT at h; cases h
  | .sst a, e, N, sc, X, W, xi, ct, h => by unfold ckT at h; cases h
  | .chain3 op1 op2 op3 a b c d, e, N, sc, X, W, xi, ct, h => by unfold ckT at h; cases h
  | .tup es, e, N, sc, X, W, xi, ct, h => by unfold ckT at h; cases h
  | .lst es, e, N, sc, X, W, xi, ct, h => by unfold ckT at h; cases h
  | .mk c es, e, N, sc, X, W, xi, ct, h => by unfold ckT at h; cases h
  | .app o v, e, N, sc, X, W, xi, ct, h => by unfold ckT at h; cases h
  | .fld o f, e, N, sc, X, W, xi, ct, h => by unfold ckT at h; cases h
  | .efld i f, e, N, sc, X, W, xi, ct, h => by unfold ckT at h; cases h
  | .comp vs t it c v, e, N, sc, X, W, xi, ct, h => by unfold ckT at h; cases h
theorem sndO : ∀ (m : MOp) (e : Option Expr) {N : List Str} {sc : Scope} {X : Cx} {W : WX} {xi : Option (Nat × Addr × Addr)}, Ct T CA N sc C X W xi → ckO T N sc m e = true → PO X e (tO T CA C X W xi m)
  | .no, none, N, sc, X, W, xi, ct, h => po_nos
  | .yes a, some e, N, sc, X, W, xi, ct, h => by
    unfold ckO at h
    exact po_yess (sndE a e ct h)
  | .no, some _, _, _, _, _, _, _, h => by unfold ckO at h; cases h
  | .yes _, none, _, _, _, _, _, _, h => by unfold ckO at h; cases h
theorem sndI : ∀ (m : MI) (tg e : Expr) {N : List Str} {sc : Scope} {X : Cx} {W : WX} {xi : Option (Nat × Addr × Addr)}, Ct T CA N sc C X W xi → ckI T N sc m tg e = true → PI X tg e (tI T CA C X W xi m) ∧ ∀ env x, foldedSetIterable e env x = pure x
  | .of a, tg, e, N, sc, X, W, xi, ct, h => by
    unfold ckI at h
    obtain ⟨h1, h2⟩ := ba h
    exact ⟨pi_ofs (sndE a e ct h1), fun env => notSet_fold h2 env⟩
  | .rng1 a, tg, e, N, sc, X, W, xi, ct, h => by
    unfold ckI at h
    split at h
    · obtain ⟨h, h4⟩ := ba h
      obtain ⟨h, h3⟩ := ba h
      obtain ⟨h1, h2⟩ := ba h
      exact ⟨pi_rng1s ct (dc h1) h2 h3 (noStar_of h4) (sndE a _ ct h4), fun _ _ => rfl⟩
    · cases h
  | .rng2 a b, tg, e, N, sc, X, W, xi, ct, h => by
    unfold ckI at h
    split at h
    · obtain ⟨h, h5⟩ := ba h
      obtain ⟨h, h4⟩ := ba h
      obtain ⟨h, h3⟩ := ba h
      obtain ⟨h1, h2⟩ := ba h
      exact ⟨pi_rng2s ct (dc h1) h2 h3 (noStar_of h4) (noStar_of h5) (sndE a _ ct h4) (sndE b _ ct h5), fun _ _ => rfl⟩
    · cases h
  | .enum a, tg, e, N, sc, X, W, xi, ct, h => by
    unfold ckI at h
    split at h
    · obtain ⟨h, h5⟩ := ba h
      obtain ⟨h, h4⟩ := ba h
      obtain ⟨h, h3⟩ := ba h
      obtain ⟨h1, h2⟩ := ba h
      split at h5
      · exact ⟨pi_enums ct (dc h1) h2 h3 (noStar_of h4) (sndE a _ ct h4), fun _ _ => rfl⟩
      · cases h5
    · cases h
theorem sndEs : ∀ (m : MEs) (es : List Expr) {N : List Str} {sc : Scope} {X : Cx} {W : WX} {xi : Option (Nat × Addr × Addr)}, Ct T CA N sc C X W xi → ckEs T N sc m es = true → PA X es (tEs T CA C X W xi m)
  | .nil, [], N, sc, X, W, xi, ct, h => pa_nils
  | .cons a as, e :: es, N, sc, X, W, xi, ct, h => by
    unfold ckEs at h
    obtain ⟨h1, h2⟩ := ba h
    exact pa_conss (noStar_of h1) (sndE a e ct h1) (sndEs as es ct h2)
  | .nil, _ :: _, _, _, _, _, _, _, h => by unfold ckEs at h; cases h
  | .cons _ _, [], _, _, _, _, _, _, h => by unfold ckEs at h; cases h
theorem sndK : ∀ (m : MEs) (es : List Keyword) {N : List Str} {sc : Scope} {X : Cx} {W : WX} {xi : Option (Nat × Addr × Addr)}, Ct T CA N sc C X W xi → ckK T N sc m es = true → PK X es (tEs T CA C X W xi m)
  | .nil, [], N, sc, X, W, xi, ct, h => pk_nils
  | .cons a as, ⟨_, e, _⟩ :: es, N, sc, X, W, xi, ct, h => by
    unfold ckK at h
    obtain ⟨h1, h2⟩ := ba h
    exact pk_conss (sndE a e ct h1) (sndK as es ct h2)
  | .nil, _ :: _, _, _, _, _, _, _, h => by unfold ckK at h; cases h
  | .cons _ _, [], _, _, _, _, _, _, h => by unfold ckK at h; cases h
end
end Mi
end

section
/-! Mini: a list's items while an exception is handled. -/
namespace Mi
open PySem PySem.Spec PyProof.Rows L2 HotX L2H

section
variable {prog : Program} {w : World} {A : Around} {E : Value → Shared → Prop} {s : Shared}
theorem list_end_hot {it l x1 : Addr} {i : Nat} {items : Array Value} {Q : Option Value → Shared → Prop} (hot : HotAt A x1 s.heap) (hit : s.heap.IsListIter it l i) (hl : s.heap.IsList l items) (hx : items[i]? = none)
    (hQ : ∀ h', Heap.ExtBut it s.heap h' → Q none { s with heap := h' }) : wpAny (model prog w) A (pyNext (.ref it)) Q E s := by
  obtain ⟨o, ho, hc, hd⟩ := id hit
  obtain ⟨ol, hol, _, nl, hdl⟩ := hl
  obtain ⟨hh, o1, vs1, h1, d1, c1⟩ := hot
  have hne : x1 ≠ it := fun z => by
    rw [z, ho] at h1
    cases h1
    rw [hd] at d1
    cases d1
    simp at c1
  unfold pyNext
  refine wpAny_bind (wpAny_attempt (wpAny_callSpecial?_slot (name := Str.ofString "__next__") hit.typeIs slot_listiter_next
    (wpAny_call_entry slot_listiter_next hit.typeIs entry_listiter_next ?_ (args_listiter_next _))))
  show wpAny _ _ (field (.ref it) 0 >>= _) _ _ s
  refine wpAny_bind (wpAny_field ho hd (x := .ref l) rfl ?_)
  show wpAny _ _ (if (Value.ref l == Value.none) = true then _ else _) _ _ s
  rw [if_neg (show ¬ ((Value.ref l == Value.none) = true) from Bool.false_ne_true)]
  show wpAny _ _ (field (.ref it) 1 >>= _) _ _ s
  refine wpAny_bind (wpAny_field ho hd (x := .int i 0) rfl ?_)
  show wpAny _ _ (seqItems? (.ref l) >>= _) _ _ s
  refine wpAny_bind (wpAny_seqItems hol hdl ?_)
  simp only [Int.toNat_natCast, hx]
  refine wpAny_bind (wpAny_rule (wpAny_bind (wpAny_setField ho hd (by simp) ?_)))
  show wpAny _ _ (newExc (.type "StopIteration") [] >>= _) _ _ _
  refine wpAny_bind ?_
  simp only [newExc, newTuple]
  refine wpAny_bind (wpAny_newObj_type ?_ (by size_fits))
  refine wpAny_bind (m := firstArgMember _ _) (wpAny_of_eq (a := Value.none) (by first | rfl | (simp only [firstArgMember]; rfl)) ?_)
  refine wpAny_newObj_type ?_ (by size_fits)
  have g1 : (s.heap.update it (Obj.mapFields (·.setIfInBounds 0 .none))).get? x1 = some o1 := by rw [Heap.get?_update_other _ _ (Ne.symm hne)]; exact h1
  refine raiseNew_hot ⟨hh, o1, vs1, Heap.get?_push_of_some _ (Heap.get?_push_of_some _ g1), d1, c1⟩ (Nat.ne_of_lt (Heap.lt_size (Heap.get?_push_of_some _ g1))) (Heap.get?_push_size _ rfl) rfl (by first | (simp; done) | (simp; omega) | (simp only [Array.size_append]; simp; omega)) ?_
  refine wpAny_bind (wpAny_isInstance (T := "StopIteration") (b := true) ⟨_, Heap.get?_update_self _ (Heap.get?_push_size _ rfl) rfl, rfl⟩ isSubtype_stop ?_)
  refine wpAny_pure (hQ _ fun b o hb e => ?_)
  have e1 : (s.heap.update it (Obj.mapFields (·.setIfInBounds 0 .none))).get? b = some o := by rw [Heap.get?_update_other _ _ (Ne.symm hb)]; exact e
  rw [Heap.get?_update_other _ _ (Nat.ne_of_gt (Heap.lt_size (Heap.get?_push_of_some _ e1)))]
  exact Heap.get?_push_of_some _ (Heap.get?_push_of_some _ e1)
end
theorem turn_listH {P : Program} {w : World} {K : PySem.W.Frag} {tg : Expr} (a it : Addr) : TurnH P w K tg (Itl K a) [it] it (fun i h => h.IsListIter it a i) where
  mem := by simp
  obj := (turn_list (P := P) (w := w) (K := K) (tg := tg) a it).obj
  keep := (turn_list (P := P) (w := w) (K := K) (tg := tg) a it).keep
  item := by
    intro X hP hw hK hc i pins s σ H E I hf st hg
    subst hP hw hK
    obtain ⟨xs, x, hq, hx⟩ := hg
    obtain ⟨its, rv, p, hz⟩ := I.list hq
    obtain ⟨u, hu, ru⟩ := rv.get hx
    obtain ⟨f0, f1, f2, f3, f4, f5⟩ := hf it (by simp)
    refine wpAny_pyNext_list_item st p.isList (x := u) (by simpa using hu) fun h' st' sb => ?_
    have I1 : L2.Inv X pins σ H { s with heap := h' } := I.turned (t' := s.toks) (fun b o hb e => (sb.2 b hb).trans e) f0 f1 f3 f4 f5
    obtain ⟨o, e, c, d⟩ := id st'
    exact ⟨u, rfl, go_of (s := { s with heap := h' }) e c d (by decide) ⟨x, H, I1, ru, ⟨rfl, fun ys hy => by rw [I.list_inj hy hq]; exact hx⟩, st', fun b hb => (hf b hb).1⟩⟩
  done := by
    intro X hP hw hK hc i pins s σ H E I hf st hg
    subst hP hw hK
    obtain ⟨xs, hq, hx⟩ := hg
    obtain ⟨its, rv, p, hz⟩ := I.list hq
    obtain ⟨f0, f1, f2, f3, f4, f5⟩ := hf it (by simp)
    have hl := rv.length
    obtain ⟨x1, hot⟩ := hc.at I
    exact list_end_hot hot st p.isList (by simp; omega) fun h' eb => ⟨rfl, I.turned (t' := s.toks) (fun b o hb e => eb b o hb e) f0 f1 f3 f4 f5⟩
  self := fun _ _ _ _ _ st h => wpAny_pyIter_listiter st h
theorem pih_list {X : Cx} {tg l : Expr} {tl : TE} (hl : PE X l tl) : PIH X tg l (iList X.K tl) := by
  refine ⟨fun pins s σ H R I h => ?_⟩
  refine thn (hl.run pins s σ H _ I h) fun v s1 ⟨x, H1, I1, r1, q1⟩ => ?_
  obtain ⟨a, e, ⟨xs, hq⟩, q⟩ := q1
  subst e
  cases r1
  obtain ⟨its, rv, p, hz⟩ := I1.list hq
  refine wpAny_pyIter_list p.isList ?_
  refine ⟨s1.heap.objs.size, [s1.heap.objs.size], _, _, H1, rfl, I1.kept (t' := s1.toks) fun b o e => Heap.get?_push_of_some _ e, turn_listH a _, ⟨_, Heap.get?_push_size _ rfl, rfl, rfl⟩, fun b hb => ?_, q⟩
  have e : b = s1.heap.objs.size := by simpa using hb
  subst e
  exact I1.fpOk (Nat.le_refl _) (I1.hok.fresh (Nat.le_refl _))
end Mi
end

section
/-! Mini, part 12: statements: assignments, tests, loops. -/
namespace Mi
open PySem PySem.Spec PyProof.Rows L2

structure CtS (T : Tab) (CA : Str → Addr) (N : List Str) (sc : Scope) (C : CallF) (X : Cx) (W : WX) (xi : Option (Nat × Addr × Addr)) : Prop where
  c : Ct T CA N sc C X W xi
  po : PassesOwn (model X.prog X.w) X.A X.env X.xe
  st : X.stack = X.env :: X.outer
  fr : X.env.frame = some X.env.locals
  bk : X.env.blockKind = .function

/-- what a statement's end asks -/
def AftS (X : Cx) (CA : Str → Addr) (W : WX) (xi : Option (Nat × Addr × Addr)) (ρ : Rho) (H : Hp) (r : SR) (D : Ends) : Prop :=
  match r with
  | .ok (.next me) mh => ∀ ρ' H' σ', Ext ρ H ρ' H' → At CA X xi ρ' me mh σ' H' → D.nx σ' H'
  | .ok (.brk me) mh => ∀ ρ' H' σ', Ext ρ H ρ' H' → At CA X xi ρ' me mh σ' H' → D.bk σ' H'
  | .ok (.cont me) mh => ∀ ρ' H' σ', Ext ρ H ρ' H' → At CA X xi ρ' me mh σ' H' → D.ct σ' H'
  | .ok (.ret v) mh => ∀ ρ' H' x, Ext ρ H ρ' H' → RH X.K CA ρ' mh H' → RV CA ρ' H' v x → D.rt x H'
  | .exc c n me mh => ∀ ρ' H' σ' d, Ext ρ H ρ' H' → At CA X xi ρ' me mh σ' H' → ρ' n = some d → (∃ fs, mh.get n = some (.exc c fs)) → W (.ref (CA c)) (some d) σ' H'
  | .stuck => False
def tS (T : Tab) (CA : Str → Addr) (C : CallF) (X : Cx) (W : WX) (xi : Option (Nat × Addr × Addr)) (m : MS) : TS := fun D σ H => ∃ ρ me mh, At CA X xi ρ me mh σ H ∧ AftS X CA W xi ρ H (exS T C m me mh) D
def tB (T : Tab) (CA : Str → Addr) (C : CallF) (X : Cx) (W : WX) (xi : Option (Nat × Addr × Addr)) (m : MSs) : TS := fun D σ H => ∃ ρ me mh, At CA X xi ρ me mh σ H ∧ AftS X CA W xi ρ H (exB T C m me mh) D

/-! ### what is handled stays -/
def SRex (e : Option (Nat × Nat)) : SR → Prop
  | .ok (.next me) _ => me.ex = e
  | .ok (.brk me) _ => me.ex = e
  | .ok (.cont me) _ => me.ex = e
  | .ok (.ret _) _ => True
  | .exc _ _ me _ => me.ex = e
  | .stuck => True
theorem SRex.of {α : Type} {me : Env} {r : Res α} {k : α → MH → SR} (h : ∀ a h, SRex me.ex (k a h)) : SRex me.ex (SR.of me r k) := by
  cases r with
  | ok a m => exact h a m
  | exc c n m => rfl
  | stuck => trivial
theorem fold_ex : ∀ (l : List (Nat × MV)) (me : Env), (l.foldl (fun m p => m.set p.1 p.2) me).ex = me.ex
  | [], _ => rfl
  | p :: l, me => fold_ex l (me.set p.1 p.2)
theorem asg_ex {T : Tab} {C : CallF} {me : Env} {v : MV} (t : MT) (h : MH) : SRex me.ex (SR.of me (asgM T C me v t h) fun me' h => .ok (.next me') h) := by
  cases e : asgM T C me v t h with
  | ok me' m =>
    show me'.ex = me.ex
    unfold asgM at e
    cases t with
    | nm i => simp only at e; split at e <;> cases e; rfl
    | tp is =>
      simp only at e
      split at e
      · cases e
      · unfold setTL at e
        cases q : asSeq h v with
        | none => rw [q] at e; cases e
        | some xs =>
          rw [q] at e
          simp only at e
          split at e
          · cases e; exact fold_ex _ _
          · cases e
    | sw is =>
      simp only at e
      split at e
      · split at e
        · cases e; exact fold_ex _ _
        · cases e
      · cases e
    | sub o i =>
      simp only [M.bind] at e
      repeat (split at e <;> try (cases e; done))
      cases e; rfl
    | fld o f =>
      simp only [M.bind] at e
      repeat (split at e <;> try (cases e; done))
      cases e; rfl
  | exc c n m => rfl
  | stuck => trivial
theorem forL_ex {x0 : Option (Nat × Nat)} {step : MV → Env → MH → SR} (hs : ∀ v me h, me.ex = x0 → SRex x0 (step v me h)) {it : It} : ∀ (k i : Nat) (me : Env) (h : MH), me.ex = x0 → SRex x0 (forL step it k i me h)
  | 0, i, me, h, e => by
    unfold forL
    cases q : it.at h i with
    | none => trivial
    | some o => cases o <;> first | exact e | trivial
  | k + 1, i, me, h, e => by
    unfold forL
    cases q : it.at h i with
    | none => trivial
    | some o =>
      cases o with
      | none => exact e
      | some v =>
        simp only
        have hv := hs v me h e
        cases z : step v me h with
        | ok f m =>
          rw [z] at hv
          cases f with
          | next me' => exact forL_ex hs k (i + 1) me' m hv
          | cont me' => exact forL_ex hs k (i + 1) me' m hv
          | brk me' => exact hv
          | ret v => trivial
        | exc c n me' m => rw [z] at hv; exact hv
        | stuck => trivial
theorem setT_ex {me me' : Env} {v : MV} {t : CT} {hh : MH} (h : setT hh me v t = some me') : me'.ex = me.ex := by
  unfold setT at h
  cases t with
  | nm i => cases h; rfl
  | tp is =>
    simp only at h
    split at h
    · split at h
      · cases h; exact fold_ex _ _
      · cases h
    · cases h
mutual
theorem exS_ex {T : Tab} {C : CallF} : ∀ (s : MS) (me : Env) (h : MH), SRex me.ex (exS T C s me h)
  | .pass, me, h => by unfold exS; rfl
  | .ret e, me, h => by unfold exS; exact SRex.of fun _ _ => trivial
  | .retN, me, h => by unfold exS; trivial
  | .expr e, me, h => by unfold exS; exact SRex.of fun _ _ => rfl
  | .asg t e, me, h => by
    unfold exS
    split
    · trivial
    · exact SRex.of fun _ h => asg_ex t h
  | .ifs c a b, me, h => by
    unfold exS
    refine SRex.of fun k h => ?_
    split
    · exact exB_ex a me h
    · exact exB_ex b me h
  | .fors t it b, me, h => by
    unfold exS
    split
    · split
      · split
        · trivial
        · refine SRex.of fun x h => ?_
          split
          · split
            · exact forL_ex (fun v me2 h2 e2 => e2 ▸ exB_ex (T := T) (C := C) b (me2.set _ v) h2) _ _ _ _ rfl
            · trivial
          · trivial
      · trivial
    · rename_i hc
      have hn : me.ex = none := by simpa using hc
      have e : SRex me.ex = SRex none := by rw [hn]
      refine SRex.of fun J h => ?_
      rw [e]
      refine forL_ex (fun v me2 h2 e2 => ?_) _ _ _ _ hn
      cases q : setT h2 me2 v t with
      | none => trivial
      | some me3 =>
        have := exB_ex (T := T) (C := C) b me3 h2
        rw [setT_ex q, e2] at this
        exact this
  | .raise c es, me, h => by
    unfold exS
    split
    · trivial
    · refine SRex.of fun vs h => ?_
      split
      · split
        · rfl
        · trivial
      · trivial
  | .brk, me, h => by unfold exS; rfl
  | .cont, me, h => by unfold exS; rfl
  | .trys b hs, me, h => by
    unfold exS
    split
    · trivial
    · rename_i hc
      have hn : me.ex = none := by simpa using hc
      have hb := exB_ex (T := T) (C := C) b me h
      cases q : exB T C b me h with
      | ok f m => rw [q] at hb; exact hb
      | exc c n me' m =>
        rw [q] at hb
        rw [hn] at hb ⊢
        exact exH_ex hs c n me' m hb
      | stuck => trivial
theorem exH_ex {T : Tab} : ∀ (hs : MHs) (c : Str) (n : Nat) (me : Env) (h : MH), me.ex = none → SRex none (exH T hs c n me h)
  | .nil, c, n, me, h, e => by unfold exH; exact e
  | .cons c' i b r, c, n, me, h, e => by
    unfold exH
    split
    · split
      · split <;> first | rfl | trivial
      · trivial
    · exact exH_ex r c n me h e
    · trivial
theorem exB_ex {T : Tab} {C : CallF} : ∀ (s : MSs) (me : Env) (h : MH), SRex me.ex (exB T C s me h)
  | .nil, me, h => by unfold exB; rfl
  | .cons s r, me, h => by
    unfold exB
    have hs := exS_ex (T := T) (C := C) s me h
    cases q : exS T C s me h with
    | ok f m =>
      rw [q] at hs
      cases f with
      | next me' =>
        have e : me'.ex = me.ex := hs
        rw [← e]
        exact exB_ex r me' m
      | ret v => trivial
      | brk me' => exact hs
      | cont me' => exact hs
    | exc c n me' m => rw [q] at hs; exact hs
    | stuck => trivial
end

section
variable {T : Tab} {CA : Str → Addr} {N : List Str} {sc : Scope} {C : CallF} {X : Cx} {W : WX} {xi : Option (Nat × Addr × Addr)} {ρ ρ1 : Rho} {me : Env} {mh mh1 : MH} {σ : L2.St} {H H1 : Hp} {D : Ends}
variable {a b c : ME} {ea eb ec : Expr} {pos : Pos} {s1 s2 : MS} {b1 b2 : MSs}
theorem AftS.ext {r : SR} (h : AftS X CA W xi ρ H r D) (e : Ext ρ H ρ1 H1) : AftS X CA W xi ρ1 H1 r D := by
  cases r with
  | ok f m => cases f <;> exact fun ρ' H' x e1 => h ρ' H' x (e.trans e1)
  | exc c n me m => exact fun ρ' H' x d e1 => h ρ' H' x d (e.trans e1)
  | stuck => exact h
/-- a value, then the rest -/
theorem AftS.of {α β : Type} {R : Rho → Hp → α → β → Prop} {x : M α} {k : α → MH → SR} (at_ : At CA X xi ρ me mh σ H) (h : AftS X CA W xi ρ H (SR.of me (x mh) k) D) :
    Aft X.K CA R (fun c d H' => W c d σ H') ρ H (x mh) (fun b H1 => ∃ ρ1 mh1 a, Ext ρ H ρ1 H1 ∧ RH X.K CA ρ1 mh1 H1 ∧ R ρ1 H1 a b ∧ AftS X CA W xi ρ1 H1 (k a mh1) D) := by
  unfold SR.of at h
  cases e : x mh with
  | ok v m =>
    rw [e] at h
    exact fun ρ1 H1 b e1 r1 q => ⟨ρ1, m, v, e1, r1, q, AftS.ext h e1⟩
  | exc c n m =>
    rw [e] at h
    exact fun ρ1 H1 d e1 r1 q ex => h ρ1 H1 σ d e1 (at_.to e1 r1) q ex
  | stuck => rw [e] at h; exact h
theorem PS.to {s : Stmt} {t t' : TS} (h : PS X s t) (k : ∀ D σ H, t' D σ H → t D σ H) : PS X s t' := ⟨fun pins s σ H Q I q => h.run pins s σ H Q I (k Q σ H q)⟩
theorem PSs.to {s : List Stmt} {t t' : TS} (h : PSs X s t) (k : ∀ D σ H, t' D σ H → t D σ H) : PSs X s t' := ⟨fun pins s σ H Q I q => h.run pins s σ H Q I (k Q σ H q)⟩
theorem PG.to {e : Expr} {t t' : TG} (h : PG X e t) (k : ∀ v σ H Q, t' v σ H Q → t v σ H Q) : PG X e t' := ⟨fun pins s σ H v u Q I r q => h.run pins s σ H v u Q I r (k v σ H Q q)⟩

theorem ps_passes : PS X (.Pass pos) (tS T CA C X W xi .pass) := PS.to ps_pass fun D σ H ⟨ρ, me, mh, at_, h⟩ => by unfold exS at h; exact h ρ H σ Ext.refl at_
theorem ps_brks : PS X (.Break pos) (tS T CA C X W xi .brk) := PS.to ps_break fun D σ H ⟨ρ, me, mh, at_, h⟩ => by unfold exS at h; exact h ρ H σ Ext.refl at_
theorem ps_conts : PS X (.Continue pos) (tS T CA C X W xi .cont) := PS.to ps_continue fun D σ H ⟨ρ, me, mh, at_, h⟩ => by unfold exS at h; exact h ρ H σ Ext.refl at_
theorem ps_rets (ha : PE X ea (tE T CA C X W xi a)) : PS X (.Return (some ea) pos) (tS T CA C X W xi (.ret a)) := PS.to (ps_ret ha) fun D σ H ⟨ρ, me, mh, at_, h⟩ => by
  unfold exS at h
  exact ⟨ρ, me, mh, at_, (AftS.of at_ h).imp fun u H1 ⟨ρ1, mh1, x, e1, r1, q1, h1⟩ => h1 ρ1 H1 u Ext.refl r1 q1⟩
theorem ps_retNs : PS X (.Return none pos) (tS T CA C X W xi .retN) := PS.to ps_retN fun D σ H ⟨ρ, me, mh, at_, h⟩ => by
  unfold exS at h
  exact h ρ H .non Ext.refl at_.rh .non
def notComp : Expr → Bool
  | .ListComp _ _ _ _ => false
  | .SetComp _ _ _ _ => false
  | .DictComp _ _ _ _ _ => false
  | _ => true
theorem swaps_no {e : Expr} {t : Option Expr} {l : Nat} {env : PySem.Env} (h : notComp e = true) : swapsWith e t l env = pure false := by
  cases e <;> first | rfl | cases h
theorem swapsSole_no {e t : Expr} {l : Nat} {env : PySem.Env} (h : notComp e = true) : swapsWithSole [t] e l env = pure false := swaps_no h
theorem ps_exprs (hn : notComp ea = true) (ha : PE X ea (tE T CA C X W xi a)) : PS X (.Expr ea pos) (tS T CA C X W xi (.expr a)) := PS.to (ps_expr ha (swaps_no hn)) fun D σ H ⟨ρ, me, mh, at_, h⟩ => by
  unfold exS at h
  exact ⟨ρ, me, mh, at_, (AftS.of at_ h).imp fun u H1 ⟨ρ1, mh1, x, e1, r1, q1, h1⟩ => h1 ρ1 H1 σ Ext.refl (at_.to e1 r1)⟩

/-! ### assignments -/
theorem AtK.set {i : Nat} {x : MV} {v : V} (at_ : At CA X xi ρ me mh σ H) (he : (me.ex.map (·.1)) ≠ some i) (rv : RV CA ρ H x v) : At CA X xi ρ (me.set i x) mh (σ.set i (some v)) H := ⟨at_.rs.set he rv, at_.rh, at_.cm⟩
/-- a name -/
theorem asg_nm {i : Nat} {x : MV} {v : V} (at_ : At CA X xi ρ me mh σ H) (rv : RV CA ρ H x v) (h : AftS X CA W xi ρ H (SR.of me (asgM T C me x (.nm i) mh) fun me' h => .ok (.next me') h) D) : D.nx (σ.set i (some v)) H := by
  unfold asgM at h
  simp only at h
  by_cases hc : (me.ex.map (·.1)) = some i
  · rw [if_pos hc] at h; exact h.elim
  · rw [if_neg hc] at h
    exact h ρ H _ Ext.refl (at_.set hc rv)
theorem ps_asgN {i : Nat} {tg : Expr} (ct : CtS T CA N sc C X W xi) (ht : ckNm N sc i tg = true) (hs : ∀ x p, tg = .Name x p → swapsWith ea (some tg) pos.line X.env = pure false) (ha : PE X ea (tE T CA C X W xi a)) : PS X (.Assign [tg] ea pos) (tS T CA C X W xi (.asg (.nm i) a)) := by
  obtain ⟨x, p, rfl, h1, h2⟩ := ckNm_of ht
  obtain ⟨h3, h4⟩ := loc_of ct.c.g h2
  have hf : X.fn x = true ∨ X.env.scope.names.lookup x = some .local := by
    rcases h2 with z | z
    · exact .inr (h4 z)
    · exact .inl (ct.c.fn x z)
  refine PS.to (ps_set (i := i) ct.c.g.nd (by rw [ct.c.g.nm]; exact h1) h3 ha (hs x p rfl) hf) fun D σ H ⟨ρ, me, mh, at_, h⟩ => ?_
  unfold exS at h
  rw [if_neg (fun z => by cases z.1)] at h
  exact ⟨ρ, me, mh, at_, (AftS.of at_ h).imp fun u H1 ⟨ρ1, mh1, x, e1, r1, q1, h1⟩ => asg_nm (at_.to e1 r1) q1 h1⟩
/-- a name, changed in place: ints -/
def isIp : BOp → Bool
  | .iadd => true
  | .isub => true
  | _ => false
def fIp : BOp → Int → Int → Int
  | .isub => fun i j => i - j
  | _ => fun i j => i + j
theorem ip_of {op : BOp} (h : isIp op = true) : PIp X (opB op) (ipI (fIp op)) := by
  cases op <;> first | (cases h; done) | exact ip_add | exact ip_sub
theorem bin_ip {op : BOp} {x y : MV} {a b : V} {Q : VK} {Wf : WS} (ho : isIp op = true) (h : Aft X.K CA (RV CA) Wf ρ H (binM op x y mh) Q) (rh : RH X.K CA ρ mh H) (ra : RV CA ρ H x a) (rb : RV CA ρ H y b) : ipI (fIp op) a b H Q := by
  cases op <;> try (cases ho; done)
  all_goals cases ra <;> cases rb <;> first | exact h.elim | exact ⟨_, _, rfl, rfl, h.now rh (.int _)⟩
theorem ps_augM {i : Nat} {x : Str} {p : Pos} {op : BOp} (ct : CtS T CA N sc C X W xi) (ht : ckNm N sc i (.Name x p) = true) (ho : isIp op = true) (ha : PE X ea (tE T CA C X W xi a)) : PS X (.AugAssign (.Name x p) (opB op) ea pos) (tS T CA C X W xi (.asg (.nm i) (.bin op (.var i) a))) := by
  obtain ⟨x', p', e0, h1, h2⟩ := ckNm_of ht
  cases e0
  obtain ⟨h3, h4⟩ := loc_of ct.c.g h2
  have hf : X.fn x = true ∨ X.env.scope.names.lookup x = some .local := by
    rcases h2 with z | z
    · exact .inr (h4 z)
    · exact .inl (ct.c.fn x z)
  refine PS.to (ps_aug (i := i) ct.c.g.nd (by rw [ct.c.g.nm]; exact h1) h3 ha (ip_of ho) hf) fun D σ H ⟨ρ, me, mh, at_, h⟩ => ?_
  unfold exS at h
  rw [if_neg (fun z => by cases z.1)] at h
  have h' : Aft X.K CA (RV CA) (fun c d H' => W c d σ H') ρ H (evE T C me (.bin op (.var i) a) mh) (fun u H1 => D.nx (σ.set i (some u)) H1) := (AftS.of at_ h).imp fun u H1 ⟨ρ1, mh1, x, e1, r1, q1, h1⟩ => asg_nm (at_.to e1 r1) q1 h1
  have e1 : evE T C me (.bin op (.var i) a) mh = M.bind (opt (me.sl[i]?.getD none)) (fun x => M.bind (evE T C me a) fun y => binM op x y) mh := by simp only [evE]
  rw [e1] at h'
  cases e : me.sl[i]? with
  | none => rw [e] at h'; exact h'.elim
  | some o =>
    rw [e] at h'
    cases o with
    | none => exact h'.elim
    | some w =>
      obtain ⟨z, q1, q2⟩ := at_.rs.sl i w e
      refine ⟨z, q1, ρ, me, mh, at_, ?_⟩
      have h2 : Aft X.K CA (RV CA) (fun c d H' => W c d σ H') ρ H (M.bind (evE T C me a) (fun y => binM op w y) mh) (fun u H1 => D.nx (σ.set i (some u)) H1) := h'
      exact h2.bnd.imp fun v H2 ⟨ρ2, mh2, y, e2, r2, qy, h3⟩ => bin_ip ho h3 r2 (q2.mono e2) qy
/-- a comprehension to a name of its line -/
theorem ps_asgLc {i : Nat} {vs : List Nat} {t : CT} {it : MI} {c v : ME} {elt tg iter : Expr} {ifs : List Expr} {scope : Scope} {y : Str} {py pos spos : Pos} (ct : CtS T CA N sc C X W xi) (hy : N[i]? = some y) (hyl : sc.names.lookup y = some .local)
    (hl : (py.line == pos.line) = true) (hsh : (scope.names.any fun (n, k) => n == y && (k == .local || k == .cell)) = false) (hb : blkC N sc scope (ownOf N vs) = true) (ht : ckCT N scope t tg = true) (hv : ctIn vs t = true)
    (hi : PI X tg iter (tI T CA C X W xi it)) (hfs : ∀ x, foldedSetIterable iter X.env x = pure x)
    (hif : ∀ (s : Shared) (H : Hp) (C0 : Addr) (cl : List (Str × Addr)) (fp : List Addr), PTs (X.blk s H scope (compEnvC scope cl C0 X.env) fp) ifs (tT T CA C X WF none c))
    (he : ∀ (s : Shared) (H : Hp) (C0 : Addr) (cl : List (Str × Addr)) (fp : List Addr), PE (X.blk s H scope (compEnvC scope cl C0 X.env) fp) elt (tE T CA C X WF none v)) :
    PS X (.Assign [.Name y py] (.ListComp elt [⟨tg, iter, ifs, 0⟩] scope pos) spos) (tS T CA C X W xi (.asg (.nm i) (.comp vs t it c v))) := by
  have ok0 : BlkOk N sc scope (ownOf N vs) := blkOk_by hb
  have ok : BlkOk X.N X.env.scope scope (ownOf N vs) := by
    rw [ct.c.g.nm]
    refine ⟨ok0.kind, ok0.uniq, ok0.ix, fun y hy hf => ?_, ok0.own⟩
    rcases ok0.free y hy hf with z | z
    · rcases ct.c.g.sc _ _ z with q | ⟨q, _⟩
      · exact .inl q
      · cases q
    · rcases ct.c.g.sc _ _ z with q | ⟨_, q⟩
      · exact .inr q
      · exact .inl q
  have hyl' := (loc_of ct.c.g (.inl hyl)).2 hyl
  refine ⟨fun pins s σ H D I ⟨ρ, me, mh, at_, h⟩ => ?_⟩
  unfold exS at h
  rw [if_neg (fun z => by cases z.1)] at h
  have h' := AftS.of (R := RV CA) at_ h
  unfold evE at h'
  by_cases hc : me.ex.isSome = true
  · rw [if_pos hc] at h'; exact h'.elim
  · rw [if_neg hc] at h'
    have hex : me.ex = none := by simpa using hc
    have hcalm := at_.cm (by simpa using hc)
    refine (ps_setLc (i := i) (g := gCT CA X none t) hcalm ct.c.g.nd (by rw [ct.c.g.nm]; exact hy) hyl' ?_ hi ok (fun s H C0 cl fp => pg_ct (xi := none) (X := X.blk s H scope (compEnvC scope cl C0 X.env) fp) (ct.c.blk (s := s) (H := H) (cl := cl) (C0 := C0) (fp := fp) ok.kind).g (ct.c.blk (s := s) (H := H) (cl := cl) (C0 := C0) (fp := fp) ok.kind).fn hcalm ht) hif he hfs).run pins s σ H D I ?_
    · exact sw_true I.ok.kind hyl' hl hsh
    · exact comp_rd hv at_ hex (h'.imp fun u H1 ⟨ρ1, mh1, x, e1, r1, q1, h1⟩ => asg_nm (at_.to e1 r1) q1 h1)
/-- a comprehension over two generators to a name of its line -/
theorem ps_asgLc2 {i : Nat} {vs ws : List Nat} {t t1 : CT} {it it1 : MI} {c c1 v : ME} {elt tg iter tg1 iter1 : Expr} {ifs ifs1 : List Expr} {scope : Scope} {y : Str} {py pos spos : Pos} (ct : CtS T CA N sc C X W xi) (hy : N[i]? = some y) (hyl : sc.names.lookup y = some .local)
    (hl : (py.line == pos.line) = true) (hsh : (scope.names.any fun (n, k) => n == y && (k == .local || k == .cell)) = false) (hb : blkC N sc scope (ownOf N vs) = true) (ht : ckCT N scope t tg = true) (hv : ctIn vs t = true) (ht1 : ckCT N scope t1 tg1 = true) (hv1 : ctIn ws t1 = true) (hws : ws.all (fun i => vs.contains i) = true)
    (hi : PI X tg iter (tI T CA C X W xi it)) (hfs : ∀ x, foldedSetIterable iter X.env x = pure x)
    (hif : ∀ (s : Shared) (H : Hp) (C0 : Addr) (cl : List (Str × Addr)) (fp : List Addr), PTs (X.blk s H scope (compEnvC scope cl C0 X.env) fp) ifs (tT T CA C X WF none c))
    (hi1 : ∀ (s : Shared) (H : Hp) (C0 : Addr) (cl : List (Str × Addr)) (fp : List Addr), PI (X.blk s H scope (compEnvC scope cl C0 X.env) fp) tg1 iter1 (tI T CA C X WF none it1)) (hfs1 : ∀ (s : Shared) env x, foldedSetIterable iter1 env x = pure x)
    (hif1 : ∀ (s : Shared) (H : Hp) (C0 : Addr) (cl : List (Str × Addr)) (fp : List Addr), PTs (X.blk s H scope (compEnvC scope cl C0 X.env) fp) ifs1 (tT T CA C X WF none c1))
    (he : ∀ (s : Shared) (H : Hp) (C0 : Addr) (cl : List (Str × Addr)) (fp : List Addr), PE (X.blk s H scope (compEnvC scope cl C0 X.env) fp) elt (tE T CA C X WF none v)) :
    PS X (.Assign [.Name y py] (.ListComp elt [⟨tg, iter, ifs, 0⟩, ⟨tg1, iter1, ifs1, 0⟩] scope pos) spos) (tS T CA C X W xi (.asg (.nm i) (.comp2 vs t it c ws t1 it1 c1 v))) := by
  have ok0 : BlkOk N sc scope (ownOf N vs) := blkOk_by hb
  have ok : BlkOk X.N X.env.scope scope (ownOf N vs) := by
    rw [ct.c.g.nm]
    refine ⟨ok0.kind, ok0.uniq, ok0.ix, fun y hy hf => ?_, ok0.own⟩
    rcases ok0.free y hy hf with z | z
    · rcases ct.c.g.sc _ _ z with q | ⟨q, _⟩
      · exact .inl q
      · cases q
    · rcases ct.c.g.sc _ _ z with q | ⟨_, q⟩
      · exact .inr q
      · exact .inl q
  have hyl' := (loc_of ct.c.g (.inl hyl)).2 hyl
  refine ⟨fun pins s σ H D I ⟨ρ, me, mh, at_, h⟩ => ?_⟩
  unfold exS at h
  rw [if_neg (fun z => by cases z.1)] at h
  have h' := AftS.of (R := RV CA) at_ h
  unfold evE at h'
  by_cases hc : me.ex.isSome = true
  · rw [if_pos hc] at h'; exact h'.elim
  · rw [if_neg hc] at h'
    have hex : me.ex = none := by simpa using hc
    have hcalm := at_.cm (by simpa using hc)
    refine (ps_setLc2 (i := i) (g := gCT CA X none t) (g1 := gCT CA X none t1) (vs1 := ws) hcalm ct.c.g.nd (by rw [ct.c.g.nm]; exact hy) hyl' ?_ hi ok (fun i hi => by rw [own_snd]; have := List.all_eq_true.mp hws i hi; simpa using this) (fun s H C0 cl fp => pg_ct (xi := none) (X := X.blk s H scope (compEnvC scope cl C0 X.env) fp) (ct.c.blk (s := s) (H := H) (cl := cl) (C0 := C0) (fp := fp) ok.kind).g (ct.c.blk (s := s) (H := H) (cl := cl) (C0 := C0) (fp := fp) ok.kind).fn hcalm ht) hif hi1 (fun s H C0 cl fp => pg_ct (xi := none) (X := X.blk s H scope (compEnvC scope cl C0 X.env) fp) (ct.c.blk (s := s) (H := H) (cl := cl) (C0 := C0) (fp := fp) ok.kind).g (ct.c.blk (s := s) (H := H) (cl := cl) (C0 := C0) (fp := fp) ok.kind).fn hcalm ht1) hif1 he hfs (hfs1 s)).run pins s σ H D I ?_
    · exact sw_true I.ok.kind hyl' hl hsh
    · exact comp2_rd hv hv1 at_ hex (h'.imp fun u H1 ⟨ρ1, mh1, x, e1, r1, q1, h1⟩ => asg_nm (at_.to e1 r1) q1 h1)
/-- o.f = e -/
theorem ps_asgF {f : Str} {pos' : Pos} (ct : CtS T CA N sc C X W xi) (hn : notComp eb = true) (ha : PE X ea (tE T CA C X W xi a)) (hb : PE X eb (tE T CA C X W xi b)) : PS X (.Assign [.Attribute ea f pos'] eb pos) (tS T CA C X W xi (.asg (.fld a f) b)) :=
  PS.to (ps_fld ha hb (swaps_no hn)) fun D σ H ⟨ρ, me, mh, at_, h⟩ => by
    unfold exS at h
    rw [if_neg (fun z => by cases z.1)] at h
    refine ⟨ρ, me, mh, at_, (AftS.of at_ h).imp fun v H1 ⟨ρ1, mh1, x, e1, r1, q1, h1⟩ => ?_⟩
    have at1 := at_.to e1 r1
    have h2 := AftS.of (R := fun _ _ (m : Env) (_ : Unit) => m = me) at1 h1
    unfold asgM at h2
    refine ⟨ρ1, me, mh1, at1, h2.bnd.imp fun u H2 ⟨ρ2, mh2, y, e2, r2, q2, h3⟩ => ?_⟩
    cases q2 with
    | @ref n pa q =>
      unfold M.bind setFldM at h3
      simp only at h3
      cases g : mh2.get n with
      | none => rw [g] at h3; exact h3.elim
      | some o =>
        rw [g] at h3
        cases o <;> try exact h3.elim
        rename_i cn fs
        simp only at h3
        by_cases hz : T.noat cn f = true ∧ fs.length < 1000
        · rw [if_pos hz] at h3
          obtain ⟨dx, gs, ho, hfs⟩ := r2.at g q
          obtain ⟨n1, n2⟩ := ct.c.g.st.noat cn f hz.1
          refine ⟨pa, CA cn, dx, gs, rfl, ho, n2, n1, by rw [← hfs.length]; exact hz.2, ?_⟩
          have put : ∀ {fs : List (Str × MV)} {gs : List (Str × V)}, RF CA ρ2 H2 fs gs → RF CA ρ2 H2 (putM f x fs) (putF f v gs) := by
            intro fs gs r
            induction r with
            | nil => exact .cons (q1.mono e2) .nil
            | @cons g z w xs vs r t ih =>
              unfold putM putF
              by_cases hg : g = f
              · rw [if_pos hg, if_pos hg]; exact .cons (q1.mono e2) t
              · rw [if_neg hg, if_neg hg]; exact .cons r ih
          obtain ⟨r3, e3⟩ := r2.write (o' := .ins cn (putM f x fs)) (u := .ins (CA cn) dx (putF f v gs)) g q rfl rfl fun H' eq ex => ⟨dx, _, by rw [eq, upd_same], (put hfs).mono ex⟩
          obtain ⟨ρ4, mh4, me4, e4, r4, em, h4⟩ := h3 ρ2 _ () e3 r3 rfl
          subst em
          exact h4 ρ4 _ σ Ext.refl (at1.to e4 r4)
        · rw [if_neg hz] at h3; exact h3.elim
    | _ => exact h3.elim
/-- o[i] = e -/
theorem ps_asgI {pos' : Pos} (hnn : notComp ec = true) (ha : PE X ea (tE T CA C X W xi a)) (hb : PE X eb (tE T CA C X W xi b)) (hc : PE X ec (tE T CA C X W xi c)) (hq : ∀ v, assign (.Subscript ea eb pos') X.env v = (do
      let ov ← holding [v] (eval ea X.env)
      let iv ← holding [v, ov] (eval eb X.env)
      standAt pos'
      holding [v, ov, iv] (setItem ov iv v)
      release [v, ov, iv] [])) (hw : swappedStores [.Subscript ea eb pos'] ec X.env = pure none) (hl : (assignEach [.Subscript ea eb pos'] X.env).map (·.2) = [assign (.Subscript ea eb pos') X.env]) :
    PS X (.Assign [.Subscript ea eb pos'] ec pos) (tS T CA C X W xi (.asg (.sub a b) c)) :=
  PS.to (ps_asg hc (pg_sub ha hb set_list hq) (swapsSole_no hnn) hw hl) fun D σ H ⟨ρ, me, mh, at_, h⟩ => by
    unfold exS at h
    rw [if_neg (fun z => by cases z.1)] at h
    refine ⟨ρ, me, mh, at_, (AftS.of at_ h).imp fun v H1 ⟨ρ1, mh1, x, e1, r1, q1, h1⟩ => ?_⟩
    have at1 := at_.to e1 r1
    have h2 := AftS.of (R := fun _ _ (m : Env) (_ : Unit) => m = me) at1 h1
    unfold asgM at h2
    simp only at h2
    refine ⟨ρ1, me, mh1, at1, h2.bnd.imp fun u H2 ⟨ρ2, mh2, y, e2, r2, q2, h3⟩ => ⟨ρ2, me, mh2, at1.to e2 r2, h3.bnd.imp fun w H3 ⟨ρ3, mh3, z, e3, r3, q3, h4⟩ => ?_⟩⟩
    refine set_ok (W := fun c d H' => W c d σ H') ?_ r3 (q2.mono e3) q3 (q1.mono (e2.trans e3))
    refine h4.bnd.imp fun _ H4 ⟨ρ4, mh4, _, e4, r4, _, h5⟩ => ?_
    obtain ⟨ρ5, mh5, me5, e5, r5, em, h6⟩ := h5 ρ4 _ () Ext.refl r4 rfl
    subst em
    exact h6 ρ5 _ σ Ext.refl (at1.to e5 r5)
/-- a list or a tuple, to names -/
theorem ps_asgT {is : List Nat} {es : List Expr} {k : Nat} {tpos : Pos} (ct : CtS T CA N sc C X W xi) (ht : ckNms N sc is es = true) (hnn : notComp ea = true) (hw : swappedStores [.Tuple es k tpos] ea X.env = pure none) (ha : PE X ea (tE T CA C X W xi a)) :
    PS X (.Assign [.Tuple es k tpos] ea pos) (tS T CA C X W xi (.asg (.tp is) a)) := by
  refine ⟨fun pins s σ H D I ⟨ρ, me, mh, at_, h⟩ => ?_⟩
  unfold exS at h
  by_cases hc : me.ex.isSome = true
  · rw [if_pos ⟨rfl, hc⟩] at h; exact h.elim
  · rw [if_neg (fun z => hc z.2)] at h
    have h' := AftS.of (R := RV CA) at_ h
    have hcalm := at_.cm (by simpa using hc)
    have hex : me.ex = none := by simpa using hc
    refine (ps_asg ha (pg_either (pos := tpos) (k := k) ct.c.g ct.c.fn hcalm ht) (swapsSole_no hnn) hw rfl).run pins s σ H D I ?_
    refine ⟨ρ, me, mh, at_, h'.imp fun v H1 ⟨ρ1, mh1, x, e1, r1, q1, h1⟩ => ?_⟩
    have at1 := at_.to e1 r1
    unfold asgM setTL at h1
    simp only [if_neg hc] at h1
    cases e : asSeq mh1 x with
    | none => rw [e] at h1; exact h1.elim
    | some xs =>
      rw [e] at h1
      simp only at h1
      by_cases hl : xs.length = is.length
      · rw [if_pos hl] at h1
        obtain ⟨p, vs, rfl, sq, rs⟩ := seq_of r1 e q1
        have fin : gNms is vs σ H1 D.nx := nms_run hl at1.rs hex rs fun σ' r' e' _ => h1 ρ1 H1 σ' Ext.refl ⟨r', r1, fun _ => hcalm⟩
        rcases sq with sq | sq
        · exact .inr ⟨p, vs, rfl, sq, by rw [← rs.length]; exact hl, fin⟩
        · exact .inl ⟨p, vs, rfl, sq, by rw [← rs.length]; exact hl, fin⟩
      · rw [if_neg hl] at h1; exact h1.elim

/-! ### tests, blocks -/
theorem ps_ifss {ba bb : List Stmt} (hc : PT X ec (tT T CA C X W xi c)) (h1 : PSs X ba (tB T CA C X W xi b1)) (h2 : PSs X bb (tB T CA C X W xi b2)) : PS X (.If ec ba bb pos) (tS T CA C X W xi (.ifs c b1 b2)) :=
  PS.to (ps_if hc h1 h2) fun D σ H ⟨ρ, me, mh, at_, h⟩ => by
    unfold exS at h
    refine ⟨ρ, me, mh, at_, (AftS.of at_ h).imp fun v H1 ⟨ρ1, mh1, x, e1, r1, q1, h1⟩ => ?_⟩
    subst q1
    cases x with
    | true => exact ⟨ρ1, me, mh1, at_.to e1 r1, h1⟩
    | false => exact ⟨ρ1, me, mh1, at_.to e1 r1, h1⟩
theorem pss_nils : PSs X [] (tB T CA C X W xi .nil) := PSs.to pss_nil fun D σ H ⟨ρ, me, mh, at_, h⟩ => by unfold exB at h; exact h ρ H σ Ext.refl at_
theorem pss_conss {st : Stmt} {r : List Stmt} (h1 : PS X st (tS T CA C X W xi s1)) (h2 : PSs X r (tB T CA C X W xi b1)) : PSs X (st :: r) (tB T CA C X W xi (.cons s1 b1)) :=
  PSs.to (pss_cons h1 h2) fun D σ H ⟨ρ, me, mh, at_, h⟩ => by
    unfold exB at h
    refine ⟨ρ, me, mh, at_, ?_⟩
    cases e : exS T C s1 me mh with
    | ok f m =>
      rw [e] at h
      cases f with
      | next me' => exact fun ρ' H' σ' e1 a1 => ⟨ρ', me', m, a1, AftS.ext h e1⟩
      | ret v => exact h
      | brk me' => exact h
      | cont me' => exact h
    | exc c n me' m => rw [e] at h; exact h
    | stuck => rw [e] at h; exact h

/-! ### loops -/
theorem ps_forsH {i : Nat} {tg iter : Expr} {body : List Stmt} (ct : CtS T CA N sc C X W xi) (ht : ckCT N sc (.nm i) tg = true) (hi : PE X iter (tE T CA C X W xi a)) (hfs : ∀ x, foldedSetIterable iter X.env x = pure x) (hb : PSs X body (tB T CA C X W xi b1))
    {pins : List (Addr × Obj)} {s : Shared} (I : L2.Inv X pins σ H s) (at_ : At CA X xi ρ me mh σ H) (hc : me.ex.isSome = true) (h : AftS X CA W xi ρ H (exS T C (.fors (.nm i) (.of a) b1) me mh) D) :
    wpAny (model X.prog X.w) X.A (exec (.For tg iter body [] pos) X.env) (SP X pins D) X.xe s := by
  obtain ⟨⟨j, m0⟩, hex⟩ := Option.isSome_iff_exists.mp hc
  obtain ⟨pa0, pd0, hxi, _⟩ := at_.rs.ex j m0 hex
  obtain ⟨oe, cc, vs0, hpn, hz, hdt, hh, _, _⟩ := (ct.c.xi j pa0 pd0 hxi).ex
  have hot : L2H.HotC X := ⟨(pa0, oe), ⟨hh, vs0, hdt, hz.2.2 vs0 hdt⟩, hpn⟩
  unfold exS at h
  rw [if_pos hc] at h
  simp only at h
  by_cases hi0 : (me.ex.map (·.1)) = some i
  · rw [if_pos hi0] at h; exact h.elim
  · rw [if_neg hi0] at h
    refine (L2H.ps_forH (g := fun v σ H Q => Q (σ.set i (some v)) H) ct.po hot (pih_list hi) (PG.to (pg_nm (i := i) ct.c.g ct.c.fn ht) fun v σ H Q z => z) hb hfs).run pins s σ H D I ?_
    refine ⟨ρ, me, mh, at_, (AftS.of at_ h).imp fun v H1 ⟨ρ1, mh1, x, e1, r1, q1, h1⟩ => ?_⟩
    cases q1 with
    | @ref n pa q =>
      simp only at h1
      cases ea : asList mh1 (.ref n) with
      | none => rw [ea] at h1; exact h1.elim
      | some xs =>
        rw [ea] at h1
        simp only at h1
        obtain ⟨vs, h3, h4⟩ := seqL_of r1 ea q
        generalize hst : (fun (v : MV) (me : Env) (h : MH) => exB T C b1 (me.set i v) h) = step at h1
        refine ⟨pa, rfl, ⟨vs, h3⟩, fun k m σ2 H2 => ∃ ρ2 me2 mh2, Ext ρ1 H1 ρ2 H2 ∧ At CA X xi ρ2 me2 mh2 σ2 H2 ∧ me2.ex = me.ex ∧ AftS X CA W xi ρ2 H2 (forL step (.lst n) m k me2 mh2) D, ⟨(It.lst n).size mh1, ρ1, me, mh1, Ext.refl, at_.to e1 r1, rfl, h1⟩, ?_⟩
        rintro k m σ2 H2 ⟨ρ2, me2, mh2, e2, at2, hex2, h2⟩
        have qJ : RIt X.K CA ρ2 H2 (.lst n) (Itl X.K pa) := ⟨pa, e2.map _ _ q, rfl⟩
        cases m with
        | zero =>
          unfold forL at h2
          cases ei : (It.lst n).at mh2 k with
          | none => simp only [ei] at h2; exact h2.elim
          | some o =>
            cases o with
            | none => simp only [ei] at h2; exact .inl ⟨it_stop qJ at2.rh ei, h2 ρ2 H2 σ2 Ext.refl at2⟩
            | some v => simp only [ei] at h2; exact h2.elim
        | succ m =>
          unfold forL at h2
          cases ei : (It.lst n).at mh2 k with
          | none => simp only [ei] at h2; exact h2.elim
          | some o =>
            cases o with
            | none => simp only [ei] at h2; exact .inl ⟨it_stop qJ at2.rh ei, h2 ρ2 H2 σ2 Ext.refl at2⟩
            | some v =>
              simp only [ei] at h2
              obtain ⟨g1, g2⟩ := it_go qJ at2.rh ei
              refine .inr ⟨g1, fun σ' H' => ∃ ρ3 me3 mh3, Ext ρ1 H1 ρ3 H' ∧ At CA X xi ρ3 me3 mh3 σ' H' ∧ me3.ex = me.ex ∧ AftS X CA W xi ρ3 H' (forL step (.lst n) m (k + 1) me3 mh3) D, fun σ' H' z => ⟨m, Nat.lt_succ_self m, z⟩, fun x H3 y => ?_⟩
              obtain ⟨e4, r4, rv⟩ := g2 x H3 y
              have hstep : ∀ h, step v me2 h = exB T C b1 (me2.set i v) h := fun h => by rw [← hst]
              rw [hstep] at h2
              have at3 := (at2.to e4 r4).set (i := i) (by rw [hex2]; exact hi0) rv
              refine ⟨ρ2, me2.set i v, mh2, at3, ?_⟩
              have keep := exB_ex (T := T) (C := C) b1 (me2.set i v) mh2
              rw [show (me2.set i v).ex = me2.ex from rfl, hex2] at keep
              cases eb : exB T C b1 (me2.set i v) mh2 with
              | ok f m2 =>
                rw [eb] at h2 keep
                cases f with
                | next me4 => exact fun ρ5 H5 σ5 e5 a5 => ⟨ρ5, me4, m2, e2.trans (e4.trans e5), a5, keep, AftS.ext h2 (e4.trans e5)⟩
                | cont me4 => exact fun ρ5 H5 σ5 e5 a5 => ⟨ρ5, me4, m2, e2.trans (e4.trans e5), a5, keep, AftS.ext h2 (e4.trans e5)⟩
                | brk me4 => exact fun ρ5 H5 σ5 e5 a5 => h2 ρ5 H5 σ5 (e4.trans e5) a5
                | ret v => exact fun ρ5 H5 σ5 e5 a5 => h2 ρ5 H5 σ5 (e4.trans e5) a5
              | exc c n me4 m2 =>
                rw [eb] at h2
                exact fun ρ5 H5 σ5 d e5 a5 => h2 ρ5 H5 σ5 d (e4.trans e5) a5
              | stuck => rw [eb] at h2; exact h2
    | _ => exact h1.elim
theorem ps_forss {t : CT} {it : MI} {tg iter : Expr} {body : List Stmt} (ct : CtS T CA N sc C X W xi) (ht : ckCT N sc t tg = true) (hi : PI X tg iter (tI T CA C X W xi it)) (hfs : ∀ x, foldedSetIterable iter X.env x = pure x) (hb : PSs X body (tB T CA C X W xi b1)) (hh : ∀ a, it = .of a → PE X iter (tE T CA C X W xi a)) :
    PS X (.For tg iter body [] pos) (tS T CA C X W xi (.fors t it b1)) := by
  refine ⟨fun pins s σ H D I ⟨ρ, me, mh, at_, h⟩ => ?_⟩
  by_cases hc : me.ex.isSome = true
  · cases t with
    | nm i =>
      cases it with
      | of a => exact ps_forsH ct ht (hh a rfl) hfs hb I at_ hc h
      | _ => unfold exS at h; rw [if_pos hc] at h; exact h.elim
    | tp is => unfold exS at h; rw [if_pos hc] at h; exact h.elim
  · unfold exS at h
    rw [if_neg hc] at h
    have hcalm := at_.cm (by simpa using hc)
    have hex : me.ex = none := by simpa using hc
    refine (ps_for (g := gCT CA X xi t) ct.po hcalm hi (pg_ct ct.c.g ct.c.fn hcalm ht) hb hfs).run pins s σ H D I ?_
    refine ⟨ρ, me, mh, at_, (AftS.of at_ h).imp fun J H1 ⟨ρ1, mh1, it1, e1, r1, q1, h1⟩ => ?_⟩
    generalize hst : (fun (v : MV) (me : Env) (h : MH) => match setT h me v t with
      | some me' => exB T C b1 me' h
      | none => SR.stuck) = step at h1
    refine ⟨fun i m σ2 H2 => ∃ ρ2 me2 mh2, Ext ρ1 H1 ρ2 H2 ∧ At CA X xi ρ2 me2 mh2 σ2 H2 ∧ me2.ex = none ∧ AftS X CA W xi ρ2 H2 (forL step it1 m i me2 mh2) D, ⟨it1.size mh1, ρ1, me, mh1, Ext.refl, at_.to e1 r1, hex, h1⟩, ?_⟩
    rintro i m σ2 H2 ⟨ρ2, me2, mh2, e2, at2, hex2, h2⟩
    have qJ := q1.mono e2
    cases m with
    | zero =>
      unfold forL at h2
      cases ei : it1.at mh2 i with
      | none => simp only [ei] at h2; exact h2.elim
      | some o =>
        cases o with
        | none => simp only [ei] at h2; exact .inl ⟨it_stop qJ at2.rh ei, h2 ρ2 H2 σ2 Ext.refl at2⟩
        | some v => simp only [ei] at h2; exact h2.elim
    | succ m =>
      unfold forL at h2
      cases ei : it1.at mh2 i with
      | none => simp only [ei] at h2; exact h2.elim
      | some o =>
        cases o with
        | none => simp only [ei] at h2; exact .inl ⟨it_stop qJ at2.rh ei, h2 ρ2 H2 σ2 Ext.refl at2⟩
        | some v =>
          simp only [ei] at h2
          obtain ⟨g1, g2⟩ := it_go qJ at2.rh ei
          refine .inr ⟨g1, fun σ' H' => ∃ ρ3 me3 mh3, Ext ρ1 H1 ρ3 H' ∧ At CA X xi ρ3 me3 mh3 σ' H' ∧ me3.ex = none ∧ AftS X CA W xi ρ3 H' (forL step it1 m (i + 1) me3 mh3) D, fun σ' H' z => ⟨m, Nat.lt_succ_self m, z⟩, fun x H3 y => ?_⟩
          obtain ⟨e4, r4, rv⟩ := g2 x H3 y
          cases es : setT mh2 me2 v t with
          | none =>
            rw [← hst] at h2
            simp only [es] at h2
            exact h2.elim
          | some me3 =>
            have hstep : step v me2 mh2 = exB T C b1 me3 mh2 := by rw [← hst]; simp only [es]
            rw [hstep] at h2
            refine ⟨ρ2, me2, mh2, v, me3, at2.to e4 r4, hex2, rv, es, fun σ' rs' hex' _ => ⟨ρ2, me3, mh2, ⟨rs', r4, fun _ => hcalm⟩, ?_⟩⟩
            have keep := exB_ex (T := T) (C := C) b1 me3 mh2
            cases eb : exB T C b1 me3 mh2 with
            | ok f m2 =>
              rw [eb] at h2 keep
              cases f with
              | next me4 => exact fun ρ5 H5 σ5 e5 a5 => ⟨ρ5, me4, m2, e2.trans (e4.trans e5), a5, (show me4.ex = me3.ex from keep).trans hex', AftS.ext h2 (e4.trans e5)⟩
              | cont me4 => exact fun ρ5 H5 σ5 e5 a5 => ⟨ρ5, me4, m2, e2.trans (e4.trans e5), a5, (show me4.ex = me3.ex from keep).trans hex', AftS.ext h2 (e4.trans e5)⟩
              | brk me4 => exact fun ρ5 H5 σ5 e5 a5 => h2 ρ5 H5 σ5 (e4.trans e5) a5
              | ret v => exact fun ρ5 H5 σ5 e5 a5 => h2 ρ5 H5 σ5 (e4.trans e5) a5
            | exc c n me4 m2 =>
              rw [eb] at h2
              exact fun ρ5 H5 σ5 d e5 a5 => h2 ρ5 H5 σ5 d (e4.trans e5) a5
            | stuck => rw [eb] at h2; exact h2
end
end Mi
end

section
/-! Mini, part 13: a, b = x, y. -/
namespace Mi
open PySem PySem.Spec PyProof.Rows L2

def star1 : Expr → Bool
  | .Starred _ _ => true
  | _ => false
def ckSwN (N : List Str) (sc : Scope) (line : Nat) : List Nat → List Expr → Bool
  | [], [] => true
  | i :: is, e :: es => (match e with | .Name x p => decide (N[i]? = some x) && (sc.names.lookup x == some .local) && (p.line == line) | _ => false) && ckSwN N sc line is es
  | _, _ => false
def lineOf (ts : List Expr) : Nat := (ts.head?.map (·.pos.line)).getD 0
def ckSw (N : List Str) (sc : Scope) (is : List Nat) (ts vs : List Expr) : Bool :=
  (ts.length == 2 || ts.length == 3) && decide (vs.length = ts.length) && vs.all noStar && ckSwN N sc (lineOf ts) is ts && decide (is.Nodup) && ((is.map fun i => N.getD i Str.empty).eraseDups.length == is.length) && !(vs.all (foldedForSure 8)) && !(vs.all (constantsAlone 8))
def ckNoSw (sc : Scope) (ts : List Expr) : Expr → Bool
  | .Tuple vs _ _ => !(ts.length == 2 || ts.length == 3) || !(decide (vs.length = ts.length)) || ts.any fun e => match e with | .Name x _ => sc.names.lookup x == some .cell | _ => false
  | _ => true
theorem fm_lt {α β : Type} {f : α → Option β} : ∀ {l : List α} {x : α}, x ∈ l → f x = none → (l.filterMap f).length < l.length
  | y :: l, x, hx, hf => by
    have hle := List.length_filterMap_le f l
    rw [List.filterMap_cons, List.length_cons]
    rcases List.mem_cons.mp hx with rfl | hx
    · rw [hf]; simp only; omega
    · have ih := fm_lt hx hf
      cases f y <;> simp only [List.length_cons] <;> omega

theorem nostar_any : ∀ {vs : List Expr}, vs.all noStar = true → (vs.any fun | .Starred .. => true | _ => false) = false
  | [], _ => rfl
  | v :: vs, h => by
    rw [List.all_cons, Bool.and_eq_true] at h
    rw [List.any_cons, nostar_any h.2, Bool.or_false]
    have h1 := h.1
    cases v <;> first | rfl | cases h1
theorem noSw_of {sc : Scope} {ts : List Expr} {k : Nat} {p : Pos} {e : Expr} {env : PySem.Env} (hk : ∀ x, sc.names.lookup x = some .cell → env.kindOf x = some .cell) (h : ckNoSw sc ts e = true) : swappedStores [.Tuple ts k p] e env = pure none := by
  cases e <;> try rfl
  rename_i vs k2 p2
  unfold swappedStores
  have h' : (!(ts.length == 2 || ts.length == 3) || !(decide (vs.length = ts.length)) || ts.any fun e => match e with | .Name x _ => sc.names.lookup x == some .cell | _ => false) = true := h
  by_cases hc : (!(ts.length == 2 || ts.length == 3) || vs.length != ts.length || env.blockKind != .function) = true
  · simp only [hc, if_true]
  · have hc' : (!(ts.length == 2 || ts.length == 3) || vs.length != ts.length || env.blockKind != .function) = false := by simpa using hc
    have h3 : (ts.any fun e => match e with | .Name x _ => sc.names.lookup x == some .cell | _ => false) = true := by
      rw [Bool.or_eq_true] at h'
      rcases h' with z | z
      · exfalso
        apply hc
        rw [Bool.or_eq_true] at z
        rcases z with z | z
        · rw [z]; rfl
        · have : (vs.length != ts.length) = true := by simpa using z
          rw [this]; simp
      · exact z
    obtain ⟨e, he, q⟩ := List.any_eq_true.mp h3
    simp only [hc', Bool.false_eq_true, if_false]
    generalize hg : List.filterMap _ ts = names
    have hlt : names.length < ts.length := by
      rw [← hg]
      refine fm_lt he ?_
      split at q
      · rename_i x p
        have hx := hk x (beq_iff_eq.mp q)
        simp [hx]
      · cases q
    have e2 : (names.length != ts.length || names.eraseDups.length != names.length) = true := by
      have : (names.length != ts.length) = true := by simp; omega
      rw [this]; rfl
    simp only [e2, if_true]
    split <;> rfl
section
variable {T : Tab} {CA : Str → Addr} {N : List Str} {sc : Scope} {C : CallF} {X : Cx} {W : WX} {xi : Option (Nat × Addr × Addr)} {ρ ρ1 : Rho} {me : Env} {mh mh1 : MH} {σ : L2.St} {H H1 : Hp} {D : Ends}
theorem swN_names {line : Nat} {env : PySem.Env} (hk : ∀ x, sc.names.lookup x = some .local → env.kindOf x = some .local) : ∀ {is : List Nat} {ts : List Expr}, ckSwN N sc line is ts = true →
    (ts.filterMap fun | .Name id pos => if env.kindOf id == some .local && pos.line == line then some id else none | _ => none) = is.map (fun i => N.getD i Str.empty) ∧ ts.length = is.length ∧ ∀ j ∈ is, N[j]? = some (N.getD j Str.empty) ∧ sc.names.lookup (N.getD j Str.empty) = some .local
  | [], [], _ => ⟨rfl, rfl, fun j hj => by cases hj⟩
  | i :: is, e :: ts, h => by
    unfold ckSwN at h
    obtain ⟨h1, h2⟩ := ba h
    split at h1
    · rename_i x p
      obtain ⟨h1, h5⟩ := ba h1
      obtain ⟨h3, h4⟩ := ba h1
      obtain ⟨g1, g2, g3⟩ := swN_names hk h2
      have hx := dc h3
      have hl := beq_iff_eq.mp h4
      have ex : N.getD i Str.empty = x := by simp [List.getD, hx]
      refine ⟨?_, by rw [List.length_cons, List.length_cons, g2], fun j hj => ?_⟩
      · rw [List.filterMap_cons, List.map_cons, ex]
        simp only [hk x hl, beq_self_eq_true, h5, Bool.and_self, if_true]
        exact congrArg (x :: ·) g1
      · rcases List.mem_cons.mp hj with z | z
        · rw [z, ex]; exact ⟨hx, hl⟩
        · exact g3 j z
    · cases h1
  | [], _ :: _, h => by unfold ckSwN at h; cases h
  | _ :: _, [], h => by unfold ckSwN at h; cases h
theorem sw_of {is : List Nat} {ts vs : List Expr} {k k2 : Nat} {p p2 : Pos} {env : PySem.Env} (hk : ∀ x, sc.names.lookup x = some .local → env.kindOf x = some .local) (hb : env.blockKind = .function) (h : ckSw N sc is ts vs = true) :
    swappedStores [.Tuple ts k p] (.Tuple vs k2 p2) env = pure (some (is.map fun i => N.getD i Str.empty)) := by
  unfold ckSw at h
  obtain ⟨h, h8⟩ := ba h
  obtain ⟨h, h7⟩ := ba h
  obtain ⟨h, h6⟩ := ba h
  obtain ⟨h, h5⟩ := ba h
  obtain ⟨h, h4⟩ := ba h
  obtain ⟨h, h3⟩ := ba h
  obtain ⟨h1, h2⟩ := ba h
  obtain ⟨g1, g2, g3⟩ := swN_names (env := env) hk h4
  have e1 : (!(ts.length == 2 || ts.length == 3) || vs.length != ts.length || env.blockKind != .function) = false := by
    rw [h1, hb, dc h2]; simp
  unfold swappedStores
  simp only [e1, Bool.false_eq_true, if_false]
  generalize hg : List.filterMap _ ts = names
  generalize hv : List.any vs _ = bb
  have hb1 : bb = false := by rw [← hv]; exact nostar_any h3
  have hb2 : names = is.map (fun i => N.getD i Str.empty) := by rw [← hg]; exact g1
  rw [hb1, hb2]
  have e2 : ((is.map fun i => N.getD i Str.empty).length != ts.length || (is.map fun i => N.getD i Str.empty).eraseDups.length != (is.map fun i => N.getD i Str.empty).length) = false := by
    rw [beq_iff_eq.mp h6, List.length_map, g2]; simp
  simp only [e2, Bool.false_eq_true, if_false]
  have e3 : vs.all (foldedForSure 8) = false := by simpa using h7
  have e4 : vs.all (constantsAlone 8) = false := by simpa using h8
  simp only [e3, e4, Bool.false_eq_true, if_false]
/-- names set one after another -/
theorem assign_all {pins : List (Addr × Obj)} {Q : Unit → Shared → Prop} {E : Value → Shared → Prop} (g : Gd T CA N sc X) : ∀ {is : List Nat} {vs : List V} {us : List Value} {σ : L2.St} {s : Shared}, is.length = vs.length →
    (∀ j ∈ is, N[j]? = some (N.getD j Str.empty) ∧ sc.names.lookup (N.getD j Str.empty) = some .local) → L2.Inv X pins σ H s → Vals vs us →
    (∀ s', L2.Inv X pins ((is.zip vs).foldl (fun (m : L2.St) p => m.set p.1 (some p.2)) σ) H s' → Q () s') → wpAny (model X.prog X.w) X.A (assignInOrder (is.map fun i => bindName X.env (N.getD i Str.empty)) us) Q E s
  | [], [], _, σ, s, _, _, I, .nil, k => assignInOrder_nil (k s I)
  | i :: is, v :: vs, _, σ, s, hl, hn, I, .cons rv rs, k => by
    obtain ⟨h1, h2⟩ := hn i List.mem_cons_self
    have h3 := (loc_of g (.inl h2)).2 h2
    rw [List.map_cons]
    refine assignInOrder_cons (wpAny_bindName (store_ok I g.nd (by rw [g.nm]; exact h1) (.inl h3) rv (fun s2 I2 => ?_) (.inr h3)))
    exact assign_all g (by simpa using hl) (fun j hj => hn j (List.mem_cons_of_mem _ hj)) I2 rs k
  | [], _ :: _, _, _, _, hl, _, _, _, _ => by cases hl
  | _ :: _, [], _, _, _, hl, _, _, _, _ => by cases hl
theorem fold_rs {xs : List MV} : ∀ {is : List Nat} {xs : List MV} {vs : List V} {me : Env} {σ : L2.St}, me.ex = none → RS CA xi ρ H me σ → RVs CA ρ H xs vs →
    RS CA xi ρ H ((is.zip xs).foldl (fun m p => m.set p.1 p.2) me) ((is.zip vs).foldl (fun (m : L2.St) p => m.set p.1 (some p.2)) σ)
  | [], _, _, me, σ, he, r, _ => by simpa using r
  | i :: is, [], _, me, σ, he, r, .nil => by simpa using r
  | i :: is, x :: xs, v :: vs, me, σ, he, r, .cons rv rs => by
    rw [List.zip_cons_cons, List.zip_cons_cons, List.foldl_cons, List.foldl_cons]
    exact fold_rs (xs := xs) (me := me.set i x) he (r.set (by rw [he]; simp) rv) rs
theorem zip_rev {α β : Type} : ∀ {as : List α} {bs : List β}, as.length = bs.length → (as.zip bs).reverse = as.reverse.zip bs.reverse
  | [], [], _ => rfl
  | a :: as, b :: bs, h => by
    have h' : as.length = bs.length := by simpa using h
    rw [List.zip_cons_cons, List.reverse_cons, List.reverse_cons, List.reverse_cons, zip_rev h', List.zip_append (by simpa using h')]
    rfl
  | [], _ :: _, h => by cases h
  | _ :: _, [], h => by cases h
theorem SR.of_bind {α β : Type} {me : Env} {x : M α} {f : α → M β} {k : β → MH → SR} {mh : MH} : SR.of me (M.bind x f mh) k = SR.of me (x mh) fun a h => SR.of me (f a h) k := by
  unfold M.bind SR.of
  cases x mh <;> rfl
theorem vals_rev : ∀ {xs : List V} {us : List Value}, Vals xs us → Vals xs.reverse us.reverse
  | _, _, .nil => .nil
  | _, _, .cons r t => by
    rw [List.reverse_cons, List.reverse_cons]
    exact (vals_rev t).append (.cons r .nil)
theorem ps_asgSw {is : List Nat} {ts vs : List Expr} {as : MEs} {k k2 : Nat} {p p2 pos : Pos} (ct : CtS T CA N sc C X W xi) (h0 : ckSw N sc is ts vs = true) (ha : PA X vs (tEs T CA C X W xi as)) :
    PS X (.Assign [.Tuple ts k p] (.Tuple vs k2 p2) pos) (tS T CA C X W xi (.asg (.sw is) (.tup as))) := by
  have hk : ∀ x, sc.names.lookup x = some .local → X.env.kindOf x = some .local := fun x h => (loc_of ct.c.g (.inl h)).2 h
  have hw := sw_of (k := k) (k2 := k2) (p := p) (p2 := p2) hk ct.bk h0
  have hnames : ∀ j ∈ is, N[j]? = some (N.getD j Str.empty) ∧ sc.names.lookup (N.getD j Str.empty) = some .local := by
    unfold ckSw at h0
    obtain ⟨h, _⟩ := ba h0
    obtain ⟨h, _⟩ := ba h
    obtain ⟨h, _⟩ := ba h
    obtain ⟨h, _⟩ := ba h
    obtain ⟨h, h4⟩ := ba h
    exact (swN_names hk h4).2.2
  refine ⟨fun pins s σ H D I ⟨ρ, me, mh, at_, h⟩ => ?_⟩
  unfold exS at h
  by_cases hc : me.ex.isSome = true
  · rw [if_pos ⟨rfl, hc⟩] at h; exact h.elim
  · rw [if_neg (fun z => hc z.2)] at h
    have hcalm := at_.cm (by simpa using hc)
    have hex : me.ex = none := by simpa using hc
    unfold evE at h
    rw [SR.of_bind] at h
    have h' := AftS.of (R := RVn CA as.len) at_ h
    rw [exec_Assign_arm]
    refine wpAny_bind (wpAny_standAt ?_)
    rw [show swapsWithSole [.Tuple ts k p] (.Tuple vs k2 p2) pos.line X.env = pure false from rfl]
    refine wpAny_bind (wpAny_pure ?_)
    rw [if_neg (by decide)]
    refine wpAny_bind (PyProof.Rows.Tuple_ (thn (ha.run _ pins s σ H _ I ⟨ρ, me, mh, at_, h'⟩) fun us s1 ⟨ws, H1, I1, r1, ρ1, mh1, xs, e1, rh1, q1, h1⟩ => ?_))
    by_cases hz : xs.length ≤ sizeLine
    · rw [if_pos hz] at h1
      have hz2 : us.length ≤ sizeLine := by rw [← r1.length, ← q1.1.length]; exact hz
      refine wpAny_newObj_type ?_ (by show us.length ≤ sizeLine; exact hz2)
      have I2 : L2.Inv X pins σ H1 { s1 with heap := s1.heap.push { cls := .type "tuple", data := .seq us.toArray } } := I1.kept (t' := s1.toks) fun b o e => Heap.get?_push_of_some _ e
      rw [hw]
      refine wpAny_bind (wpAny_pure ?_)
      have h2 : AftS X CA W xi ρ1 H1 (SR.of me (asgM T C me (.tup xs) (.sw is) mh1) fun me' h => .ok (.next me') h) D := h1
      unfold asgM at h2
      simp only at h2
      by_cases hl : xs.length = is.length
      · rw [if_pos ⟨hl, by rw [hex]; rfl⟩] at h2
        have hlen : us.toArray.size = is.length := by rw [← hl, q1.1.length, r1.length]; simp
        show wpAny (model X.prog X.w) X.A (do rule "assign.swapped-stores"; let items ← unpackItems (.ref s1.heap.objs.size) (is.map fun i => N.getD i Str.empty).length none; assignInOrder ((is.map fun i => N.getD i Str.empty).reverse.map fun n => bindName X.env n) items.reverse; pure Flow.next) _ _ _
        rw [List.length_map, ← hlen]
        refine wpAny_bind (wpAny_rule (wpAny_bind (unpackItems_tuple (items := us.toArray) (I.ok.hd hcalm) (IsTup.new s1.heap _) fun h' hx' => ?_)))
        have I3 := I2.kept (h' := h') (t' := s1.toks) fun b o e => hx' b o (Nat.ne_of_lt (Heap.lt_size e)) e
        have em : ((is.map fun i => N.getD i Str.empty).reverse.map fun n => bindName X.env n) = is.reverse.map fun i => bindName X.env (N.getD i Str.empty) := by
          rw [← List.map_reverse, List.map_map]; rfl
        rw [em]
        refine wpAny_bind (assign_all (T := T) (CA := CA) ct.c.g (is := is.reverse) (vs := ws.reverse) (by rw [List.length_reverse, List.length_reverse, ← q1.1.length, hl]) (fun j hj => hnames j (List.mem_reverse.mp hj)) I3 (vals_rev r1) fun s' I4 => wpAny_pure ?_)
        have rs := at_.rs.mono e1
        have rr := fold_rs (xs := xs) (is := is.reverse) hex rs q1.1.reverse
        rw [← zip_rev hl.symm] at rr
        exact ⟨_, H1, I4, h2 ρ1 H1 _ Ext.refl ⟨rr, rh1, fun _ => hcalm⟩⟩
      · rw [if_neg (fun z => hl z.1)] at h2; exact h2.elim
    · rw [if_neg hz] at h1; exact h1.elim
end
end Mi
end

section
/-! Mini, part 14: own exceptions over Exception: their __init__, raise. -/
namespace Mi
open PySem PySem.Spec PyProof.Rows L2

/-- own classes, then Exception's mro -/
def refsEx : List Value → Bool
  | .ref _ :: r => refsEx r
  | l => l == PySem.ESX.exTail
theorem refsEx_cases : ∀ l : List Value, refsEx l = true → (∃ c r, l = .ref c :: r ∧ refsEx r = true) ∨ l = PySem.ESX.exTail := fun l h => by
  cases l with
  | nil => exact .inr (beq_iff_eq.mp h)
  | cons a r => cases a <;> first | exact .inr (beq_iff_eq.mp h) | exact .inl ⟨_, _, rfl, h⟩
theorem refsEx_pass (self : Value) : ∀ l : List Value, refsEx l = true → refuseLoop self "__setattr__" l = pure ()
  | [], e => absurd e (by decide)
  | a :: r, e => by
    rcases refsEx_cases (a :: r) e with ⟨c, r', q, h⟩ | q
    · obtain ⟨rfl, rfl⟩ := List.cons.inj q
      rw [refuseLoop_ref]; exact refsEx_pass self r h
    · rw [q]; exact F.store_Exception.passes self
theorem refsEx_has (X : String) : ∀ l : List Value, refsEx l = true → l.contains (.type X) = PySem.ESX.exTail.contains (.type X)
  | [], e => absurd e (by decide)
  | a :: r, e => by
    rcases refsEx_cases (a :: r) e with ⟨c, r', q, h⟩ | q
    · obtain ⟨rfl, rfl⟩ := List.cons.inj q
      rw [List.contains_cons, refsEx_has X r h]; rfl
    · rw [q]
theorem refsEx_ne {l : List Value} (e : refsEx l = true) : l.isEmpty = false := by
  cases l with
  | nil => exact absurd e (by decide)
  | cons _ _ => rfl

/-! ### self.f = v on such an exception -/
section
open Builtin Builtin.ObjectAttr
variable {prog : Program} {w : World} {A : Around} {R : Result → Shared → Prop} {hp : Heap} {g : Array GenState} {d : Drawn} {t : Nat} {os : OsState}
theorem osa_go {K : W.Frag} {name : Str} {tk : Tok} {v : Value} {x C : Addr} {ox : Obj} {od : Option Obj} {cd : ClassData}
    (X : K.In hp) (I : W.InstAt hp x ox C od) (hcd : W.clsIn K C = some cd) (hm : refsEx cd.mro = true) (ha : W.findIn K (.ref C) name = some none)
    (hq : wpAny (model prog w) A.in1 (storeInOwnDict (.ref x) (.ref C) (.str name tk) name v false)
      (fun fin s' => match fin with | .done f => R (.ok f) s' | .again c' => c'.quiet = true ∧ codeAny (model prog w) A c' R s') (fun e s' => R (.error e) s') ⟨hp, g, d, t, os⟩) :
    codeAny (model prog w) A (.call (.builtin "object.__setattr__") ⟨[.ref x, .str name tk, v], []⟩) R ⟨hp, g, d, t, os⟩ := by
  have SF := F.store_object
  have ne := refsEx_ne hm
  have hob : cd.mro.contains (.type "object") = true := (refsEx_has "object" _ hm).trans (by decide +kernel)
  have sub : W.Looks (model prog w) hp (isInstance (.ref x) (.type "object")) true := I.type.andThen (W.looks_mroIn X (by unfold W.mroIn; rw [hcd, Option.bind_some, if_neg (by rw [ne]; decide), hob]))
  refine codeAny_call_builtin SF.slot.plain SF.entry (@W.check_slot (model prog w) _ _ ⟨hp, g, d, t, os⟩ "object.__setattr__" "object" "__setattr__" (.ref x) [.str name tk, v] [] _ SF.kind SF.split sub (SF.args (.ref x) (.str name tk) v) ?_)
  have hmr : W.Looks (model prog w) hp (mroOf (.ref C)) cd.mro := (W.looks_clsIn X hcd).andThen .now
  have L3 : W.Looks (model prog w) hp (storeTaker? none) none := .now
  rw [W.osa_eq, refuse_eq]
  refine wpAny_bind (wpAny_bind (I.type.at (wpAny_bind (hmr.at ?_))))
  rw [refsEx_pass _ _ hm]
  exact wpAny_pure (wpAny_bind (I.type.at (wpAny_bind ((W.looks_findIn X ha).at (wpAny_bind (L3.at hq))))))
theorem osa_fst {K : W.Frag} {name : Str} {tk : Tok} {v : Value} {x C : Addr} {fv : Array Value} {cd : ClassData}
    (X : K.In hp) (hx : hp.get? x = some { cls := .ref C, data := .fields fv }) (hcd : W.clsIn K C = some cd) (hm : refsEx cd.mro = true) (hh : cd.hasDict = true) (ha : W.findIn K (.ref C) name = some none)
    (hq : ∀ h' tk' dx, (∀ b o, b ≠ x → hp.get? b = some o → h'.get? b = some o) → hp.objs.size ≤ dx → dx ≠ x → h'.get? x = some { cls := .ref C, dict := some dx, data := .fields fv } →
      h'.Ns1 dx (fun y => if y = name then some v else none) → R (.ok (.ret .none)) ⟨h', g, d, tk', os⟩) :
    codeAny (model prog w) A (.call (.builtin "object.__setattr__") ⟨[.ref x, .str name tk, v], []⟩) R ⟨hp, g, d, t, os⟩ := by
  have I : W.InstAt hp x { cls := .ref C, data := .fields fv } C none := ⟨hx, rfl, rfl, trivial⟩
  have hxs : x ≠ hp.objs.size := Nat.ne_of_lt (Heap.lt_size hx)
  refine osa_go X I hcd hm ha ?_
  have hcls : W.Looks (model prog w) hp (classData C) cd := W.looks_clsIn X hcd
  obtain ⟨nm, bs, mro, ns, qn, hd, sn, sb, ab, col, del⟩ := cd
  dsimp only at hh
  subst hh
  unfold storeInOwnDict ownDictForStores
  repeat (first | with_reducible refine HandSPX.store_in_new ?_ ?_ | with_reducible refine wpAny_loadPart_at hx ?_ | with_reducible refine hcls.at ?_ | wp_step)
  · exact ⟨_, #[], _, (Heap.get?_update_ne _ _ _ _ hxs.symm).trans (Heap.get?_push_at rfl rfl), rfl, fun e he => absurd he (by simp), fun _ => rfl⟩
  · intro h' tk' hn' hs
    have hx₁ : (hp.push { cls := .type "dict", data := .dict #[] }).get? x = some { cls := .ref C, data := .fields fv } := Heap.get?_push_of_some _ hx
    refine hq h' tk' hp.objs.size (fun b o hb ho => ?_) (Nat.le_refl _) hxs.symm ?_ hn'
    · exact (hs.2 b (Nat.ne_of_lt (Heap.lt_size ho))).trans ((Heap.get?_update_ne _ _ _ _ hb).trans (Heap.get?_push_of_some _ ho))
    · exact (hs.2 x hxs).trans (Heap.get?_update_self _ hx₁ rfl)
theorem osa_nxt {K : W.Frag} {name : Str} {tk : Tok} {v : Value} {x C dx : Addr} {fv : Array Value} {cd : ClassData} {m0 : Str → Option Value} {nl : List Str}
    (X : K.In hp) (hx : hp.get? x = some { cls := .ref C, dict := some dx, data := .fields fv }) (hns : hp.Ns1 dx m0) (hw : Within m0 nl) (hz : nl.length ≤ 1000) (hcd : W.clsIn K C = some cd) (hm : refsEx cd.mro = true) (hh : cd.hasDict = true)
    (ha : W.findIn K (.ref C) name = some none)
    (hq : ∀ h' tk', (∀ b o, b ≠ dx → hp.get? b = some o → h'.get? b = some o) → h'.Ns1 dx (fun y => if y = name then some v else m0 y) → R (.ok (.ret .none)) ⟨h', g, d, tk', os⟩) :
    codeAny (model prog w) A (.call (.builtin "object.__setattr__") ⟨[.ref x, .str name tk, v], []⟩) R ⟨hp, g, d, t, os⟩ := by
  obtain ⟨oD, esD, epD, hoD, hdD, _⟩ := hns.count hw
  have I : W.InstAt hp x { cls := .ref C, dict := some dx, data := .fields fv } C (some oD) := ⟨hx, rfl, rfl, hoD⟩
  refine osa_go X I hcd hm ha ?_
  have hcls : W.Looks (model prog w) hp (classData C) cd := W.looks_clsIn X hcd
  obtain ⟨nm, bs, mro, ns, qn, hd, sn, sb, ab, col, del⟩ := cd
  dsimp only at hh
  subst hh
  unfold storeInOwnDict ownDictForStores
  repeat (first | with_reducible refine PySem.OEX.store_in_old hns hw hz ?_ | with_reducible refine wpAny_loadPart_at hx ?_ | with_reducible refine hcls.at ?_ | wp_step)
  intro h' tk' hn' hs
  exact hq h' tk' (fun b o hb ho => (hs.2 b hb).trans ho) hn'
end

/-- what the written part says of such a class -/
structure EC (K : PySem.W.Frag) (C : Addr) : Prop where
  cls : ∃ nm q N bs bm sn sub ab col dd k0 k1 k2 k3 k5, K.lookup C = some (excClassObj nm q C N bs bm true sn sub ab col dd k0 k1 k2 k3 k5 "Exception.__new__") ∧ refsEx bm = true
  sa : PySem.W.findIn K (.ref C) "__setattr__" = some (some (.builtin "object.__setattr__"))
  exC : PySem.W.subIn K (.ref C) (.type "BaseException") = some true
  tyC : PySem.W.typeIn K (.ref C) = some (.type "type")
  kC : PySem.W.keepIn K (.ref C) = true
/-- .. of the class whose __init__ is called by name -/
structure XB (K : PySem.W.Frag) (G : Addr) : Prop where
  sp : PySem.W.specialIn K (.ref G) "__getattribute__" = some (some (.builtin "type.__getattribute__"))
  ty : PySem.W.typeIn K (.ref G) = some (.type "type")
  rd : PySem.W.readsIn K G (.type "type") = true
  fc : PySem.W.findCls K (.ref G) (.type "type") "__init__" = some (.val (.builtin "Exception.__init__"))

section
variable {X : Cx} {pins : List (Addr × Obj)} {σ : L2.St} {H : Hp} {s : Shared} {a C dx : Addr} {f : Str} {y : V} {u : Value} {fs : List (Str × V)} {Q : Unit → Shared → Prop} {E : Value → Shared → Prop} {A : Around}
theorem xst_new (T : EC X.K C) (I : L2.Inv X pins σ H s) (e : H a = some (exo a C none)) (hno : PySem.W.findIn X.K (.ref C) f = some none) (ry : RelV y u)
    (h : ∀ dx s', H dx = none → dx ≠ a → L2.Inv X pins σ (upd (upd H dx (exd dx [(f, y)])) a (exo a C (some dx))) s' → Q () s') : wpAny (model X.prog X.w) A (setAttr (.ref a) f u) Q E s := by
  obtain ⟨nm, q, N, bs, bm, sn, sub, ab, col, dd, k0, k1, k2, k3, k5, hC, hbm⟩ := T.cls
  have hcl : PySem.W.clsIn X.K C = some { name := nm, bases := bs, mro := .ref C :: bm, ns := N, qualname := q, hasDict := true, slotNames := sn, subclasses := sub, abstract := ab, collection := col, hasDel := false } := by unfold PySem.W.clsIn; rw [hC] <;> rfl
  obtain ⟨t1, ho⟩ := exo_at I.hok e
  obtain ⟨hp, g, d, t, os⟩ := s
  refine PySem.W.set_plain I.kIn (ox := { cls := .ref C, dict := none, data := .fields #[.ref t1, .none, .none, .none, .bool false, .none] }) (od := none) ⟨ho, rfl, rfl, trivial⟩ T.sa ?_
  refine osa_fst I.kIn ho hcl (show refsEx (.ref C :: bm) = true from hbm) rfl hno (fun h' tk' dx k dn dne hx hn => ?_)
  have hnd : H dx = none := I.hok.fresh dn
  have nd : ∀ {b : Addr} {o : Obj}, hp.get? b = some o → b ≠ dx := fun {b o} q => Nat.ne_of_lt (Nat.lt_of_lt_of_le (Heap.lt_size q) dn)
  have na : ∀ {b : Addr}, H b = none → b ≠ a := fun {b} n z => by
    rw [z, e] at n
    cases n
  have Un1 : Un X.fs [] H (upd (upd H dx (exd dx [(f, y)])) a (exo a C (some dx))) hp h' := {
    keep := fun b o q n _ _ => k b o (na n) q
    slot := fun b o q n _ _ => ⟨o.slots, k b o (na n) q⟩
    free := fun b o q n _ => by rw [upd_ne (na n), upd_ne (nd q)]; exact n
    there := fun b o q _ => by
      by_cases hb : b = a
      · exact ⟨_, by rw [hb]; exact hx⟩
      · exact ⟨o, k b o hb q⟩
    tups := fun b xs q => by rw [upd_ne (at_ne e q exo_tup), upd_ne (ne_of_none q hnd)]; exact q
    frzs := fun b o v q => by rw [upd_ne (at_ne e q exo_frz), upd_ne (ne_of_none q hnd)]; exact q
    tbls := fun b ps q => ⟨#[], by rw [upd_ne (at_ne e q exo_tbl), upd_ne (ne_of_none q hnd), q]; simp⟩ }
  refine h dx _ hnd dne (I.un (t' := tk') Un1 fun b o q => ?_)
  by_cases hb : b = a
  · subst hb
    rw [upd_same] at q
    cases q
    exact exo_ok hx
  · rw [upd_ne hb] at q
    by_cases hd : b = dx
    · subst hd
      rw [upd_same] at q
      cases q
      exact exd_ok hn (relO_put (fs := []) ry fun g => True.intro)
    · rw [upd_ne hd] at q
      exact (I.hok b o q).stay (fun c v hc z => k c v (by
          rcases hc with hc | hc
          · rw [hc]
            exact hb
          · exact at_ne e hc exo_own) z)
        (fun c hc => by rw [upd_ne (at_ne e hc exo_own), upd_ne (ne_of_none hc hnd)]; exact hc) (fun c xs hc => by rw [upd_ne (at_ne e hc exo_tup), upd_ne (ne_of_none hc hnd)]; exact hc)
theorem xst_old (T : EC X.K C) (I : L2.Inv X pins σ H s) (e : H a = some (exo a C (some dx))) (ed : H dx = some (exd dx fs)) (hl : fs.length ≤ 900) (hno : PySem.W.findIn X.K (.ref C) f = some none) (ry : RelV y u)
    (h : ∀ s', L2.Inv X pins σ (upd H dx (exd dx ((f, y) :: fs))) s' → Q () s') : wpAny (model X.prog X.w) A (setAttr (.ref a) f u) Q E s := by
  obtain ⟨nm, q, N, bs, bm, sn, sub, ab, col, dd, k0, k1, k2, k3, k5, hC, hbm⟩ := T.cls
  have hcl : PySem.W.clsIn X.K C = some { name := nm, bases := bs, mro := .ref C :: bm, ns := N, qualname := q, hasDict := true, slotNames := sn, subclasses := sub, abstract := ab, collection := col, hasDel := false } := by unfold PySem.W.clsIn; rw [hC] <;> rfl
  obtain ⟨t1, ho⟩ := exo_at I.hok e
  obtain ⟨mA, hns, rel⟩ := exd_at I.hok ed
  have hw := within_of rel
  obtain ⟨hp, g, d, t, os⟩ := s
  obtain ⟨oD, _, _, hoD, _, _⟩ := hns.count hw
  refine PySem.W.set_plain I.kIn (ox := { cls := .ref C, dict := some dx, data := .fields #[.ref t1, .none, .none, .none, .bool false, .none] }) (od := some oD) ⟨ho, rfl, rfl, hoD⟩ T.sa ?_
  refine osa_nxt I.kIn ho hns hw (by rw [List.length_map]; omega) hcl (show refsEx (.ref C :: bm) = true from hbm) rfl hno (fun h' tk' k hn => ?_)
  have hd : ∃ o, h'.get? dx = some o := by
    obtain ⟨o, _, _, e', _⟩ := hn
    exact ⟨o, e'⟩
  exact h _ (I.write (t' := tk') (x := dx) (e := dx) (o := exd dx ((f, y) :: fs)) (by rw [ed]; exact True.intro) (.inl rfl) k hd (exd_ok hn (relO_put ry rel)))
/-- Exception.__init__(self, ..): nothing of it is told -/
theorem xinit_ok {us : List Value} {Q : Value → Shared → Prop} (T : EC X.K C) (I : L2.Inv X pins σ H s) (e : H a = some (exo a C none)) (hl : us.length ≤ sizeLine) (h : ∀ s', L2.Inv X pins σ H s' → Q .none s') :
    wpAny (model X.prog X.w) A (call (.builtin "Exception.__init__") (.ref a :: us)) Q E s := by
  obtain ⟨nm, q, N, bs, bm, sn, sub, ab, col, dd, k0, k1, k2, k3, k5, hC, hbm⟩ := T.cls
  obtain ⟨t1, ho⟩ := exo_at I.hok e
  obtain ⟨hp, g, d, t, os⟩ := s
  refine wpAny_call (PySem.HandSPX.init_base F.excBase_Exception (fun Y => refsEx_has Y bm hbm) (I.kIn _ _ hC) ho hl fun h' t2 k hx => ?_)
  have J := I.write (t' := t) (x := a) (e := a) (o := exo a C none) (by rw [e]; exact True.intro) (.inl rfl) k ⟨_, hx⟩ (exo_ok hx)
  have eu : upd H a (exo a C none) = H := by
    funext b
    by_cases hb : b = a
    · rw [hb, upd_same, e]
    · rw [upd_ne hb]
  rw [eu] at J
  exact h _ J
end
end Mi
end

section
/-! Mini, part 15: raise X(..). -/
namespace Mi
open PySem PySem.Spec PyProof.Rows L2

/-! ### the def __init__ of such a class -/
def ckXA (N : List Str) (sc : Scope) : Nat → List Str → List Stmt → Bool
  | _, [], [] => true
  | i, f :: fs, .Assign [.Attribute (.Name s _) f' _] (.Name p _) _ :: r => decide (f' = f) && decide (N[0]? = some s) && vis sc s && decide (N[i]? = some p) && vis sc p && ckXA N sc (i + 1) fs r
  | _, _, _ => false
def ckXI (N : List Str) (sc : Scope) (g : Str) (fs : List Str) : List Stmt → Bool
  | .Expr (.Call (.Attribute (.Name x _) m p2) [.Name s _, .Constant (.str _) _ _] [] pos) _ :: r =>
    decide (x = g) && decide (m = ("__init__" : Str)) && glb sc x && decide (N[0]? = some s) && vis sc s && (p2.endLine == pos.line) && ckXA N sc 1 fs r
  | _ => false
/-- what it does -/
def spX (K : PySem.W.Frag) (C : Addr) (fs : List Str) : Sp := fun vs H Q _ => ∃ (a : Addr) (ws : List V), vs = .ref a :: ws ∧ ws.length = fs.length ∧ H a = some (exo a C none) ∧
  ∀ dx, H dx = none → dx ≠ a → Q .non (upd (upd H dx (exd dx (fs.zip ws).reverse)) a (exo a C (some dx)))

section
variable {X : Cx} {N : List Str} {sc : Scope}
/-- the names of a def's body -/
structure Nms (X : Cx) (N : List Str) (sc : Scope) : Prop where
  nm : X.N = N
  nd : X.N.Nodup
  sc : ∀ (x : Str) (k : NameKind), sc.names.lookup x = some k → X.env.scope.names.lookup x = some k
theorem Nms.vis (g : Nms X N sc) {x : Str} (h : vis sc x = true) : Vis X.env.scope x ∧ (x == ("__debug__" : Str)) = false ∧ (x == ("__classdict__" : Str)) = false := by
  unfold Mi.vis okN at h
  simp only [Bool.and_eq_true, Bool.or_eq_true, beq_iff_eq, Bool.not_eq_true'] at h
  obtain ⟨h1, ⟨h2, h3⟩, _⟩ := h
  refine ⟨?_, h2, h3⟩
  rcases h1 with (h1 | h1) | h1
  · exact .inl (g.sc x _ h1)
  · exact .inr (.inl (g.sc x _ h1))
  · exact .inr (.inr (g.sc x _ h1))
theorem Nms.glb (g : Nms X N sc) {x : Str} (h : glb sc x = true) : Gl X x ∧ (x == ("__debug__" : Str)) = false := by
  unfold Mi.glb okN at h
  simp only [Bool.and_eq_true, beq_iff_eq, Bool.not_eq_true'] at h
  obtain ⟨h1, ⟨h2, _⟩, _⟩ := h
  exact ⟨g.sc x _ h1, h2⟩
theorem pe_nms {i : Nat} {x : Str} {p : Pos} (g : Nms X N sc) (hi : N[i]? = some x) (hv : vis sc x = true) : PE X (.Name x p) (fun σ H Q => ∃ v, σ[i]? = some (some v) ∧ Q v H) := by
  obtain ⟨v, d1, d2⟩ := g.vis hv
  exact PE.to (pe_var (i := i) (by rw [g.nm]; exact hi) v d1 d2) fun _ _ _ h => h

def tXeI (K : PySem.W.Frag) (ta : TA) : TE := fun σ H Q => ta σ H fun vs H1 => ∃ (a C : Addr) (ws : List V), vs = .ref a :: ws ∧ ws.length ≤ 1000 ∧ EC K C ∧ H1 a = some (exo a C none) ∧ Q .non H1
theorem pe_xinit {e : Expr} {es : List Expr} {ta : TA} {x : Str} {p1 p2 pos : Pos} {G : Addr} (hb : XB X.K G) (hg : Gl X x) (hdb : (x == ("__debug__" : Str)) = false) (hm : X.mg x = some (.ref G)) (ha : PA X (e :: es) ta)
    (hes : (e :: es).all noStar = true) (hn : (e :: es).length < 29) (hl : (p2.endLine == pos.line) = true) : PE X (.Call (.Attribute (.Name x p1) "__init__" p2) (e :: es) [] pos) (tXeI X.K ta) := by
  refine ⟨fun pins s σ H Q I h => ?_⟩
  refine PySem.W.methodCall_KW (pl := (do return (← importBound (.Name x p1) X.env).getD true)) (ld_glob I hg hm ?_ hdb) (meth_eval (ks := []) rfl hes rfl (by simpa using hn) hl)
  obtain ⟨m, fr⟩ := I.fr
  refine PySem.W.method_of_cls fr I.ok.mod.kin hb.sp (PySem.W.cls_val fr I.ok.mod.kin hb.ty hb.rd hb.fc (by decide +kernel) ?_)
  show wpAny _ _ (callWith pos (Value.builtin "Exception.__init__") [] (backTo pos (starEach (e :: es) X.env)) []) _ _ _
  rw [List.all_cons, Bool.and_eq_true] at hes
  refine PyProof.Rows.callWith_method1 (thn (ha.run pos pins _ σ H _ (I.tok _) h) fun us s1 ⟨vs, H1, I1, r1, a, C, ws, ev, hlw, T, ea, q⟩ => ?_) (star_cons hes.1) (star_none hes.2)
  subst ev
  cases r1 with
  | @cons _ u0 _ ur ra rw' =>
    obtain rfl : u0 = Value.ref a := ra
    have hlen : ur.length ≤ sizeLine := by
      rw [← Paired.length rw', sizeLine_eq]
      omega
    exact xinit_ok T I1 ea hlen fun s' J => ⟨.non, H1, J, rfl, q⟩

theorem upd_upd {H : Hp} {a b : Addr} {o o' p : HO} (h : b ≠ a) : upd (upd (upd H b o) a p) b o' = upd (upd H b o') a p := by
  funext c
  by_cases h1 : c = b
  · subst h1; rw [upd_same, upd_ne h, upd_same]
  · rw [upd_ne h1]
    by_cases h2 : c = a
    · subst h2; rw [upd_same, upd_same]
    · rw [upd_ne h2, upd_ne h1, upd_ne h2, upd_ne h1]
/-- the fields behind the first -/
def tXA (K : PySem.W.Frag) (C : Addr) (i : Nat) (fs : List Str) : TS := fun D σ H => ∃ (a dx : Addr) (dn : List (Str × V)) (ws : List V), EC K C ∧ (∀ f ∈ fs, PySem.W.findIn K (.ref C) f = some none) ∧ σ[0]? = some (some (.ref a)) ∧
  (∀ (j : Nat) (y : V), ws[j]? = some y → σ[i + j]? = some (some y)) ∧ ws.length = fs.length ∧ H a = some (exo a C (some dx)) ∧ H dx = some (exd dx dn) ∧ dx ≠ a ∧ dn.length + fs.length ≤ 900 ∧ D.nx σ (upd H dx (exd dx ((fs.zip ws).reverse ++ dn)))
theorem ckXA_cons {i : Nat} {f : Str} {fs : List Str} {st : Stmt} {r : List Stmt} (h : ckXA N sc i (f :: fs) (st :: r) = true) : ∃ (s : Str) (ps pa : Pos) (p : Str) (pp pos' : Pos), st = .Assign [.Attribute (.Name s ps) f pa] (.Name p pp) pos' ∧
    N[0]? = some s ∧ vis sc s = true ∧ N[i]? = some p ∧ vis sc p = true ∧ ckXA N sc (i + 1) fs r = true := by
  unfold ckXA at h
  split at h
  · rename_i e1 e2; cases e1
  · rename_i e1 e2
    cases e1
    cases e2
    obtain ⟨h, h6⟩ := ba h
    obtain ⟨h, h5⟩ := ba h
    obtain ⟨h, h4⟩ := ba h
    obtain ⟨h, h3⟩ := ba h
    obtain ⟨h1, h2⟩ := ba h
    have hf := dc h1
    subst hf
    exact ⟨_, _, _, _, _, _, rfl, dc h2, h3, dc h4, h5, h6⟩
  · cases h
theorem pss_xa {C : Addr} (g : Nms X N sc) : ∀ (fs : List Str) (i : Nat) (st : List Stmt), ckXA N sc i fs st = true → PSs X st (tXA X.K C i fs)
  | [], i, [], _ => PSs.to pss_nil fun D σ H ⟨a, dx, dn, ws, _, _, _, _, hl, ea, ed, _, _, q⟩ => by
    have e : upd H dx (exd dx dn) = H := by
      funext b
      by_cases hb : b = dx
      · rw [hb, upd_same, ed]
      · rw [upd_ne hb]
    have q' : D.nx σ (upd H dx (exd dx dn)) := by simpa using q
    rw [e] at q'
    exact q'
  | f :: fs, i, st :: r, h => by
    obtain ⟨s, ps, pa, p, pp, pos', rfl, h2, h3, h4, h5, h6⟩ := ckXA_cons h
    have hs : PS X (.Assign [.Attribute (.Name s ps) f pa] (.Name p pp) pos') (fun D σ H => ∃ (a dx : Addr) (dn : List (Str × V)) (y : V), EC X.K C ∧ PySem.W.findIn X.K (.ref C) f = some none ∧ σ[0]? = some (some (.ref a)) ∧ σ[i]? = some (some y) ∧
        H a = some (exo a C (some dx)) ∧ H dx = some (exd dx dn) ∧ dn.length ≤ 900 ∧ D.nx σ (upd H dx (exd dx ((f, y) :: dn)))) := by
      refine ⟨fun pins s0 σ H D I ⟨a, dx, dn, y, T, hno, e0, ei, ea, ed, hl, q⟩ => ?_⟩
      refine plainObj_wpAny_Assign_Attribute (thn ((pe_nms (p := pp) g h4 h5).run pins s0 σ H (fun v H1 => v = y ∧ H1 = H) I ⟨y, ei, rfl, rfl⟩) fun v s1 ⟨y1, H1, I1, r1, ey, eH⟩ =>
        thn ((pe_nms (p := ps) g h2 h3).run pins s1 σ H1 (fun v H2 => v = .ref a ∧ H2 = H) I1 ⟨.ref a, e0, rfl, eH⟩) fun u s2 ⟨x, H2, I2, r2, ex, eH2⟩ => ?_) (swaps_no rfl)
      subst ey; subst ex; subst eH2
      obtain rfl : u = Value.ref a := r2
      exact xst_old T I2 ea ed hl hno r1 fun s' J => ⟨σ, _, J, q⟩
    refine PSs.to (pss_cons hs (pss_xa (C := C) g fs (i + 1) r h6)) fun D σ H ⟨a, dx, dn, ws, T, hno, e0, ei, hl, ea, ed, ne, hz, q⟩ => ?_
    cases ws with
    | nil => cases hl
    | cons y ws =>
      rw [List.length_cons] at hz
      refine ⟨a, dx, dn, y, T, hno f List.mem_cons_self, e0, ei 0 y rfl, ea, ed, by omega, ?_⟩
      refine ⟨a, dx, (f, y) :: dn, ws, T, fun f hf => hno f (List.mem_cons_of_mem _ hf), e0, fun j z hj => ?_, by simpa using hl, by rw [upd_ne (Ne.symm ne)]; exact ea, upd_same, ne, by rw [List.length_cons]; omega, ?_⟩
      · have := ei (j + 1) z (by simpa using hj)
        rw [show i + 1 + j = i + (j + 1) by omega]; exact this
      · have e : upd (upd H dx (exd dx ((f, y) :: dn))) dx (exd dx ((fs.zip ws).reverse ++ (f, y) :: dn)) = upd H dx (exd dx (((f :: fs).zip (y :: ws)).reverse ++ dn)) := by
          funext b
          by_cases hb : b = dx
          · subst hb; rw [upd_same, upd_same, List.zip_cons_cons, List.reverse_cons, List.append_assoc]; rfl
          · rw [upd_ne hb, upd_ne hb, upd_ne hb]
        show D.nx σ (upd (upd H dx (exd dx ((f, y) :: dn))) dx (exd dx ((fs.zip ws).reverse ++ (f, y) :: dn)))
        rw [e]; exact q
  | [], _, _ :: _, h => by unfold ckXA at h; cases h
  | _ :: _, _, [], h => by unfold ckXA at h; cases h
/-- the whole body -/
def tXB (K : PySem.W.Frag) (C : Addr) (fs : List Str) : TS := fun D σ H => ∃ (a : Addr) (ws : List V), EC K C ∧ (∀ f ∈ fs, PySem.W.findIn K (.ref C) f = some none) ∧ fs ≠ [] ∧ fs.length ≤ 900 ∧ σ[0]? = some (some (.ref a)) ∧
  (∀ (j : Nat) (y : V), ws[j]? = some y → σ[1 + j]? = some (some y)) ∧ ws.length = fs.length ∧ H a = some (exo a C none) ∧
  ∀ dx, H dx = none → dx ≠ a → D.nx σ (upd (upd H dx (exd dx (fs.zip ws).reverse)) a (exo a C (some dx)))
theorem pss_xb {C G : Addr} {gn : Str} {fs : List Str} {body : List Stmt} (g : Nms X N sc) (hb : XB X.K G) (hm : X.mg gn = some (.ref G)) (h : ckXI N sc gn fs body = true) : PSs X body (tXB X.K C fs) := by
  unfold ckXI at h
  split at h
  · rename_i x p1 m p2 s ps z zk zp pos pos' r
    obtain ⟨h, h7⟩ := ba h
    obtain ⟨h, h6⟩ := ba h
    obtain ⟨h, h5⟩ := ba h
    obtain ⟨h, h4⟩ := ba h
    obtain ⟨h, h3⟩ := ba h
    obtain ⟨h1, h2⟩ := ba h
    have hx := dc h1
    subst hx
    have hm2 := dc h2
    subst hm2
    obtain ⟨hg, hd⟩ := g.glb h3
    have ec := pe_xinit (p1 := p1) (p2 := p2) (pos := pos) hb hg hd hm (pa_cons (pe_nms (p := ps) g (dc h4) h5) (pa_cons (pe_str (x := z) (j := zk) (pos := zp)) pa_nil)) rfl (show (2:Nat) < 29 by decide) h6
    cases r with
    | nil =>
      cases fs with
      | nil => exact PSs.to (pss_cons (ps_expr ec (swaps_no rfl)) pss_nil) fun D σ H ⟨_, _, _, _, z, _⟩ => absurd rfl z
      | cons f fs => unfold ckXA at h7; cases h7
    | cons st r =>
      cases fs with
      | nil => unfold ckXA at h7; cases h7
      | cons f fs =>
        obtain ⟨s', ps', pa', p', pp', pos'', rfl, g2, g3, g4, g5, g6⟩ := ckXA_cons h7
        have hs : PS X (.Assign [.Attribute (.Name s' ps') f pa'] (.Name p' pp') pos'') (fun D σ H => ∃ (a : Addr) (y : V), EC X.K C ∧ PySem.W.findIn X.K (.ref C) f = some none ∧ σ[0]? = some (some (.ref a)) ∧ σ[1]? = some (some y) ∧
            H a = some (exo a C none) ∧ ∀ dx, H dx = none → dx ≠ a → D.nx σ (upd (upd H dx (exd dx [(f, y)])) a (exo a C (some dx)))) := by
          refine ⟨fun pins s0 σ H D I ⟨a, y, T, hno, e0, ei, ea, q⟩ => ?_⟩
          refine plainObj_wpAny_Assign_Attribute (thn ((pe_nms (p := pp') g g4 g5).run pins s0 σ H (fun v H1 => v = y ∧ H1 = H) I ⟨y, ei, rfl, rfl⟩) fun v s1 ⟨y1, H1, I1, r1, ey, eH⟩ =>
            thn ((pe_nms (p := ps') g g2 g3).run pins s1 σ H1 (fun v H2 => v = .ref a ∧ H2 = H) I1 ⟨.ref a, e0, rfl, eH⟩) fun u s2 ⟨x, H2, I2, r2, ex, eH2⟩ => ?_) (swaps_no rfl)
          subst ey; subst ex; subst eH2
          obtain rfl : u = Value.ref a := r2
          exact xst_new T I2 ea hno r1 fun dx s' n ne J => ⟨σ, _, J, q dx n ne⟩
        refine PSs.to (pss_cons (ps_expr ec (swaps_no rfl)) (pss_cons hs (pss_xa (C := C) g fs 2 r g6))) fun D σ H ⟨a, ws, T, hno, _, hz, e0, ei, hl, ea, q⟩ => ?_
        cases ws with
        | nil => cases hl
        | cons y ws =>
          rw [List.length_cons] at hz
          refine ⟨.ref a, e0, a, C, [.str z], rfl, by simp, T, ea, a, y, T, hno f List.mem_cons_self, e0, ei 0 y rfl, ea, fun dx n ne => ?_⟩
          refine ⟨a, dx, [(f, y)], ws, T, fun f hf => hno f (List.mem_cons_of_mem _ hf), e0, fun j z hj => ?_, by simpa using hl, upd_same, by rw [upd_ne ne, upd_same], ne, by simp; omega, ?_⟩
          · have := ei (j + 1) z (by simpa using hj)
            rw [show 2 + j = 1 + (j + 1) by omega]; exact this
          · rw [upd_upd ne]
            have := q dx n ne
            rw [List.zip_cons_cons, List.reverse_cons] at this
            exact this
  · cases h
end
/-- a def of the text, its names, its body -/
structure FnT (K : PySem.W.Frag) (f : Addr) (fd : FuncData) (N ps : List Str) (body : List Stmt) (sc : Scope) : Prop where
  ex : ∃ (name qual : Str) (params : Arguments) (dV kV doc pm cdv ct oc : Value) (an od : Option Addr) (osl : Array (Option Value)), K.lookup f = some ⟨oc, od, .func fd, osl⟩ ∧ fd = PySem.W.fnOf name qual params body sc dV kV doc pm an cdv ct ∧ PySem.W.codeIn K cdv qual = true
  sc : FnScope N ps sc
theorem start_get {N : List Str} {vs : List V} {j : Nat} {y : V} (h : vs[j]? = some y) : (L2.start N vs)[j]? = some (some y) := by
  unfold L2.start
  have hj : j < vs.length := (List.getElem?_eq_some_iff.mp h).1
  rw [List.getElem?_append_left (by simpa using hj), List.getElem?_map, h]; rfl
theorem fn_xinit {P : Program} {w : World} {K : PySem.W.Frag} {mg : Str → Option Value} {base : Heap} {fI C G : Addr} {fd : FuncData} {N ps fs : List Str} {body : List Stmt} {sc : Scope} {gn : Str}
    (F : FnT K fI fd N ps body sc) (hps : ps.length = fs.length + 1) (T : EC K C) (hno : ∀ f ∈ fs, PySem.W.findIn K (.ref C) f = some none) (hne : fs ≠ []) (hz : fs.length ≤ 900) (hb : XB K G) (hm : mg gn = some (.ref G)) (hc : ckXI N sc gn fs body = true) :
    FnOk P w K mg base (L2N.CX P w) 1 fI fd ps (spX K C fs) := by
  obtain ⟨name, qual, params, dV, kV, doc, pm, cdv, ct, oc, an, od, osl, lk, rfl, hcd⟩ := F.ex
  refine fn_of (k := 0) lk hcd F.sc (fun vs H Q E ⟨a, ws, e, hl, _⟩ => by rw [e, List.length_cons, hl, hps]) fun A outer s H vs Q E hr ⟨a, ws, e, hl, ea, q⟩ => ?_
  refine ⟨_, pss_xb (C := C) (sc := sc) (N := N) ⟨rfl, F.sc.nd, fun _ _ h => h⟩ hb hm hc, a, ws, T, hno, hne, hz, ?_, fun j y hj => ?_, hl, ea, fun dx n ne => q dx n ne⟩
  · exact start_get (by rw [e]; rfl)
  · exact start_get (by rw [e, show 1 + j = j + 1 by omega, List.getElem?_cons_succ]; exact hj)

/-- what is known of the exception c, made with fields fs -/
structure XC (CA : Str → Addr) (X : Cx) (c : Str) (fs : List Str) : Prop where
  ex : ∃ (fI : Addr) (fd : FuncData) (ps : List Str), EC X.K (CA c) ∧ PySem.W.findIn X.K (.ref (CA c)) "__init__" = some (some (.ref fI)) ∧ PySem.W.typeIn X.K (.ref fI) = some (.type "function") ∧
    FnOk X.prog X.w X.K X.mg X.base (L2N.CX X.prog X.w) 1 fI fd ps (spX X.K (CA c) fs) ∧ Binds X.K fd ps []
def tMkX (C : Addr) (sp : Sp) (ta : TA) : L2.St → Hp → XK → Prop := fun σ H Q => ta σ H fun vs H1 => vs.length ≤ 1000 ∧ ∀ a, H1 a = none → sp (.ref a :: vs) (upd H1 a (exo a C none))
  (fun v H2 => v = .non ∧ ∃ (d : Addr) (fs : List (Str × V)), H2 a = some (exo a C (some d)) ∧ H2 d = some (exd d fs) ∧ H1 d = none ∧ Q (.ref C) (some d) (upd (del H2 a) d (.xd fs))) (fun _ _ _ => False)
section
variable {X : Cx} {e : Expr} {es : List Expr} {ta : TA}
theorem pmk_x {x : Str} {p pos : Pos} {C fI : Addr} {k : Nat} {fd : FuncData} {ps : List Str} {sp : Sp} (T : EC X.K C) (iC : PySem.W.findIn X.K (.ref C) "__init__" = some (some (.ref fI))) (tI : PySem.W.typeIn X.K (.ref fI) = some (.type "function"))
    (F1 : FnOk X.prog X.w X.K X.mg X.base (L2N.CX X.prog X.w) k fI fd ps sp) (hr : Room (k + 1) X.A) (hb : Binds X.K fd ps []) (hx : Passes (L2N.CX X.prog X.w) X (fun _ _ _ => False)) (hg : Gl X x) (hm : X.mg x = some (.ref C)) (ha : PA X (e :: es) ta)
    (hdb : (x == ("__debug__" : Str)) = false) (hes : (e :: es).all noStar = true) :
    L2N.PMk X (.Call (.Name x p) (e :: es) [] pos) (tMkX C sp ta) := by
  intro pins s σ H Q I h
  obtain ⟨nm, q, N, bs, bm, sn, sub, ab, col, dd, k0, k1, k2, k3, k5, hC, hbm⟩ := T.cls
  rw [List.all_cons, Bool.and_eq_true] at hes
  refine wpAny_Call_Name_kw (ld_glob I hg hm ?_ hdb)
  refine PySem.W.callWith_K (h₀ := X.base) I.ok.mod.kin T.kC (thn (ha.run pos pins s σ H _ I h) fun us s1 ⟨vs, H1, I1, r1, hz, q1⟩ => ⟨I1.kIn, ?_⟩) (star_cons hes.1) (star_none hes.2)
  show wpAny _ _ (call (.ref C) us) _ _ _
  obtain ⟨hp, g, dr, tk, os⟩ := s1
  have hsz : hp.objs.size ≤ hp.objs.size + 1 := Nat.le_succ _
  have hn : H1 (hp.objs.size + 1) = none := I1.hok.fresh hsz
  have hq := q1 (hp.objs.size + 1) hn
  have kk : ∀ b o, hp.get? b = some o → ((hp.push (PySem.W.kdv_tup us)).push (PySem.HandSPX.excO C hp.objs.size)).get? b = some o := fun b o e => Heap.get?_push_of_some _ (Heap.get?_push_of_some _ e)
  have hget : ((hp.push (PySem.W.kdv_tup us)).push (PySem.HandSPX.excO C hp.objs.size)).get? (hp.objs.size + 1) = some (PySem.HandSPX.excO C hp.objs.size) := by heap_get
  have I2 : L2.Inv X pins σ (upd H1 (hp.objs.size + 1) (exo (hp.objs.size + 1) C none)) ⟨(hp.push (PySem.W.kdv_tup us)).push (PySem.HandSPX.excO C hp.objs.size), g, dr, tk, os⟩ :=
    I1.laid (t' := tk) (a := hp.objs.size + 1) (o := exo (hp.objs.size + 1) C none) (h' := (hp.push (PySem.W.kdv_tup us)).push (PySem.HandSPX.excO C hp.objs.size)) kk hsz (exo_ok hget)
  have r2 : Vals (V.ref (hp.objs.size + 1) :: vs) (Value.ref (hp.objs.size + 1) :: us) := .cons rfl r1
  have hl : (Value.ref (hp.objs.size + 1) :: us ++ []).length = ps.length := by
    have e := r2.length
    rw [F1.len _ _ _ _ hq] at e
    rw [List.append_nil]
    exact e.symm
  have hus : us.length ≤ sizeLine := by
    rw [← Paired.length r1, sizeLine_eq]
    omega
  have hbt := hb ⟨(hp.push (PySem.W.kdv_tup us)).push (PySem.HandSPX.excO C hp.objs.size), g, dr, tk, os⟩ (Value.ref (hp.objs.size + 1) :: us) I2.kIn hl
  rw [List.append_nil] at hbt
  refine wpAny_call (PySem.HandSPX.call_own F.excBase_Exception (fun Y => refsEx_has Y bm hbm) (I1.kIn _ _ hC) (PySem.W.looks_findIn I1.kIn iC) (fun self => PySem.W.bind_fn I1.kIn self tI) hus
    (codeAny_mono (F1.run _ X.stack _ _ ⟨Value.ref (hp.objs.size + 1) :: us, []⟩ (Value.ref (hp.objs.size + 1) :: us) _ _ (fun _ _ _ => False) (hr.make C us []) (I2.env0.make C us []) hbt r2 hq) fun r s' hq' => ?_))
  cases r with
  | error er => exact hx pins σ _ _ er s' I2 hq'
  | ok fl =>
    cases fl with
    | ret u =>
      obtain ⟨v, H2, os2, bare2, un2, hok2, rv, ev, d, fs, ea, ed, hd1, q2⟩ := hq'
      subst ev
      obtain ⟨h2, g2, d2, t2, os'⟩ := s'
      obtain ⟨t0, G, J, kG, ge, hoe, na⟩ := mk_end0 (d2 := d2) (t2 := t2) I1 hsz kk un2 hok2 os2 bare2 ea ed hd1
      exact ⟨rv, _, _, _, ⟨G, g2, d2, t2, os'⟩, _, .ref C, some d, rfl, J, kG, ge, hoe, ⟨rfl, rfl, fun vs e => by cases e; rfl⟩, rfl, rfl, na, rfl, bare2, raises_own T.exC T.tyC, q2⟩
    | next => exact False.elim hq'
    | brk => exact False.elim hq'
    | cont => exact False.elim hq'
end
section
variable {T : Tab} {CA : Str → Addr} {N : List Str} {sc : Scope} {C : CallF} {X : Cx} {W : WX} {xi : Option (Nat × Addr × Addr)} {ρ ρ1 : Rho} {me : Env} {mh mh1 : MH} {σ : L2.St} {H H1 : Hp} {D : Ends}
theorem rf_zip : ∀ {fs : List Str} {ms : List MV} {vs : List V}, RVs CA ρ H ms vs → RF CA ρ H (fs.zip ms) (fs.zip vs)
  | [], _, _, _ => by rw [List.zip_nil_left, List.zip_nil_left]; exact .nil
  | _ :: _, _, _, .nil => by rw [List.zip_nil_right, List.zip_nil_right]; exact .nil
  | f :: fs, _, _, .cons r t => by rw [List.zip_cons_cons, List.zip_cons_cons]; exact .cons r (rf_zip t)
theorem rf_app : ∀ {a b : List (Str × MV)} {c d : List (Str × V)}, RF CA ρ H a c → RF CA ρ H b d → RF CA ρ H (a ++ b) (c ++ d)
  | _, _, _, _, .nil, h => h
  | _, _, _, _, .cons r t, h => .cons r (rf_app t h)
theorem rf_rev : ∀ {a : List (Str × MV)} {c : List (Str × V)}, RF CA ρ H a c → RF CA ρ H a.reverse c.reverse
  | _, _, .nil => .nil
  | _, _, .cons r t => by rw [List.reverse_cons, List.reverse_cons]; exact rf_app (rf_rev t) (.cons r .nil)
/-- raise X(..) -/
theorem ps_raises {x : Str} {p pos pos' : Pos} {e : Expr} {es : List Expr} {as : MEs} {fs : List Str} (ct : CtS T CA N sc C X W xi) (hg : glb sc x = true) (ho : T.own x = true) (hf : T.exf x = some fs) (hx : XC CA X x fs) (hes : (e :: es).all noStar = true) (hl : as.len ≤ 1000)
    (ha : PA X (e :: es) (tEs T CA C X W xi as)) (hcl : X.calm = true → Room 2 X.A) : PS X (.Raise (some (.Call (.Name x p) (e :: es) [] pos)) none pos') (tS T CA C X W xi (.raise x as)) := by
  refine ⟨fun pins s σ H D I ⟨ρ, me, mh, at_, h⟩ => ?_⟩
  unfold exS at h
  by_cases hc : me.ex.isSome = true
  · rw [if_pos hc] at h; exact h.elim
  · rw [if_neg hc] at h
    have hcalm := at_.cm (by simpa using hc)
    have hm := ct.c.g.st.cls x ho
    obtain ⟨g1, g2, _⟩ := glb_of ct.c.g hg
    obtain ⟨fI, fd, ps, T', iC, tI, F1, hb⟩ := hx.ex
    refine (L2N.ps_raise hcalm ct.c.tk (pmk_x (p := p) (pos := pos) T' iC tI F1 (hcl hcalm) hb (fun pins σ H s e s' I z => L2N.passes_call (E := fun _ _ _ => False) ct.c.tk (fun _ _ _ _ z => z.elim) pins σ H s e s' I z) g1 hm ha g2 hes)).run pins s σ H D I ?_
    refine ⟨ρ, me, mh, at_, (AftS.of (R := RVn CA as.len) at_ h).imp fun vs H1 ⟨ρ1, mh1, ms, e1, rh1, q1, h1⟩ => ?_⟩
    rw [hf] at h1
    simp only at h1
    have hvl : vs.length = as.len := by rw [← q1.1.length, q1.2]
    refine ⟨by omega, fun a na => ?_⟩
    by_cases hz : fs.length = ms.length ∧ fs ≠ []
    · rw [if_pos hz] at h1
      refine ⟨a, vs, rfl, by rw [hz.1, q1.1.length], upd_same, fun dx n ne => ?_⟩
      have nd : H1 dx = none := by rw [upd_ne ne] at n; exact n
      refine ⟨rfl, dx, (fs.zip vs).reverse, upd_same, by rw [upd_ne ne, upd_same], nd, ?_⟩
      have eH : upd (del (upd (upd (upd H1 a (exo a (CA x) none)) dx (exd dx (fs.zip vs).reverse)) a (exo a (CA x) (some dx))) a) dx (.xd (fs.zip vs).reverse) = upd H1 dx (.xd (fs.zip vs).reverse) := by
        funext b
        by_cases hb : b = dx
        · subst hb; rw [upd_same, upd_same]
        · rw [upd_ne hb, upd_ne hb]
          by_cases hba : b = a
          · subst hba; rw [del_same, na]
          · rw [del_ne hba, upd_ne hba, upd_ne hb, upd_ne hba]
      rw [eH]
      obtain ⟨r2, e2, q2⟩ := rh1.add (o := .exc x (fs.zip ms).reverse) (p := dx) (H' := upd H1 dx (.xd (fs.zip vs).reverse)) (fun c o z => by rw [upd_ne (ne_of_none z nd)]; exact z) nd
        (fun ρ' e => ⟨_, upd_same, rf_rev (rf_zip (q1.1.mono e))⟩)
      exact h1 _ _ σ dx e2 (at_.to (e1.trans e2) r2) q2 ⟨_, MH.new_same⟩
    · rw [if_neg hz] at h1; exact h1.elim
end
end Mi
end

section
/-! Mini, part 16: try .. except X as e .. except Y as e .. -/
namespace Mi
open PySem PySem.Spec PyProof.Rows L2

/-- one clause: its class, its name's slot, its suite -/
abbrev Cl := Value × Nat × (Addr → Value → Option Addr → TS)
def Ends.off (D : Ends) (i : Nat) : Ends := { nx := fun σ H => D.nx (σ.set i none) H, rt := D.rt, bk := fun σ H => D.bk (σ.set i none) H, ct := fun σ H => D.ct (σ.set i none) H }
def wMA (K : PySem.W.Frag) (Wout : WX) (D : Ends) : List Cl → WX
  | [] => Wout
  | (c, i, ts) :: r => fun cls d σ H => ∃ b, PySem.W.exmOne K cls c = some b ∧ (b = true → ∀ a, H a = none → ts a cls d (Mi.Ends.off D i) (σ.set i (some (.ref a))) H) ∧ (b = false → wMA K Wout D r cls d σ H)
inductive HdA (X : Cx) : List ExceptHandler → List Cl → Prop
  | nil : HdA X [] []
  | cons {x n : Str} {c : Value} {i : Nat} {ts : Addr → Value → Option Addr → TS} {b₀ : Stmt} {suite : List Stmt} {np pos' : Pos} {hds : List ExceptHandler} {l : List Cl} (hc : Names X x c) (hi : X.N[i]? = some n) (hln : X.env.kindOf n = some .local)
      (hsu : ∀ (a : Addr) (oe : Obj) (cls : Value) (d : Option Addr) (pn : List (Addr × Obj)), L2N.Zn cls d oe → (∃ vs, oe.data = .fields vs) → PSs (X.suite a ((a, oe) :: pn)) (b₀ :: suite) (ts a cls d)) (r : HdA X hds l) :
      HdA X (.ExceptHandler (some (.Name x np)) (some n) (b₀ :: suite) pos' :: hds) ((c, i, ts) :: l)
section
variable {X : Cx} {body : List Stmt} {h₀ : ExceptHandler} {hds : List ExceptHandler} {l : List Cl} {pos : Pos} {tb : WX → TS} {Wout : WX}
theorem ps_try_as_many (hs : X.stack = X.env :: X.outer) (hf : X.env.frame = some X.env.locals) (hN : X.N.Nodup) (tk : L2N.Takes X Wout)
    (hb : ∀ (W : WX) (pn : List (Addr × Obj)) (xe : Value → Shared → Prop), L2N.Takes (X.tr pn xe) W → PassesOwn (model X.prog X.w) X.A X.env xe → PSs (X.tr pn xe) body (tb W))
    (hh : HdA X (h₀ :: hds) l) : PS X (.Try body (h₀ :: hds) [] [] pos) (fun D σ H => tb (wMA X.K Wout D l) D σ H) := by
  refine ⟨fun pins s σ H D I h => ?_⟩
  have ok := I.ok
  have hfr : X.A.frames = some (X.env :: X.outer) := by rw [ok.frames, hs]
  refine wpAny_Try_except ?_
  refine wpAny_mono ((hb (wMA X.K Wout D l) (X.pn ++ pins) (fun e s₁ => wpAny (model X.prog X.w) X.A (noteFrame e X.env) (fun _ s₂ => wpAny (model X.prog X.w) X.A (setFlight e none) (fun _ s₃ =>
    wpAny (model X.prog X.w) X.A (handleBy e X.env (h₀ :: hds)) (SP X pins D) X.xe s₃) X.xe s₂) X.xe s₁) (fun u s' xx => ?_) PassesOwn.looking).run [] s σ H D (I.toTry _) h) (fun f s1 hsp => ?_) (fun e s1 he => he)
  · -- the catch
    obtain ⟨a, B, sI, pins', σ', H', cls, d, rfl, J', nb, up, sky, na, os, ag, w⟩ := xx
    have J : L2.Inv X pins σ' H' sI := J'.ofTry ok
    have sky' : Sky B (X.env :: X.outer) a (L2N.Zn cls d) X.env.locals s'.heap := by rw [← hs]; exact sky
    show wpAny (model X.prog X.w) X.A (noteFrame (.ref a) X.env) _ _ _
    refine L2N.Sky.land L2N.Zn.steady hfr hf sky' fun h3 fl3 up3 => ?_
    have J3 : L2.Inv X pins σ' H' { s' with heap := h3 } := J.landed nb fl3.1 (up.trans up3) os ag
    obtain ⟨oe3, vs3, he3, hz3, hd3⟩ := fl3.there
    have notFr : ∀ {h : Heap} {o : Obj} {vs : Array Value}, h.FunFrames B (X.env :: X.outer) → h.get? a = some o → o.data = .fields vs → a ∉ frs (X.env :: X.outer) := fun {h o vs} ff e dd hm => by
      obtain ⟨_, o', e', hnf⟩ := ff.mem hm
      rw [e] at e'; cases e'
      exact hnf _ dd
    have nfr := notFr fl3.2.2.1 he3 hd3
    have nL : a ≠ X.env.locals := fun z => nfr (List.mem_filterMap.mpr ⟨X.env, List.mem_cons_self, by rw [hf, z]⟩)
    have nF : a ∉ X.fs := fun hm => by
      obtain ⟨e, he, q⟩ := List.mem_filterMap.mp hm
      exact nfr (List.mem_filterMap.mpr ⟨e, List.mem_cons_of_mem _ he, q⟩)
    have S3 := J3.suite he3 hd3 na nL nF
    have go : ∀ {hds' : List ExceptHandler} {l' : List Cl}, HdA X hds' l' → wMA X.K Wout D l' cls d σ' H' →
        wpAny (model X.prog X.w) X.A (handleBy (.ref a) X.env hds') (SP X pins D) X.xe { s' with heap := h3 } := by
      intro hds' l' hk
      induction hk with
      | nil =>
        intro w
        refine wpAny_handleBy_nil ?_
        obtain ⟨k1, k2, k3, oe, vs, T, oT, ts', he, hz, hd, h1, hr⟩ := id fl3
        unfold PySem.passOn
        refine wpAny_bind (wpAny_field he hd h1 ?_)
        rw [if_neg (show ¬ ((Value.ref T == Value.none) = true) from by simp)]
        have fin : wpAny (model X.prog X.w) X.A (setFlight (.ref a) X.env.frame) (fun _ s4 => wpAny (model X.prog X.w) X.A (throw (.ref a) : Sem Flow) (SP X pins D) X.xe s4) X.xe { s' with heap := h3 } := by
          rw [hf]
          refine HandSPX.setFlight_upZ fl3 fun h4 hh4 up4 => wpAny_throw (tk _ _ ?_)
          exact ⟨a, B, sI, pins, σ', H', cls, d, rfl, J, nb, (up.trans up3).trans up4, .inr (.inr (by rw [hs]; exact hh4)), na, os, ag, w⟩
        first
          | exact wpAny_bind (wpAny_pure (wpAny_bind fin))
          | exact wpAny_bind fin
      | @cons x n c i ts b₀ suite np pos' hds2 l2 hc hi hln hsu r ih =>
        intro w
        obtain ⟨b, hb1, hyes, hno⟩ := w
        have hloc : Loc X.env.scope n := .inl hln
        refine wpAny_handleBy_cons (codeAny_handlers_test ?_) (by intro q; cases q)
        have LT : PySem.W.Looks (model X.prog X.w) h3 (typeOf (.ref a)) cls := fun A Q E s k q => wpAny_typeOf_ref (k _ _ he3) (by rw [hz3.1]; exact q)
        have LM := PySem.W.exm_one (M := model X.prog X.w) (J3.kIn) LT hb1
        have test : ∀ {Q : Value → Shared → Prop} {E : Value → Shared → Prop}, Q c { s' with heap := h3 } → wpAny (model X.prog X.w) (X.A.mark (some (.ref a))) (eval (.Name x np) X.env) Q E { s' with heap := h3 } := fun {Q E} q => by
          obtain ⟨hg, hdbg, hm | ⟨hm, hv, hnn⟩⟩ := hc
          · exact ld_glob (X := X.suite a ((a, oe3) :: (X.pn ++ pins))) S3 hg hm q hdbg
          · exact ld_blt (X := X.suite a ((a, oe3) :: (X.pn ++ pins))) S3 hg hm hv q hnn hdbg
        refine test (LM.here ?_)
        cases b with
        | true =>
          refine codeAny_handlers_suite_as ?_
          refine HandSPX.lands_againZ fl3 fun h4 fl4 up4 => ?_
          have J4 : L2.Inv X pins σ' H' { s' with heap := h4 } := J.landed nb fl4.1 ((up.trans up3).trans up4) os ag
          obtain ⟨oe4, vs4, he4, hz4, hd4⟩ := fl4.there
          have S4 := J4.suite he4 hd4 na nL nF
          refine store_ok (X := X.suite a ((a, oe4) :: (X.pn ++ pins))) (v := .ref a) S4 hN hi hloc rfl (fun s5 S5 => ?_) (.inr hln)
          refine wpAny_mono ((hsu a oe4 cls d (X.pn ++ pins) hz4 ⟨_, hd4⟩).run [] s5 _ H' _ S5 (hyes rfl a na)) (fun f s6 hsp => ?_) (fun _ _ z => False.elim z)
          have end_ : ∀ {σ6 : L2.St} {H6 : Hp} {Q : Shared → Prop}, L2.Inv (X.suite a ((a, oe4) :: (X.pn ++ pins))) [] σ6 H6 s6 → (∀ s7, L2.Inv X pins (σ6.set i none) H6 s7 → Q s7) →
              wpAny (model X.prog X.w) X.A (do bindName X.env n .none; unbindBehindTheSuite X.env n pos') (fun _ s7 => Q s7) X.xe s6 := fun {σ6 H6 Q} S6 hq => gone_ok (S6.unsuite ok) hN hi hln hq
          cases f with
          | next =>
            obtain ⟨σ6, H6, S6, q6⟩ := hsp
            exact end_ S6 fun s7 J7 => ⟨_, _, J7, q6⟩
          | brk =>
            obtain ⟨σ6, H6, S6, q6⟩ := hsp
            exact end_ S6 fun s7 J7 => ⟨_, _, J7, q6⟩
          | cont =>
            obtain ⟨σ6, H6, S6, q6⟩ := hsp
            exact end_ S6 fun s7 J7 => ⟨_, _, J7, q6⟩
          | ret u =>
            obtain ⟨v6, σ6, H6, S6, r6, q6⟩ := hsp
            exact end_ S6 fun s7 J7 => ⟨_, _, _, J7, r6, q6⟩
        | false =>
          show wpAny _ X.A (handleBy (.ref a) X.env hds2) _ _ _
          exact ih (hno rfl)
    exact go hh w
  · cases f with
    | next =>
      obtain ⟨σ', H', J', q⟩ := hsp
      exact wpAny_execs_nil ⟨σ', H', J'.ofTry ok, q⟩
    | brk =>
      obtain ⟨σ', H', J', q⟩ := hsp
      exact ⟨σ', H', J'.ofTry ok, q⟩
    | cont =>
      obtain ⟨σ', H', J', q⟩ := hsp
      exact ⟨σ', H', J'.ofTry ok, q⟩
    | ret u =>
      obtain ⟨v, σ', H', J', r, q⟩ := hsp
      exact ⟨v, σ', H', J'.ofTry ok, r, q⟩
end

/-! ### what is handled, in the slots -/
section
variable {T : Tab} {CA : Str → Addr} {N : List Str} {sc : Scope} {C : CallF} {X : Cx} {W : WX} {xi xi' : Option (Nat × Addr × Addr)} {ρ ρ1 : Rho} {me : Env} {mh mh1 : MH} {σ : L2.St} {H H1 : Hp} {D : Ends} {K : PySem.W.Frag} {cm : Bool}
theorem AtK.no (h : AtK K cm CA xi ρ me mh σ H) (e : me.ex = none) : AtK K cm CA xi' ρ me mh σ H := ⟨⟨h.rs.len, h.rs.sl, fun j n q => by rw [e] at q; cases q⟩, h.rh, h.cm⟩
theorem aft_no {r : SR} (hr : SRex none r) (h : AftS X CA W xi ρ H r D) : AftS X CA W xi' ρ H r D := by
  cases r with
  | ok f m =>
    cases f with
    | next me' => exact fun ρ' H' σ' e a => h ρ' H' σ' e (a.no hr)
    | brk me' => exact fun ρ' H' σ' e a => h ρ' H' σ' e (a.no hr)
    | cont me' => exact fun ρ' H' σ' e a => h ρ' H' σ' e (a.no hr)
    | ret v => exact h
  | exc c n me' m => exact fun ρ' H' σ' d e a => h ρ' H' σ' d e (a.no hr)
  | stuck => exact h
/-- another wish of exceptions -/
theorem aft_w {W' : WX} {r : SR} (h : AftS X CA W xi ρ H r D) (k : ∀ c n me' m, r = .exc c n me' m → AftS X CA W xi ρ H r D → AftS X CA W' xi ρ H r D) : AftS X CA W' xi ρ H r D := by
  cases r with
  | ok f m => cases f <;> exact h
  | exc c n me' m => exact k c n me' m rfl h
  | stuck => exact h
/-- the context of a suite -/
def tSu (T : Tab) (CA : Str → Addr) (X : Cx) (i : Nat) (b : MSs) (a : Addr) (cls : Value) (d : Option Addr) : TS := fun D σ H => ∃ c dd, cls = .ref (CA c) ∧ d = some dd ∧ (T.exf c).isSome = true ∧ RMH 2 X.A ∧
  tB T CA T.hc (X.suite a []) (fun _ _ _ _ => False) (some (i, a, dd)) b D σ H
def hdl (T : Tab) (CA : Str → Addr) (X : Cx) : MHs → List Cl
  | .nil => []
  | .cons c i b r => (.ref (CA c), i, tSu T CA X i b) :: hdl T CA X r
theorem ct_suite {a d : Addr} {oe : Obj} {c : Str} {i : Nat} {pn : List (Addr × Obj)} (ct : CtS T CA N sc C X W xi) (hrm : RMH 2 X.A) (hz : L2N.Zn (.ref (CA c)) (some d) oe) (hd : ∃ vs, oe.data = .fields vs) (hx : (T.exf c).isSome = true) :
    CtS T CA N sc T.hc (X.suite a ((a, oe) :: pn)) (fun _ _ _ _ => False) (some (i, a, d)) := by
  obtain ⟨vs, hd⟩ := hd
  obtain ⟨x1, x2⟩ := ct.c.g.st.xf c hx
  have g := ct.c.g
  exact ⟨⟨⟨g.nm, g.nd, g.sc, g.st, g.gd, g.un⟩, takes_no, fun z => absurd (show false = true from z) Bool.false_ne_true, fun j a' d' e => by
    cases e
    exact ⟨oe, c, vs, List.mem_cons_self, hz, hd, rfl, x1, x2⟩, ct.c.fn, fun g fi q => by obtain ⟨f, h1, h2, h3⟩ := ct.c.hc g fi q; exact ⟨f, h1, h2, ⟨h3.ex⟩⟩, .inl ⟨hrm.dp, hrm.un, hrm.gd⟩, fun _ => .inr rfl, ct.c.kd⟩, PassesOwn.never, ct.st, ct.fr, ct.bk⟩
theorem ct_try {pn : List (Addr × Obj)} {xe : Value → Shared → Prop} {W' : WX} (ct : CtS T CA N sc C X W xi) (tk : L2N.Takes (X.tr pn xe) W') (po : PassesOwn (model X.prog X.w) X.A X.env xe) : CtS T CA N sc C (X.tr pn xe) W' none := by
  have g := ct.c.g
  refine ⟨⟨⟨g.nm, g.nd, g.sc, g.st, g.gd, g.un⟩, tk, fun hc => ?_, fun j a d e => (by cases e), ct.c.fn, fun g fi q => by obtain ⟨f, h1, h2, h3⟩ := ct.c.hc g fi q; exact ⟨f, h1, h2, ⟨h3.ex⟩⟩, ct.c.rh, ct.c.ch, ct.c.kd⟩, po, ct.st, ct.fr, ct.bk⟩
  obtain ⟨k, h1, h2⟩ := ct.c.cl hc
  refine ⟨k, h1, ⟨fun g fi e => ?_, fun c m fi e => ?_, fun c fi e => ?_, h2.mp⟩⟩
  · obtain ⟨f, a, b, c⟩ := h2.fn g fi e
    exact ⟨f, a, b, ⟨c.ex⟩⟩
  · obtain ⟨f, a, b, c⟩ := h2.me c m fi e
    exact ⟨f, a, b, ⟨c.ex⟩⟩
  · obtain ⟨f, a, b⟩ := h2.mkc c fi e
    exact ⟨f, a, ⟨b.ex⟩⟩
/-- what the clauses wish -/
theorem wma_ok {c : Str} {n : Nat} {d : Addr} (st : Stat T CA X.K X.mg) (hcm : X.calm = true) (hrm : RMH 2 X.A) : ∀ (hs : MHs) {me : Env} {mh : MH} {σ : L2.St} {H : Hp} {ρ : Rho}, me.ex = none → At CA X none ρ me mh σ H → ρ n = some d → (∃ fs, mh.get n = some (.exc c fs)) →
    AftS X CA W none ρ H (exH T hs c n me mh) D → wMA X.K W D (hdl T CA X hs) (.ref (CA c)) (some d) σ H
  | .nil, me, mh, σ, H, ρ, he, at_, hr, hg, h => by
    unfold exH at h
    exact h ρ H σ d Ext.refl at_ hr hg
  | .cons c' i b r, me, mh, σ, H, ρ, he, at_, hr, hg, h => by
    unfold exH at h
    cases e : T.sub c c' with
    | none => rw [e] at h; exact h.elim
    | some k =>
      rw [e] at h
      refine ⟨k, st.sub c c' k e, fun hk a na => ?_, fun hk => ?_⟩
      · subst hk
        simp only at h
        by_cases hc : (T.exf c).isSome = true ∧ i < me.sl.length
        · rw [if_pos hc] at h
          refine ⟨c, d, rfl, rfl, hc.1, hrm, ρ, { sl := me.sl.set i none, ex := some (i, n) }, mh, ⟨⟨by simp [at_.rs.len], fun j v q => ?_, fun j m q => ?_⟩, at_.rh, fun z => by cases z⟩, ?_⟩
          · by_cases hj : j = i
            · subst hj
              rw [List.getElem?_set_self hc.2] at q; cases q
            · rw [List.getElem?_set_ne (Ne.symm hj)] at q
              obtain ⟨x, h1, h2⟩ := at_.rs.sl j v q
              exact ⟨x, by rw [List.getElem?_set_ne (Ne.symm hj)]; exact h1, h2⟩
          · cases q
            exact ⟨a, d, rfl, fun _ => ⟨hr, List.getElem?_set_self (by rw [← at_.rs.len]; exact hc.2)⟩⟩
          · have off : ∀ {ρ' : Rho} {m : Env} {h' : MH} {σ' : L2.St} {H' : Hp}, At CA (X.suite a []) (some (i, a, d)) ρ' m h' σ' H' → At CA X none ρ' { sl := m.sl.set i none, ex := none } h' (σ'.set i none) H' := fun {ρ' m h' σ' H'} A => by
              refine ⟨⟨by simp [A.rs.len], fun j v q => ?_, fun j m q => by cases q⟩, A.rh, fun _ => hcm⟩
              by_cases hj : j = i
              · subst hj
                by_cases hl : j < m.sl.length
                · rw [show ({ sl := m.sl.set j none, ex := none } : Env).sl = m.sl.set j none from rfl, List.getElem?_set_self hl] at q; cases q
                · rw [List.getElem?_eq_none (by simpa using hl)] at q; cases q
              · rw [show ({ sl := m.sl.set i none, ex := none } : Env).sl = m.sl.set i none from rfl, List.getElem?_set_ne (Ne.symm hj)] at q
                obtain ⟨x, h1, h2⟩ := A.rs.sl j v q
                exact ⟨x, by rw [List.getElem?_set_ne (Ne.symm hj)]; exact h1, h2⟩
            cases eb : exB T T.hc b { sl := me.sl.set i none, ex := some (i, n) } mh with
            | ok f m2 =>
              rw [eb] at h
              cases f with
              | next m => exact fun ρ' H' σ' e A => h ρ' H' _ e (off A)
              | brk m => exact fun ρ' H' σ' e A => h ρ' H' _ e (off A)
              | cont m => exact fun ρ' H' σ' e A => h ρ' H' _ e (off A)
              | ret v => exact fun ρ' H' x e rh rv => h ρ' H' x e rh rv
            | exc c2 n2 m m2 => rw [eb] at h; exact h.elim
            | stuck => rw [eb] at h; exact h.elim
        · rw [if_neg hc] at h; exact h.elim
      · subst hk
        simp only at h
        exact wma_ok st hcm hrm r he at_ hr hg h
theorem ps_trys {b : MSs} {hs : MHs} {body : List Stmt} {h₀ : ExceptHandler} {hds : List ExceptHandler} {pos : Pos} (ct : CtS T CA N sc C X W xi)
    (hb : ∀ (W' : WX) (pn : List (Addr × Obj)) (xe : Value → Shared → Prop), CtS T CA N sc C (X.tr pn xe) W' none → PSs (X.tr pn xe) body (tB T CA C (X.tr pn xe) W' none b)) (hh : HdA X (h₀ :: hds) (hdl T CA X hs)) :
    PS X (.Try body (h₀ :: hds) [] [] pos) (tS T CA C X W xi (.trys b hs)) := by
  refine PS.to (ps_try_as_many (tb := fun W' => tB T CA C X W' none b) ct.st ct.fr ct.c.g.nd ct.c.tk (fun W' pn xe tk po => hb W' pn xe (ct_try ct tk po)) hh) fun D σ H ⟨ρ, me, mh, at_, h⟩ => ?_
  unfold exS at h
  by_cases hc : me.ex.isSome = true
  · rw [if_pos hc] at h; exact h.elim
  · rw [if_neg hc] at h
    have hcalm := at_.cm (by simpa using hc)
    have hex : me.ex = none := by simpa using hc
    refine ⟨ρ, me, mh, at_.no hex, ?_⟩
    have keep := exB_ex (T := T) (C := C) b me mh
    rw [hex] at keep
    cases eb : exB T C b me mh with
    | ok f m =>
      rw [eb] at h keep
      have h' := aft_no (xi' := none) keep h
      cases f <;> exact h'
    | exc c n me' m =>
      rw [eb] at h keep
      have hex' : me'.ex = none := keep
      intro ρ' H' σ' d e A hr hg
      have h1 := AftS.ext h e
      exact wma_ok ct.c.g.st hcalm (by rcases ct.c.rh with r | ⟨_, _, z⟩; exact r; exact absurd (hcalm.symm.trans z) (by decide)) hs hex' A hr hg (aft_no (xi' := none) (exH_ex hs c n me' m hex') h1)
    | stuck => rw [eb] at h; exact h.elim
end
end Mi
end

section
/-! Mini, part 17: the theorem about statements. -/
namespace Mi
open PySem PySem.Spec PyProof.Rows L2

def isTupE : Expr → Bool
  | .Tuple _ _ _ => true
  | _ => false
def posOf : Expr → Pos
  | .Name _ p => p
  | .ListComp _ _ _ p => p
  | e => e.pos
def isLc : Expr → Bool
  | .ListComp _ _ _ _ => true
  | _ => false
/-- a comprehension to a name of its line -/
def ckLc (N : List Str) (sc : Scope) (i : Nat) : Expr → Expr → Bool
  | .Name y py, .ListComp _ _ scope pos => decide (N[i]? = some y) && (sc.names.lookup y == some .local) && (py.line == pos.line) && !(scope.names.any fun (n, k) => n == y && (k == .local || k == .cell))
  | _, _ => false
/-- a name that a cell holds -/
def ckCl (sc : Scope) : Expr → Bool
  | .Name y _ => sc.names.lookup y == some .cell
  | _ => false
theorem swaps_cell {e : Expr} {y : Str} {p : Pos} {l : Nat} {env : PySem.Env} (hk : env.kindOf y = some .cell) : swapsWith e (some (.Name y p)) l env = pure false := by
  have e1 : (NameKind.cell == NameKind.local) = false := by decide
  cases e <;> first | rfl | (unfold swapsWith; simp [hk, e1])
mutual
def ckS (T : Tab) (N : List Str) (sc : Scope) : MS → Stmt → Bool
  | .pass, st => match st with | .Pass _ => true | _ => false
  | .ret e, st => match st with | .Return (some e') _ => ckE T N sc e e' | _ => false
  | .retN, st => match st with | .Return none _ => true | _ => false
  | .expr e, st => match st with | .Expr e' _ => notComp e' && ckE T N sc e e' | _ => false
  | .asg (.nm i) e, st => match st with
    | .Assign [tg] e' _ => ckE T N sc e e' && ckNm N sc i tg && (notComp e' || ckLc N sc i tg e' || ckCl sc tg)
    | .AugAssign (.Name x p) op' e' _ => ckNm N sc i (.Name x p) && (match e with
      | .bin op (.var j) b => isIp op && decide (opB op = op') && decide (j = i) && ckE T N sc b e'
      | _ => false)
    | _ => false
  | .asg (.tp is) e, st => match st with | .Assign [.Tuple ts _ _] e' _ => ckNms N sc is ts && notComp e' && ckNoSw sc ts e' && ckE T N sc e e' | _ => false
  | .asg (.sw is) e, st => match st with | .Assign [.Tuple ts _ _] (.Tuple vs _ _) _ => ckSw N sc is ts vs && (match e with | .tup as => ckEs T N sc as vs | _ => false) | _ => false
  | .asg (.sub o i) e, st => match st with | .Assign [.Subscript o' i' _] e' _ => ckE T N sc o o' && ckE T N sc i i' && plainIx i' && ckE T N sc e e' && notComp e' | _ => false
  | .asg (.fld o f) e, st => match st with | .Assign [.Attribute o' f' _] e' _ => decide (f' = f) && ckE T N sc o o' && ckE T N sc e e' && notComp e' | _ => false
  | .ifs c a b, st => match st with | .If c' a' b' _ => ckT T N sc c c' && ckB T N sc a a' && ckB T N sc b b' | _ => false
  | .fors t it b, st => match st with | .For tg iter b' [] _ => ckCT N sc t tg && ckI T N sc it tg iter && ckB T N sc b b' | _ => false
  | .raise c es, st => match st with | .Raise (some (.Call (.Name x _) (e1 :: es') [] _)) none _ => decide (x = c) && glb sc x && T.own c && (T.exf c).isSome && ckEs T N sc es (e1 :: es') && decide (es.len ≤ 1000) | _ => false
  | .brk, st => match st with | .Break _ => true | _ => false
  | .cont, st => match st with | .Continue _ => true | _ => false
  | .trys b hs, st => match st with | .Try b' (h0 :: hds) [] [] _ => ckB T N sc b b' && ckH T N sc hs (h0 :: hds) | _ => false
def ckH (T : Tab) (N : List Str) (sc : Scope) : MHs → List ExceptHandler → Bool
  | .nil, [] => true
  | .cons c i b r, .ExceptHandler (some (.Name x _)) (some n) (b0 :: suite) _ :: hds => decide (x = c) && glb sc x && T.own c && decide (N[i]? = some n) && (sc.names.lookup n == some .local) && ckB T N sc b (b0 :: suite) && ckH T N sc r hds
  | _, _ => false
def ckB (T : Tab) (N : List Str) (sc : Scope) : MSs → List Stmt → Bool
  | .nil, [] => true
  | .cons s r, st :: sts => ckS T N sc s st && ckB T N sc r sts
  | _, _ => false
end

structure CtZ (T : Tab) (CA : Str → Addr) (N : List Str) (sc : Scope) (C : CallF) (X : Cx) (W : WX) (xi : Option (Nat × Addr × Addr)) : Prop where
  s : CtS T CA N sc C X W xi
  xc : X.calm = true → ∀ c fs, T.exf c = some fs → XC CA X c fs
  rx : X.calm = true → Room 2 X.A
section
variable {T : Tab} {CA : Str → Addr} {N : List Str} {sc : Scope} {C : CallF} {X : Cx} {W : WX} {xi : Option (Nat × Addr × Addr)}
theorem ctz_suite {a d : Addr} {oe : Obj} {c : Str} {i : Nat} {pn : List (Addr × Obj)} (ct : CtZ T CA N sc C X W xi) (hrm : RMH 2 X.A) (hz : L2N.Zn (.ref (CA c)) (some d) oe) (hd : ∃ vs, oe.data = .fields vs) (hx : (T.exf c).isSome = true) :
    CtZ T CA N sc T.hc (X.suite a ((a, oe) :: pn)) (fun _ _ _ _ => False) (some (i, a, d)) :=
  ⟨ct_suite ct.s hrm hz hd hx, fun z => absurd (show false = true from z) Bool.false_ne_true, fun z => absurd (show false = true from z) Bool.false_ne_true⟩
theorem sub_assign {o i : Expr} {pos : Pos} {env : PySem.Env} (h : plainIx i = true) (v : Value) : assign (.Subscript o i pos) env v = (do
      let ov ← holding [v] (eval o env)
      let iv ← holding [v, ov] (eval i env)
      standAt pos
      holding [v, ov, iv] (setItem ov iv v)
      release [v, ov, iv] []) := by
  cases i <;> first | rfl | (cases h; done) | (simp only [assign]; done)
theorem sub_swap {o i e : Expr} {pos : Pos} {env : PySem.Env} : swappedStores [.Subscript o i pos] e env = pure none := by
  cases e <;> rfl
mutual
theorem sndS : ∀ (m : MS) (st : Stmt) {N : List Str} {sc : Scope} {C : CallF} {X : Cx} {W : WX} {xi : Option (Nat × Addr × Addr)}, CtZ T CA N sc C X W xi → ckS T N sc m st = true → PS X st (tS T CA C X W xi m)
  | .pass, st, N, sc, C, X, W, xi, ct, h => by
    unfold ckS at h
    split at h
    · exact ps_passes
    · cases h
  | .ret e, st, N, sc, C, X, W, xi, ct, h => by
    unfold ckS at h
    split at h
    · exact ps_rets (sndE e _ ct.s.c h)
    · cases h
  | .retN, st, N, sc, C, X, W, xi, ct, h => by
    unfold ckS at h
    split at h
    · exact ps_retNs
    · cases h
  | .expr e, st, N, sc, C, X, W, xi, ct, h => by
    unfold ckS at h
    split at h
    · obtain ⟨h1, h2⟩ := ba h
      exact ps_exprs h1 (sndE e _ ct.s.c h2)
    · cases h
  | .asg (.nm i) e, st, N, sc, C, X, W, xi, ct, h => by
    unfold ckS at h
    split at h
    · rename_i tg e' pos
      obtain ⟨h, h3⟩ := ba h
      obtain ⟨h1, h2⟩ := ba h
      rw [Bool.or_eq_true] at h3
      rcases h3 with h3 | h9
      case inr =>
        refine ps_asgN ct.s h2 (fun x p e0 => ?_) (sndE e _ ct.s.c h1)
        subst e0
        exact swaps_cell (cell_of ct.s.c.g (beq_iff_eq.mp h9))
      rw [Bool.or_eq_true] at h3
      rcases h3 with h3 | h3
      · exact ps_asgN ct.s h2 (fun x p _ => swaps_no h3) (sndE e _ ct.s.c h1)
      · unfold ckLc at h3
        split at h3
        · rename_i y py elt gens scope lpos
          obtain ⟨h3, g4⟩ := ba h3
          obtain ⟨h3, g3⟩ := ba h3
          obtain ⟨g1, g2⟩ := ba h3
          cases e <;> (unfold ckE at h1; try (cases h1; done))
          · rename_i vs t it c v
            split at h1
            · rename_i elt' tg' iter' ifs' scope' pos' e1
              cases e1
              obtain ⟨h, f6⟩ := ba h1
              obtain ⟨h, f5⟩ := ba h
              obtain ⟨h, f4⟩ := ba h
              obtain ⟨h, f3⟩ := ba h
              obtain ⟨f1, f2⟩ := ba h
              have hk := (blkOk_by f1).kind
              refine ps_asgLc ct.s (dc g1) (beq_iff_eq.mp g2) g3 (by simpa using g4) f1 f2 f6 (sndI it _ _ ct.s.c f3).1 ((sndI it _ _ ct.s.c f3).2 _) (fun s H C0 cl fp => ?_) (fun s H C0 cl fp => sndE v _ (ct.s.c.blk hk) f5)
              cases ifs' with
              | nil =>
                have hcc : c = .bl true := isTru f4
                subst hcc
                refine ⟨fun pins s σ H Q I ⟨ρ, me, mh, at_, h⟩ => pts_nil.run pins s σ H Q I ?_⟩
                unfold evT at h
                exact Aft.now (z := true) h at_.rh rfl
              | cons c' r =>
                cases r with
                | nil => exact pts_one (sndT c c' (ct.s.c.blk hk) f4).1
                | cons _ _ => cases f4
            · cases h1
          · rename_i vs t it c ws t1 it1 c1 v
            split at h1
            · rename_i elt' tg' iter' ifs' tg1' iter1' ifs1' scope' pos' e1
              cases e1
              obtain ⟨h, f11⟩ := ba h1
              obtain ⟨h, f10⟩ := ba h
              obtain ⟨h, f9⟩ := ba h
              obtain ⟨h, f8⟩ := ba h
              obtain ⟨h, f7⟩ := ba h
              obtain ⟨h, f6⟩ := ba h
              obtain ⟨h, f5⟩ := ba h
              obtain ⟨h, f4⟩ := ba h
              obtain ⟨h, f3⟩ := ba h
              obtain ⟨f1, f2⟩ := ba h
              have hk := (blkOk_by f1).kind
              refine ps_asgLc2 ct.s (dc g1) (beq_iff_eq.mp g2) g3 (by simpa using g4) f1 f2 f9 f5 f10 f11 (sndI it _ _ ct.s.c f3).1 ((sndI it _ _ ct.s.c f3).2 _) (fun s H C0 cl fp => ?_) (fun s H C0 cl fp => (sndI it1 _ _ (ct.s.c.blk hk) f6).1) (fun s env x => (sndI it1 _ _ (ct.s.c.blk (s := s) (H := fun _ => none) (C0 := 0) (cl := []) (fp := []) hk) f6).2 env x) (fun s H C0 cl fp => ?_) (fun s H C0 cl fp => sndE v _ (ct.s.c.blk hk) f8)
              · cases ifs' with
                | nil =>
                  have hcc : c = .bl true := isTru f4
                  subst hcc
                  refine ⟨fun pins s σ H Q I ⟨ρ, me, mh, at_, h⟩ => pts_nil.run pins s σ H Q I ?_⟩
                  unfold evT at h
                  exact Aft.now (z := true) h at_.rh rfl
                | cons c' r =>
                  cases r with
                  | nil => exact pts_one (sndT c c' (ct.s.c.blk hk) f4).1
                  | cons _ _ => cases f4
              · cases ifs1' with
                | nil =>
                  have hcc : c1 = .bl true := isTru f7
                  subst hcc
                  refine ⟨fun pins s σ H Q I ⟨ρ, me, mh, at_, h⟩ => pts_nil.run pins s σ H Q I ?_⟩
                  unfold evT at h
                  exact Aft.now (z := true) h at_.rh rfl
                | cons c' r =>
                  cases r with
                  | nil => exact pts_one (sndT c1 c' (ct.s.c.blk hk) f7).1
                  | cons _ _ => cases f7
            · cases h1
        · cases h3
    · rename_i x p op' e' pos
      obtain ⟨h1, h2⟩ := ba h
      split at h2
      · rename_i op j b
        obtain ⟨k1, k2⟩ := ba h2
        obtain ⟨k3, k4⟩ := ba k1
        obtain ⟨k5, k6⟩ := ba k3
        obtain rfl := dc k6
        obtain rfl := dc k4
        exact ps_augM ct.s h1 k5 (sndE b _ ct.s.c k2)
      · cases h2
    · cases h
  | .asg (.tp is) e, st, N, sc, C, X, W, xi, ct, h => by
    unfold ckS at h
    split at h
    · obtain ⟨h, h4⟩ := ba h
      obtain ⟨h, h3⟩ := ba h
      obtain ⟨h1, h2⟩ := ba h
      exact ps_asgT ct.s h1 h2 (noSw_of (fun x z => cell_of ct.s.c.g z) h3) (sndE e _ ct.s.c h4)
    · cases h
  | .asg (.sw is) e, st, N, sc, C, X, W, xi, ct, h => by
    unfold ckS at h
    split at h
    · obtain ⟨h1, h2⟩ := ba h
      split at h2
      · exact ps_asgSw ct.s h1 (sndEs _ _ ct.s.c h2)
      · cases h2
    · cases h
  | .asg (.sub o i) e, st, N, sc, C, X, W, xi, ct, h => by
    unfold ckS at h
    split at h
    · obtain ⟨h, h5⟩ := ba h
      obtain ⟨h, h4⟩ := ba h
      obtain ⟨h, h3⟩ := ba h
      obtain ⟨h1, h2⟩ := ba h
      exact ps_asgI h5 (sndE o _ ct.s.c h1) (sndE i _ ct.s.c h2) (sndE e _ ct.s.c h4) (sub_assign h3) sub_swap rfl
    · cases h
  | .asg (.fld o f) e, st, N, sc, C, X, W, xi, ct, h => by
    unfold ckS at h
    split at h
    · obtain ⟨h, h4⟩ := ba h
      obtain ⟨h, h3⟩ := ba h
      obtain ⟨h1, h2⟩ := ba h
      have hf := dc h1
      subst hf
      exact ps_asgF ct.s h4 (sndE o _ ct.s.c h2) (sndE e _ ct.s.c h3)
    · cases h
  | .ifs c a b, st, N, sc, C, X, W, xi, ct, h => by
    unfold ckS at h
    split at h
    · obtain ⟨h, h3⟩ := ba h
      obtain ⟨h1, h2⟩ := ba h
      exact ps_ifss (sndT c _ ct.s.c h1).1 (sndB a _ ct h2) (sndB b _ ct h3)
    · cases h
  | .fors t it b, st, N, sc, C, X, W, xi, ct, h => by
    unfold ckS at h
    split at h
    · obtain ⟨h, h3⟩ := ba h
      obtain ⟨h1, h2⟩ := ba h
      exact ps_forss ct.s h1 (sndI it _ _ ct.s.c h2).1 ((sndI it _ _ ct.s.c h2).2 _) (sndB b _ ct h3) fun a ea => by
        subst ea
        unfold ckI at h2
        exact sndE a _ ct.s.c (ba h2).1
    · cases h
  | .raise c es, st, N, sc, C, X, W, xi, ct, h => by
    unfold ckS at h
    split at h
    · rename_i x px e1 es' p1 p2
      obtain ⟨h, h6⟩ := ba h
      obtain ⟨h, h5⟩ := ba h
      obtain ⟨h, h4⟩ := ba h
      obtain ⟨h, h3⟩ := ba h
      obtain ⟨h1, h2⟩ := ba h
      have hx := dc h1
      subst hx
      obtain ⟨fs, hf⟩ := Option.isSome_iff_exists.mp h4
      by_cases hc : X.calm = true
      · exact ps_raises ct.s h2 h3 hf (ct.xc hc x fs hf) (noStars_of h5) (dc h6) (sndEs es _ ct.s.c h5) ct.rx
      · refine ⟨fun pins s σ H D I ⟨ρ, me, mh, at_, h⟩ => ?_⟩
        unfold exS at h
        by_cases hz : me.ex.isSome = true
        · rw [if_pos hz] at h; exact h.elim
        · exact absurd (at_.cm (by simpa using hz)) hc
    · cases h
  | .brk, st, N, sc, C, X, W, xi, ct, h => by
    unfold ckS at h
    split at h
    · exact ps_brks
    · cases h
  | .cont, st, N, sc, C, X, W, xi, ct, h => by
    unfold ckS at h
    split at h
    · exact ps_conts
    · cases h
  | .trys b hs, st, N, sc, C, X, W, xi, ct, h => by
    unfold ckS at h
    split at h
    · obtain ⟨h1, h2⟩ := ba h
      refine ps_trys ct.s (fun W' pn xe ct' => sndB b _ ⟨ct', fun hc c fs hf => ⟨(ct.xc hc c fs hf).ex⟩, ct.rx⟩ h1) (sndH hs _ ct h2)
    · cases h
theorem sndH : ∀ (m : MHs) (hds : List ExceptHandler) {N : List Str} {sc : Scope} {C : CallF} {X : Cx} {W : WX} {xi : Option (Nat × Addr × Addr)}, CtZ T CA N sc C X W xi → ckH T N sc m hds = true → HdA X hds (hdl T CA X m)
  | .nil, [], N, sc, C, X, W, xi, ct, h => .nil
  | .cons c i b r, hd :: hds, N, sc, C, X, W, xi, ct, h => by
    unfold ckH at h
    split at h
    · rename_i e1 e2; cases e1
    · rename_i e1 e2
      cases e1
      cases e2
      obtain ⟨h, h7⟩ := ba h
      obtain ⟨h, h6⟩ := ba h
      obtain ⟨h, h5⟩ := ba h
      obtain ⟨h, h4⟩ := ba h
      obtain ⟨h, h3⟩ := ba h
      obtain ⟨h1, h2⟩ := ba h
      have hx := dc h1
      subst hx
      obtain ⟨g1, g2, _⟩ := glb_of ct.s.c.g h2
      refine .cons ⟨g1, g2, .inl (ct.s.c.g.st.cls _ h3)⟩ (by rw [ct.s.c.g.nm]; exact dc h4) ((loc_of ct.s.c.g (.inl (beq_iff_eq.mp h5))).2 (beq_iff_eq.mp h5)) (fun a oe cls d pn hz hd => ?_) (sndH r _ ct h7)
      refine ⟨fun pins s σ H D I ⟨c, dd, e1, e2, hx, hrm, q⟩ => ?_⟩
      subst e1
      subst e2
      exact (sndB b _ (ctz_suite (i := i) (a := a) (pn := pn) ct hrm hz hd hx) h6).run pins s σ H D I q
    · cases h
  | .nil, _ :: _, _, _, _, _, _, _, _, h => by unfold ckH at h; cases h
  | .cons _ _ _ _, [], _, _, _, _, _, _, _, h => by unfold ckH at h; cases h
theorem sndB : ∀ (m : MSs) (sts : List Stmt) {N : List Str} {sc : Scope} {C : CallF} {X : Cx} {W : WX} {xi : Option (Nat × Addr × Addr)}, CtZ T CA N sc C X W xi → ckB T N sc m sts = true → PSs X sts (tB T CA C X W xi m)
  | .nil, [], N, sc, C, X, W, xi, ct, h => pss_nils
  | .cons s r, st :: sts, N, sc, C, X, W, xi, ct, h => by
    unfold ckB at h
    obtain ⟨h1, h2⟩ := ba h
    exact pss_conss (sndS s st ct h1) (sndB r sts ct h2)
  | .nil, _ :: _, _, _, _, _, _, _, _, h => by unfold ckB at h; cases h
  | .cons _ _, [], _, _, _, _, _, _, _, h => by unfold ckB at h; cases h
end
end
end Mi
end

section
/-! Mini, part 18: the defs of the text. -/
namespace Mi
open PySem PySem.Spec PyProof.Rows L2

/-- the def at f is fi -/
structure DefT (T : Tab) (K : PySem.W.Frag) (f : Addr) (fi : FnI) : Prop where
  ex : ∃ (fd : FuncData) (N ps : List Str) (body : List Stmt) (sc : Scope), FnT K f fd N ps body sc ∧ Pats fd ps fi ∧ N.length = fi.ns ∧ ckB T N sc fi.body body = true
/-- what is known of the text -/
structure TextOk (T : Tab) (CA : Str → Addr) (P : Program) (w : World) (K : PySem.W.Frag) (mg : Str → Option Value) (base : Heap) : Prop where
  st : Stat T CA K mg
  fn : ∀ g fi, T.fn g = some fi → ∃ f, mg g = some (.ref f) ∧ PySem.W.keepIn K (.ref f) = true ∧ DefT T K f fi
  me : ∀ c m fi, T.me c m = some fi → ∃ f, Cls K (CA c) ∧ Meth K (CA c) m f ∧ DefT T K f fi
  mkc : ∀ c fi, T.me c "__init__" = some fi → ∃ f, Mk K (CA c) f ∧ DefT T K f fi
  mp : ∀ c m fi p, T.me c m = some fi → T.mp m p = true → p.1 + p.2.1.length = fi.np → p ∈ fi.pats
  xc : ∀ c fs, T.exf c = some fs → ∃ (fI : Addr) (fd : FuncData) (ps : List Str), EC K (CA c) ∧ PySem.W.findIn K (.ref (CA c)) "__init__" = some (some (.ref fI)) ∧ PySem.W.typeIn K (.ref fI) = some (.type "function") ∧
    FnOk P w K mg base (L2N.CX P w) 1 fI fd ps (spX K (CA c) fs) ∧ Binds K fd ps []

def lev (n : Nat) : Nat := 2 * n + 1
/-- what the defs do while an exception is handled -/
def HotAll (T : Tab) (CA : Str → Addr) (P : Program) (w : World) (K : PySem.W.Frag) (mg : Str → Option Value) (base : Heap) : Prop :=
  ∀ g fi, T.fn g = some fi → ∃ f, mg g = some (.ref f) ∧ PySem.W.keepIn K (.ref f) = true ∧ ∃ (fd : FuncData) (ps : List Str), Pats fd ps fi ∧ FnMH T CA P w K mg base T.hc 2 f fd ps fi
section
variable {T : Tab} {CA : Str → Addr} {P : Program} {w : World} {K : PySem.W.Frag} {mg : Str → Option Value} {base : Heap} {C : CallF} {k : Nat} {f : Addr} {fi : FnI}
/-- a def that does its body, at one level more -/
theorem fnm_of {fd : FuncData} {N ps : List Str} {body : List Stmt} {sc : Scope} (tx : TextOk T CA P w K mg base) (th : HotAll T CA P w K mg base) (F : FnT K f fd N ps body sc) (pt : Pats fd ps fi) (hns : N.length = fi.ns) (hck : ckB T N sc fi.body body = true) (hk : 1 ≤ k) (n : Nat)
    (hC : ∀ (X : Cx), X.prog = P → X.w = w → X.K = K → X.mg = mg → X.base = base → Calls T CA (run T n) k X) : FnM CA P w K mg base (run T (n + 1)) (k + 2) f fd ps fi := by
  intro A outer s H args us vs mvs ρ mh Q E hr e0 hb rv rm hl rh h
  obtain ⟨name, qual, params, dV, kV, doc, pm, cdv, ct, oc, an, od, osl, lk, rfl, hcd⟩ := F.ex
  have S := F.sc
  have hvl : vs.length = ps.length := by rw [← rm.length, hl, pt.1]
  have KX : K.In s.heap := e0.mod.kin.keeps fun b o e => (e0.bs b o e).1
  have lim : s.heap.NoLimit := e0.mod.nolimit.keeps fun b o e => (e0.bs b o e).1
  have hkind : ∀ y ∈ ps.zip us, sc.names.lookup y.1 = some .local ∨ (sc.names.lookup y.1 = some .cell ∧ ((cellsFrom (s.heap.objs.size + 1) sc.names []).lookup y.1).isSome = true) := fun ⟨n, v⟩ hy => by
    rcases S.par n (List.of_mem_zip hy).1 with q | q
    · exact .inl q
    · exact .inr ⟨q, PySem.W.cellsFrom_some _ _ _ (.inl q)⟩
  refine codeAny_call_function hr.room.depth (KX _ _ lk) rfl S.co S.gen rfl (PySem.W.codeRec_of KX hcd) (hb _ _ _ _ ?_)
  refine wpAny_newFunctionEnv_cells S.kind hkind fun env he s1 x => ?_
  subst he
  refine ⟨lim.keeps x.toInCall.keep, codeAny_func ?_⟩
  have I : L2.Inv (cxOf (L2N.CX P w) P w K mg base N qual sc f cdv A outer s H E) [] (L2.start N vs) H s1 := inv_start S hr.hd e0 hvl rv x
  have hr1 : RM (k + 1) (A.deeper (envOfC qual sc s.heap.objs.size f cdv)) := hr.deeper _
  have hbk : (envOfC qual sc s.heap.objs.size f cdv).blockKind = .function := by
    unfold PySem.Env.blockKind
    show (if sc.kind.isAnnotationScope = true then ScopeKind.function else sc.kind) = .function
    rw [S.kind]; rfl
  have ctz : CtZ T CA N sc (run T n) (cxOf (L2N.CX P w) P w K mg base N qual sc f cdv A outer s H E) (fun cls d _ H' => E cls d H') none := by
    refine ⟨⟨⟨⟨rfl, S.nd, fun _ _ h => .inl h, tx.st, hr1.gd, ?_⟩, L2N.takes_of rfl rfl rfl rfl, fun _ => ⟨k, hr1, hC _ rfl rfl rfl rfl rfl⟩, fun j a d e => (by cases e), fun _ _ => rfl, fun g fi q => (by obtain ⟨f, h1, h2, h3⟩ := th g fi q; exact ⟨f, h1, h2, ⟨h3⟩⟩), .inl (hr1.rmh (by omega)), fun z => absurd (show true = false from z) (by decide), S.kind⟩, passes_of rfl, rfl, rfl, hbk⟩, fun _ c fs hf => ⟨tx.xc c fs hf⟩, fun _ => ?_⟩
    · have := hr1.un
      show (A.deeper (envOfC qual sc s.heap.objs.size f cdv)).units + 1250 < cLine
      omega
    · exact (hr1.mono (show 2 ≤ k + 1 by omega)).room
  refine wpAny_mono ((sndB fi.body body ctz hck).run [] s1 (L2.start N vs) H { nx := fun _ H' => Q .non H', rt := Q } I ?_) (fun fl s' hs => ?_) fun e s' hs => hs
  · refine ⟨ρ, { sl := mvs.map some ++ List.replicate (fi.ns - fi.np) none, ex := none }, mh, ⟨⟨?_, fun i v q => ?_, fun j n q => by cases q⟩, rh, fun _ => rfl⟩, ?_⟩
    · unfold L2.start
      have hpl : ps.length ≤ N.length := by have := congrArg List.length S.pre; rw [List.length_take] at this; omega
      have e1 := pt.1
      simp only [List.length_append, List.length_map, List.length_replicate]
      rw [rm.length]
      omega
    · have hi : i < mvs.length := by
        by_cases hi : i < mvs.length
        · exact hi
        · rw [List.getElem?_append_right (by simpa using hi), List.getElem?_replicate] at q
          split at q <;> cases q
      rw [List.getElem?_append_left (by simpa using hi), List.getElem?_map] at q
      cases e : mvs[i]? with
      | none => rw [e] at q; cases q
      | some m =>
        rw [e] at q
        cases q
        obtain ⟨u, h1, h2⟩ := rm.get e
        exact ⟨u, start_get h1, h2⟩
    · have h' : Aft K CA (RV CA) E ρ H ((if mvs.length = fi.np then (match exB T (run T n) fi.body { sl := mvs.map some ++ List.replicate (fi.ns - fi.np) none, ex := none } mh with
        | .ok (.ret v) h' => .ok v h'
        | .ok (.next _) h' => .ok .non h'
        | .exc c n _ h' => .exc c n h'
        | _ => .stuck) else .stuck : Res MV)) Q := h
      rw [if_pos hl] at h'
      cases eb : exB T (run T n) fi.body { sl := mvs.map some ++ List.replicate (fi.ns - fi.np) none, ex := none } mh with
      | ok fl m =>
        rw [eb] at h'
        cases fl with
        | next me' => exact fun ρ' H' σ' e a => h' ρ' H' .non e a.rh .non
        | ret v => exact fun ρ' H' x e r q => h' ρ' H' x e r q
        | brk me' => exact h'.elim
        | cont me' => exact h'.elim
      | exc c n me' m => rw [eb] at h'; exact fun ρ' H' σ' d e a q1 q2 => h' ρ' H' d e a.rh q1 q2
      | stuck => rw [eb] at h'; exact h'.elim
  · have fin : ∀ {σ' : L2.St} {H' : Hp} {v : V} {u : Value}, L2.Inv (cxOf (L2N.CX P w) P w K mg base N qual sc f cdv A outer s H E) [] σ' H' s' → RelV v u → Q v H' → CE outer P w H s Q u s' :=
      fun {σ' H' v u} J rv q => ⟨v, H', J.os, J.bare, J.base, J.hok, rv, q⟩
    cases fl with
    | ret u =>
      obtain ⟨v, σ', H', J, rv, q⟩ := hs
      exact fin J rv q
    | next =>
      obtain ⟨σ', H', J, q⟩ := hs
      exact fin (v := V.non) (u := Value.none) J rfl q
    | brk =>
      obtain ⟨_, _, _, q⟩ := hs
      exact False.elim q
    | cont =>
      obtain ⟨_, _, _, q⟩ := hs
      exact False.elim q
/-- a def that does its body while an exception is handled -/
theorem fnmh_of {fd : FuncData} {N ps : List Str} {body : List Stmt} {sc : Scope} (tx : TextOk T CA P w K mg base) (h0 : T.hc = noCall) (F : FnT K f fd N ps body sc) (pt : Pats fd ps fi) (hns : N.length = fi.ns) (hck : ckB T N sc fi.body body = true) : FnMH T CA P w K mg base (hotOf T) 2 f fd ps fi := by
  intro A outer s H args us vs mvs ρ mh Q E p d hr hp hpin e0 hb rv rm hl rh h
  obtain ⟨name, qual, params, dV, kV, doc, pm, cdv, ct, oc, an, od, osl, lk, rfl, hcd⟩ := F.ex
  have S := F.sc
  have hvl : vs.length = ps.length := by rw [← rm.length, hl, pt.1]
  have KX : K.In s.heap := e0.mod.kin.keeps fun b o e => (e0.bs b o e).1
  have lim : s.heap.NoLimit := e0.mod.nolimit.keeps fun b o e => (e0.bs b o e).1
  have hkind : ∀ y ∈ ps.zip us, sc.names.lookup y.1 = some .local ∨ (sc.names.lookup y.1 = some .cell ∧ ((cellsFrom (s.heap.objs.size + 1) sc.names []).lookup y.1).isSome = true) := fun ⟨n, v⟩ hy => by
    rcases S.par n (List.of_mem_zip hy).1 with q | q
    · exact .inl q
    · exact .inr ⟨q, PySem.W.cellsFrom_some _ _ _ (.inl q)⟩
  refine codeAny_call_function (by have := hr.dp; omega : A.depth < recursionLimit) (KX _ _ lk) rfl S.co S.gen rfl (PySem.W.codeRec_of KX hcd) (hb _ _ _ _ ?_)
  refine wpAny_newFunctionEnv_cells S.kind hkind fun env he s1 x => ?_
  subst he
  refine ⟨lim.keeps x.toInCall.keep, codeAny_func ?_⟩
  have I : L2.Inv (L2H.cxH (L2N.CX P w) P w K mg base N qual sc f cdv A outer s H E p) [] (L2.start N vs) H s1 := L2H.inv_startH S hpin e0 hvl rv x
  have hr1 : RMH 1 (A.deeper (envOfC qual sc s.heap.objs.size f cdv)) := hr.deeper _
  have hbk : (envOfC qual sc s.heap.objs.size f cdv).blockKind = .function := by
    unfold PySem.Env.blockKind
    show (if sc.kind.isAnnotationScope = true then ScopeKind.function else sc.kind) = .function
    rw [S.kind]; rfl
  have ctz : CtZ T CA N sc noCall (L2H.cxH (L2N.CX P w) P w K mg base N qual sc f cdv A outer s H E p) (fun cls d _ H' => E cls d H') (some (fi.ns, p.1, d)) := by
    obtain ⟨cc, vs0, z1, z2, z3, z4⟩ := hp.z
    refine ⟨⟨⟨⟨rfl, S.nd, fun _ _ h => .inl h, tx.st, hr1.gd, ?_⟩, L2N.takes_of rfl rfl rfl rfl, fun z => absurd (show false = true from z) Bool.false_ne_true, fun j a' d' e => ?_, fun _ _ => rfl, fun g fi q => ?_, .inr ⟨rfl, hr1, rfl⟩, fun _ => .inl rfl, S.kind⟩, passes_of rfl, rfl, rfl, hbk⟩, fun z => absurd (show false = true from z) Bool.false_ne_true, fun z => absurd (show false = true from z) Bool.false_ne_true⟩
    · have := hr1.un
      show (A.deeper (envOfC qual sc s.heap.objs.size f cdv)).units + 1250 < cLine
      omega
    · cases e
      exact ⟨p.2, cc, vs0, List.mem_cons_self, z1, z2, hp.h1.1, z3, z4⟩
    · obtain ⟨f, h1, h2, h3⟩ := tx.fn g fi q
      obtain ⟨fd, N, ps, body, sc, F, pt, _, _⟩ := h3.ex
      exact ⟨f, h1, h2, ⟨fd, ps, pt, by rw [h0]; exact fnmh_no⟩⟩
  refine wpAny_mono ((sndB fi.body body ctz hck).run [] s1 (L2.start N vs) H { nx := fun _ H' => Q .non H', rt := Q } I ?_) (fun fl s' hs => ?_) fun e s' hs => hs
  · refine ⟨ρ, { sl := mvs.map some ++ List.replicate (fi.ns - fi.np) none, ex := some (fi.ns, 0) }, mh, ⟨⟨?_, fun i v q => ?_, fun j n q => ?_⟩, rh, fun z => by cases z⟩, ?_⟩
    · unfold L2.start
      have hpl : ps.length ≤ N.length := by have := congrArg List.length S.pre; rw [List.length_take] at this; omega
      have e1 := pt.1
      simp only [List.length_append, List.length_map, List.length_replicate]
      rw [rm.length]
      omega
    · have hi : i < mvs.length := by
        by_cases hi : i < mvs.length
        · exact hi
        · rw [List.getElem?_append_right (by simpa using hi), List.getElem?_replicate] at q
          split at q <;> cases q
      rw [List.getElem?_append_left (by simpa using hi), List.getElem?_map] at q
      cases e : mvs[i]? with
      | none => rw [e] at q; cases q
      | some m =>
        rw [e] at q
        cases q
        obtain ⟨u, h1, h2⟩ := rm.get e
        exact ⟨u, start_get h1, h2⟩
    · cases q
      refine ⟨p.1, d, rfl, fun l => ?_⟩
      exfalso
      simp only [List.length_append, List.length_map, List.length_replicate] at l
      have e1 := pt.1
      have hpl : ps.length ≤ N.length := by have := congrArg List.length S.pre; rw [List.length_take] at this; omega
      omega
    · have h' : Aft K CA (RV CA) E ρ H ((if mvs.length = fi.np then (match exB T noCall fi.body { sl := mvs.map some ++ List.replicate (fi.ns - fi.np) none, ex := some (fi.ns, 0) } mh with
        | .ok (.ret v) h' => .ok v h'
        | .ok (.next _) h' => .ok .non h'
        | _ => .stuck) else .stuck : Res MV)) Q := h
      rw [if_pos hl] at h'
      cases eb : exB T noCall fi.body { sl := mvs.map some ++ List.replicate (fi.ns - fi.np) none, ex := some (fi.ns, 0) } mh with
      | ok fl m =>
        rw [eb] at h'
        cases fl with
        | next me' => exact fun ρ' H' σ' e a => h' ρ' H' .non e a.rh .non
        | ret v => exact fun ρ' H' x e r q => h' ρ' H' x e r q
        | brk me' => exact h'.elim
        | cont me' => exact h'.elim
      | exc c n me' m => rw [eb] at h'; exact h'.elim
      | stuck => rw [eb] at h'; exact h'.elim
  · have fin : ∀ {σ' : L2.St} {H' : Hp} {v : V} {u : Value}, L2.Inv (L2H.cxH (L2N.CX P w) P w K mg base N qual sc f cdv A outer s H E p) [] σ' H' s' → RelV v u → Q v H' → CE outer P w H s Q u s' :=
      fun {σ' H' v u} J rv q => ⟨v, H', J.os, J.bare, J.base, J.hok, rv, q⟩
    cases fl with
    | ret u =>
      obtain ⟨v, σ', H', J, rv, q⟩ := hs
      exact fin J rv q
    | next =>
      obtain ⟨σ', H', J, q⟩ := hs
      exact fin (v := V.non) (u := Value.none) J rfl q
    | brk =>
      obtain ⟨_, _, _, q⟩ := hs
      exact False.elim q
    | cont =>
      obtain ⟨_, _, _, q⟩ := hs
      exact False.elim q
theorem fnm_zero {fd : FuncData} {ps : List Str} : FnM CA P w K mg base (run T 0) k f fd ps fi := fun A outer s H args us vs mvs ρ mh Q E hr e0 hb rv rm hl rh h => h.elim
/-- every def of the text, as deep as one likes -/
theorem fnm_all (tx : TextOk T CA P w K mg base) (th : HotAll T CA P w K mg base) : ∀ (n : Nat) {f : Addr} {fi : FnI}, DefT T K f fi → ∃ (fd : FuncData) (ps : List Str), Pats fd ps fi ∧ FnM CA P w K mg base (run T n) (lev n) f fd ps fi
  | 0, f, fi, d => by
    obtain ⟨fd, N, ps, body, sc, F, pt, _, _⟩ := d.ex
    exact ⟨fd, ps, pt, fnm_zero⟩
  | n + 1, f, fi, d => by
    obtain ⟨fd, N, ps, body, sc, F, pt, hns, hck⟩ := d.ex
    refine ⟨fd, ps, pt, fnm_of (k := lev n) tx th F pt hns hck (by unfold lev; omega) n fun X e1 e2 e3 e4 e5 => ?_⟩
    refine ⟨fun g fi e => ?_, fun c m fi e => ?_, fun c fi e => ?_, tx.mp⟩
    · obtain ⟨f, a, b, d⟩ := tx.fn g fi e
      exact ⟨f, by rw [e4]; exact a, by rw [e3]; exact b, ⟨by rw [e1, e2, e3, e4, e5]; exact fnm_all tx th n d⟩⟩
    · obtain ⟨f, a, b, d⟩ := tx.me c m fi e
      exact ⟨f, by rw [e3]; exact a, by rw [e3]; exact b, ⟨by rw [e1, e2, e3, e4, e5]; exact fnm_all tx th n d⟩⟩
    · obtain ⟨f, a, d⟩ := tx.mkc c fi e
      exact ⟨f, by rw [e3]; exact a, ⟨by rw [e1, e2, e3, e4, e5]; exact fnm_all tx th n d⟩⟩
/-- all defs while an exception is handled -/
theorem hot_all {T0 : Tab} (tx : TextOk T0 CA P w K mg base) (h0 : T0.hc = noCall) (e1 : T.fn = T0.fn) (e2 : T.xat = T0.xat) (e3 : T.hc = hotOf T0) : HotAll T CA P w K mg base := fun g fi q => by
  rw [e1] at q
  obtain ⟨f, h1, h2, h3⟩ := tx.fn g fi q
  obtain ⟨fd, N, ps, body, sc, F, pt, hns, hck⟩ := h3.ex
  refine ⟨f, h1, h2, fd, ps, pt, ?_⟩
  rw [e3]
  exact fun A outer s H args us vs mvs ρ mh Q E p d hr hp hpin e0 hb rv rm hl rh h => fnmh_of tx h0 F pt hns hck A outer s H args us vs mvs ρ mh Q E p d hr ⟨hp.h1, by obtain ⟨c, vs, z1, z2, z3, z4⟩ := hp.z; exact ⟨c, vs, z1, z2, z3, by rw [← e2]; exact z4⟩⟩ hpin e0 hb rv rm hl rh h
end
end Mi
end

section
/-! Mini, part 19: the end of a law. -/
namespace Mi
open PySem PySem.Spec PyProof.Rows L2

/-- the heap at the law's call: the script at 0 -/
def scr (ns : List Int) : MH := { next := 1, get := fun m => if m = 0 then some (.frz (ns.map .int)) else none }
theorem rvs_ints {CA : Str → Addr} {ρ : Rho} {H : Hp} : ∀ ns : List Int, RVs CA ρ H (ns.map .int) (ns.map V.int)
  | [] => .nil
  | n :: ns => .cons (.int n) (rvs_ints ns)
theorem law_callM {T : Tab} {CA : Str → Addr} {P : Program} {w : World} {K : PySem.W.Frag} {mg mb : Str → Option Value} {fa a : Addr} {fi : FnI} {nn : Nat} {s₁ : Shared} {vs : List Value} {ns : List Int}
    (KX : K.In s₁.heap) (hns : s₁.heap.Ns mainGlobals mg) (hb : s₁.heap.Ns builtinsNs mb) (hbb : ∀ x : Str, x ≠ "__name__" → mb x = bootBuiltins x) (hlim : s₁.heap.NoLimit) (hg : s₁.gens = #[])
    (ha : s₁.heap.get? a = some { cls := .type "list", data := .seq vs.toArray }) (hi : IntsAre vs ns) (hl : ns.length ≤ sizeLine) (hr : RM (lev nn) callerA)
    (tx : ∀ base : Heap, K.In base → base.Ns mainGlobals mg → TextOk T CA P w K mg base ∧ HotAll T CA P w K mg base) (hd : DefT T K fa fi) (hp : (1, [], []) ∈ fi.pats) (hnp : fi.np = 1)
    (hrun : ∃ h', run T nn fi [.ref 0] (scr ns) = .ok (.bl true) h') :
    codeAny (model P w) callerA (.call (.ref fa) ⟨[.ref a], []⟩) (fun r s' => r = .ok (.ret (.bool true)) ∧ OldK s₁.heap s'.heap ∧ s'.os = s₁.os ∧ AllBare s'.gens) s₁ := by
  have rv := vals_ints hi
  have lenV := hi.length
  have core : ∀ H : Hp, Only H → ((∃ o, H a = some (.frz o (.lst (ns.map V.int)))) ∨ SqK K a (ns.map V.int)) → HOk P w H s₁.heap → (∀ b, H b ≠ none → b = a) → (H a ≠ none → K.lookup a = none) →
      codeAny (model P w) callerA (.call (.ref fa) ⟨[.ref a], []⟩) (fun r s' => r = .ok (.ret (.bool true)) ∧ OldK s₁.heap s'.heap ∧ s'.os = s₁.os ∧ AllBare s'.gens) s₁ := by
    intro H hO hS hok hA hK
    have base_of : ∀ {b : Addr} {o : Obj}, s₁.heap.get? b = some o → H b = none → (hidT s₁.heap H).get? b = some o := fun e n => hidT_get e n
    have noA : ∀ {b : Addr} {o : Obj} {es : Array DictEntry} {ep : Nat}, s₁.heap.get? b = some o → o.data = .dict es ep → H b = none := fun {b o es ep} e d => by
      cases q : H b with
      | none => rfl
      | some u =>
        have e' : b = a := hA b (by rw [q]; simp)
        subst e'
        rw [ha] at e; cases e
        have d' : Data.seq vs.toArray _ = Data.dict es ep := d
        cases d'
    have nsK : ∀ {b : Addr} {m : Str → Option Value}, s₁.heap.Ns b m → (hidT s₁.heap H).Ns b m := fun {b m} ⟨o, es, ep, e, d, r⟩ => ⟨o, es, ep, base_of e (noA e d), d, r⟩
    have hKb : K.In (hidT s₁.heap H) := fun b o e => base_of (KX b o e) (by
      cases q : H b with
      | none => rfl
      | some u =>
        have e' : b = a := hA b (by rw [q]; simp)
        subst e'
        rw [hK (by rw [q]; simp)] at e; cases e)
    have hM : Mod K mg (hidT s₁.heap H) := ⟨hKb, nsK hns, ⟨mb, nsK hb, hbb⟩, let ⟨mc, h1, h2⟩ := hlim; ⟨mc, nsK h1, h2⟩⟩
    have e0 : Env0 P w K mg (hidT s₁.heap H) callerA [] s₁ H := ⟨rfl, hM, fun b o e => of_hidT e, Nat.le_of_eq (hidT_size _ _), trivial, fun b hb => absurd (show b ∈ ([] : List Addr) from hb) (by simp), hok, .of_eq hg⟩
    obtain ⟨fd, ps, ⟨_, hbn⟩, F⟩ := fnm_all (tx _ hKb (nsK hns)).1 (tx _ hKb (nsK hns)).2 nn hd
    have hb1 := hbn _ hp [.ref a] [] rfl rfl s₁
    obtain ⟨h', hrun⟩ := hrun
    have rh : RH K CA (fun m => if m = 0 then some a else none) (scr ns) H := by
      refine ⟨fun n o e => ?_, fun n b e => ?_, fun n m b o o' e1 e2 e3 e4 w1 w2 => ?_⟩
      · by_cases hn : n = 0
        · subst hn
          have e' : some (MO.frz (ns.map .int)) = some o := e
          cases e'
          exact ⟨a, rfl, ns.map V.int, hS, rvs_ints ns⟩
        · have e' : (none : Option MO) = some o := by rw [← e]; exact (if_neg hn).symm
          cases e'
      · by_cases hn : n = 0
        · subst hn; exact ⟨Nat.one_pos, _, rfl⟩
        · have e' : (none : Option Addr) = some b := by rw [← e]; exact (if_neg hn).symm
          cases e'
      · by_cases hn : n = 0
        · subst hn
          have e' : some (MO.frz (ns.map .int)) = some o := e3
          cases e'
          cases w1
        · have e' : (none : Option MO) = some o := by rw [← e3]; exact (if_neg hn).symm
          cases e'
    refine codeAny_mono (F callerA [] s₁ H ⟨[.ref a], []⟩ [.ref a] [.ref a] [.ref 0] _ (scr ns) (fun v _ => v = .bl true) (fun _ _ _ => False) hr e0 (by simpa using hb1) (.cons rfl .nil) (.cons (.ref rfl) .nil) hnp.symm rh (by
      rw [hrun]; exact fun ρ' H' b e r q => by cases q; rfl)) fun r s' h => ?_
    cases r with
    | error e =>
      obtain ⟨_, _, _, _, _, _, _, _, _, _, _, _, z⟩ := h
      exact z.elim
    | ok fl =>
      cases fl with
      | next => exact False.elim h
      | brk => exact False.elim h
      | cont => exact False.elim h
      | ret u =>
        obtain ⟨v, H', os, bare, un, hok', r', q⟩ := h
        have q' : v = .bl true := q
        subst q'
        obtain rfl : u = Value.bool true := r'
        refine ⟨rfl, OldK.of_keep fun b o e => ?_, os, bare⟩
        cases q : H b with
        | none => exact un.keep b o e q (by intro z; exact absurd (show b ∈ ([] : List Addr) from z) (by simp)) (by simp)
        | some u =>
          rcases hO b with z | ⟨ob, xs, z⟩
          · rw [q] at z; cases z
          · have z2 := un.frzs b ob _ z
            obtain ⟨e1, _⟩ := hok b _ z
            obtain ⟨e2, _⟩ := hok' b _ z2
            rw [e] at e1; cases e1
            exact e2
  cases hk : K.lookup a with
  | some o =>
    have e := KX a o hk
    rw [ha] at e
    cases e
    exact core (fun _ => none) (fun _ => .inl rfl) (.inr ⟨_, vs.toArray, _, hk, rfl, rfl, rfl, by rw [List.size_toArray, lenV]; exact hl, by simpa using rv⟩) (fun b u z => by have z' : (none : Option HO) = some u := z; cases z') (fun b z => absurd rfl z) fun z => absurd rfl z
  | none =>
    refine core (fun b => if b = a then some (.frz { cls := .type "list", data := .seq vs.toArray } (.lst (ns.map V.int))) else none) (fun b => ?_) (.inl ⟨{ cls := .type "list", data := .seq vs.toArray }, if_pos rfl⟩) (fun b u z => ?_) (fun b z => ?_) fun _ => hk
    · by_cases hb : b = a
      · exact .inr ⟨_, _, if_pos hb⟩
      · exact .inl (if_neg hb)
    · by_cases hb : b = a
      · have z' := (if_pos hb).symm.trans z
        cases z'
        subst hb
        exact ⟨ha, by rw [List.length_map]; exact hl, vs, _, rv, ha⟩
      · have z' := (if_neg hb).symm.trans z
        cases z'
    · by_cases hb : b = a
      · exact hb
      · exact absurd (if_neg hb) z
theorem walk_ofM {l : PySem.W.OpenLaw} {n nn : Nat} {q : Program} {loose : List Str} {XP : (Str → Option Value) → Heap → Prop} {YP : World → Heap → Prop} {d : DefRec} {T : Tab} {fi : FnI}
    (hn : l.most = some n) (hn2 : n ≤ sizeLine) (hdf : d.params.defaults = []) (hr : RM (lev nn) callerA) (hp : (1, [], []) ∈ fi.pats) (hnp : fi.np = 1)
    (F : ∀ (w : World) (mg : Str → Option Value) (fa : Addr) (h : Heap), YP w h → h.Ns mainGlobals mg → mg d.name = some (.ref fa) →
      ∃ (K : PySem.W.Frag) (CA : Str → Addr), K.In h ∧ DefT T K fa fi ∧ ∀ base : Heap, K.In base → base.Ns mainGlobals mg → TextOk T CA l.prog w K mg base ∧ HotAll T CA l.prog w K mg base)
    (hrun : ∀ ns : List Int, ns.length ≤ n → (∀ z ∈ ns, Builtin.Int.intBits z ≤ 1048576) → ∃ h', run T nn fi [.ref 0] (scr ns) = .ok (.bl true) h') :
    PySem.W.WalkO q loose XP YP l.row.toRowW d [] (fun f vs => PySem.call f vs) := by
  refine Att.attach_callB hn hdf fun w s₀ s₁ mg mb fa o pm cd doc a vs ns G Y ho hd hcd hmg hobj hints hlen hbits hg => ?_
  obtain ⟨K, CA, KX, hD, tx⟩ := F w mg fa _ Y G.T.g hmg
  exact law_callM KX G.T.g G.T.b G.T.builtins G.T.nolimit hg hobj hints (Nat.le_trans hlen hn2) hr tx hD hp hnp (hrun ns hlen hbits)
end Mi
end

section
/-! Mini, part 20: a law's text as data; what the head tells of it. -/
namespace Mi
open PySem PySem.Spec PyProof.Rows L2

/-- a def of the text -/
structure DE where
  d : He.DefD
  N : List Str
  ps : List Str
/-- an exception: its fields, the class whose __init__ it calls, its own -/
structure XE1 where
  c : Str
  fs : List Str
  g : Str
  e : DE
inductive CK where | ty (n : String) | cl (c : Str)
  deriving DecidableEq
structure Txt where
  fns : List (Str × DE × FnI)
  mes : List (Str × Str × DE × FnI)
  xs : List XE1
  own : List Str
  free : List Str
  gi : List (Str × Int)
  bf : List (Str × String) := []
  noat : List (Str × Str)
  isc : List (Str × CK × Bool)
  sub : List (Str × Str × Bool)
  xat : List Str
  mp : List (Str × (Nat × List Str × List Nat))
def ckOf : MV → Option CK
  | .ty n => some (.ty n)
  | .cls c => some (.cl c)
  | _ => none
def find2 {α β γ : Type} [DecidableEq α] [DecidableEq β] : List (α × β × γ) → α → β → Option γ
  | [], _, _ => none
  | (a, b, c) :: r, x, y => if a = x ∧ b = y then some c else find2 r x y
theorem find2_mem {α β γ : Type} [DecidableEq α] [DecidableEq β] : ∀ {l : List (α × β × γ)} {x : α} {y : β} {z : γ}, find2 l x y = some z → (x, y, z) ∈ l
  | [], _, _, _, h => by cases h
  | (a, b, c) :: r, x, y, z, h => by
    unfold find2 at h
    split at h
    · rename_i hc
      cases h
      obtain ⟨rfl, rfl⟩ := hc
      exact List.mem_cons_self
    · exact List.mem_cons_of_mem _ (find2_mem h)
def find1 {α γ : Type} [DecidableEq α] : List (α × γ) → α → Option γ
  | [], _ => none
  | (a, c) :: r, x => if a = x then some c else find1 r x
theorem find1_mem {α γ : Type} [DecidableEq α] : ∀ {l : List (α × γ)} {x : α} {z : γ}, find1 l x = some z → (x, z) ∈ l
  | [], _, _, h => by cases h
  | (a, c) :: r, x, z, h => by
    unfold find1 at h
    split at h
    · rename_i hc
      cases h
      subst hc
      exact List.mem_cons_self
    · exact List.mem_cons_of_mem _ (find1_mem h)
/-- the table, by what the defs do while an exception is handled -/
def Txt.tabC (τ : Txt) (hc : CallF) : Tab where
  hc := hc
  fn := fun g => (find1 τ.fns g).map (·.2)
  me := fun c m => (find2 τ.mes c m).map (·.2)
  mp := fun m p => τ.mp.any fun q => decide (q.1 = m) && decide (q.2 = p)
  noat := fun c f => τ.noat.any fun q => decide (q.1 = c) && decide (q.2 = f)
  free := fun x => τ.free.any fun y => decide (y = x)
  own := fun x => τ.own.any fun y => decide (y = x)
  gi := fun x i => τ.gi.any fun q => decide (q.1 = x) && decide (q.2 = i)
  bf := fun x n => τ.bf.any fun q => decide (q.1 = x) && decide (q.2 = n)
  xat := fun x => τ.xat.any fun y => decide (y = x)
  exf := fun c => (find1 (τ.xs.map fun x => (x.c, x.fs)) c)
  sub := fun c d => find2 τ.sub c d
  isc := fun c v => (ckOf v).bind fun k => find2 τ.isc c k

def Txt.tab0 (τ : Txt) : Tab := τ.tabC noCall
def Txt.tab (τ : Txt) : Tab := τ.tabC (hotOf τ.tab0)

/-! ### what is asked of the head -/
def ecB (K : PySem.W.Frag) (C : Addr) : Bool := (match K.lookup C with
    | some ⟨.type t, _, .cls cd, sl⟩ => (match cd.mro, sl.toList with
      | .ref C' :: bm, [_, _, _, _, some (.builtin n), _] => decide (t = "type") && decide (C' = C) && decide (n = "Exception.__new__") && cd.hasDict && !cd.hasDel && refsEx bm
      | _, _ => false)
    | _ => false) && decide (PySem.W.findIn K (.ref C) "__setattr__" = some (some (.builtin "object.__setattr__"))) && decide (PySem.W.subIn K (.ref C) (.type "BaseException") = some true) &&
  decide (PySem.W.typeIn K (.ref C) = some (.type "type")) && PySem.W.keepIn K (.ref C)
theorem ecB_ok {K : PySem.W.Frag} {C : Addr} (h : ecB K C = true) : EC K C := by
  unfold ecB at h
  obtain ⟨h, h5⟩ := ba h
  obtain ⟨h, h4⟩ := ba h
  obtain ⟨h, h3⟩ := ba h
  obtain ⟨h1, h2⟩ := ba h
  refine ⟨?_, dc h2, dc h3, dc h4, h5⟩
  split at h1
  · rename_i t dd cd sl ho
    split at h1
    · rename_i C' bm k0 k1 k2 k3 n k5 hm hs
      obtain ⟨h1, g6⟩ := ba h1
      obtain ⟨h1, g5⟩ := ba h1
      obtain ⟨h1, g4⟩ := ba h1
      obtain ⟨h1, g3⟩ := ba h1
      obtain ⟨g1, g2⟩ := ba h1
      have e1 := dc g1
      have e2 := dc g2
      have e3 := dc g3
      subst e1; subst e2; subst e3
      obtain ⟨nm, bs, mro, ns, qn, hd, sn, sub, ab, col, del⟩ := cd
      dsimp only at hm g4 g5
      have g5' : del = false := by simpa using g5
      subst hm g4 g5'
      have hsl : sl = #[k0, k1, k2, k3, some (.builtin "Exception.__new__"), k5] := by
        obtain ⟨l⟩ := sl
        simp only at hs
        rw [hs]
      subst hsl
      exact ⟨nm, qn, ns, bs, bm, sn, sub, ab, col, dd, k0, k1, k2, k3, k5, ho, g6⟩
    · cases h1
  · cases h1
def xbB (K : PySem.W.Frag) (G : Addr) : Bool := decide (PySem.W.specialIn K (.ref G) "__getattribute__" = some (some (.builtin "type.__getattribute__"))) && decide (PySem.W.typeIn K (.ref G) = some (.type "type")) && PySem.W.readsIn K G (.type "type") &&
  (match PySem.W.findCls K (.ref G) (.type "type") "__init__" with
    | some (.val (.builtin n)) => decide (n = "Exception.__init__")
    | _ => false)
theorem xbB_ok {K : PySem.W.Frag} {G : Addr} (h : xbB K G = true) : XB K G := by
  unfold xbB at h
  obtain ⟨h, h4⟩ := ba h
  obtain ⟨h, h3⟩ := ba h
  obtain ⟨h1, h2⟩ := ba h
  refine ⟨dc h1, dc h2, h3, ?_⟩
  split at h4
  · rename_i n e
    rw [e, dc h4]
  · cases h4
def tyB (K : PySem.W.Frag) (C : Addr) : Bool := decide (PySem.W.findIn K (.ref C) "__class__" = some (some (.builtin "object.__class__"))) && decide (PySem.W.specialIn K (.builtin "object.__class__") "__get__" = some (some (.builtin "getset_descriptor.__get__"))) &&
  decide (PySem.W.takesIn K (.builtin "object.__class__") = some true) && decide (PySem.W.mroIn K C (.type "object") = some true)
theorem tyB_ok {K : PySem.W.Frag} {C : Addr} (cl : Cls K C) (h : tyB K C = true) (H : Hp) (a dx : Addr) (fs : List (Str × V)) (e : H a = some (.ins C dx fs)) : TyOf K H (.ref a) (.ref C) := by
  unfold tyB at h
  obtain ⟨h, h4⟩ := ba h
  obtain ⟨h, h3⟩ := ba h
  obtain ⟨h1, h2⟩ := ba h
  exact .ins e cl (dc h1) (dc h2) (dc h3) (dc h4)
def CK.u (K : PySem.W.Frag) : CK → Value
  | .ty n => .type n
  | .cl c => .ref (He.ga K c)
def Txt.parts (τ : Txt) : List (List He.Fa) := [τ.fns.map (fun f => .glo f.1), τ.own.map (fun c => .glo c), τ.free.map (fun x => .free x), τ.gi.map (fun q => .int q.1 q.2), τ.noat.map (fun q => .noat q.1 q.2), τ.noat.map (fun q => .cls q.1),
  τ.isc.map (fun q => .cls q.1), τ.sub.map (fun q => .exm q.1 q.2.1 q.2.2), τ.mes.map (fun q => .cls q.1), τ.mes.map (fun q => .meth q.1 q.2.1), (τ.mes.filter fun q => decide (q.2.1 = ("__init__" : Str))).map (fun q => .mkr q.1),
  τ.xs.map (fun x => .meth x.c "__init__"), τ.xs.map (fun x => .glo x.g), τ.xs.flatMap (fun x => x.fs.map fun f => .noat x.c f), τ.xs.flatMap (fun x => τ.xat.map fun f => .noat x.c f)]
def Txt.fa (τ : Txt) : List He.Fa := τ.parts.flatten
theorem fa_mem {τ : Txt} {f : He.Fa} (i : Nat) {l : List He.Fa} (h : τ.parts[i]? = some l) (hf : f ∈ l) : f ∈ τ.fa := List.mem_flatten.mpr ⟨l, List.mem_of_getElem? h, hf⟩
def Txt.dl (τ : Txt) : List He.DefD := τ.fns.map (fun f => f.2.1.d) ++ τ.mes.map (fun q => q.2.2.1.d) ++ τ.xs.map (fun x => x.e.d)
def Txt.ex (τ : Txt) (K : PySem.W.Frag) : Bool := (τ.isc.all fun q => tyB K (He.ga K q.1) && decide (PySem.W.kitOne K (.ref (He.ga K q.1)) (q.2.1.u K) = some q.2.2)) && (τ.xs.all fun x => ecB K (He.ga K x.c) && xbB K (He.ga K x.g) && xfB K (He.ga K x.c)) && (K.lookup sysModules).isSome && (τ.bf.all fun q => decide (PySem.W.nsIn K mainGlobals q.1 = some (some (.builtin q.2))))

/-! ### what is asked of the text -/
def scB (N ps : List Str) (sc : Scope) : Bool := (match sc.kind with | .function => true | _ => false) && !sc.isCoroutine && !sc.isGenerator && decide N.Nodup && decide (N.take ps.length = ps) &&
  (ps.all fun x => sc.names.lookup x == some .local || sc.names.lookup x == some .cell) && (sc.names.all fun y => !(y.2 == .free))
theorem scB_ok {N ps : List Str} {sc : Scope} (h : scB N ps sc = true) : FnScope N ps sc := by
  unfold scB at h
  obtain ⟨h, h7⟩ := ba h
  obtain ⟨h, h6⟩ := ba h
  obtain ⟨h, h5⟩ := ba h
  obtain ⟨h, h4⟩ := ba h
  obtain ⟨h, h3⟩ := ba h
  obtain ⟨h1, h2⟩ := ba h
  refine ⟨?_, by simpa using h2, by simpa using h3, dc h4, dc h5, fun x hx => ?_, fun y hy z => ?_⟩
  · split at h1
    · assumption
    · cases h1
  · have := List.all_eq_true.mp h6 x hx
    simpa only [Bool.or_eq_true, beq_iff_eq] using this
  · have := List.all_eq_true.mp h7 y hy
    rw [z] at this
    cases this
def DE.scB (e : DE) : Bool := Mi.scB e.N e.ps e.d.scope && e.d.dfl.isEmpty && e.d.kwd.isEmpty
def DE.ok (T : Tab) (e : DE) (fi : FnI) : Bool := e.scB && decide (e.N.length = fi.ns) && ckB T e.N e.d.scope fi.body e.d.body
def Txt.ckAll (τ : Txt) (hc : CallF) : Bool := (τ.fns.all fun f => f.2.1.ok (τ.tabC hc) f.2.2) && (τ.mes.all fun q => q.2.2.1.ok (τ.tabC hc) q.2.2.2)
def Txt.stat (τ : Txt) : Bool := (τ.fns.all fun f => decide (f.2.1.d.at_ = (f.1, none))) && (τ.mes.all fun q => decide (q.2.2.1.d.at_ = (q.1, some q.2.1))) &&
  (τ.xs.all fun x => x.e.scB && decide (x.e.d.at_ = (x.c, some ("__init__" : Str))) && decide (x.e.ps.length = x.fs.length + 1) && decide (x.fs ≠ []) && decide (x.fs.length ≤ 900) && ckXI x.e.N x.e.d.scope x.g x.fs x.e.d.body) &&
  (τ.sub.all fun q => (τ.own.any fun y => decide (y = q.1))) && (τ.mp.all fun q => τ.mes.all fun m => if m.2.1 = q.1 ∧ q.2.1 + q.2.2.1.length = m.2.2.2.np then decide (q.2 ∈ m.2.2.2.pats) else true)
/-- how a def is called -/
def DE.Pt (e : DE) (fi : FnI) : Prop := ∀ (kV doc pm : Value) (an : Option Addr) (cdv ct : Value), Pats (PySem.W.fnOf e.d.name e.d.qual e.d.params e.d.body e.d.scope .none kV doc pm an cdv ct) e.ps fi
def DE.Bn (e : DE) : Prop := ∀ (kV doc pm : Value) (an : Option Addr) (cdv ct : Value) (us : List Value), us.length = e.ps.length → bindArgs (PySem.W.fnOf e.d.name e.d.qual e.d.params e.d.body e.d.scope .none kV doc pm an cdv ct) ⟨us, []⟩ = pure (e.ps.zip us)
structure Txt.Binds (τ : Txt) : Prop where
  fns : ∀ f ∈ τ.fns, f.2.1.Pt f.2.2
  mes : ∀ q ∈ τ.mes, q.2.2.1.Pt q.2.2.2
  xs : ∀ x ∈ τ.xs, x.e.Bn

section
variable {τ : Txt} {P : Program} {w : World} {K : PySem.W.Frag} {mg : Str → Option Value} {base h : Heap}
theorem fnt_of {e : DE} (hsc : e.scB = true) (F : ∃ fd, FunD K e.d.name e.d.qual e.d.params e.d.body e.d.scope (e.d.dvs K) (e.d.kws K) (He.fAd K e.d.at_) fd) :
    ∃ fd, FnT K (He.fAd K e.d.at_) fd e.N e.ps e.d.body e.d.scope ∧ PySem.W.keepIn K (.ref (He.fAd K e.d.at_)) = true ∧ ∃ kV doc pm an cdv ct, fd = PySem.W.fnOf e.d.name e.d.qual e.d.params e.d.body e.d.scope .none kV doc pm an cdv ct := by
  unfold DE.scB at hsc
  obtain ⟨hsc, h3⟩ := ba hsc
  obtain ⟨h1, h2⟩ := ba hsc
  obtain ⟨fd, F⟩ := F
  obtain ⟨oc, od, dV, kV, doc, pm, an, cdv, ct, osl, e1, lk, hcd, hD, hK⟩ := F.ex
  have ed : e.d.dvs K = [] := by
    unfold He.DefD.dvs
    rw [List.isEmpty_iff.mp h2]; rfl
  rcases hD with ⟨_, rfl⟩ | ⟨z, _⟩
  · exact ⟨fd, ⟨⟨_, _, _, _, _, _, _, _, _, _, _, _, _, lk, e1, hcd⟩, scB_ok h1⟩, F.kp, kV, doc, pm, an, cdv, ct, e1⟩
  · exact absurd ed z
theorem deft_of {e : DE} {fi : FnI} {T : Tab} (hok : e.ok T fi = true) (pt : e.Pt fi) (F : ∃ fd, FunD K e.d.name e.d.qual e.d.params e.d.body e.d.scope (e.d.dvs K) (e.d.kws K) (He.fAd K e.d.at_) fd) : DefT T K (He.fAd K e.d.at_) fi := by
  unfold DE.ok at hok
  obtain ⟨hok, h3⟩ := ba hok
  obtain ⟨h1, h2⟩ := ba hok
  obtain ⟨fd, F1, kp, kV, doc, pm, an, cdv, ct, e1⟩ := fnt_of h1 F
  refine ⟨fd, _, _, _, _, F1, ?_, dc h2, h3⟩
  rw [e1]
  exact pt kV doc pm an cdv ct
theorem text_ok {hc : CallF} (c1 : He.SaysD τ.fa τ.dl K) (c2 : τ.ex K = true) (hck : τ.ckAll hc = true) (hst : τ.stat = true) (hb : τ.Binds) (hK : K.In base) (hG : base.Ns mainGlobals mg) : TextOk (τ.tabC hc) (He.ga K) P w K mg base := by
  unfold Txt.ckAll at hck
  obtain ⟨hk1, hk2⟩ := ba hck
  unfold Txt.stat at hst
  obtain ⟨hst, s5⟩ := ba hst
  obtain ⟨hst, s4⟩ := ba hst
  obtain ⟨hst, s3⟩ := ba hst
  obtain ⟨s1, s2⟩ := ba hst
  unfold Txt.ex at c2
  obtain ⟨c2, x4⟩ := ba c2
  obtain ⟨c2, x3⟩ := ba c2
  obtain ⟨x1, x2⟩ := ba c2
  have fac : ∀ {f : He.Fa}, f ∈ τ.fa → f.ok K = true := fun hf => He.SaysD.facts c1 hf
  have any_mem : ∀ {l : List Str} {x : Str}, (l.any fun y => decide (y = x)) = true → x ∈ l := fun {l x} h => by
    obtain ⟨y, hy, e⟩ := List.any_eq_true.mp h
    rw [← dc e]; exact hy
  have xsin : ∀ {c : Str} {fs : List Str}, (τ.tabC hc).exf c = some fs → ∃ x ∈ τ.xs, x.c = c ∧ x.fs = fs := fun {c fs} h => by
    have := find1_mem h
    obtain ⟨x, hx, e⟩ := List.mem_map.mp this
    cases e
    exact ⟨x, hx, rfl, rfl⟩
  refine ⟨⟨fun x hx => ?_, fun c hc => ?_, fun x i hx => ?_, fun x n hx => ?_, fun c f hcf => ?_, fun c v b hb' => ?_, fun c d b h => ?_, Option.isSome_iff_exists.mp x3, fun c hc => ?_⟩, fun g fi hg => ?_, fun c m fi hm => ?_, fun c fi hm => ?_, fun c m fi p hm hp hl => ?_, fun c fs hf => ?_⟩
  · have := any_mem hx
    exact He.free_ok hK hG (fac (f := .free x) (fa_mem 2 rfl (List.mem_map.mpr ⟨_, this, rfl⟩)))
  · have := any_mem hc
    exact He.glo_ok hK hG (fac (f := .glo c) (fa_mem 1 rfl (List.mem_map.mpr ⟨_, this, rfl⟩)))
  · obtain ⟨q, hq, e⟩ := List.any_eq_true.mp hx
    obtain ⟨e1, e2⟩ := ba e
    have h1 := dc e1
    have h2 := dc e2
    subst h1; subst h2
    exact He.int_ok hK hG (fac (f := .int q.1 q.2) (fa_mem 3 rfl (List.mem_map.mpr ⟨_, hq, rfl⟩)))
  · obtain ⟨q, hq, e⟩ := List.any_eq_true.mp hx
    obtain ⟨e1, e2⟩ := ba e
    have h1 := dc e1
    have h2 := dc e2
    subst h1; subst h2
    exact PySem.W.mg_of hK hG (dc (List.all_eq_true.mp x4 _ hq))
  · obtain ⟨q, hq, e⟩ := List.any_eq_true.mp hcf
    obtain ⟨e1, e2⟩ := ba e
    have h1 := dc e1
    have h2 := dc e2
    subst h1; subst h2
    exact ⟨He.noat_ok (fac (f := .noat q.1 q.2) (fa_mem 4 rfl (List.mem_map.mpr ⟨_, hq, rfl⟩))),
      He.cls_ok (fac (f := .cls q.1) (fa_mem 5 rfl (List.mem_map.mpr ⟨_, hq, rfl⟩)))⟩
  · have hb2 : (ckOf v).bind (fun k => find2 τ.isc c k) = some b := hb'
    obtain ⟨k, hk, hb3⟩ := Option.bind_eq_some_iff.mp hb2
    have hm := find2_mem hb3
    have hx := List.all_eq_true.mp x1 _ hm
    obtain ⟨y1, y2⟩ := ba hx
    have cl : Cls K (He.ga K c) := He.cls_ok (fac (f := .cls c) (fa_mem 6 rfl (List.mem_map.mpr ⟨_, hm, rfl⟩)))
    refine ⟨tyB_ok cl y1, ?_⟩
    cases v <;> try (cases hk; done)
    · cases hk
      exact .inl ⟨_, rfl, dc y2⟩
    · cases hk
      exact .inr ⟨_, rfl, dc y2⟩
  · have hm := find2_mem h
    exact He.exm_ok (fac (f := .exm c d b) (fa_mem 7 rfl (List.mem_map.mpr ⟨_, hm, rfl⟩)))
  · obtain ⟨fs, hf⟩ := Option.isSome_iff_exists.mp hc
    obtain ⟨x, hx, rfl, rfl⟩ := xsin hf
    have h1 := List.all_eq_true.mp x2 x hx
    obtain ⟨h1, h2⟩ := ba h1
    refine ⟨xfB_ok h2, fun f hf => ?_⟩
    have := any_mem hf
    exact He.noat_ok (fac (f := .noat x.c f) (fa_mem 14 rfl (List.mem_flatMap.mpr ⟨_, hx, List.mem_map.mpr ⟨_, this, rfl⟩⟩)))
  · obtain ⟨q, hq, e⟩ := Option.map_eq_some_iff.mp (show (find1 τ.fns g).map (·.2) = some fi from hg)
    subst e
    have hm := find1_mem hq
    have hat := dc (List.all_eq_true.mp s1 _ hm)
    have F := He.SaysD.defs c1 (d := q.1.d) (by unfold Txt.dl; simp only [List.mem_append, List.mem_map]; exact .inl (.inl ⟨_, hm, rfl⟩))
    have D := deft_of (List.all_eq_true.mp hk1 _ hm) (hb.fns _ hm) F
    obtain ⟨fd, F⟩ := F
    have kp := F.kp
    have e : He.fAd K q.1.d.at_ = He.ga K g := by
      have hat' : q.1.d.at_ = (g, none) := hat
      rw [hat']; rfl
    rw [e] at D kp
    exact ⟨He.ga K g, He.glo_ok hK hG (fac (f := .glo g) (fa_mem 0 rfl (List.mem_map.mpr ⟨_, hm, rfl⟩))), kp, D⟩
  · obtain ⟨q, hq, e⟩ := Option.map_eq_some_iff.mp (show (find2 τ.mes c m).map (·.2) = some fi from hm)
    subst e
    have hm := find2_mem hq
    have hat := dc (List.all_eq_true.mp s2 _ hm)
    have F := He.SaysD.defs c1 (d := q.1.d) (by unfold Txt.dl; simp only [List.mem_append, List.mem_map]; exact .inl (.inr ⟨_, hm, rfl⟩))
    have D := deft_of (List.all_eq_true.mp hk2 _ hm) (hb.mes _ hm) F
    have e : He.fAd K q.1.d.at_ = He.ma K (He.ga K c) m := by
      have hat' : q.1.d.at_ = (c, some m) := hat
      rw [hat']; rfl
    rw [e] at D
    exact ⟨_, He.cls_ok (fac (f := .cls c) (fa_mem 8 rfl (List.mem_map.mpr ⟨_, hm, rfl⟩))), He.meth_ok (fac (f := .meth c m) (fa_mem 9 rfl (List.mem_map.mpr ⟨_, hm, rfl⟩))), D⟩
  · obtain ⟨q, hq, e⟩ := Option.map_eq_some_iff.mp (show (find2 τ.mes c "__init__").map (·.2) = some fi from hm)
    subst e
    have hm := find2_mem hq
    have hat := dc (List.all_eq_true.mp s2 _ hm)
    have F := He.SaysD.defs c1 (d := q.1.d) (by unfold Txt.dl; simp only [List.mem_append, List.mem_map]; exact .inl (.inr ⟨_, hm, rfl⟩))
    have D := deft_of (List.all_eq_true.mp hk2 _ hm) (hb.mes _ hm) F
    have e : He.fAd K q.1.d.at_ = He.ma K (He.ga K c) "__init__" := by
      have hat' : q.1.d.at_ = (c, some ("__init__" : Str)) := hat
      rw [hat']; rfl
    rw [e] at D
    exact ⟨_, He.mkr_ok (fac (f := .mkr c) (fa_mem 10 rfl (List.mem_map.mpr ⟨_, List.mem_filter.mpr ⟨hm, decide_eq_true rfl⟩, rfl⟩))), D⟩
  · obtain ⟨q, hq, e⟩ := Option.map_eq_some_iff.mp (show (find2 τ.mes c m).map (·.2) = some fi from hm)
    subst e
    have hm := find2_mem hq
    obtain ⟨r, hr, e⟩ := List.any_eq_true.mp hp
    obtain ⟨e1, e2⟩ := ba e
    have e0 := dc e1
    have h2 := dc e2
    subst h2
    have h3 : (if m = r.1 ∧ r.2.1 + r.2.2.1.length = q.2.np then decide (r.2 ∈ q.2.pats) else true) = true := List.all_eq_true.mp (List.all_eq_true.mp s5 _ hr) _ hm
    rw [if_pos ⟨e0.symm, hl⟩] at h3
    exact dc h3
  · obtain ⟨x, hx, rfl, rfl⟩ := xsin hf
    have h1 := List.all_eq_true.mp x2 x hx
    obtain ⟨h1, h2⟩ := ba h1
    obtain ⟨h3, h4⟩ := ba h1
    have z := List.all_eq_true.mp s3 x hx
    obtain ⟨z, z6⟩ := ba z
    obtain ⟨z, z5⟩ := ba z
    obtain ⟨z, z4⟩ := ba z
    obtain ⟨z, z3⟩ := ba z
    obtain ⟨z1, z2⟩ := ba z
    have F := He.SaysD.defs c1 (d := x.e.d) (by unfold Txt.dl; simp only [List.mem_append, List.mem_map]; exact .inr ⟨_, hx, rfl⟩)
    obtain ⟨fd, F1, kp, kV, doc, pm, an, cdv, ct, e1⟩ := fnt_of z1 F
    have e : He.fAd K x.e.d.at_ = He.ma K (He.ga K x.c) "__init__" := by
      rw [dc z2]; rfl
    rw [e] at F1
    have M := He.meth_ok (fac (f := .meth x.c "__init__") (fa_mem 11 rfl (List.mem_map.mpr ⟨_, hx, rfl⟩)))
    have hmg := He.glo_ok hK hG (fac (f := .glo x.g) (fa_mem 12 rfl (List.mem_map.mpr ⟨_, hx, rfl⟩)))
    refine ⟨_, fd, x.e.ps, ecB_ok h3, M.at_, beq_iff_eq.mp M.fn, fn_xinit F1 (dc z3) (ecB_ok h3) (fun f hf => He.noat_ok (fac (f := .noat x.c f) (fa_mem 13 rfl (List.mem_flatMap.mpr ⟨_, hx, List.mem_map.mpr ⟨_, hf, rfl⟩⟩)))) (dc z4) (dc z5) (xbB_ok h4) hmg z6, ?_⟩
    rw [e1]
    exact Binds.all (hb.xs x hx kV doc pm an cdv ct)
end
end Mi
end

section
/-! Mini, part 21: what is looked at behind the top. -/
namespace Mi
open PySem PySem.Spec PyProof.Rows L2

def seenB (n : Nat) (τ : Txt) (g : Addr → Option Obj) : He.AlD × Bool := (fun K => (He.obsD τ.fa τ.dl K, τ.ex K)) (He.frT g (sysModules :: cStatics :: He.asD g n))
def hookM (n : Nat) (τ : Txt) : PySem.W.Hook where
  α := He.AlD × Bool
  obs := fun s => seenB n τ s.heap.get?
  val := fun _ => (He.valD τ.dl, true)
  says := fun _ h => ∃ K : PySem.W.Frag, K.In h ∧ He.SaysD τ.fa τ.dl K ∧ τ.ex K = true
  of := fun _ s e => ⟨_, He.frT_in (as := sysModules :: cStatics :: He.asD s.heap.get? n), congrArg (fun z : He.AlD × Bool => z.1) e, congrArg (fun z : He.AlD × Bool => z.2) e⟩
  keeps := fun _ _ _ ⟨K, hK, c⟩ k => ⟨K, PySem.W.Frag.In.keeps hK k, c⟩
theorem seenB_eq {n : Nat} {τ : Txt} {g : Addr → Option Obj} {s : Shared} (h : ∀ a, g a = s.heap.get? a) : seenB n τ g = (hookM n τ).obs s := by
  have e : g = s.heap.get? := funext h
  rw [e] <;> rfl
end Mi
end

section
namespace Lw
open Mi
section
variable {T : Tab} {C : CallF} {me : Mi.Env} {h : MH}
/-- lazy forms: simp looks at the first part alone -/
abbrev Rb {α β : Type} (_ : α → MH → Res β) : Type := Res α
/-- (a result's type names what follows: simp then leaves what follows alone) -/
def bnd {α β : Type} (f : α → MH → Res β) (r : Rb f) : Res β := match r with
  | .ok a h => f a h
  | .exc c n h => .exc c n h
  | .stuck => .stuck
theorem q_b1 {α β : Type} {a : α} {h : MH} {f : α → MH → Res β} : bnd f (.ok a h) = f a h := (rfl)
theorem q_b2 {α β : Type} {c : PySem.Str} {n : Nat} {h : MH} {f : α → MH → Res β} : bnd f (.exc c n h) = .exc c n h := (rfl)
theorem q_b3 {α β : Type} {f : α → MH → Res β} : bnd f .stuck = .stuck := (rfl)
theorem q_mb {α β : Type} (x : M α) (f : α → M β) (h : MH) : M.bind x f h = bnd (fun a h => f a h) (x h) := by unfold M.bind bnd; cases x h <;> rfl
abbrev Rs (_ : Mi.Env → MH → SR) : Type := SR
def sqn (k : Mi.Env → MH → SR) (r : Rs k) : SR := match r with
  | .ok (.next me) h => k me h
  | x => x
theorem q_s1 {me : Mi.Env} {h : MH} {k : Mi.Env → MH → SR} : sqn k (.ok (.next me) h) = k me h := (rfl)
theorem q_s2 {v : Mi.MV} {h : MH} {k : Mi.Env → MH → SR} : sqn k (.ok (.ret v) h) = .ok (.ret v) h := (rfl)
theorem q_s3 {me : Mi.Env} {h : MH} {k : Mi.Env → MH → SR} : sqn k (.ok (.brk me) h) = .ok (.brk me) h := (rfl)
theorem q_s4 {me : Mi.Env} {h : MH} {k : Mi.Env → MH → SR} : sqn k (.ok (.cont me) h) = .ok (.cont me) h := (rfl)
theorem q_s5 {c : PySem.Str} {n : Nat} {me : Mi.Env} {h : MH} {k : Mi.Env → MH → SR} : sqn k (.exc c n me h) = .exc c n me h := (rfl)
abbrev Ro {α : Type} (_ : Mi.Env) (_ : α → MH → SR) : Type := Res α
def ofF {α : Type} (me : Mi.Env) (k : α → MH → SR) (r : Ro me k) : SR := SR.of me r k
theorem of_F {α : Type} {me : Mi.Env} {k : α → MH → SR} {r : Res α} : SR.of me r k = ofF me k r := (rfl)
theorem q_exb0 : exB T C .nil me h = .ok (.next me) h := by simp only [exB]
theorem q_exb1 (s : MS) (r : MSs) : exB T C (.cons s r) me h = sqn (fun me h => exB T C r me h) (exS T C s me h) := by
  simp only [exB]
  unfold sqn
  split <;> simp_all
theorem q_mp {α : Type} (a : α) (h : MH) : (M.pure a : M α) h = .ok a h := (rfl)
theorem q_mst {α : Type} (h : MH) : (M.stuck : M α) h = .stuck := (rfl)
theorem q_of1 {α : Type} {me : Mi.Env} {a : α} {h : MH} {k : α → MH → SR} : ofF me k (.ok a h) = k a h := (rfl)
theorem q_of2 {α : Type} {me : Mi.Env} {c : PySem.Str} {n : Nat} {h : MH} {k : α → MH → SR} : ofF me k (.exc c n h) = .exc c n me h := (rfl)
theorem q_of3 {α : Type} {me : Mi.Env} {k : α → MH → SR} : ofF me k .stuck = .stuck := (rfl)
theorem q_opt {α : Type} {a : α} : opt (some a) h = .ok a h := (rfl)
theorem q_non : evE T C me .non h = .ok .non h := by simp only [evE] <;> rfl
theorem q_bl (b : Bool) : evE T C me (.bl b) h = .ok (.bl b) h := by simp only [evE] <;> rfl
theorem q_int (i : Int) : evE T C me (.int i) h = .ok (.int i) h := by simp only [evE] <;> rfl
theorem q_str (x : PySem.Str) : evE T C me (.str x) h = .ok (.str x) h := by simp only [evE] <;> rfl
theorem q_var (i : Nat) : evE T C me (.var i) h = opt (me.sl[i]?.getD none) h := by simp only [evE]
theorem q_ty (n : String) : evE T C me (.ty n) h = .ok (.ty n) h := by simp only [evE] <;> rfl
theorem q_cls (n : PySem.Str) : evE T C me (.cls n) h = .ok (.cls n) h := by simp only [evE] <;> rfl
theorem q_gint (x : PySem.Str) (i : Int) : evE T C me (.gint x i) h = .ok (.int i) h := by simp only [evE] <;> rfl
theorem q_bin (op : Mi.BOp) (a b : ME) : evE T C me (.bin op a b) h = M.bind (evE T C me a) (fun x => M.bind (evE T C me b) fun y => binM op x y) h := by simp only [evE]
theorem q_neg (a : ME) : evE T C me (.neg a) h = M.bind (evE T C me a) (fun x => match x with | .int i => M.pure (.int (-i)) | _ => M.stuck) h := by simp only [evE] <;> rfl
theorem q_not (a : ME) : evE T C me (.notE a) h = M.bind (evE T C me a) (fun x => M.bind (boolM x) fun b => M.pure (.bl (!b))) h := by simp only [evE]
theorem q_cmp (op : Mi.COp) (a b : ME) : evE T C me (.cmp op a b) h = M.bind (evE T C me a) (fun x => M.bind (evE T C me b) fun y => cmpM op x y) h := by simp only [evE]
theorem q_chain (op op' : Mi.COp) (a b c : ME) : evE T C me (.chain op op' a b c) h = M.bind (evE T C me a) (fun x => M.bind (evE T C me b) fun y => M.bind (cmpM op x y) fun z => M.bind (boolM z) fun k => if k = true then M.bind (evE T C me c) fun w => cmpM op' y w else M.pure (.bl false)) h := by simp only [evE]
theorem q_and (a b : ME) : evE T C me (.and a b) h = M.bind (evE T C me a) (fun x => M.bind (boolM x) fun k => if k = true then evE T C me b else M.pure (.bl false)) h := by simp only [evE]
theorem q_or (a b : ME) : evE T C me (.or a b) h = M.bind (evE T C me a) (fun x => M.bind (boolM x) fun k => if k = true then M.pure (.bl true) else evE T C me b) h := by simp only [evE]
theorem q_ife (c a b : ME) : evE T C me (.ife c a b) h = M.bind (evT T C me c) (fun k => if k = true then evE T C me a else evE T C me b) h := by simp only [evE]
theorem q_sub (a i : ME) : evE T C me (.sub a i) h = M.bind (evE T C me a) (fun x => M.bind (evE T C me i) fun y => subM x y) h := by simp only [evE]
theorem q_slc (a : ME) (lo hi : MOp) : evE T C me (.slc a lo hi) h = M.bind (evE T C me a) (fun x => M.bind (evO T C me lo) fun l => M.bind (evO T C me hi) fun u => slcM x l u) h := by simp only [evE]
theorem q_rev (a : ME) : evE T C me (.rev a) h = M.bind (evE T C me a) (fun x => revM x) h := by simp only [evE]
theorem q_lsi (a : ME) (e : me.ex = none) : evE T C me (.lsi a) h = M.bind (evE T C me a) (fun x => lsiM x) h := by simp [evE, e]
theorem q_tup (es : MEs) : evE T C me (.tup es) h = M.bind (evEs T C me es) (fun vs => if vs.length ≤ PySem.sizeLine then M.pure (.tup vs) else M.stuck) h := by simp only [evE]
theorem q_lst (es : MEs) : evE T C me (.lst es) h = M.bind (evEs T C me es) (fun vs => newL vs) h := by simp only [evE]
theorem q_call (f : PySem.Str) (es : MEs) (ks : List PySem.Str) (kes : MEs) (pm : List Nat) (e : me.ex = none) : evE T C me (.call f es ks kes pm) h = M.bind (evEs T C me es) (fun vs => M.bind (evEs T C me kes) fun ws => callM T C f vs ws pm) h := by simp [evE, e]
theorem q_mk (c : PySem.Str) (es : MEs) (e : me.ex = none) : evE T C me (.mk c es) h = M.bind (evEs T C me es) (fun vs => mkM T C c vs) h := by simp [evE, e]
theorem q_bi (b : Mi.BI) (es : MEs) (e : me.ex = none) : evE T C me (.bi b es) h = M.bind (evEs T C me es) (fun vs => biM T b vs) h := by simp [evE, e]
theorem q_bih (b : Mi.BI) (es : MEs) (e : calmB b = false) : evE T C me (.bi b es) h = M.bind (evEs T C me es) (fun vs => biM T b vs) h := by simp [evE, e]
theorem q_app (o e : ME) : evE T C me (.app o e) h = M.bind (evE T C me o) (fun x => M.bind (isLst x) fun _ => M.bind (evE T C me e) fun v => appM x v) h := by simp only [evE]
theorem q_fld (o : ME) (f : PySem.Str) : evE T C me (.fld o f) h = M.bind (evE T C me o) (fun x => fldM T f x) h := by simp only [evE]
theorem q_meth (o : ME) (m : PySem.Str) (es : MEs) (ks : List PySem.Str) (kes : MEs) (pm : List Nat) (e : me.ex = none) : evE T C me (.meth o m es ks kes pm) h = M.bind (evE T C me o) (fun x => methM T m x fun fi => M.bind (evEs T C me es) fun vs => M.bind (evEs T C me kes) fun ws => match argsOf fi.np (x :: vs) ws pm with
    | some as => C fi as
    | none => M.stuck) h := by simp [evE, e] <;> rfl
theorem q_nil : evEs T C me .nil h = .ok [] h := by simp only [evEs] <;> rfl
theorem q_cons (e : ME) (es : MEs) : evEs T C me (.cons e es) h = M.bind (evE T C me e) (fun v => M.bind (evEs T C me es) fun vs => M.pure (v :: vs)) h := by simp only [evEs]
theorem q_tand (a b : ME) : evT T C me (.and a b) h = M.bind (evT T C me a) (fun k => if k = true then evT T C me b else M.pure false) h := by simp only [evT]
theorem q_tor (a b : ME) : evT T C me (.or a b) h = M.bind (evT T C me a) (fun k => if k = true then M.pure true else evT T C me b) h := by simp only [evT]
theorem q_tnot (a : ME) : evT T C me (.notE a) h = M.bind (evT T C me a) (fun k => M.pure (!k)) h := by simp only [evT]
theorem q_tbl (b : Bool) : evT T C me (.bl b) h = .ok b h := by simp only [evT] <;> rfl
theorem q_tvar (i : Nat) : evT T C me (.var i) h = M.bind (opt (me.sl[i]?.getD none)) boolM h := by simp only [evT]
theorem q_tcmp (op : Mi.COp) (a b : ME) : evT T C me (.cmp op a b) h = M.bind (evE T C me (.cmp op a b)) boolM h := by simp only [evT, evE]
theorem q_tchain (op op' : Mi.COp) (a b c : ME) : evT T C me (.chain op op' a b c) h = M.bind (evE T C me (.chain op op' a b c)) boolM h := by simp only [evT, evE]
theorem q_tsub (a i : ME) : evT T C me (.sub a i) h = M.bind (evE T C me (.sub a i)) boolM h := by simp only [evT, evE]
theorem q_tcall (f : PySem.Str) (es : MEs) (ks : List PySem.Str) (kes : MEs) (pm : List Nat) : evT T C me (.call f es ks kes pm) h = M.bind (evE T C me (.call f es ks kes pm)) boolM h := by simp only [evT, evE]
theorem q_tbi (b : Mi.BI) (es : MEs) : evT T C me (.bi b es) h = M.bind (evE T C me (.bi b es)) boolM h := by simp only [evT, evE]
theorem q_tmeth (o : ME) (m : PySem.Str) (es : MEs) (ks : List PySem.Str) (kes : MEs) (pm : List Nat) : evT T C me (.meth o m es ks kes pm) h = M.bind (evE T C me (.meth o m es ks kes pm)) boolM h := by simp only [evT, evE]
theorem q_bool (b : Bool) : boolM (.bl b) h = .ok b h := (rfl)
theorem q_callM {f : PySem.Str} {fi : FnI} {vs ws as : List Mi.MV} {pm : List Nat} (e : T.fn f = some fi) (e2 : argsOf fi.np vs ws pm = some as) : callM T C f vs ws pm h = C fi as h := by unfold callM; rw [e]; simp only [e2]
/-! ### operators -/
theorem o_add (i j : Int) : binM .add (.int i) (.int j) h = .ok (.int (i + j)) h := (rfl)
theorem o_sub (i j : Int) : binM .sub (.int i) (.int j) h = .ok (.int (i - j)) h := (rfl)
theorem o_mul (i j : Int) (e : small i ∨ small j) : binM .mul (.int i) (.int j) h = .ok (.int (i * j)) h := by
  show (if small i ∨ small j ∨ i.natAbs.log2 + j.natAbs.log2 < 1000000 then M.pure (.int (i * j)) else M.stuck : M Mi.MV) h = _
  rw [if_pos (by rcases e with e | e <;> simp [e])]; rfl
theorem o_fdiv (i j : Int) (e : 0 < j) (e2 : j.natAbs.log2 < 9000) : binM .fdiv (.int i) (.int j) h = .ok (.int (i / j)) h := by
  show (if 0 < j ∧ j.natAbs.log2 < 9000 then M.pure (.int (i / j)) else M.stuck : M Mi.MV) h = _
  rw [if_pos ⟨e, e2⟩]; rfl
theorem o_mod (i j : Int) (e : 0 < j) : binM .mod (.int i) (.int j) h = .ok (.int (i % j)) h := by
  show (if 0 < j then M.pure (.int (i % j)) else M.stuck : M Mi.MV) h = _
  rw [if_pos e]; rfl
theorem o_pow (i j : Int) (e : 0 ≤ j ∧ j ≤ 1000000) (e2 : i.natAbs < 18446744073709551616) : binM .pow (.int i) (.int j) h = .ok (.int (i ^ j.toNat)) h := by
  show (if 0 ≤ j ∧ j ≤ 1000000 ∧ i.natAbs < 2 ^ 64 then M.pure (.int (i ^ j.toNat)) else M.stuck : M Mi.MV) h = _
  rw [if_pos ⟨e.1, e.2, e2⟩]; rfl
theorem c_eqi (i j : Int) : cmpM .eq (.int i) (.int j) h = .ok (.bl (decide (i = j))) h := (rfl)
theorem c_nei (i j : Int) : cmpM .ne (.int i) (.int j) h = .ok (.bl (!decide (i = j))) h := (rfl)
theorem c_eqs (i j : PySem.Str) : cmpM .eq (.str i) (.str j) h = .ok (.bl (decide (i = j))) h := (rfl)
theorem c_nes (i j : PySem.Str) : cmpM .ne (.str i) (.str j) h = .ok (.bl (!decide (i = j))) h := (rfl)
theorem c_lt (i j : Int) : cmpM .lt (.int i) (.int j) h = .ok (.bl (decide (i < j))) h := (rfl)
theorem c_le (i j : Int) : cmpM .le (.int i) (.int j) h = .ok (.bl (decide (i ≤ j))) h := (rfl)
theorem c_gt (i j : Int) : cmpM .gt (.int i) (.int j) h = .ok (.bl (decide (j < i))) h := (rfl)
theorem c_ge (i j : Int) : cmpM .ge (.int i) (.int j) h = .ok (.bl (decide (j ≤ i))) h := (rfl)
def isNon : Mi.MV → Bool
  | .non => true
  | _ => false
theorem c_isn (v : Mi.MV) : cmpM .isN v .non h = .ok (.bl (isNon v)) h := by cases v <;> rfl
theorem c_notn (v : Mi.MV) : cmpM .notN v .non h = .ok (.bl (!isNon v)) h := by cases v <;> rfl
theorem isNon_n : isNon .non = true := (rfl)
theorem isNon_i (i : Int) : isNon (.int i) = false := (rfl)
/-! ### statements -/
theorem t_ret (e : ME) : exS T C (.ret e) me h = ofF me (fun v h => .ok (.ret v) h) (evE T C me e h) := by simp only [exS] <;> rfl
theorem t_expr (e : ME) : exS T C (.expr e) me h = ofF me (fun _ h => .ok (.next me) h) (evE T C me e h) := by simp only [exS] <;> rfl
theorem t_asg (i : Nat) (e : ME) (hx : me.ex = none) : exS T C (.asg (.nm i) e) me h = ofF me (fun v h => .ok (.next (me.set i v)) h) (evE T C me e h) := by
  rw [← of_F]
  simp [exS, MT.hot, asgM, hx]; rfl
theorem t_ifs (c : ME) (a b : MSs) : exS T C (.ifs c a b) me h = ofF me (fun k h => if k = true then exB T C a me h else exB T C b me h) (evT T C me c h) := by simp only [exS] <;> rfl
end
/-! ### a wish at a result -/
/-- (the result's type names the wish: simp then leaves the wish alone) -/
abbrev Rz {α : Type} (_ : α → MH → Prop) (_ : PySem.Str → Nat → MH → Prop) : Type := Res α
def Wr {α : Type} (Q : α → MH → Prop) (E : PySem.Str → Nat → MH → Prop) (r : Rz Q E) : Prop := match r with
  | .ok a h => Q a h
  | .exc c n h => E c n h
  | .stuck => False
/-- wishes at the ends of a statement -/
structure Po where
  nx : Mi.Env → MH → Prop
  rt : Mi.MV → MH → Prop
  br : Mi.Env → MH → Prop
  ct : Mi.Env → MH → Prop
  ex : PySem.Str → Nat → Mi.Env → MH → Prop
def Po.wn (P : Po) (f : Mi.Env → MH → Prop) : Po := ⟨f, P.rt, P.br, P.ct, P.ex⟩
def Po.wx (P : Po) (f : PySem.Str → Nat → Mi.Env → MH → Prop) : Po := ⟨P.nx, P.rt, P.br, P.ct, f⟩
/-- a loop's turn -/
def Po.wl (P : Po) (f : Mi.Env → MH → Prop) : Po := ⟨f, P.rt, P.nx, f, P.ex⟩
/-- an except suite's -/
def Po.wh (P : Po) (i : Nat) : Po := ⟨fun me h => P.nx { sl := me.sl.set i none, ex := none } h, P.rt, fun me h => P.br { sl := me.sl.set i none, ex := none } h, fun me h => P.ct { sl := me.sl.set i none, ex := none } h, fun _ _ _ _ => False⟩
/-- a def's -/
def Po.fn (Q : Mi.MV → MH → Prop) (E : PySem.Str → Nat → MH → Prop) : Po := ⟨fun _ h => Q .non h, Q, fun _ _ => False, fun _ _ => False, fun c n _ h => E c n h⟩
abbrev Sz (_ : Po) : Type := SR
def Wt (P : Po) (r : Sz P) : Prop := match r with
  | .ok (.next me) h => P.nx me h
  | .ok (.ret v) h => P.rt v h
  | .ok (.brk me) h => P.br me h
  | .ok (.cont me) h => P.ct me h
  | .exc c n me h => P.ex c n me h
  | .stuck => False
/-- one way or the other -/
abbrev Bz {β : Sort _} (_ _ : β) : Type := Bool
def cnd {β : Sort _} (a b : β) (k : Bz a b) : β := if k = true then a else b
theorem x_ct {β : Sort _} {a b : β} : cnd a b true = a := (rfl)
theorem x_cf {β : Sort _} {a b : β} : cnd a b false = b := (rfl)
theorem cnd_w {p : Prop} {k : Bool} {a b : Prop} (ek : k = true ↔ p) (h1 : p → a) (h2 : ¬ p → b) : cnd a b k := by
  cases k with
  | true => exact h1 (ek.mp rfl)
  | false => exact h2 (fun z => by have := ek.mpr z; simp at this)
theorem cnd_d {p : Prop} [Decidable p] {a b : Prop} (h1 : p → a) (h2 : ¬ p → b) : cnd a b (decide p) := cnd_w (by simp) h1 h2
theorem cnd_dn {p : Prop} [Decidable p] {a b : Prop} (h1 : ¬ p → a) (h2 : p → b) : cnd a b (!decide p) := cnd_w (p := ¬ p) (by simp) h1 (fun z => h2 (Decidable.not_not.mp z))
theorem cnd_b {k : Bool} {a b : Prop} (h1 : k = true → a) (h2 : k = false → b) : cnd a b k := by cases k with | true => exact h1 rfl | false => exact h2 rfl
section
variable {α β : Type} {Q : α → MH → Prop} {E : PySem.Str → Nat → MH → Prop} {P : Po} {T : Tab} {C : CallF} {me : Mi.Env} {h : MH}
theorem y_ok {a : α} : Wr Q E (.ok a h) = Q a h := (rfl)
theorem y_exc {c : PySem.Str} {n : Nat} : Wr Q E (.exc c n h) = E c n h := (rfl)
theorem y_bind {x : M β} {f : β → M α} : Wr Q E (M.bind x f h) = Wr (fun b h => Wr Q E (f b h)) E (x h) := by unfold M.bind Wr; cases x h <;> rfl
theorem y_bnd {x : Res β} {f : β → MH → Res α} : Wr Q E (bnd f x) = Wr (fun b h => Wr Q E (f b h)) E x := by unfold bnd Wr; cases x <;> rfl
theorem y_cnd {k : Bool} {a b : M α} : Wr Q E (cnd a b k h) = cnd (Wr Q E (a h)) (Wr Q E (b h)) k := by cases k <;> rfl
theorem y_cndt {k : Bool} {a b : SR} : Wt P (cnd a b k) = cnd (Wt P a) (Wt P b) k := by cases k <;> rfl
theorem z_nx {me : Mi.Env} : Wt P (.ok (.next me) h) = P.nx me h := (rfl)
theorem z_rt {v : Mi.MV} : Wt P (.ok (.ret v) h) = P.rt v h := (rfl)
theorem z_br {me : Mi.Env} : Wt P (.ok (.brk me) h) = P.br me h := (rfl)
theorem z_ct {me : Mi.Env} : Wt P (.ok (.cont me) h) = P.ct me h := (rfl)
theorem z_ex {c : PySem.Str} {n : Nat} {me : Mi.Env} : Wt P (.exc c n me h) = P.ex c n me h := (rfl)
theorem z_ofs {r : Res α} {k : α → MH → SR} : Wt P (SR.of me r k) = Wr (fun a h => Wt P (k a h)) (fun c n h => P.ex c n me h) r := by unfold SR.of Wr Wt; cases r <;> rfl
theorem z_of {r : Res α} {k : α → MH → SR} : Wt P (ofF me k r) = Wr (fun a h => Wt P (k a h)) (fun c n h => P.ex c n me h) r := z_ofs
theorem z_sqn {r : SR} {k : Mi.Env → MH → SR} : Wt P (sqn k r) = Wt (P.wn fun me h => Wt P (k me h)) r := by
  unfold sqn Wt Po.wn
  cases r with
  | ok f h => cases f <;> rfl
  | exc => rfl
  | stuck => rfl
theorem z_exb0 : Wt P (exB T C .nil me h) = P.nx me h := by rw [q_exb0]; rfl
theorem z_exb1 {s : MS} {r : MSs} : Wt P (exB T C (.cons s r) me h) = Wt (P.wn fun me h => Wt P (exB T C r me h)) (exS T C s me h) := by rw [q_exb1, z_sqn]
theorem z_wnwn {P : Po} {f g : Mi.Env → MH → Prop} : (P.wn f).wn g = P.wn g := (rfl)
theorem z_wnnx {P : Po} {f : Mi.Env → MH → Prop} : (P.wn f).nx = f := (rfl)
theorem z_wnrt {P : Po} {f : Mi.Env → MH → Prop} : (P.wn f).rt = P.rt := (rfl)
theorem z_wnbr {P : Po} {f : Mi.Env → MH → Prop} : (P.wn f).br = P.br := (rfl)
theorem z_wnct {P : Po} {f : Mi.Env → MH → Prop} : (P.wn f).ct = P.ct := (rfl)
theorem z_wnex {P : Po} {f : Mi.Env → MH → Prop} : (P.wn f).ex = P.ex := (rfl)
theorem z_wxnx {P : Po} {f : PySem.Str → Nat → Mi.Env → MH → Prop} : (P.wx f).nx = P.nx := (rfl)
theorem z_wxrt {P : Po} {f : PySem.Str → Nat → Mi.Env → MH → Prop} : (P.wx f).rt = P.rt := (rfl)
theorem z_wxbr {P : Po} {f : PySem.Str → Nat → Mi.Env → MH → Prop} : (P.wx f).br = P.br := (rfl)
theorem z_wxct {P : Po} {f : PySem.Str → Nat → Mi.Env → MH → Prop} : (P.wx f).ct = P.ct := (rfl)
theorem z_wxex {P : Po} {f : PySem.Str → Nat → Mi.Env → MH → Prop} : (P.wx f).ex = f := (rfl)
theorem z_wlnx {P : Po} {f : Mi.Env → MH → Prop} : (P.wl f).nx = f := (rfl)
theorem z_wlrt {P : Po} {f : Mi.Env → MH → Prop} : (P.wl f).rt = P.rt := (rfl)
theorem z_wlbr {P : Po} {f : Mi.Env → MH → Prop} : (P.wl f).br = P.nx := (rfl)
theorem z_wlct {P : Po} {f : Mi.Env → MH → Prop} : (P.wl f).ct = f := (rfl)
theorem z_wlex {P : Po} {f : Mi.Env → MH → Prop} : (P.wl f).ex = P.ex := (rfl)
theorem z_fnnx {Q : Mi.MV → MH → Prop} {E : PySem.Str → Nat → MH → Prop} : (Po.fn Q E).nx = fun _ h => Q .non h := (rfl)
theorem z_fnrt {Q : Mi.MV → MH → Prop} {E : PySem.Str → Nat → MH → Prop} : (Po.fn Q E).rt = Q := (rfl)
theorem z_fnex {Q : Mi.MV → MH → Prop} {E : PySem.Str → Nat → MH → Prop} : (Po.fn Q E).ex = fun c n _ h => E c n h := (rfl)
/-! ### statements under a wish -/
theorem z_pass : Wt P (exS T C .pass me h) = P.nx me h := by simp only [exS] <;> rfl
theorem z_ret (e : ME) : Wt P (exS T C (.ret e) me h) = Wr (fun v h => P.rt v h) (fun c n h => P.ex c n me h) (evE T C me e h) := by rw [t_ret, z_of]; rfl
theorem z_retN : Wt P (exS T C .retN me h) = P.rt .non h := by simp only [exS] <;> rfl
theorem z_expr (e : ME) : Wt P (exS T C (.expr e) me h) = Wr (fun _ h => P.nx me h) (fun c n h => P.ex c n me h) (evE T C me e h) := by rw [t_expr, z_of]; rfl
theorem z_asg (i : Nat) (e : ME) (hx : me.ex = none) : Wt P (exS T C (.asg (.nm i) e) me h) = Wr (fun v h => P.nx (me.set i v) h) (fun c n h => P.ex c n me h) (evE T C me e h) := by rw [t_asg i e hx, z_of]; rfl
theorem z_asgsw (is : List Nat) (e : ME) (hx : me.ex = none) : Wt P (exS T C (.asg (.sw is) e) me h) = Wr (fun v h => Wr (fun me' h => P.nx me' h) (fun c n h => P.ex c n me h) (asgM T C me v (.sw is) h)) (fun c n h => P.ex c n me h) (evE T C me e h) := by
  have : exS T C (.asg (.sw is) e) me h = SR.of me (evE T C me e h) fun v h => SR.of me (asgM T C me v (.sw is) h) fun me' h => .ok (.next me') h := by simp [exS, MT.hot, hx]
  rw [this, z_ofs]
  congr 1; funext v h; rw [z_ofs]; rfl
theorem z_asgtp (is : List Nat) (e : ME) (hx : me.ex = none) : Wt P (exS T C (.asg (.tp is) e) me h) = Wr (fun v h => Wr (fun me' h => P.nx me' h) (fun c n h => P.ex c n me h) (setTL me v is h)) (fun c n h => P.ex c n me h) (evE T C me e h) := by
  have : exS T C (.asg (.tp is) e) me h = SR.of me (evE T C me e h) fun v h => SR.of me (setTL me v is h) fun me' h => .ok (.next me') h := by simp [exS, MT.hot, asgM, hx]
  rw [this, z_ofs]
  congr 1; funext v h; rw [z_ofs]; rfl
theorem z_asgsub (o i e : ME) : Wt P (exS T C (.asg (.sub o i) e) me h) = Wr (fun v h => Wr (fun x h => Wr (fun y h => Wr (fun _ h => P.nx me h) (fun c n h => P.ex c n me h) (setSubM x y v h)) (fun c n h => P.ex c n me h) (evE T C me i h)) (fun c n h => P.ex c n me h) (evE T C me o h)) (fun c n h => P.ex c n me h) (evE T C me e h) := by
  have : exS T C (.asg (.sub o i) e) me h = SR.of me (evE T C me e h) fun v h => SR.of me (M.bind (evE T C me o) (fun x => M.bind (evE T C me i) fun y => M.bind (setSubM x y v) fun _ => M.pure me) h) fun me' h => .ok (.next me') h := by simp [exS, MT.hot, asgM]
  rw [this, z_ofs]
  congr 1; funext v h; rw [z_ofs, y_bind]
  congr 1; funext x h; rw [y_bind]
  congr 1; funext y h; rw [y_bind]; rfl
theorem z_asgfld (o e : ME) (f : PySem.Str) : Wt P (exS T C (.asg (.fld o f) e) me h) = Wr (fun v h => Wr (fun x h => Wr (fun _ h => P.nx me h) (fun c n h => P.ex c n me h) (setFldM T f x v h)) (fun c n h => P.ex c n me h) (evE T C me o h)) (fun c n h => P.ex c n me h) (evE T C me e h) := by
  have : exS T C (.asg (.fld o f) e) me h = SR.of me (evE T C me e h) fun v h => SR.of me (M.bind (evE T C me o) (fun x => M.bind (setFldM T f x v) fun _ => M.pure me) h) fun me' h => .ok (.next me') h := by simp [exS, MT.hot, asgM]
  rw [this, z_ofs]
  congr 1; funext v h; rw [z_ofs, y_bind]
  congr 1; funext x h; rw [y_bind]; rfl
theorem z_ifs (c : ME) (a b : MSs) : Wt P (exS T C (.ifs c a b) me h) = Wr (fun k h => cnd (Wt P (exB T C a me h)) (Wt P (exB T C b me h)) k) (fun c n h => P.ex c n me h) (evT T C me c h) := by
  rw [t_ifs, z_of]
  congr 1; funext k h; cases k <;> rfl
def stepF (T : Tab) (C : CallF) (t : CT) (b : MSs) : Mi.MV → Mi.Env → MH → SR := fun v me h => match setT h me v t with
  | some me' => exB T C b me' h
  | none => .stuck
theorem z_fors (t : CT) (it : MI) (b : MSs) (e : me.ex = none) : Wt P (exS T C (.fors t it b) me h) = Wr (fun J h => Wt P (forL (stepF T C t b) J (J.size h) 0 me h)) (fun c n h => P.ex c n me h) (evI T C me it h) := by
  have hx : ¬ (me.ex.isSome = true) := by rw [e]; simp
  have : exS T C (.fors t it b) me h = SR.of me (evI T C me it h) fun J h => forL (stepF T C t b) J (J.size h) 0 me h := by
    unfold exS
    rw [if_neg hx]
    rfl
  rw [this, z_ofs]
theorem z_brk : Wt P (exS T C .brk me h) = P.br me h := by simp only [exS] <;> rfl
theorem z_cont : Wt P (exS T C .cont me h) = P.ct me h := by simp only [exS] <;> rfl
theorem z_raise (c : PySem.Str) (es : MEs) (fs : List PySem.Str) (e : me.ex = none) (hf : T.exf c = some fs) (hn : fs ≠ []) : Wt P (exS T C (.raise c es) me h) = Wr (fun vs h => fs.length = vs.length ∧ P.ex c h.next me (h.new (.exc c (fs.zip vs).reverse))) (fun c n h => P.ex c n me h) (evEs T C me es h) := by
  have hx : ¬ (me.ex.isSome = true) := by rw [e]; simp
  unfold exS
  rw [if_neg hx, z_ofs]
  congr 1; funext vs h
  simp only [hf]
  by_cases hl : fs.length = vs.length
  · rw [if_pos ⟨hl, hn⟩]; simp [hl, z_ex]
  · rw [if_neg (fun z => hl z.1)]; simp [hl, Wt]
theorem z_trys (b : MSs) (hs : MHs) (e : me.ex = none) : Wt P (exS T C (.trys b hs) me h) = Wt (P.wx fun c n me h => Wt P (exH T hs c n me h)) (exB T C b me h) := by
  have hx : ¬ (me.ex.isSome = true) := by rw [e]; simp
  unfold exS
  rw [if_neg hx]
  cases exB T C b me h with
  | ok f h => cases f <;> rfl
  | exc => rfl
  | stuck => rfl
theorem z_h1 {c c' : PySem.Str} {i n : Nat} {b : MSs} {r : MHs} (hs : T.sub c c' = some true) (hf : (T.exf c).isSome = true) (hi : i < me.sl.length) (H : Wt (P.wh i) (exB T T.hc b { sl := me.sl.set i none, ex := some (i, n) } h)) : Wt P (exH T (.cons c' i b r) c n me h) := by
  unfold exH
  simp only [hs]
  rw [if_pos ⟨hf, hi⟩]
  revert H
  cases exB T T.hc b { sl := me.sl.set i none, ex := some (i, n) } h with
  | ok f h => cases f <;> exact id
  | exc => exact False.elim
  | stuck => exact id
theorem z_h2 {c c' : PySem.Str} {i n : Nat} {b : MSs} {r : MHs} (hs : T.sub c c' = some false) : Wt P (exH T (.cons c' i b r) c n me h) = Wt P (exH T r c n me h) := by
  conv => lhs; unfold exH
  simp only [hs]
/-- a loop by an invariant -/
theorem forL_w {step : Mi.MV → Mi.Env → MH → SR} {it : Mi.It} {N : Nat} (items : Nat → Mi.MV) (I : Nat → Mi.Env → MH → Prop) (hat : ∀ i me h, I i me h → i < N → it.at h i = some (some (items i))) (hend : ∀ me h, I N me h → it.at h N = some none)
    (hst : ∀ i me h, i < N → I i me h → Wt (P.wl (I (i + 1))) (step (items i) me h)) (hnx : ∀ me h, I N me h → P.nx me h) : ∀ (k i : Nat) (me : Mi.Env) (h : MH), i + k = N → I i me h → Wt P (forL step it k i me h)
  | 0, i, me, h, hk, p => by
    have hi : i = N := by omega
    subst hi
    unfold forL
    rw [hend me h p]
    exact hnx me h p
  | k + 1, i, me, h, hk, p => by
    have hi : i < N := by omega
    have s := hst i me h hi p
    unfold forL
    rw [hat i me h p hi]
    simp only
    revert s
    cases step (items i) me h with
    | ok f h' =>
      cases f with
      | next me' => exact fun s => forL_w items I hat hend hst hnx k (i + 1) me' h' (by omega) s
      | cont me' => exact fun s => forL_w items I hat hend hst hnx k (i + 1) me' h' (by omega) s
      | brk me' => exact id
      | ret v => exact id
    | exc => exact id
    | stuck => exact id
/-- one turn of a loop, told -/
theorem forL_1 {step : Mi.MV → Mi.Env → MH → SR} {it : Mi.It} {k i : Nat} {v : Mi.MV} (hat : it.at h i = some (some v)) (H : Wt (P.wl fun me h => Wt P (forL step it k (i + 1) me h)) (step v me h)) : Wt P (forL step it (k + 1) i me h) := by
  unfold forL
  rw [hat]
  simp only
  revert H
  cases step v me h with
  | ok f h' => cases f <;> exact id
  | exc => exact id
  | stuck => exact id
theorem forL_0 {step : Mi.MV → Mi.Env → MH → SR} {it : Mi.It} {i : Nat} (hat : it.at h i = some none) : Wt P (forL step it 0 i me h) = P.nx me h := by
  unfold forL
  rw [hat]; rfl
/-- a def's run -/
theorem run_w {n : Nat} {fi : FnI} {vs : List Mi.MV} {Q : Mi.MV → MH → Prop} {E : PySem.Str → Nat → MH → Prop} (me : Mi.Env) (b : MSs) (hl : vs.length = fi.np) (hm : ({ sl := vs.map some ++ List.replicate (fi.ns - fi.np) none, ex := none } : Mi.Env) = me) (hb : fi.body = b)
    (H : Wt (Po.fn Q E) (exB T (Mi.run T n) b me h)) : Wr Q E (Mi.run T (n+1) fi vs h) := by
  subst hm hb
  unfold Mi.run
  rw [if_pos hl]
  revert H
  cases exB T (Mi.run T n) fi.body { sl := vs.map some ++ List.replicate (fi.ns - fi.np) none, ex := none } h with
  | ok f h => cases f <;> first | exact id | exact False.elim
  | exc => exact id
  | stuck => exact id
/-! ### what is known of a result -/
def Sp (r : Res α) (Φ : α → MH → Prop) : Prop := ∃ a h', r = .ok a h' ∧ Φ a h'
theorem Wr_of {r : Res α} {Φ : α → MH → Prop} (s : Sp r Φ) (H : ∀ a h', Φ a h' → Q a h') : Wr Q E r := by
  obtain ⟨a, h', e, p⟩ := s
  rw [e]; exact H a h' p
theorem Sp_of {r : Res α} {Φ : α → MH → Prop} (H : Wr Φ (fun _ _ _ => False) r) : Sp r Φ := by
  revert H
  unfold Wr Sp
  cases r with
  | ok a h => exact fun H => ⟨a, h, rfl, H⟩
  | exc => exact False.elim
  | stuck => exact False.elim
theorem Wr_eq {r r' : Res α} (e : r = r') (H : Wr Q E r') : Wr Q E r := e ▸ H
end
theorem Wt_mono {P P' : Po} {r : SR} (w : Wt P r) (hn : ∀ me h, P.nx me h → P'.nx me h) (hr : ∀ v h, P.rt v h → P'.rt v h) (hb : ∀ me h, P.br me h → P'.br me h) (hc : ∀ me h, P.ct me h → P'.ct me h) (hx : ∀ c n me h, P.ex c n me h → P'.ex c n me h) : Wt P' r := by
  revert w
  unfold Wt
  cases r with
  | ok f h => cases f <;> first | exact hn _ _ | exact hr _ _ | exact hb _ _ | exact hc _ _
  | exc => exact hx _ _ _ _
  | stuck => exact id
theorem Wt_j {P : Po} {k J : Mi.Env → MH → Prop} {r : SR} (w : Wt (P.wn J) r) (H : ∀ me h, J me h → k me h) : Wt (P.wn k) r := Wt_mono w H (fun _ _ => id) (fun _ _ => id) (fun _ _ => id) (fun _ _ _ _ => id)
/-- two ways that meet -/
theorem join_b {P : Po} {k : Mi.Env → MH → Prop} {c : Bool} {ra rb : SR} (J : Mi.Env → MH → Prop) (H1 : c = true → Wt (P.wn J) ra) (H2 : c = false → Wt (P.wn J) rb) (H : ∀ me h, J me h → k me h) : cnd (Wt (P.wn k) ra) (Wt (P.wn k) rb) c :=
  cnd_b (fun e => Wt_j (H1 e) H) (fun e => Wt_j (H2 e) H)
theorem join_d {P : Po} {k : Mi.Env → MH → Prop} {p : Prop} [Decidable p] {ra rb : SR} (J : Mi.Env → MH → Prop) (H1 : p → Wt (P.wn J) ra) (H2 : ¬ p → Wt (P.wn J) rb) (H : ∀ me h, J me h → k me h) : cnd (Wt (P.wn k) ra) (Wt (P.wn k) rb) (decide p) :=
  cnd_d (fun e => Wt_j (H1 e) H) (fun e => Wt_j (H2 e) H)
theorem join_dn {P : Po} {k : Mi.Env → MH → Prop} {p : Prop} [Decidable p] {ra rb : SR} (J : Mi.Env → MH → Prop) (H1 : ¬ p → Wt (P.wn J) ra) (H2 : p → Wt (P.wn J) rb) (H : ∀ me h, J me h → k me h) : cnd (Wt (P.wn k) ra) (Wt (P.wn k) rb) (!decide p) :=
  cnd_dn (fun e => Wt_j (H1 e) H) (fun e => Wt_j (H2 e) H)
theorem x_callM {T : Tab} {C : CallF} {h : MH} {f : PySem.Str} {fi : FnI} {vs ws as : List Mi.MV} {pm : List Nat} (e : T.fn f = some fi) (e2 : argsOf fi.np vs ws pm = some as) : callM T C f vs ws pm h = C fi as h := q_callM e e2
theorem x_methM {T : Tab} {m : PySem.Str} {r : Nat} {k : FnI → M Mi.MV} {h : MH} {c : PySem.Str} {fs : List (PySem.Str × Mi.MV)} {fi : FnI} (e : h.get r = some (.ins c fs)) (e1 : fs.lookup m = none) (e2 : T.me c m = some fi) : methM T m (.ref r) k h = k fi h := by
  unfold methM
  simp only [e, e1, e2]
theorem x_newL {h : MH} {xs : List Mi.MV} (hz : xs.length ≤ 16777216) : newL xs h = .ok (.ref h.next) (h.new (.lst xs)) := by
  unfold newL
  rw [if_pos (by rw [PySem.sizeLine_eq]; exact hz)]
end Lw
end

section
namespace Lw
open Mi
open PySem (PyData)
/-! ### frames -/
/-- all that stood stays, but what S names -/
structure Fr (S : List Nat) (h h' : MH) : Prop where
  nx : h.next ≤ h'.next
  st : ∀ m, m < h.next → m ∉ S → h'.get m = h.get m
section
variable {S S' : List Nat} {h h1 h2 h' : MH} {o : MO}
theorem Fr.refl : Fr S h h := ⟨Nat.le_refl _, fun _ _ _ => rfl⟩
theorem Fr.trans (a : Fr S h h1) (c : Fr S h1 h2) : Fr S h h2 := ⟨Nat.le_trans a.nx c.nx, fun m l n => (c.st m (Nat.lt_of_lt_of_le l a.nx) n).trans (a.st m l n)⟩
theorem Fr.comp (a : Fr S h h1) (c : Fr S' h1 h2) (hs : ∀ m ∈ S', m ∈ S ∨ h.next ≤ m) : Fr S h h2 := ⟨Nat.le_trans a.nx c.nx, fun m l n => (c.st m (Nat.lt_of_lt_of_le l a.nx) (fun z => (hs m z).elim n (fun q => Nat.lt_irrefl _ (Nat.lt_of_lt_of_le l q)))).trans (a.st m l n)⟩
theorem Fr.mono (a : Fr S h h1) (hs : ∀ m ∈ S, m ∈ S' ∨ h.next ≤ m) : Fr S' h h1 := ⟨a.nx, fun m l n => a.st m l (fun z => (hs m z).elim n (fun q => Nat.lt_irrefl _ (Nat.lt_of_lt_of_le l q)))⟩
theorem Fr.new : Fr S h (h.new o) := ⟨Nat.le_succ _, fun m l _ => MH.new_ne (by omega)⟩
theorem Fr.put {n : Nat} (i : n ∈ S) : Fr S h (h.put n o) := ⟨Nat.le_refl _, fun m _ s => MH.put_ne (fun z => s (z ▸ i))⟩
theorem Fr.putnew {n : Nat} (i : h.next ≤ n) : Fr S h (h.put n o) := ⟨Nat.le_refl _, fun m l s => MH.put_ne (by omega)⟩
/-- an object that stands -/
structure At (h : MH) (n : Nat) (o : MO) : Prop where
  lt : n < h.next
  get : h.get n = some o
theorem At.fr {n : Nat} (a : At h n o) (f : Fr S h h') (s : n ∉ S) : At h' n o := ⟨Nat.lt_of_lt_of_le a.lt f.nx, (f.st n a.lt s).trans a.get⟩
theorem At.new : At (h.new o) h.next o := ⟨Nat.lt_succ_self _, MH.new_same⟩
theorem At.put {n : Nat} (l : n < h.next) : At (h.put n o) n o := ⟨l, MH.put_same⟩
end
/-! ### data, apart from the objects S -/
mutual
inductive V (S : List Nat) (h : MH) : Mi.MV → PyData → Prop
  | non : V S h .non .none
  | bl (b : Bool) : V S h (.bl b) (.bool b)
  | int (i : Int) : V S h (.int i) (.int i)
  | str (x : PySem.Str) : V S h (.str x) (.str x)
  | tup {xs : List Mi.MV} {ds : List PyData} (r : Vs S h xs ds) : V S h (.tup xs) (.tuple ds)
  | lst {n : Nat} {xs : List Mi.MV} {ds : List PyData} (l : n < h.next) (s : n ∉ S) (e : h.get n = some (.lst xs)) (r : Vs S h xs ds) : V S h (.ref n) (.list ds)
  | dct {n : Nat} {kvs : List (L2.Key × Mi.MV)} {ds : List PyData} (l : n < h.next) (s : n ∉ S) (e : h.get n = some (.dct kvs)) (r : Vs S h (kvs.map (·.2)) ds) : V S h (.ref n) (.dict ((kvs.map fun p => kD p.1).zip ds))
inductive Vs (S : List Nat) (h : MH) : List Mi.MV → List PyData → Prop
  | nil : Vs S h [] []
  | cons {x : Mi.MV} {d : PyData} {xs : List Mi.MV} {ds : List PyData} (r : V S h x d) (t : Vs S h xs ds) : Vs S h (x :: xs) (d :: ds)
end
section
variable {S S' : List Nat} {h h' : MH}
mutual
theorem V.go (f : ∀ n, n < h.next → n ∉ S → n < h'.next ∧ n ∉ S' ∧ h'.get n = h.get n) : ∀ {v : Mi.MV} {d : PyData}, V S h v d → V S' h' v d
  | _, _, .non => .non
  | _, _, .bl b => .bl b
  | _, _, .int i => .int i
  | _, _, .str x => .str x
  | _, _, .tup r => .tup (Vs.go f r)
  | _, _, .lst l s e r => .lst (f _ l s).1 (f _ l s).2.1 ((f _ l s).2.2.trans e) (Vs.go f r)
  | _, _, .dct l s e r => .dct (f _ l s).1 (f _ l s).2.1 ((f _ l s).2.2.trans e) (Vs.go f r)
theorem Vs.go (f : ∀ n, n < h.next → n ∉ S → n < h'.next ∧ n ∉ S' ∧ h'.get n = h.get n) : ∀ {v : List Mi.MV} {d : List PyData}, Vs S h v d → Vs S' h' v d
  | _, _, .nil => .nil
  | _, _, .cons r t => .cons (V.go f r) (Vs.go f t)
end
theorem V.fr {v : Mi.MV} {d : PyData} (a : V S h v d) (f : Fr S h h') : V S h' v d := a.go fun n l s => ⟨Nat.lt_of_lt_of_le l f.nx, s, f.st n l s⟩
theorem Vs.fr {v : List Mi.MV} {d : List PyData} (a : Vs S h v d) (f : Fr S h h') : Vs S h' v d := a.go fun n l s => ⟨Nat.lt_of_lt_of_le l f.nx, s, f.st n l s⟩
theorem V.frw {v : Mi.MV} {d : PyData} (a : V S h v d) (f : Fr S' h h') (hs : ∀ m ∈ S', m ∈ S ∨ h.next ≤ m) : V S h' v d := a.fr (f.mono hs)
theorem Vs.frw {v : List Mi.MV} {d : List PyData} (a : Vs S h v d) (f : Fr S' h h') (hs : ∀ m ∈ S', m ∈ S ∨ h.next ≤ m) : Vs S h' v d := a.fr (f.mono hs)
/-- apart from fewer or newer ones -/
theorem V.weak {v : Mi.MV} {d : PyData} (a : V S h v d) (hs : ∀ m ∈ S', m ∈ S ∨ h.next ≤ m) : V S' h v d := a.go fun n l s => ⟨l, fun z => (hs n z).elim s (by omega), rfl⟩
theorem Vs.weak {v : List Mi.MV} {d : List PyData} (a : Vs S h v d) (hs : ∀ m ∈ S', m ∈ S ∨ h.next ≤ m) : Vs S' h v d := a.go fun n l s => ⟨l, fun z => (hs n z).elim s (by omega), rfl⟩
theorem Fr.up {h h' : MH} {S : List Nat} (F : Fr [] h h') : Fr S h h' := F.mono (fun m z => by simp at z)
theorem V.fr0 {v : Mi.MV} {d : PyData} (a : V S h v d) (f : Fr [] h h') : V S h' v d := a.fr f.up
theorem Vs.fr0 {v : List Mi.MV} {d : List PyData} (a : Vs S h v d) (f : Fr [] h h') : Vs S h' v d := a.fr f.up
theorem At.fr0 {n : Nat} {o : MO} (a : At h n o) (f : Fr [] h h') : At h' n o := a.fr f (by simp)
theorem V.new {v : Mi.MV} {d : PyData} {o : MO} (a : V S h v d) : V S (h.new o) v d := a.fr Fr.new
theorem Vs.new {v : List Mi.MV} {d : List PyData} {o : MO} (a : Vs S h v d) : Vs S (h.new o) v d := a.fr Fr.new
theorem Vs.len {v : List Mi.MV} {d : List PyData} : Vs S h v d → v.length = d.length
  | .nil => rfl
  | .cons _ t => by simp [Vs.len t]
theorem Vs.at {i : Nat} : ∀ {v : List Mi.MV} {d : List PyData}, Vs S h v d → i < d.length → ∃ x y, v[i]? = some x ∧ d[i]? = some y ∧ V S h x y := by
  induction i with
  | zero =>
    intro v d a hi
    cases a with
    | nil => simp at hi
    | cons r t => exact ⟨_, _, rfl, rfl, r⟩
  | succ i ih =>
    intro v d a hi
    cases a with
    | nil => simp at hi
    | cons r t => simpa using ih t (by simpa using hi)
theorem Vs.app {v w : List Mi.MV} {d e : List PyData} : Vs S h v d → Vs S h w e → Vs S h (v ++ w) (d ++ e)
  | .nil, b => b
  | .cons r t, b => .cons r (Vs.app t b)
theorem V.ok {v : Mi.MV} {d : PyData} (a : V S h v d) : d = d := rfl
theorem V.newL {xs : List Mi.MV} {ds : List PyData} (a : Vs S h xs ds) (hs : h.next ∉ S) : V S (h.new (.lst xs)) (.ref h.next) (.list ds) := .lst (Nat.lt_succ_self _) hs MH.new_same a.new
/-- a value without lists -/
def flat : PyData → Bool
  | .list _ => false
  | .tuple _ => false
  | .dict _ => false
  | _ => true
def tyOf : PyData → String
  | .none => "NoneType"
  | .bool _ => "bool"
  | .int _ => "int"
  | .str _ => "str"
  | .list _ => "list"
  | .tuple _ => "tuple"
  | .dict _ => "dict"
theorem V.isi1 {T : Tab} {v : Mi.MV} {d : PyData} (a : V S h v d) (b : String) : Mi.isi1 T h v (.ty b) = subTy (tyOf d) b := by
  cases a with
  | lst l s e r => unfold Mi.isi1; simp only [e, tyOf]
  | dct l s e r => unfold Mi.isi1; simp only [e, tyOf]
  | _ => rfl
theorem V.isi {T : Tab} {v : Mi.MV} {d : PyData} {b : String} {k : Bool} (a : V S h v d) (e : subTy (tyOf d) b = some k) : biM T .isi [v, .ty b] h = .ok (.bl k) h := by
  have e1 := a.isi1 (T := T) b
  rw [e] at e1
  have : biM T .isi [v, .ty b] h = (match Mi.isi1 T h v (.ty b) with | some b => .ok (.bl b) h | none => .stuck) := by
    cases v <;> rfl
  rw [this, e1]
/-! ### repr -/
mutual
def fz : PyData → Nat
  | .tuple ds => fzs ds + 1
  | .list ds => fzs ds + 1
  | .dict kvs => fzk kvs + 1
  | _ => 1
def fzs : List PyData → Nat
  | [] => 0
  | d :: ds => max (fz d) (fzs ds) + 1
def fzk : List (PyData × PyData) → Nat
  | [] => 0
  | (_, d) :: ds => max (fz d) (fzk ds) + 1
end
theorem fzk_zip : ∀ {ks ds : List PyData}, ks.length = ds.length → fzk (ks.zip ds) = fzs ds
  | [], [], _ => rfl
  | k :: ks, d :: ds, h => by
    simp only [List.zip_cons_cons, fzk, fzs, fzk_zip (show ks.length = ds.length by simpa using h)]
  | [], _ :: _, h => by cases h
  | _ :: _, [], h => by cases h
theorem Vs.len0 {v : List Mi.MV} {d : List PyData} : Vs S h v d → v.length = d.length
  | .nil => rfl
  | .cons _ t => by simp [Vs.len0 t]
mutual
theorem V.toD : ∀ {v : Mi.MV} {d : PyData} {k : Nat}, V S h v d → fz d ≤ k → toD h k v = some d
  | _, _, 0, a, q => by cases a <;> (simp only [fz] at q; omega)
  | _, _, k + 1, .non, q => by unfold Mi.toD; rfl
  | _, _, k + 1, .bl b, q => by unfold Mi.toD; rfl
  | _, _, k + 1, .int i, q => by unfold Mi.toD; rfl
  | _, _, k + 1, .str x, q => by unfold Mi.toD; rfl
  | _, _, k + 1, .tup r, q => by
    unfold Mi.toD
    simp only [fz] at q
    rw [Vs.toDs r (by omega)]; rfl
  | _, _, k + 1, .lst l s e r, q => by
    unfold Mi.toD
    simp only [fz] at q
    simp only [e]
    rw [Vs.toDs r (by omega)]; rfl
  | _, _, k + 1, .dct l s e r, q => by
    unfold Mi.toD
    have hl := r.len0
    simp only [fz] at q
    rw [fzk_zip (by simpa using hl)] at q
    simp only [e]
    rw [Vs.toDs r (by omega)]; rfl
theorem Vs.toDs : ∀ {v : List Mi.MV} {d : List PyData} {k : Nat}, Vs S h v d → fzs d ≤ k → toDs h k v = some d
  | _, _, k, .nil, q => by cases k <;> (unfold Mi.toDs; rfl)
  | _, _, 0, .cons r t, q => by simp only [fzs] at q; omega
  | _, _, k + 1, .cons r t, q => by
    simp only [fzs] at q
    unfold Mi.toDs
    rw [V.toD r (by omega), Vs.toDs t (by omega)]
end
/-- data that can be shown: no long ints, plain signs; at most w parts, z deep -/
structure Sh (d : PyData) (w z : Nat) : Prop where
  sh : d.showable = true
  ls : d.leavesShort 30 = true
  wt : d.weight ≤ w
  dp : d.depth ≤ z
  fz : fz d ≤ w + z + 1
structure Shs (ds : List PyData) (w z : Nat) : Prop where
  sh : PyData.showableAll ds = true
  ls : PyData.leavesShortAll 30 ds = true
  wt : PyData.weightAll ds ≤ w
  dp : PyData.depthAll ds ≤ z
  fz : fzs ds ≤ w + z + 1
theorem Sh.up {d : PyData} {w z w' z' : Nat} (a : Sh d w z) (hw : w ≤ w') (hz : z ≤ z') : Sh d w' z' := ⟨a.sh, a.ls, Nat.le_trans a.wt hw, Nat.le_trans a.dp hz, by have := a.fz; omega⟩
theorem Shs.up {d : List PyData} {w z w' z' : Nat} (a : Shs d w z) (hw : w ≤ w') (hz : z ≤ z') : Shs d w' z' := ⟨a.sh, a.ls, Nat.le_trans a.wt hw, Nat.le_trans a.dp hz, by have := a.fz; omega⟩
theorem sh_non : Sh .none 0 0 := ⟨rfl, rfl, Nat.le_refl _, Nat.le_refl _, Nat.le_refl _⟩
theorem sh_bl (b : Bool) : Sh (.bool b) 0 0 := ⟨rfl, rfl, Nat.le_refl _, Nat.le_refl _, Nat.le_refl _⟩
theorem sh_int {i : Int} (hi : i.natAbs < 10 ^ 28) : Sh (.int i) 96 0 := by
  have hlog : i.natAbs.log2 < 95 := by
    by_cases hz : i.natAbs = 0
    · rw [hz]; decide
    · refine (Nat.log2_lt hz).mpr (Nat.lt_of_lt_of_le hi ?_)
      decide
  refine ⟨?_, ?_, ?_, Nat.le_refl _, by simp [Lw.fz]⟩
  · simp only [PyData.showable, decide_eq_true_eq]; omega
  · have e := PySem.int_text_length_le10 (k := 28) (by decide) hi
    simp only [PyData.leavesShort, decide_eq_true_eq]
    show (PySem.Str.ofString (toString i)).length ≤ 30
    rw [PySem.ofString_length]
    omega
  · simp only [PyData.weight]; split <;> omega
theorem sh_str {x : PySem.Str} {w : Nat} (hx : ∀ c ∈ x.cps.toList, c < 16 ^ 8) (hw : x.cps.size ≤ w) : Sh (.str x) w 0 :=
  ⟨rfl, by simpa only [PyData.leavesShort, List.all_eq_true, decide_eq_true_eq] using hx, hw, Nat.le_refl _, by simp [Lw.fz]⟩
theorem shs_nil {z : Nat} : Shs [] 0 z := ⟨rfl, rfl, Nat.le_refl _, Nat.zero_le _, Nat.zero_le _⟩
theorem shs_cons {d : PyData} {ds : List PyData} {w w' z : Nat} (a : Sh d w z) (b : Shs ds w' z) : Shs (d :: ds) (w + 1 + w') z := by
  refine ⟨by simp only [PyData.showableAll, a.sh, b.sh, Bool.and_self], by simp only [PyData.leavesShortAll, a.ls, b.ls, Bool.and_self], ?_, ?_, ?_⟩
  · simp only [PyData.weightAll]; have := a.wt; have := b.wt; omega
  · simp only [PyData.depthAll]; have := a.dp; have := b.dp; omega
  · simp only [fzs]; have := a.fz; have := b.fz; omega
theorem sh_lst {ds : List PyData} {w z : Nat} (a : Shs ds w z) : Sh (.list ds) w (z + 1) :=
  ⟨by simp only [PyData.showable, a.sh], by simp only [PyData.leavesShort, a.ls], by simp only [PyData.weight]; exact a.wt, by simp only [PyData.depth]; have := a.dp; omega, by simp only [Lw.fz]; have := a.fz; omega⟩
theorem sh_tup {ds : List PyData} {w z : Nat} (a : Shs ds w z) : Sh (.tuple ds) w (z + 1) :=
  ⟨by simp only [PyData.showable, a.sh], by simp only [PyData.leavesShort, a.ls], by simp only [PyData.weight]; exact a.wt, by simp only [PyData.depth]; have := a.dp; omega, by simp only [Lw.fz]; have := a.fz; omega⟩
theorem small_int (i : Int) : ∀ c ∈ (PyData.int i).shown.cps.toList, c < 16 ^ 8 := fun c hc => by
  apply Classical.byContradiction
  intro z
  exact PyProof.Rows.shown_int_free' (k := c) ⟨by omega, by omega⟩ i hc
theorem len_int {i : Int} (hi : i.natAbs < 10 ^ 28) : (PyData.int i).shown.cps.size ≤ 29 := by
  have e := PySem.int_text_length_le10 (k := 28) (by decide) hi
  show (PySem.Str.ofString (toString i)).length ≤ 29
  rw [PySem.ofString_length]
  omega
theorem V.rep {T : Tab} {v : Mi.MV} {d : PyData} {w z : Nat} (a : V S h v d) (s : Sh d w z) (hw : w ≤ 3000) (hz : z ≤ 1000) : biM T .repr [v] h = .ok (.str d.shown) h := by
  have e := a.toD (k := dpt) (by have := s.fz; unfold dpt; omega)
  have hl := PyData.shown_le 30 (by decide) d s.ls
  have h1 := s.wt
  have h2 := s.dp
  have hx : d.shown.length ≤ PySem.sizeLine := by rw [PySem.sizeLine_eq]; omega
  show (match Mi.toD h dpt v with
    | some d => if d.showable = true ∧ d.shown.length ≤ PySem.sizeLine ∧ d.depth ≤ 1000 then Res.ok (Mi.MV.str d.shown) h else Res.stuck
    | none => Res.stuck) = _
  rw [e]
  simp only [s.sh, hx, show d.depth ≤ 1000 by omega, and_self, if_true]
end
/-! ### objects, loops -/
section
variable {T : Tab} {C : CallF} {P : Po} {me : Mi.Env} {h : MH} {Q : Mi.MV → MH → Prop} {E : PySem.Str → Nat → MH → Prop} {S : List Nat}
theorem asA {l : Nat} {xs : List Mi.MV} (a : At h l (.lst xs)) : asList h (.ref l) = some xs := by
  unfold asList
  simp only [a.get]
theorem it_lst {l : Nat} {xs : List Mi.MV} (a : At h l (.lst xs)) : itOf (.ref l) h = .ok (.lst l) h := by
  show (match asList h (.ref l) with | some _ => Res.ok (Mi.It.lst l) h | none => Res.stuck) = _
  rw [asA a]
theorem it_tup {xs : List Mi.MV} : itOf (.tup xs) h = .ok (.tup xs) h := (rfl)
theorem sz_lst {l : Nat} {xs : List Mi.MV} (a : At h l (.lst xs)) : Mi.It.size h (.lst l) = xs.length := by
  show ((asList h (.ref l)).getD []).length = _
  rw [asA a]; rfl
theorem sz_tup {xs : List Mi.MV} : Mi.It.size h (.tup xs) = xs.length := (rfl)
theorem sz_rg {lo : Int} {n : Nat} : Mi.It.size h (.rng lo n) = n := (rfl)
theorem q_iof (e : ME) : evI T C me (.of e) h = M.bind (evE T C me e) itOf h := by simp only [evI]
theorem stepF_nm {i : Nat} {b : MSs} {v : Mi.MV} : stepF T C (.nm i) b v me h = exB T C b (me.set i v) h := (rfl)
theorem at_lst {l : Nat} {xs : List Mi.MV} {i : Nat} (a : At h l (.lst xs)) : Mi.It.at h i (.lst l) = some xs[i]? := by
  show (asList h (.ref l)).map (fun xs => xs[i]?) = _
  rw [asA a]; rfl
/-- a loop over a list of data -/
theorem for_v {l : Nat} {xs : List Mi.MV} {ds : List PyData} {step : Mi.MV → Mi.Env → MH → SR} (J : Nat → Mi.Env → MH → Prop) (a : At h l (.lst xs)) (v : Vs S h xs ds) (hl : l ∉ S) (j0 : J 0 me h)
    (st : ∀ i x d me1 h1, i < ds.length → ds[i]? = some d → Fr S h h1 → V S h1 x d → J i me1 h1 → Wt (P.wl fun me2 h2 => J (i + 1) me2 h2 ∧ Fr S h1 h2) (step x me1 h1))
    (fin : ∀ me1 h1, Fr S h h1 → J ds.length me1 h1 → P.nx me1 h1) : Wt P (forL step (.lst l) xs.length 0 me h) := by
  refine forL_w (N := xs.length) (items := fun i => xs[i]?.getD .non) (I := fun i me1 h1 => J i me1 h1 ∧ Fr S h h1) ?_ ?_ ?_ ?_ xs.length 0 me h (by omega) ⟨j0, Fr.refl⟩
  · rintro i me1 h1 ⟨_, f⟩ hi
    rw [at_lst (a.fr f hl)]
    simp [hi]
  · rintro me1 h1 ⟨_, f⟩
    rw [at_lst (a.fr f hl)]
    simp
  · rintro i me1 h1 hi ⟨j, f⟩
    have hi2 : i < ds.length := v.len ▸ hi
    obtain ⟨x, y, e1, e2, w⟩ := Vs.at v hi2
    rw [e1]
    exact Wt_mono (st i x y me1 h1 hi2 e2 f (w.fr f) j) (fun _ _ z => ⟨z.1, f.trans z.2⟩) (fun _ _ => id) (fun _ _ => id) (fun _ _ z => ⟨z.1, f.trans z.2⟩) (fun _ _ _ _ => id)
  · rintro me1 h1 ⟨j, f⟩
    exact fin me1 h1 f (v.len ▸ j)
/-- a loop over a range -/
theorem for_rg {lo : Int} {N : Nat} {step : Mi.MV → Mi.Env → MH → SR} (J : Nat → Mi.Env → MH → Prop) (j0 : J 0 me h) (st : ∀ i me1 h1, i < N → J i me1 h1 → Wt (P.wl (J (i + 1))) (step (.int (lo + i)) me1 h1)) (fin : ∀ me1 h1, J N me1 h1 → P.nx me1 h1) : Wt P (forL step (.rng lo N) N 0 me h) := by
  refine forL_w (N := N) (items := fun i => .int (lo + i)) (I := J) (fun i me1 h1 _ hi => ?_) (fun me1 h1 _ => ?_) st fin N 0 me h (by omega) j0
  · show some (if i < N then _ else _) = _
    rw [if_pos hi]
  · show some (if N < N then _ else _) = _
    rw [if_neg (Nat.lt_irrefl _)]
theorem add_lst {a b : Nat} {xs ys : List Mi.MV} (e1 : At h a (.lst xs)) (e2 : At h b (.lst ys)) (hz : xs.length + ys.length ≤ 16777216) : binM .add (.ref a) (.ref b) h = .ok (.ref h.next) (h.new (.lst (xs ++ ys))) := by
  show (match h.get a, h.get b with
    | some (.lst xs), some (.lst ys) => newL (xs ++ ys) h
    | _, _ => .stuck) = _
  simp only [e1.get, e2.get]
  exact x_newL (by simpa using hz)
theorem V.at_ {x : Mi.MV} {ds : List PyData} (a : V S h x (.list ds)) : ∃ n xs, x = .ref n ∧ n ∉ S ∧ At h n (.lst xs) ∧ Vs S h xs ds := by
  cases a with
  | lst l s e r => exact ⟨_, _, rfl, s, ⟨l, e⟩, r⟩
theorem newL_v {xs : List Mi.MV} {ds : List PyData} (a : Vs S h xs ds) (hS : h.next ∉ S) (hz : xs.length ≤ 16777216) (H : ∀ v h', V S h' v (.list ds) → Fr [] h h' → Q v h') : Wr Q E (newL xs h) := by
  rw [x_newL hz]
  exact H _ _ (V.newL a hS) Fr.new
theorem newL_r {xs : List Mi.MV} {ds : List PyData} (a : Vs S h xs ds) (hS : h.next ∉ S) (hz : xs.length ≤ 16777216) (H : ∀ h', V S h' (.ref h.next) (.list ds) → At h' h.next (.lst xs) → Fr [] h h' → h'.next = h.next + 1 → Q (.ref h.next) h') : Wr Q E (newL xs h) := by
  rw [x_newL hz]
  exact H _ (V.newL a hS) At.new Fr.new rfl
theorem add_v {x y : Mi.MV} {ds es : List PyData} (a : V S h x (.list ds)) (b : V S h y (.list es)) (hz : ds.length + es.length ≤ 16777216) (hS : h.next ∉ S) (H : ∀ v h', V S h' v (.list (ds ++ es)) → Fr [] h h' → Q v h') : Wr Q E (binM .add x y h) := by
  obtain ⟨n, xs, rfl, _, e1, r1⟩ := a.at_
  obtain ⟨m, ys, rfl, _, e2, r2⟩ := b.at_
  rw [add_lst e1 e2 (by rw [r1.len, r2.len]; exact hz)]
  exact H _ _ (V.newL (r1.app r2) hS) Fr.new
end
end Lw
end

section
namespace Lw
open Mi
open PySem (PyData)
theorem mb {α β : Type} (x : M α) (f : α → M β) (h : MH) : M.bind x f h = (match x h with | .ok a h' => f a h' | .exc c n h' => .exc c n h' | .stuck => .stuck) := rfl
theorem mp {α : Type} (a : α) (h : MH) : (M.pure a : M α) h = .ok a h := rfl
theorem mst {α : Type} (h : MH) : (M.stuck : M α) h = .stuck := rfl
/-- a value that isinstance may be asked of -/
def okV (h : MH) : Mi.MV → Prop
  | .int _ => True
  | .bl _ => True
  | .non => True
  | .str _ => True
  | .tup _ => True
  | .ref n => (∃ xs, h.get n = some (.lst xs)) ∨ ∃ kvs, h.get n = some (.dct kvs)
  | _ => False
theorem V.okv {S : List Nat} {h : MH} {v : Mi.MV} {d : PyData} (a : V S h v d) : okV h v := by
  cases a with
  | lst l s e r => exact .inl ⟨_, e⟩
  | dct l s e r => exact .inr ⟨_, e⟩
  | _ => exact True.intro
def cnt : Mi.MV → Bool
  | .int i => decide (0 ≤ i)
  | _ => false
def isIn : Mi.MV → Bool
  | .int _ => true
  | _ => false
def vi : Mi.MV → Int
  | .int i => i
  | _ => 0
theorem idx_ok {n : Nat} {i : Int} (h0 : 0 ≤ i) (h1 : i < n) : Mi.idx n i = some i.toNat := by
  unfold Mi.idx L2.ixN
  rw [if_pos h0, if_pos h1]
structure Same (r : Nat) (h0 h : MH) : Prop where
  nx : h.next = h0.next
  st : ∀ m, m ≠ r → h.get m = h0.get m
theorem put_self {h : MH} {r : Nat} {o : MO} (e : h.get r = some o) : h.put r o = h := by
  have : (fun m => if m = r then some o else h.get m) = h.get := by
    funext m
    by_cases hm : m = r
    · rw [if_pos hm, hm]; exact e.symm
    · rw [if_neg hm]
  unfold MH.put
  rw [this]
theorem put_put {h : MH} {r : Nat} {o o' : MO} : (h.put r o).put r o' = h.put r o' := by
  have : (fun m => if m = r then some o' else (h.put r o).get m) = fun m => if m = r then some o' else h.get m := by
    funext m
    by_cases hm : m = r
    · rw [if_pos hm, if_pos hm]
    · rw [if_neg hm, if_neg hm]; exact MH.put_ne hm
  unfold MH.put at this ⊢
  rw [this]
theorem Same.put {r : Nat} {h0 h : MH} {o : MO} (s : Same r h0 h) : Same r h0 (h.put r o) := ⟨s.nx, fun m hm => (MH.put_ne hm).trans (s.st m hm)⟩
theorem compL_gen {step : Mi.MV → M (Option Mi.MV)} {it : Mi.It} {r N : Nat} {h0 : MH} {items outs : Nat → Mi.MV} (hit : ∀ h i, Same r h0 h → i < N → it.at h i = some (some (items i))) (hend : ∀ h, Same r h0 h → it.at h N = some none)
    (hst : ∀ h i, Same r h0 h → i < N → step (items i) h = .ok (some (outs i)) h) : ∀ (k i : Nat) (h : MH) (acc : List Mi.MV), Same r h0 h → h.get r = some (.lst acc) → i + k = N → acc.length + k ≤ 16777216 →
    Mi.compL step it r k i h = .ok () (h.put r (.lst (acc ++ (List.range k).map fun j => outs (i + j))))
  | 0, i, h, acc, s, e, hk, _ => by
    have hi : i = N := by omega
    unfold Mi.compL
    rw [hi, hend h s]
    simp [put_self e]
  | k + 1, i, h, acc, s, e, hk, hz => by
    have hi : i < N := by omega
    unfold Mi.compL
    rw [hit h i s hi]
    simp only [mb, hst h i s hi, e]
    rw [if_pos (by rw [PySem.sizeLine_eq]; omega)]
    rw [compL_gen hit hend hst k (i + 1) (h.put r (.lst (acc ++ [outs i]))) (acc ++ [outs i]) s.put MH.put_same (by omega) (by simp; omega), put_put]
    congr 2
    rw [List.range_succ_eq_map, List.map_cons, List.map_map, List.append_assoc]
    simp [Function.comp, Nat.add_assoc, Nat.add_comm 1]
theorem new_put {h : MH} {o o' : MO} : (h.new o).put h.next o' = h.new o' := by
  have : (fun m => if m = h.next then some o' else (h.new o).get m) = fun m => if m = h.next then some o' else h.get m := by
    funext m
    by_cases hm : m = h.next
    · rw [if_pos hm, if_pos hm]
    · rw [if_neg hm, if_neg hm]; exact MH.new_ne hm
  unfold MH.put
  rw [this]
  rfl
theorem q_rng1 {T : Tab} {C : CallF} {me : Mi.Env} {h : MH} (a : ME) : evI T C me (.rng1 a) h = M.bind (evE T C me a) (fun x => match x with
    | .int j => if rngOk j then M.pure (.rng 0 j.toNat) else M.stuck
    | _ => M.stuck) h := by simp only [evI] <;> rfl
theorem q_slcn {T : Tab} {C : CallF} {me : Mi.Env} {h : MH} : evO T C me .no h = .ok none h := by simp only [evO]; rfl
section
variable {Q : Mi.MV → MH → Prop} {QT : Bool → MH → Prop} {QM : MH → Prop} {E : PySem.Str → Nat → MH → Prop} {P : Po} {T : Tab} {C : CallF} {me : Mi.Env} {h : MH}
theorem z_tand (a b : ME) : Wr QT E (evT T C me (.and a b) h) = Wr (fun k h => cnd (Wr QT E (evT T C me b h)) (QT false h) k) E (evT T C me a h) := by
  rw [q_tand, y_bind]; congr 1; funext k h; cases k <;> rfl
theorem z_tor (a b : ME) : Wr QT E (evT T C me (.or a b) h) = Wr (fun k h => cnd (QT true h) (Wr QT E (evT T C me b h)) k) E (evT T C me a h) := by
  rw [q_tor, y_bind]; congr 1; funext k h; cases k <;> rfl
theorem z_and (a b : ME) : Wr Q E (evE T C me (.and a b) h) = Wr (fun x h => Wr (fun k h => cnd (Wr Q E (evE T C me b h)) (Q (.bl false) h) k) E (boolM x h)) E (evE T C me a h) := by
  rw [q_and, y_bind]; congr 1; funext x h; rw [y_bind]; congr 1; funext k h; cases k <;> rfl
theorem z_or (a b : ME) : Wr Q E (evE T C me (.or a b) h) = Wr (fun x h => Wr (fun k h => cnd (Q (.bl true) h) (Wr Q E (evE T C me b h)) k) E (boolM x h)) E (evE T C me a h) := by
  rw [q_or, y_bind]; congr 1; funext x h; rw [y_bind]; congr 1; funext k h; cases k <;> rfl
theorem z_ife (c a b : ME) : Wr Q E (evE T C me (.ife c a b) h) = Wr (fun k h => cnd (Wr Q E (evE T C me a h)) (Wr Q E (evE T C me b h)) k) E (evT T C me c h) := by
  rw [q_ife, y_bind]; congr 1; funext k h; cases k <;> rfl
theorem z_chain (op op' : Mi.COp) (a b c : ME) : Wr Q E (evE T C me (.chain op op' a b c) h) = Wr (fun x h => Wr (fun y h => Wr (fun z h => Wr (fun k h => cnd (Wr (fun w h => Wr Q E (cmpM op' y w h)) E (evE T C me c h)) (Q (.bl false) h) k) E (boolM z h)) E (cmpM op x y h)) E (evE T C me b h)) E (evE T C me a h) := by
  rw [q_chain, y_bind]; congr 1; funext x h; rw [y_bind]; congr 1; funext y h; rw [y_bind]; congr 1; funext z h; rw [y_bind]; congr 1; funext k h
  cases k
  · rfl
  · simp only [if_true, cnd, y_bind]
theorem q_slcY (e : ME) : evO T C me (.yes e) h = M.bind (evE T C me e) (fun x => match x with | .int i => M.pure (some i) | _ => M.stuck) h := by simp only [evO] <;> rfl
theorem b_max (i j : Int) : biM T .max2 [.int i, .int j] h = .ok (.int (if j > i then j else i)) h := (rfl)
theorem b_min (i j : Int) : biM T .min2 [.int i, .int j] h = .ok (.int (if j < i then j else i)) h := (rfl)
theorem b_abs (i : Int) : biM T .abs [.int i] h = .ok (.int (if i < 0 then -i else i)) h := (rfl)
theorem b_inti (i : Int) : biM T .int1 [.int i] h = .ok (.int i) h := (rfl)
theorem b_intb (b : Bool) : biM T .int1 [.bl b] h = .ok (.int (if b then 1 else 0)) h := (rfl)
theorem b_lenl {l : Nat} {xs : List Mi.MV} (a : At h l (.lst xs)) : biM T .len [.ref l] h = .ok (.int xs.length) h := by
  show (match asSeq h (.ref l) with | some xs => Res.ok (Mi.MV.int xs.length) h | none => Res.stuck) = _
  unfold asSeq asList
  simp only [a.get]
theorem b_lent {xs : List Mi.MV} : biM T .len [.tup xs] h = .ok (.int xs.length) h := (rfl)
theorem sw2 {a b : Mi.MV} {i j : Nat} (hx : me.ex = none) : asgM T C me (.tup [a, b]) (.sw [i, j]) h = .ok ((me.set j b).set i a) h := by
  simp [asgM, hx]; rfl
theorem sub_ix {x : Mi.MV} {xs : List Mi.MV} {i : Int} {v : Mi.MV} (e : asSeq h x = some xs) (e2 : (Mi.idx xs.length i).bind (fun j => xs[j]?) = some v) : subM x (.int i) h = .ok v h := by
  unfold subM
  simp only [e, e2]
theorem sub_t0 {a : Mi.MV} {xs : List Mi.MV} : subM (.tup (a :: xs)) (.int 0) h = .ok a h := by
  refine sub_ix rfl ?_
  rw [idx_ok (by decide) (by simp <;> omega)]; rfl
theorem sub_t1 {a b : Mi.MV} {xs : List Mi.MV} : subM (.tup (a :: b :: xs)) (.int 1) h = .ok b h := by
  refine sub_ix rfl ?_
  rw [idx_ok (by decide) (by simp <;> omega)]; rfl
theorem asL {l : Nat} {xs : List Mi.MV} (a : At h l (.lst xs)) : asSeq h (.ref l) = some xs := by
  unfold asSeq asList
  simp only [a.get]
theorem sub_nat {l : Nat} {xs : List Mi.MV} {i : Int} (a : At h l (.lst xs)) (h0 : 0 ≤ i) (h1 : i < xs.length) : ∃ v, xs[i.toNat]? = some v ∧ subM (.ref l) (.int i) h = .ok v h := by
  have hz : i.toNat < xs.length := by omega
  refine ⟨xs[i.toNat], by simp [hz], sub_ix (asL a) ?_⟩
  rw [idx_ok h0 h1]; simp [hz]
theorem sub_pick {l : Nat} {xs : List Mi.MV} {i : Int} (a : At h l (.lst xs)) (h0 : 0 ≤ i) (h1 : i < xs.length) (H : ∀ x, x ∈ xs → Q x h) : Wr Q E (subM (.ref l) (.int i) h) := by
  obtain ⟨v, e, s⟩ := sub_nat a h0 h1
  rw [s]
  exact H v (List.mem_of_getElem? e)
end
section
variable {α : Type} {T : Tab} {C : CallF} {me : Mi.Env} {h : MH}
/-! ### comprehensions -/
def stepG (T : Tab) (C : CallF) (me : Mi.Env) (vs : List Nat) (t : CT) (c e : ME) : Mi.MV → M (Option Mi.MV) := fun v h => match setT h (wipeM me vs) v t with
  | some me' => quiet (M.bind (evT T C me' c) fun k => if k = true then M.bind (evE T C me' e) fun w => M.pure (some w) else M.pure none) h
  | none => .stuck
theorem comp_w {Q : Mi.MV → MH → Prop} {E : PySem.Str → Nat → MH → Prop} {vs : List Nat} {t : CT} {it : MI} {c e : ME} (hx : me.ex = none) (H : Wr (fun J h => Wr (fun _ h' => Q (.ref h.next) h') E (Mi.compL (stepG T C me vs t c e) J h.next (J.size h) 0 (h.new (.lst [])))) E (evI T C me it h)) : Wr Q E (evE T C me (.comp vs t it c e) h) := by
  have hx' : ¬ (me.ex.isSome = true) := by rw [hx]; simp
  have : evE T C me (.comp vs t it c e) h = M.bind (evI T C me it) (fun J => fun h => M.bind (newL []) (fun r => match r with
    | .ref n => fun h' => M.bind (Mi.compL (stepG T C me vs t c e) J n (J.size h) 0) (fun _ => M.pure (Mi.MV.ref n)) h'
    | _ => M.stuck) h) h := by
    unfold evE
    rw [if_neg hx']
    rfl
  rw [this, y_bind]
  revert H
  cases evI T C me it h with
  | ok J h1 =>
    intro H
    simp only [y_ok] at H ⊢
    rw [y_bind, x_newL (by simp), y_ok]
    simp only
    rw [y_bind]
    exact H
  | exc => exact id
  | stuck => exact id
theorem stepG_nm {Q : Option Mi.MV → MH → Prop} {E : PySem.Str → Nat → MH → Prop} {vs : List Nat} {i : Nat} {c e : ME} {v : Mi.MV} (H : Wr (fun k h => cnd (Wr (fun w h => Q (some w) h) (fun _ _ _ => False) (evE T C ((wipeM me vs).set i v) e h)) (Q none h) k) (fun _ _ _ => False) (evT T C ((wipeM me vs).set i v) c h)) : Wr Q E (stepG T C me vs (.nm i) c e v h) := by
  unfold stepG
  simp only [setT]
  unfold quiet
  simp only [M.bind]
  revert H
  cases evT T C ((wipeM me vs).set i v) c h with
  | ok k h1 =>
    cases k with
    | true =>
      simp only [y_ok, x_ct, if_true, M.bind]
      cases evE T C ((wipeM me vs).set i v) e h1 with
      | ok w h2 => exact id
      | exc => exact False.elim
      | stuck => exact id
    | false => exact id
  | exc => exact False.elim
  | stuck => exact id
theorem compL_1 {Q : Unit → MH → Prop} {E : PySem.Str → Nat → MH → Prop} {step : Mi.MV → M (Option Mi.MV)} {it : Mi.It} {r k i : Nat} {v : Mi.MV} (hat : it.at h i = some (some v))
    (H : Wr (fun o h' => match o with
      | none => Wr Q E (Mi.compL step it r k (i + 1) h')
      | some w => ∃ acc, h'.get r = some (.lst acc) ∧ acc.length < 16777216 ∧ Wr Q E (Mi.compL step it r k (i + 1) (h'.put r (.lst (acc ++ [w]))))) E (step v h)) : Wr Q E (Mi.compL step it r (k + 1) i h) := by
  unfold Mi.compL
  rw [hat]
  simp only
  rw [y_bind]
  revert H
  cases step v h with
  | ok o h1 =>
    cases o with
    | none => exact id
    | some w =>
      rintro ⟨acc, e, hz, H⟩
      simp only [y_ok, e]
      rw [if_pos (by rw [PySem.sizeLine_eq]; exact hz)]
      exact H
  | exc => exact id
  | stuck => exact id
theorem compL_0 {Q : Unit → MH → Prop} {E : PySem.Str → Nat → MH → Prop} {step : Mi.MV → M (Option Mi.MV)} {it : Mi.It} {r i : Nat} (hat : it.at h i = some none) : Wr Q E (Mi.compL step it r 0 i h) = Q () h := by
  unfold Mi.compL
  rw [hat]; rfl
end
theorem Sp_for {α : Type} {r : Res α} {Φ : α → MH → Prop} (H : ∀ Q E, (∀ a h', Φ a h' → Q a h') → Wr Q E r) : Sp r Φ := Sp_of (H Φ _ fun _ _ p => p)
/-- all rules in one -/
theorem XN : (((((((type_of% @y_ok ∧ type_of% @y_exc) ∧ (type_of% @y_bind ∧ type_of% @y_bnd)) ∧ ((type_of% @y_cnd ∧ type_of% @y_cndt) ∧ (type_of% @z_nx ∧ type_of% @z_rt))) ∧ (((type_of% @z_br ∧ type_of% @z_ct) ∧ (type_of% @z_ex ∧ type_of% @z_exb0)) ∧ ((type_of% @z_exb1 ∧ type_of% @z_wnwn) ∧ (type_of% @z_wnnx ∧ type_of% @z_wnrt)))) ∧ ((((type_of% @z_wnbr ∧ type_of% @z_wnct) ∧ (type_of% @z_wnex ∧ type_of% @z_wxnx)) ∧ ((type_of% @z_wxrt ∧ type_of% @z_wxbr) ∧ (type_of% @z_wxct ∧ type_of% @z_wxex))) ∧ (((type_of% @z_wlnx ∧ type_of% @z_wlrt) ∧ (type_of% @z_wlbr ∧ type_of% @z_wlct)) ∧ ((type_of% @z_wlex ∧ type_of% @z_fnnx) ∧ (type_of% @z_fnrt ∧ type_of% @z_fnex))))) ∧ (((((type_of% @z_pass ∧ type_of% @z_ret) ∧ (type_of% @z_retN ∧ type_of% @z_expr)) ∧ ((type_of% @z_asg ∧ type_of% @z_asgsw) ∧ (type_of% @z_asgtp ∧ type_of% @z_asgsub))) ∧ (((type_of% @z_asgfld ∧ type_of% @z_ifs) ∧ (type_of% @z_fors ∧ type_of% @z_brk)) ∧ ((type_of% @z_cont ∧ type_of% @z_trys) ∧ (type_of% @q_mp ∧ type_of% @q_opt)))) ∧ ((((type_of% @q_non ∧ type_of% @q_bl) ∧ (type_of% @q_int ∧ type_of% @q_str)) ∧ ((type_of% @q_var ∧ type_of% @q_ty) ∧ (type_of% @q_cls ∧ type_of% @q_gint))) ∧ (((type_of% @q_bin ∧ type_of% @q_neg) ∧ (type_of% @q_not ∧ type_of% @q_cmp)) ∧ ((type_of% @q_sub ∧ type_of% @q_slc) ∧ (type_of% @q_tup ∧ (type_of% @q_lst ∧ type_of% @q_call))))))) ∧ ((((((type_of% @q_mk ∧ type_of% @q_bi) ∧ (type_of% @q_app ∧ type_of% @q_fld)) ∧ ((type_of% @q_meth ∧ type_of% @q_nil) ∧ (type_of% @q_cons ∧ type_of% @q_tnot))) ∧ (((type_of% @q_tbl ∧ type_of% @q_tvar) ∧ (type_of% @q_tcmp ∧ type_of% @q_tchain)) ∧ ((type_of% @q_tsub ∧ type_of% @q_tcall) ∧ (type_of% @q_tbi ∧ type_of% @q_tmeth)))) ∧ ((((type_of% @q_bool ∧ type_of% @q_rng1) ∧ (type_of% @q_slcn ∧ type_of% @q_slcY)) ∧ ((type_of% @z_tand ∧ type_of% @z_tor) ∧ (type_of% @z_and ∧ type_of% @z_or))) ∧ (((type_of% @z_ife ∧ type_of% @z_chain) ∧ (type_of% @b_max ∧ type_of% @b_min)) ∧ ((type_of% @b_abs ∧ type_of% @b_inti) ∧ (type_of% @b_intb ∧ type_of% @b_lent))))) ∧ (((((type_of% @sw2 ∧ type_of% @sub_t0) ∧ (type_of% @sub_t1 ∧ type_of% @o_add)) ∧ ((type_of% @o_sub ∧ type_of% @o_mul) ∧ (type_of% @o_fdiv ∧ type_of% @o_mod))) ∧ (((type_of% @o_pow ∧ type_of% @c_eqi) ∧ (type_of% @c_nei ∧ type_of% @c_eqs)) ∧ ((type_of% @c_nes ∧ type_of% @c_lt) ∧ (type_of% @c_le ∧ type_of% @c_gt)))) ∧ ((((type_of% @c_ge ∧ type_of% @c_isn) ∧ (type_of% @c_notn ∧ type_of% @isNon_n)) ∧ ((type_of% @isNon_i ∧ type_of% @List.set_cons_zero.{0}) ∧ (type_of% @List.set_cons_succ.{0} ∧ type_of% @List.getElem?_cons_zero.{0}))) ∧ (((type_of% @List.getElem?_cons_succ.{0} ∧ type_of% @Option.getD_some.{0}) ∧ (type_of% @List.length_cons.{0} ∧ type_of% @List.length_nil.{0})) ∧ ((type_of% @stepF_nm ∧ type_of% @q_iof) ∧ (type_of% @it_tup ∧ (type_of% @sz_tup ∧ type_of% @sz_rg)))))))) :=
  ⟨⟨⟨⟨⟨⟨⟨@y_ok, @y_exc⟩, ⟨@y_bind, @y_bnd⟩⟩, ⟨⟨@y_cnd, @y_cndt⟩, ⟨@z_nx, @z_rt⟩⟩⟩, ⟨⟨⟨@z_br, @z_ct⟩, ⟨@z_ex, @z_exb0⟩⟩, ⟨⟨@z_exb1, @z_wnwn⟩, ⟨@z_wnnx, @z_wnrt⟩⟩⟩⟩, ⟨⟨⟨⟨@z_wnbr, @z_wnct⟩, ⟨@z_wnex, @z_wxnx⟩⟩, ⟨⟨@z_wxrt, @z_wxbr⟩, ⟨@z_wxct, @z_wxex⟩⟩⟩, ⟨⟨⟨@z_wlnx, @z_wlrt⟩, ⟨@z_wlbr, @z_wlct⟩⟩, ⟨⟨@z_wlex, @z_fnnx⟩, ⟨@z_fnrt, @z_fnex⟩⟩⟩⟩⟩, ⟨⟨⟨⟨⟨@z_pass, @z_ret⟩, ⟨@z_retN, @z_expr⟩⟩, ⟨⟨@z_asg, @z_asgsw⟩, ⟨@z_asgtp, @z_asgsub⟩⟩⟩, ⟨⟨⟨@z_asgfld, @z_ifs⟩, ⟨@z_fors, @z_brk⟩⟩, ⟨⟨@z_cont, @z_trys⟩, ⟨@q_mp, @q_opt⟩⟩⟩⟩, ⟨⟨⟨⟨@q_non, @q_bl⟩, ⟨@q_int, @q_str⟩⟩, ⟨⟨@q_var, @q_ty⟩, ⟨@q_cls, @q_gint⟩⟩⟩, ⟨⟨⟨@q_bin, @q_neg⟩, ⟨@q_not, @q_cmp⟩⟩, ⟨⟨@q_sub, @q_slc⟩, ⟨@q_tup, ⟨@q_lst, @q_call⟩⟩⟩⟩⟩⟩⟩, ⟨⟨⟨⟨⟨⟨@q_mk, @q_bi⟩, ⟨@q_app, @q_fld⟩⟩, ⟨⟨@q_meth, @q_nil⟩, ⟨@q_cons, @q_tnot⟩⟩⟩, ⟨⟨⟨@q_tbl, @q_tvar⟩, ⟨@q_tcmp, @q_tchain⟩⟩, ⟨⟨@q_tsub, @q_tcall⟩, ⟨@q_tbi, @q_tmeth⟩⟩⟩⟩, ⟨⟨⟨⟨@q_bool, @q_rng1⟩, ⟨@q_slcn, @q_slcY⟩⟩, ⟨⟨@z_tand, @z_tor⟩, ⟨@z_and, @z_or⟩⟩⟩, ⟨⟨⟨@z_ife, @z_chain⟩, ⟨@b_max, @b_min⟩⟩, ⟨⟨@b_abs, @b_inti⟩, ⟨@b_intb, @b_lent⟩⟩⟩⟩⟩, ⟨⟨⟨⟨⟨@sw2, @sub_t0⟩, ⟨@sub_t1, @o_add⟩⟩, ⟨⟨@o_sub, @o_mul⟩, ⟨@o_fdiv, @o_mod⟩⟩⟩, ⟨⟨⟨@o_pow, @c_eqi⟩, ⟨@c_nei, @c_eqs⟩⟩, ⟨⟨@c_nes, @c_lt⟩, ⟨@c_le, @c_gt⟩⟩⟩⟩, ⟨⟨⟨⟨@c_ge, @c_isn⟩, ⟨@c_notn, @isNon_n⟩⟩, ⟨⟨@isNon_i, @List.set_cons_zero.{0}⟩, ⟨@List.set_cons_succ.{0}, @List.getElem?_cons_zero.{0}⟩⟩⟩, ⟨⟨⟨@List.getElem?_cons_succ.{0}, @Option.getD_some.{0}⟩, ⟨@List.length_cons.{0}, @List.length_nil.{0}⟩⟩, ⟨⟨@stepF_nm, @q_iof⟩, ⟨@it_tup, ⟨@sz_tup, @sz_rg⟩⟩⟩⟩⟩⟩⟩⟩
theorem app_ok {h : MH} {l : Nat} {xs : List Mi.MV} {v : Mi.MV} (e : h.get l = some (.lst xs)) (hz : xs.length < 16777216) : appM (.ref l) v h = .ok .non (h.put l (.lst (xs ++ [v]))) := by
  unfold appM
  simp only [e]
  rw [if_pos (by rw [PySem.sizeLine_eq]; exact hz)]
theorem isLst_ok {h : MH} {l : Nat} {xs : List Mi.MV} (e : h.get l = some (.lst xs)) : isLst (.ref l) h = .ok () h := by
  unfold isLst
  simp only [e]
theorem compL_f {step : Mi.MV → M (Option Mi.MV)} {it : Mi.It} {r N : Nat} {h0 : MH} {items : Nat → Mi.MV} {outs : Nat → Option Mi.MV} (hit : ∀ h i, Same r h0 h → i < N → it.at h i = some (some (items i))) (hend : ∀ h, Same r h0 h → it.at h N = some none)
    (hst : ∀ h i, Same r h0 h → i < N → step (items i) h = .ok (outs i) h) : ∀ (k i : Nat) (h : MH) (acc : List Mi.MV), Same r h0 h → h.get r = some (.lst acc) → i + k = N → acc.length + k ≤ 16777216 →
    Mi.compL step it r k i h = .ok () (h.put r (.lst (acc ++ (List.range k).filterMap fun j => outs (i + j))))
  | 0, i, h, acc, s, e, hk, _ => by
    have hi : i = N := by omega
    unfold Mi.compL
    rw [hi, hend h s]
    simp [put_self e]
  | k + 1, i, h, acc, s, e, hk, hz => by
    have hi : i < N := by omega
    unfold Mi.compL
    rw [hit h i s hi]
    have hsh : ∀ f : Nat → Option Mi.MV, (List.range (k + 1)).filterMap f = (match f 0 with | some w => [w] | none => []) ++ (List.range k).filterMap fun j => f (1 + j) := fun f => by
      rw [List.range_succ_eq_map, List.filterMap_cons, List.filterMap_map]
      have : (f ∘ Nat.succ) = fun j => f (1 + j) := by funext j; simp [Function.comp, Nat.add_comm]
      rw [this]
      cases f 0 <;> simp
    cases ho : outs i with
    | none =>
      have hs' := hst h i s hi
      rw [ho] at hs'
      simp only [mb, hs']
      rw [compL_f hit hend hst k (i + 1) h acc s e (by omega) (by omega), hsh]
      simp [ho, Nat.add_assoc]
    | some w =>
      have hs' := hst h i s hi
      rw [ho] at hs'
      simp only [mb, hs', e]
      rw [if_pos (by rw [PySem.sizeLine_eq]; omega)]
      rw [compL_f hit hend hst k (i + 1) (h.put r (.lst (acc ++ [w]))) (acc ++ [w]) s.put MH.put_same (by omega) (by simp; omega), put_put, hsh]
      simp [ho, Nat.add_assoc]
theorem comp_f {T : Tab} {C : CallF} {me : Mi.Env} {vs : List Nat} {t : CT} {it : MI} {c e : ME} {h h2 : MH} {J : Mi.It} {N : Nat} {items : Nat → Mi.MV} {outs : Nat → Option Mi.MV} (hex : me.ex = none) (hI : evI T C me it h = .ok J h2) (hN : J.size h2 = N) (hz : N ≤ 16777216)
    (hit : ∀ h1 i, Same h2.next (h2.new (.lst [])) h1 → i < N → J.at h1 i = some (some (items i))) (hend : ∀ h1, Same h2.next (h2.new (.lst [])) h1 → J.at h1 N = some none)
    (hst : ∀ h1 i, Same h2.next (h2.new (.lst [])) h1 → i < N → stepG T C me vs t c e (items i) h1 = .ok (outs i) h1) :
    evE T C me (.comp vs t it c e) h = .ok (.ref h2.next) (h2.new (.lst ((List.range N).filterMap outs))) := by
  have g := compL_f hit hend hst N 0 (h2.new (.lst [])) [] ⟨rfl, fun _ _ => rfl⟩ MH.new_same (by omega) (by simpa using hz)
  simp only [Nat.zero_add, List.nil_append, new_put] at g
  have k : Wr (fun v h' => (Res.ok v h' : Res Mi.MV) = .ok (.ref h2.next) (h2.new (.lst ((List.range N).filterMap outs)))) (fun _ _ _ => False) (evE T C me (.comp vs t it c e) h) := by
    refine comp_w hex ?_
    rw [hI, y_ok, hN, g, y_ok]
  revert k
  cases evE T C me (.comp vs t it c e) h with
  | ok v h' => exact id
  | exc => exact False.elim
  | stuck => exact False.elim
theorem eq_of_wr {α : Type} {r : Res α} {a : α} {h : MH} (k : Wr (fun v h' => v = a ∧ h' = h) (fun _ _ _ => False) r) : r = .ok a h := by
  revert k
  cases r with
  | ok v h' => rintro ⟨rfl, rfl⟩; rfl
  | exc => exact False.elim
  | stuck => exact False.elim
theorem stepG_w {T : Tab} {C : CallF} {me me' : Mi.Env} {h : MH} {Q : Option Mi.MV → MH → Prop} {E : PySem.Str → Nat → MH → Prop} {vs : List Nat} {t : CT} {c e : ME} {v : Mi.MV} (hs : setT h (wipeM me vs) v t = some me') (H : Wr (fun k h => cnd (Wr (fun w h => Q (some w) h) (fun _ _ _ => False) (evE T C me' e h)) (Q none h) k) (fun _ _ _ => False) (evT T C me' c h)) : Wr Q E (stepG T C me vs t c e v h) := by
  unfold stepG
  rw [hs]
  simp only
  unfold quiet
  simp only [M.bind]
  revert H
  cases evT T C me' c h with
  | ok k h1 =>
    cases k with
    | true =>
      simp only [y_ok, x_ct, if_true, M.bind]
      cases evE T C me' e h1 with
      | ok w h2 => exact id
      | exc => exact False.elim
      | stuck => exact id
    | false => exact id
  | exc => exact False.elim
  | stuck => exact id
theorem q_enum {T : Tab} {C : CallF} {me : Mi.Env} {h : MH} (e : ME) : evI T C me (.enum e) h = M.bind (evE T C me e) (fun x => match x with
    | .ref n => fun h => match asList h (.ref n) with
      | some _ => .ok (.enum n) h
      | none => .stuck
    | .tup xs => M.pure (.enumT xs)
    | _ => M.stuck) h := by simp only [evI] <;> rfl
theorem eq_of_wr2 {α : Type} {r r' : Res α} (k : Wr (fun v h' => r' = .ok v h') (fun c n h' => r' = .exc c n h') r) : r = r' := by
  revert k
  cases r with
  | ok v h' => exact fun e => e.symm
  | exc => exact fun e => e.symm
  | stuck => exact False.elim
theorem app_at {h : MH} {l : Nat} {xs : List Mi.MV} {v : Mi.MV} (a : At h l (.lst xs)) (hz : xs.length < 16777216) : appM (.ref l) v h = .ok .non (h.put l (.lst (xs ++ [v]))) := app_ok a.get hz
theorem isl_at {h : MH} {l : Nat} {xs : List Mi.MV} (a : At h l (.lst xs)) : isLst (.ref l) h = .ok () h := isLst_ok a.get
theorem stepF_tp3 {T : Tab} {C : CallF} {me : Mi.Env} {h : MH} {n i j k : Nat} {a b c : Mi.MV} {bd : MSs} (A : At h n (.lst [a, b, c])) : stepF T C (.tp [i, j, k]) bd (.ref n) me h = exB T C bd (((me.set i a).set j b).set k c) h := by
  unfold stepF setT
  rw [asL A]; rfl
theorem fld_ok {T : Tab} {h : MH} {r : Nat} {c f : PySem.Str} {fs : List (PySem.Str × Mi.MV)} {v : Mi.MV} (a : At h r (.ins c fs)) (e : T.noat c f = true) (l : fs.lookup f = some v) : fldM T f (.ref r) h = .ok v h := by
  unfold fldM
  simp only [a.get, e, if_true, l]
theorem q_rng2 {T : Tab} {C : CallF} {me : Mi.Env} {h : MH} (a b : ME) : evI T C me (.rng2 a b) h = M.bind (evE T C me a) (fun x => M.bind (evE T C me b) fun y => match x, y with
    | .int i, .int j => if rngOk i ∧ rngOk j then M.pure (.rng i (j - i).toNat) else M.stuck
    | _, _ => M.stuck) h := by simp only [evI] <;> rfl
theorem tpt3 {me : Mi.Env} {h : MH} {i j k : Nat} {a b c : Mi.MV} : setTL me (.tup [a, b, c]) [i, j, k] h = .ok (((me.set i a).set j b).set k c) h := (rfl)
theorem stepF_tpt3 {T : Tab} {C : CallF} {me : Mi.Env} {h : MH} {i j k : Nat} {a b c : Mi.MV} {bd : MSs} : stepF T C (.tp [i, j, k]) bd (.tup [a, b, c]) me h = exB T C bd (((me.set i a).set j b).set k c) h := (rfl)
/-- a loop over a list -/
theorem for_x {P : Po} {me : Mi.Env} {h : MH} {S : List Nat} {l : Nat} {xs : List Mi.MV} {step : Mi.MV → Mi.Env → MH → SR} (J : Nat → Mi.Env → MH → Prop) (a : At h l (.lst xs)) (hl : l ∉ S) (j0 : J 0 me h)
    (st : ∀ i x me1 h1, i < xs.length → xs[i]? = some x → Fr S h h1 → J i me1 h1 → Wt (P.wl fun me2 h2 => J (i + 1) me2 h2 ∧ Fr S h1 h2) (step x me1 h1))
    (fin : ∀ me1 h1, Fr S h h1 → J xs.length me1 h1 → P.nx me1 h1) : Wt P (forL step (.lst l) xs.length 0 me h) := by
  refine forL_w (N := xs.length) (items := fun i => xs[i]?.getD .non) (I := fun i me1 h1 => J i me1 h1 ∧ Fr S h h1) ?_ ?_ ?_ ?_ xs.length 0 me h (by omega) ⟨j0, Fr.refl⟩
  · rintro i me1 h1 ⟨_, f⟩ hi
    rw [at_lst (a.fr f hl)]
    simp [hi]
  · rintro me1 h1 ⟨_, f⟩
    rw [at_lst (a.fr f hl)]
    simp
  · rintro i me1 h1 hi ⟨j, f⟩
    have e1 : xs[i]? = some xs[i] := by simp [hi]
    rw [e1]
    exact Wt_mono (st i _ me1 h1 hi e1 f j) (fun _ _ z => ⟨z.1, f.trans z.2⟩) (fun _ _ => id) (fun _ _ => id) (fun _ _ z => ⟨z.1, f.trans z.2⟩) (fun _ _ _ _ => id)
  · rintro me1 h1 ⟨j, f⟩
    exact fin me1 h1 f j
/-- a comprehension that takes nothing -/
theorem compL_n {step : Mi.MV → M (Option Mi.MV)} {it : Mi.It} {r N : Nat} {h0 : MH} (hit : ∀ h i, Fr [] h0 h → i < N → ∃ v, it.at h i = some (some v) ∧ Sp (step v h) (fun o h' => o = none ∧ Fr [] h h')) (hend : ∀ h, Fr [] h0 h → it.at h N = some none) : ∀ (k i : Nat) (h : MH), Fr [] h0 h → i + k = N → Sp (Mi.compL step it r k i h) (fun _ h' => Fr [] h h')
  | 0, i, h, f, hk => by
    refine Sp_for fun Q E hQ => ?_
    rw [compL_0 (by rw [show i = N by omega]; exact hend h f)]
    exact hQ _ _ Fr.refl
  | k + 1, i, h, f, hk => by
    obtain ⟨v, e, s⟩ := hit h i f (by omega)
    refine Sp_for fun Q E hQ => ?_
    refine compL_1 e ?_
    refine Wr_of s ?_
    rintro _ h1 ⟨rfl, f1⟩
    refine Wr_of (compL_n hit hend k (i + 1) h1 (f.trans f1) (by omega)) ?_
    exact fun a h2 f2 => hQ _ _ (f1.trans f2)
theorem range_map {α β : Type} {d : α} {g : α → β} (P : List α) : (List.range P.length).map (fun i => g (P.getD i d)) = P.map g := by
  apply List.ext_getElem
  · simp
  · intro i h1 h2
    simp at h1
    simp [List.getD, h1]
section
variable {S S' : List Nat} {h h' : MH}
theorem V.rep2 {T : Tab} {v : Mi.MV} {d : PyData} {w z : Nat} (a : V S h v d) (s : Sh d w z) (hf : fz d ≤ 4000) (hw : w ≤ 500000) (hz : z ≤ 1000) : biM T .repr [v] h = .ok (.str d.shown) h := by
  have e := a.toD (k := dpt) (by unfold dpt; omega)
  have hl := PyData.shown_le 30 (by decide) d s.ls
  have h1 := s.wt
  have h2 := s.dp
  have hx : d.shown.length ≤ PySem.sizeLine := by
    rw [PySem.sizeLine_eq]
    have : (30 + 2) * d.weight ≤ 32 * 500000 := Nat.mul_le_mul_left 32 (by omega)
    omega
  show (match Mi.toD h dpt v with
    | some d => if d.showable = true ∧ d.shown.length ≤ PySem.sizeLine ∧ d.depth ≤ 1000 then Res.ok (Mi.MV.str d.shown) h else Res.stuck
    | none => Res.stuck) = _
  rw [e]
  simp only [s.sh, hx, show d.depth ≤ 1000 by omega, and_self, if_true]
def dcnt : PyData → Bool
  | .int i => decide (0 ≤ i)
  | _ => false
def dvi : PyData → Int
  | .int i => i
  | _ => 0
theorem V.num {v : Mi.MV} {d : PyData} (a : V S h v d) : cnt v = dcnt d ∧ vi v = dvi d := by
  cases a <;> exact ⟨rfl, rfl⟩
theorem V.same {v v' : Mi.MV} {d : PyData} (a : V S h v d) (b : V S' h' v' d) : cnt v = cnt v' ∧ vi v = vi v' := ⟨a.num.1.trans b.num.1.symm, a.num.2.trans b.num.2.symm⟩
end
theorem b_list {T : Tab} {h : MH} {xs : List Mi.MV} {v : Mi.MV} (e : asSeq h v = some xs) : biM T .list1 [v] h = newL xs h := by
  show (match asSeq h v with | some xs => newL xs h | none => Res.stuck) = _
  rw [e]
theorem q_callA {T : Tab} {C : CallF} {me : Mi.Env} {h : MH} (f : PySem.Str) (es : MEs) (ks : List PySem.Str) (kes : MEs) (pm : List Nat) : evE T C me (.call f es ks kes pm) h = M.bind (evEs T C me es) (fun vs => M.bind (evEs T C me kes) fun ws => callM T C f vs ws pm) h := by simp only [evE]
theorem hot_w {T : Tab} {fi : FnI} {vs : List Mi.MV} {h : MH} {Q : Mi.MV → MH → Prop} {E : PySem.Str → Nat → MH → Prop} (me : Mi.Env) (b : MSs) (hl : vs.length = fi.np) (hm : ({ sl := vs.map some ++ List.replicate (fi.ns - fi.np) none, ex := some (fi.ns, 0) } : Mi.Env) = me) (hb : fi.body = b)
    (H : Wt (Po.fn Q (fun _ _ _ => False)) (exB T noCall b me h)) : Wr Q E (hotOf T fi vs h) := by
  subst hm hb
  unfold hotOf
  rw [if_pos hl]
  revert H
  cases exB T noCall fi.body { sl := vs.map some ++ List.replicate (fi.ns - fi.np) none, ex := some (fi.ns, 0) } h with
  | ok f h => cases f <;> first | exact id | exact False.elim
  | exc => exact False.elim
  | stuck => exact id
/-! ### texts of data -/
mutual
def okC : PyData → Bool
  | .none => true
  | .bool _ => true
  | .int _ => true
  | .str x => (PySem.reprText x).cps.toList.all fun c => decide (c < 16 ^ 8)
  | .list xs => okCs xs
  | .tuple xs => okCs xs
  | .dict kvs => (PyData.dict kvs).shown.cps.toList.all fun c => decide (c < 16 ^ 8)
def okCs : List PyData → Bool
  | [] => true
  | x :: xs => okC x && okCs xs
end
mutual
theorem okC_small : ∀ d : PyData, okC d = true → ∀ c ∈ d.shown.cps.toList, c < 16 ^ 8
  | .none, _, c, hc => by
    have e : ((PyData.none).shown.cps.toList.all fun c => decide (c < 16 ^ 8)) = true := by decide +kernel
    simpa using List.all_eq_true.mp e c hc
  | .bool b, _, c, hc => by
    have e : ((PyData.bool b).shown.cps.toList.all fun c => decide (c < 16 ^ 8)) = true := by cases b <;> decide +kernel
    simpa using List.all_eq_true.mp e c hc
  | .int i, _, c, hc => small_int i c hc
  | .str x, h, c, hc => by
    unfold okC at h
    have hc' : c ∈ (PySem.reprText x).cps.toList := by simpa only [PyData.shown] using hc
    simpa using List.all_eq_true.mp h c hc'
  | .list xs, h, c, hc => by
    unfold okC at h
    have hc' := hc
    rw [PyData.shown_list] at hc'
    rw [PyProof.Rows.mem_cps_append, PyProof.Rows.mem_cps_append, PyProof.Rows.mem_join, PyProof.Rows.signs_lbrack, PyProof.Rows.signs_rbrack, PyProof.Rows.signs_sep] at hc'
    rcases hc' with (z | ⟨t, ht, z⟩ | ⟨_, z⟩) | z
    · simp at z; omega
    · exact okCs_small xs h t ht c z
    · simp at z; omega
    · simp at z; omega
  | .tuple xs, h, c, hc => by
    unfold okC at h
    have hc' := hc
    rw [PyData.shown_tuple] at hc'
    rw [PyProof.Rows.mem_cps_append, PyProof.Rows.mem_cps_append, PyProof.Rows.mem_join, PyProof.Rows.signs_lparen, PyProof.Rows.signs_sep] at hc'
    rcases hc' with (z | ⟨t, ht, z⟩ | ⟨_, z⟩) | z
    · simp at z; omega
    · exact okCs_small xs h t ht c z
    · simp at z; omega
    · have e1 : (((",)" : String) : PySem.Str).cps.toList.all fun c => decide (c < 16 ^ 8)) = true := by decide +kernel
      have e2 : (((")" : String) : PySem.Str).cps.toList.all fun c => decide (c < 16 ^ 8)) = true := by decide +kernel
      split at z
      · simpa using List.all_eq_true.mp e1 c z
      · simpa using List.all_eq_true.mp e2 c z
  | .dict kvs, h, c, hc => by
    unfold okC at h
    simpa using List.all_eq_true.mp h c hc
theorem okCs_small : ∀ xs : List PyData, okCs xs = true → ∀ t ∈ PyData.shownAll xs, ∀ c ∈ t.cps.toList, c < 16 ^ 8
  | [], _, t, ht, _, _ => by simp only [PyData.shownAll] at ht; cases ht
  | x :: xs, h, t, ht, c, hc => by
    unfold okCs at h
    rw [Bool.and_eq_true] at h
    simp only [PyData.shownAll] at ht
    rcases List.mem_cons.mp ht with e | e
    · subst e; exact okC_small x h.1 c hc
    · exact okCs_small xs h.2 t e c hc
end
/-- a text of data can be shown, too -/
theorem sh_txt {d : PyData} {w z : Nat} (s : Sh d w z) (o : okC d = true) : Sh (.str d.shown) (32 * w + 30) 0 := by
  refine sh_str (okC_small d o) ?_
  have hl := PyData.shown_le 30 (by decide) d s.ls
  have := s.wt
  show d.shown.length ≤ _
  have h2 : (30 + 2) * d.weight ≤ 32 * w := Nat.mul_le_mul_left 32 this
  omega
def isLd : PyData → Bool
  | .list _ => true
  | _ => false
def grown : PyData → PyData
  | .list ds => .list (ds ++ [.str "more"])
  | d => d
theorem isi_list {S : List Nat} {T : Tab} {h : MH} {v : Mi.MV} {d : PyData} (a : V S h v d) : biM T .isi [v, .ty "list"] h = .ok (.bl (isLd d)) h := by
  refine a.isi ?_
  cases a <;> rfl
theorem sh_sm {x : PySem.Str} {w : Nat} (e : (x.cps.toList.all (fun c => decide (c < 16 ^ 8)) && decide (x.cps.size ≤ w)) = true) : Sh (.str x) w 0 := by
  have : (∀ c ∈ x.cps.toList, c < 16 ^ 8) ∧ x.cps.size ≤ w := by
    simp only [Bool.and_eq_true, List.all_eq_true, decide_eq_true_eq] at e
    exact e
  exact sh_str this.1 this.2
theorem sh_more : Sh (.str "more") 4 0 := sh_sm (by decide +kernel)
section
variable {T : Tab} {C : CallF} {P : Po} {me : Mi.Env} {h : MH}
theorem fors_h {i j k n : Nat} {e : ME} {b : MSs} {xs : List Mi.MV} (hx : me.ex = some (j, k)) (hij : j ≠ i) (ev : evE T C me e h = .ok (.ref n) h) (a : At h n (.lst xs)) (H : Wt P (forL (stepF T C (.nm i) b) (.lst n) xs.length 0 me h)) : Wt P (exS T C (.fors (.nm i) (.of e) b) me h) := by
  unfold exS
  rw [if_pos (by rw [hx]; rfl)]
  simp only [hx, Option.map_some]
  rw [if_neg (by intro z; cases z; exact hij rfl), ev]
  simp only [SR.of, asA a, sz_lst a]
  exact H
theorem q_efld {i k : Nat} {f c : PySem.Str} {fs : List (PySem.Str × Mi.MV)} {v : Mi.MV} (hx : me.ex = some (i, k)) (hl : i < me.sl.length) (ht : T.xat f = true) (a : h.get k = some (.exc c fs)) (l : fs.lookup f = some v) : evE T C me (.efld i f) h = .ok v h := by
  simp [evE, hx, hl, ht, a, l]
end
end Lw
end

section
namespace Lw
open Mi
open PySem (PyData)
/-! ### kinds -/
def isTd : PyData → Bool
  | .tuple _ => true
  | _ => false
def isNd : PyData → Bool
  | .int _ => true
  | .bool _ => true
  | _ => false
def isBd : PyData → Bool
  | .bool _ => true
  | _ => false
def isId : PyData → Bool
  | .int _ => true
  | _ => false
section
variable {S : List Nat} {T : Tab} {h : MH} {v : Mi.MV} {d : PyData}
theorem isi_tuple (a : V S h v d) : biM T .isi [v, .ty "tuple"] h = .ok (.bl (isTd d)) h := by
  refine a.isi ?_
  cases a <;> rfl
theorem isi_int (a : V S h v d) : biM T .isi [v, .ty "int"] h = .ok (.bl (isNd d)) h := by
  refine a.isi ?_
  cases a <;> rfl
theorem isi_bool (a : V S h v d) : biM T .isi [v, .ty "bool"] h = .ok (.bl (isBd d)) h := by
  refine a.isi ?_
  cases a <;> rfl
theorem isi_lt (a : V S h v d) : biM T .isi [v, .tup [.ty "list", .ty "tuple"]] h = .ok (.bl (isLd d || isTd d)) h := by
  have e1 : Mi.isi1 T h v (.ty "list") = some (isLd d) := by rw [a.isi1]; cases a <;> rfl
  have e2 : Mi.isi1 T h v (.ty "tuple") = some (isTd d) := by rw [a.isi1]; cases a <;> rfl
  have e3 : isiAny T h v [.ty "list", .ty "tuple"] = some (isLd d || isTd d) := by
    unfold isiAny
    rw [e1]
    cases isLd d with
    | true => rfl
    | false =>
      simp only
      unfold isiAny
      rw [e2]
      cases isTd d with
      | true => rfl
      | false => simp only; unfold isiAny; rfl
  have : biM T .isi [v, .tup [.ty "list", .ty "tuple"]] h = (match isiAny T h v [.ty "list", .ty "tuple"] with
    | some b => if ([.ty "list", .ty "tuple"] : List Mi.MV).all isCl = true ∧ ([.ty "list", .ty "tuple"] : List Mi.MV).isEmpty = false then .ok (.bl b) h else .stuck
    | none => .stuck) := by cases v <;> rfl
  rw [this, e3]
  rfl
end
/-- a list's, a tuple's parts -/
def seqD : PyData → Option (List PyData)
  | .list ds => some ds
  | .tuple ds => some ds
  | _ => none
theorem seqD_is {d : PyData} : (seqD d).isSome = (isLd d || isTd d) := by cases d <;> rfl
section
variable {S : List Nat} {h : MH} {v : Mi.MV} {d : PyData} {ds : List PyData}
theorem V.seq (a : V S h v d) (e : seqD d = some ds) : ∃ xs, asSeq h v = some xs ∧ Vs S h xs ds := by
  cases a with
  | lst l s g r => cases e; exact ⟨_, asL ⟨l, g⟩, r⟩
  | tup r => cases e; exact ⟨_, rfl, r⟩
  | _ => cases e
theorem V.lenq {T : Tab} (a : V S h v d) (e : seqD d = some ds) : biM T .len [v] h = .ok (.int ds.length) h := by
  obtain ⟨xs, e1, r⟩ := a.seq e
  have : biM T .len [v] h = (match asSeq h v with | some xs => Res.ok (Mi.MV.int xs.length) h | none => Res.stuck) := by
    cases v <;> first | rfl | (cases a; cases e)
  rw [this, e1]
  simp only [r.len]
theorem V.subq {i : Int} (a : V S h v d) (e : seqD d = some ds) (h0 : 0 ≤ i) (h1 : i < ds.length) : ∃ x y, subM v (.int i) h = .ok x h ∧ ds[i.toNat]? = some y ∧ V S h x y := by
  obtain ⟨xs, e1, r⟩ := a.seq e
  obtain ⟨x, y, q1, q2, w⟩ := Vs.at r (show i.toNat < ds.length by omega)
  refine ⟨x, y, sub_ix e1 ?_, q2, w⟩
  rw [idx_ok h0 (by rw [r.len]; exact h1)]
  exact q1
/-- how a list or a tuple is walked -/
theorem V.itq (a : V S h v d) (e : seqD d = some ds) : ∃ it, itOf v h = .ok it h ∧ it.size h = ds.length ∧ ∀ h1, Fr S h h1 → (∀ i, i < ds.length → ∃ x y, it.at h1 i = some (some x) ∧ ds[i]? = some y ∧ V S h1 x y) ∧ it.at h1 ds.length = some none := by
  cases a with
  | lst l s g r =>
    cases e
    have A : At h _ _ := ⟨l, g⟩
    refine ⟨_, it_lst A, by rw [sz_lst A, r.len], fun h1 F => ?_⟩
    have A1 := A.fr F s
    refine ⟨fun i hi => ?_, by rw [at_lst A1]; simp [r.len]⟩
    obtain ⟨x, y, q1, q2, w⟩ := Vs.at (r.fr F) hi
    exact ⟨x, y, by rw [at_lst A1, q1], q2, w⟩
  | tup r =>
    cases e
    refine ⟨_, it_tup, by rw [sz_tup, r.len], fun h1 F => ⟨fun i hi => ?_, ?_⟩⟩
    · obtain ⟨x, y, q1, q2, w⟩ := Vs.at (r.fr F) hi
      exact ⟨x, y, by show some _ = _; rw [q1], q2, w⟩
    · show some _ = _
      simp [r.len]
  | _ => cases e
end
/-! ### comprehensions, by what is made -/
theorem compL_s {step : Mi.MV → M (Option Mi.MV)} {it : Mi.It} {r N : Nat} {h0 : MH} {outs : Nat → Option Mi.MV} (hit : ∀ h i, Fr [r] h0 h → i < N → ∃ v, it.at h i = some (some v) ∧ Sp (step v h) (fun o h' => o = outs i ∧ Fr [] h h')) (hend : ∀ h, Fr [r] h0 h → it.at h N = some none) :
    ∀ (k i : Nat) (h : MH) (acc : List Mi.MV), Fr [r] h0 h → At h r (.lst acc) → i + k = N → acc.length + k ≤ 16777216 → Sp (Mi.compL step it r k i h) (fun _ h' => At h' r (.lst (acc ++ (List.range k).filterMap fun j => outs (i + j))) ∧ Fr [r] h h')
  | 0, i, h, acc, f, a, hk, _ => by
    refine Sp_for fun Q E hQ => ?_
    rw [compL_0 (by rw [show i = N by omega]; exact hend h f)]
    exact hQ _ _ ⟨by simpa using a, Fr.refl⟩
  | k + 1, i, h, acc, f, a, hk, hz => by
    obtain ⟨v, e, s⟩ := hit h i f (by omega)
    have hsh : ∀ f : Nat → Option Mi.MV, (List.range (k + 1)).filterMap f = (match f 0 with | some w => [w] | none => []) ++ (List.range k).filterMap fun j => f (1 + j) := fun f => by
      rw [List.range_succ_eq_map, List.filterMap_cons, List.filterMap_map]
      have : (f ∘ Nat.succ) = fun j => f (1 + j) := by funext j; simp [Function.comp, Nat.add_comm]
      rw [this]
      cases f 0 <;> simp
    refine Sp_for fun Q E hQ => ?_
    refine compL_1 e ?_
    refine Wr_of s ?_
    rintro o h1 ⟨rfl, f1⟩
    have a1 := a.fr0 f1
    cases ho : outs i with
    | none =>
      simp only
      refine Wr_of (compL_s hit hend k (i + 1) h1 acc (f.trans f1.up) a1 (by omega) (by omega)) ?_
      rintro _ h2 ⟨a2, f2⟩
      refine hQ _ _ ⟨?_, f1.up.trans f2⟩
      rw [hsh]
      simpa [ho, Nat.add_assoc] using a2
    | some w =>
      simp only
      refine ⟨acc, a1.get, by omega, ?_⟩
      have P : Fr [r] h1 (h1.put r (.lst (acc ++ [w]))) := Fr.put (by simp)
      refine Wr_of (compL_s hit hend k (i + 1) (h1.put r (.lst (acc ++ [w]))) (acc ++ [w]) ((f.trans f1.up).trans P) (At.put a1.lt) (by omega) (by simp; omega)) ?_
      rintro _ h2 ⟨a2, f2⟩
      refine hQ _ _ ⟨?_, (f1.up.trans P).trans f2⟩
      rw [hsh]
      simpa [ho, Nat.add_assoc] using a2
section
variable {T : Tab} {C : CallF} {me : Mi.Env} {h : MH} {S : List Nat} {v : Mi.MV} {d : PyData} {ds : List PyData}
theorem range_fm {β : Type} {f : PyData → Option β} : ∀ ds : List PyData, (List.range ds.length).filterMap (fun j => f (ds.getD j .none)) = ds.filterMap f := by
  intro ds
  have e : (List.range ds.length).map (fun j => ds.getD j PyData.none) = ds := by
    apply List.ext_getElem
    · simp
    · intro i h1 h2
      simp at h1
      simp [List.getD, h1]
  have : (List.range ds.length).filterMap (fun j => f (ds.getD j .none)) = ((List.range ds.length).map (fun j => ds.getD j PyData.none)).filterMap f := by
    rw [List.filterMap_map]; rfl
  rw [this, e]
/-- over a list or a tuple of data: what is made needs no object -/
theorem comp_v {vs : List Nat} {t : CT} {e0 c e : ME} (f : PyData → Option Mi.MV) (hx : me.ex = none) (ei : evE T C me e0 h = .ok v h) (a : V S h v d) (hd : seqD d = some ds) (hz : ds.length ≤ 16777216)
    (st : ∀ x dx h1, dx ∈ ds → Fr [] h h1 → V S h1 x dx → Sp (stepG T C me vs t c e x h1) (fun o h2 => o = f dx ∧ Fr [] h1 h2)) :
    Sp (evE T C me (.comp vs t (.of e0) c e) h) (fun r h' => ∃ m, r = .ref m ∧ h.next ≤ m ∧ At h' m (.lst (ds.filterMap f)) ∧ Fr [] h h') := by
  obtain ⟨it, e1, e2, e3⟩ := a.itq hd
  refine Sp_for fun Q E hQ => ?_
  refine comp_w hx ?_
  rw [q_iof, y_bind, ei, y_ok, e1, y_ok, e2]
  have F0 : Fr [] h (h.new (.lst [])) := Fr.new
  have fr : ∀ h1, Fr [h.next] (h.new (.lst [])) h1 → Fr [] h h1 := fun h1 f => F0.comp f (by simp)
  refine Wr_of (compL_s (N := ds.length) (h0 := h.new (.lst [])) (outs := fun i => f (ds.getD i .none)) (fun h1 i f1 hi => ?_) (fun h1 f1 => ((e3 h1 (fr h1 f1).up).2)) ds.length 0 (h.new (.lst [])) [] Fr.refl At.new (by omega) (by simpa using hz)) ?_
  · obtain ⟨x, y, q1, q2, w⟩ := (e3 h1 (fr h1 f1).up).1 i hi
    refine ⟨x, q1, ?_⟩
    have := st x y h1 (List.mem_of_getElem? q2) (fr h1 f1) w
    have ey : ds.getD i .none = y := by simp [List.getD, q2]
    rw [ey]
    exact this
  · rintro _ h2 ⟨A2, f2⟩
    simp only [Nat.zero_add, List.nil_append] at A2
    rw [range_fm] at A2
    exact hQ _ _ ⟨_, rfl, Nat.le_refl _, A2, fr h2 f2⟩
end
/-! ### all -/
theorem bools_map (l : List Bool) : boolsM (l.map Mi.MV.bl) = some l := by
  induction l with
  | nil => rfl
  | cons b l ih => rw [List.map_cons]; unfold boolsM; rw [ih]; rfl
theorem b_all {T : Tab} {h : MH} {l : Nat} {bs : List Bool} (A : At h l (.lst (bs.map Mi.MV.bl))) : biM T .all [.ref l] h = .ok (.bl (bs.all id)) h := by
  show (match (asList h (.ref l)).bind boolsM with | some ns => Res.ok (Mi.MV.bl (ns.all id)) h | none => Res.stuck) = _
  rw [asA A, Option.bind_some, bools_map]
theorem fm_some {α β : Type} {f : α → β} : ∀ l : List α, l.filterMap (fun x => some (f x)) = l.map f := by
  intro l
  induction l with
  | nil => rfl
  | cons x l ih => rw [List.filterMap_cons, ih]; rfl
/-- a comprehension, by what each turn makes -/
theorem comp_i {T : Tab} {C : CallF} {me : Mi.Env} {h : MH} {vs : List Nat} {t : CT} {it : MI} {c e : ME} {J : Mi.It} {N : Nat} (outs : Nat → Option Mi.MV) (hx : me.ex = none) (hI : evI T C me it h = .ok J h) (hN : J.size h = N) (hz : N ≤ 16777216)
    (st : ∀ i h1, i < N → Fr [] h h1 → ∃ x, J.at h1 i = some (some x) ∧ Sp (stepG T C me vs t c e x h1) (fun o h2 => o = outs i ∧ Fr [] h1 h2)) (hend : ∀ h1, Fr [] h h1 → J.at h1 N = some none) :
    Sp (evE T C me (.comp vs t it c e) h) (fun r h' => ∃ m, r = .ref m ∧ h.next ≤ m ∧ At h' m (.lst ((List.range N).filterMap outs)) ∧ Fr [] h h') := by
  refine Sp_for fun Q E hQ => ?_
  refine comp_w hx ?_
  rw [hI, y_ok, hN]
  have F0 : Fr [] h (h.new (.lst [])) := Fr.new
  have fr : ∀ h1, Fr [h.next] (h.new (.lst [])) h1 → Fr [] h h1 := fun h1 f => F0.comp f (by simp)
  refine Wr_of (compL_s (N := N) (h0 := h.new (.lst [])) (outs := outs) (fun h1 i f1 hi => st i h1 hi (fr h1 f1)) (fun h1 f1 => hend h1 (fr h1 f1)) N 0 (h.new (.lst [])) [] Fr.refl At.new (by omega) (by simpa using hz)) ?_
  rintro _ h2 ⟨A2, f2⟩
  simp only [Nat.zero_add, List.nil_append] at A2
  exact hQ _ _ ⟨_, rfl, Nat.le_refl _, A2, fr h2 f2⟩
theorem at_rng {h : MH} {lo : Int} {n i : Nat} (hi : i < n) : Mi.It.at h i (.rng lo n) = some (some (.int (lo + i))) := by
  show some (if i < n then _ else _) = _
  rw [if_pos hi]
theorem at_rnge {h : MH} {lo : Int} {n : Nat} : Mi.It.at h n (.rng lo n) = some none := by
  show some (if n < n then _ else _) = _
  rw [if_neg (Nat.lt_irrefl _)]
/-! ### comprehensions with two generators -/
section
variable {T : Tab} {C : CallF} {me : Mi.Env} {h : MH}
def stepO (T : Tab) (C : CallF) (me : Mi.Env) (vs : List Nat) (t : CT) (c : ME) (ws : List Nat) (t1 : CT) (it1 : MI) (c1 e : ME) (n : Nat) : Mi.MV → M Unit := fun v h => match setT h (wipeM me vs) v t with
  | some me' => M.bind (quiet (evT T C me' c)) (fun k => if k = true then M.bind (quiet (evI T C me' it1)) (fun J1 => fun h => Mi.compL (stepG T C me' ws t1 c1 e) J1 n (J1.size h) 0 h) else M.pure ()) h
  | none => .stuck
theorem comp2_w {Q : Mi.MV → MH → Prop} {E : PySem.Str → Nat → MH → Prop} {vs : List Nat} {t : CT} {it : MI} {c : ME} {ws : List Nat} {t1 : CT} {it1 : MI} {c1 e : ME} (hx : me.ex = none) (H : Wr (fun J h => Wr (fun _ h' => Q (.ref h.next) h') E (Mi.compO (stepO T C me vs t c ws t1 it1 c1 e h.next) J (J.size h) 0 (h.new (.lst [])))) E (evI T C me it h)) : Wr Q E (evE T C me (.comp2 vs t it c ws t1 it1 c1 e) h) := by
  have hx' : ¬ (me.ex.isSome = true) := by rw [hx]; simp
  have : evE T C me (.comp2 vs t it c ws t1 it1 c1 e) h = M.bind (evI T C me it) (fun J => fun h => M.bind (newL []) (fun r => match r with
    | .ref n => fun h' => M.bind (Mi.compO (stepO T C me vs t c ws t1 it1 c1 e n) J (J.size h) 0) (fun _ => M.pure (Mi.MV.ref n)) h'
    | _ => M.stuck) h) h := by
    unfold evE
    rw [if_neg hx']
    rfl
  rw [this, y_bind]
  revert H
  cases evI T C me it h with
  | ok J h1 =>
    intro H
    simp only [y_ok] at H ⊢
    rw [y_bind, x_newL (by simp), y_ok]
    simp only
    rw [y_bind]
    exact H
  | exc => exact id
  | stuck => exact id
theorem stepO_w {me' : Mi.Env} {Q : Unit → MH → Prop} {E : PySem.Str → Nat → MH → Prop} {vs : List Nat} {t : CT} {ws : List Nat} {t1 : CT} {it1 : MI} {c1 e : ME} {n : Nat} {v : Mi.MV} {J1 : Mi.It} (hs : setT h (wipeM me vs) v t = some me') (hI : evI T C me' it1 h = .ok J1 h) (H : Wr Q E (Mi.compL (stepG T C me' ws t1 c1 e) J1 n (J1.size h) 0 h)) : Wr Q E (stepO T C me vs t (.bl true) ws t1 it1 c1 e n v h) := by
  unfold stepO
  rw [hs]
  simp only
  rw [q_mb]
  unfold quiet
  rw [q_tbl]
  simp only [q_b1, if_true]
  rw [q_mb, hI]
  exact H
theorem compO_s {step : Mi.MV → M Unit} {it : Mi.It} {r N : Nat} {h0 : MH} {outs : Nat → List Mi.MV} (hit : ∀ h i, Fr [r] h0 h → i < N → At h r (.lst (outs i)) → ∃ v, it.at h i = some (some v) ∧ Sp (step v h) (fun _ h' => At h' r (.lst (outs (i + 1))) ∧ Fr [r] h h')) (hend : ∀ h, Fr [r] h0 h → it.at h N = some none) :
    ∀ (k i : Nat) (h : MH), Fr [r] h0 h → At h r (.lst (outs i)) → i + k = N → Sp (Mi.compO step it k i h) (fun _ h' => At h' r (.lst (outs N)) ∧ Fr [r] h h')
  | 0, i, h, f, a, hk => by
    have e : i = N := by omega
    subst e
    refine Sp_for fun Q E hQ => ?_
    unfold Mi.compO
    rw [hend h f]
    exact hQ _ _ ⟨a, Fr.refl⟩
  | k + 1, i, h, f, a, hk => by
    obtain ⟨v, e, s⟩ := hit h i f (by omega) a
    refine Sp_for fun Q E hQ => ?_
    unfold Mi.compO
    rw [e]
    simp only
    rw [y_bind]
    refine Wr_of s ?_
    rintro _ h1 ⟨a1, f1⟩
    refine Wr_of (compO_s hit hend k (i + 1) h1 (f.trans f1) a1 (by omega)) ?_
    rintro _ h2 ⟨a2, f2⟩
    exact hQ _ _ ⟨a2, f1.trans f2⟩
end
/-- how a list or a tuple is walked, with places -/
theorem V.enq {T : Tab} {C : CallF} {me : Mi.Env} {S : List Nat} {h : MH} {v : Mi.MV} {d : PyData} {ds : List PyData} {e0 : ME} (a : V S h v d) (e : seqD d = some ds) (ei : evE T C me e0 h = .ok v h) : ∃ it, evI T C me (.enum e0) h = .ok it h ∧ it.size h = ds.length ∧ ∀ h1, Fr S h h1 → (∀ i, i < ds.length → ∃ x y, it.at h1 i = some (some (.tup [.int i, x])) ∧ ds[i]? = some y ∧ V S h1 x y) ∧ it.at h1 ds.length = some none := by
  cases a with
  | @lst n xs _ l s g r =>
    cases e
    have A : At h _ _ := ⟨l, g⟩
    refine ⟨.enum n, ?_, ?_, fun h1 F => ?_⟩
    · rw [q_enum, q_mb, ei, q_b1]
      simp only [asA A]
    · show ((asList h (.ref n)).getD []).length = _
      rw [asA A]
      exact r.len
    · have A1 := A.fr F s
      refine ⟨fun i hi => ?_, ?_⟩
      · obtain ⟨x, y, q1, q2, w⟩ := Vs.at (r.fr F) hi
        refine ⟨x, y, ?_, q2, w⟩
        show (asList h1 (.ref n)).map (fun xs => (xs[i]?).map fun x => Mi.MV.tup [.int i, x]) = _
        rw [asA A1, Option.map_some, q1]; rfl
      · show (asList h1 (.ref n)).map (fun xs => (xs[ds.length]?).map fun x => Mi.MV.tup [.int ds.length, x]) = _
        rw [asA A1, Option.map_some]
        simp [r.len]
  | @tup xs _ r =>
    cases e
    refine ⟨.enumT xs, ?_, r.len, fun h1 F => ⟨fun i hi => ?_, ?_⟩⟩
    · rw [q_enum, q_mb, ei, q_b1]; rfl
    · obtain ⟨x, y, q1, q2, w⟩ := Vs.at (r.fr F) hi
      refine ⟨x, y, ?_, q2, w⟩
      show some ((xs[i]?).map fun x => Mi.MV.tup [.int i, x]) = _
      rw [q1]; rfl
    · show some ((xs[ds.length]?).map fun x => Mi.MV.tup [.int ds.length, x]) = _
      simp [r.len]
  | _ => cases e
theorem ints_map2 (l : List Int) : intsM (l.map Mi.MV.int) = some l := by
  induction l with
  | nil => rfl
  | cons b l ih => rw [List.map_cons]; unfold intsM; rw [ih]; rfl
theorem tups_map (l : List (List Int)) : tupsM (l.map fun t => .tup (t.map .int)) = some l := by
  induction l with
  | nil => rfl
  | cons b l ih => rw [List.map_cons]; unfold tupsM; rw [ints_map2, ih]
section
variable {T : Tab} {h : MH} {l : Nat}
theorem b_sumL {ns : List Int} (A : At h l (.lst (ns.map .int))) : biM T .sum [.ref l] h = .ok (.int ns.sum) h := by
  show (match (asList h (.ref l)).bind intsM with | some ns => Res.ok (Mi.MV.int ns.sum) h | none => Res.stuck) = _
  rw [asA A, Option.bind_some, ints_map2]
theorem b_minL {n : Int} {ns : List Int} (A : At h l (.lst ((n :: ns).map .int))) : biM T .min1 [.ref l] h = .ok (.int (minI n ns)) h := by
  show (match (asList h (.ref l)).bind intsM with | some (n :: ns) => Res.ok (Mi.MV.int (minI n ns)) h | _ => Res.stuck) = _
  rw [asA A, Option.bind_some, ints_map2]
theorem b_maxL {n : Int} {ns : List Int} (A : At h l (.lst ((n :: ns).map .int))) : biM T .max1 [.ref l] h = .ok (.int (maxI n ns)) h := by
  show (match (asList h (.ref l)).bind intsM with | some (n :: ns) => Res.ok (Mi.MV.int (maxI n ns)) h | _ => Res.stuck) = _
  rw [asA A, Option.bind_some, ints_map2]
theorem b_minTL {t : List Int} {ts : List (List Int)} (A : At h l (.lst ((t :: ts).map fun t => .tup (t.map .int)))) : biM T .minT [.ref l] h = .ok (.tup ((bestT ltT t ts).map .int)) h := by
  show (match (asList h (.ref l)).bind tupsM with | some (t :: ts) => Res.ok (Mi.MV.tup ((bestT ltT t ts).map .int)) h | _ => Res.stuck) = _
  rw [asA A, Option.bind_some, tups_map]
theorem b_maxTL {t : List Int} {ts : List (List Int)} (A : At h l (.lst ((t :: ts).map fun t => .tup (t.map .int)))) : biM T .maxT [.ref l] h = .ok (.tup ((bestT gtT t ts).map .int)) h := by
  show (match (asList h (.ref l)).bind tupsM with | some (t :: ts) => Res.ok (Mi.MV.tup ((bestT gtT t ts).map .int)) h | _ => Res.stuck) = _
  rw [asA A, Option.bind_some, tups_map]
end
/-- a list compared with an empty one -/
theorem eq_e {S S' : List Nat} {h : MH} {l m : Nat} {ds : List PyData} (a : V S h (.ref l) (.list ds)) (B : At h m (.lst [])) (hf : fzs ds ≤ 4000) (hs : PySem.SeqAt.shaped (.list ds) = true) : eqM (.ref l) (.ref m) h = .ok ds.isEmpty h := by
  have e1 : toD h dpt (.ref l) = some (.list ds) := a.toD (by simp only [fz]; unfold dpt; omega)
  have e2 : toD h dpt (.ref m) = some (.list []) := (V.lst (S := []) B.lt (by simp) B.get .nil).toD (by simp only [fz, fzs]; unfold dpt; omega)
  show (match toD h dpt (.ref l), toD h dpt (.ref m) with
    | some d, some e => if PySem.SeqAt.shaped d = true ∧ PySem.SeqAt.shaped e = true then Res.ok (PyData.eqv d e) h else .stuck
    | _, _ => .stuck) = _
  rw [e1, e2]
  simp only
  rw [if_pos ⟨hs, by decide⟩]
  cases ds <;> simp [PyData.eqv, PyData.eqvAll]
theorem c_eqE {S S' : List Nat} {h : MH} {l m : Nat} {ds : List PyData} (a : V S h (.ref l) (.list ds)) (B : At h m (.lst [])) (hf : fzs ds ≤ 4000) (hs : PySem.SeqAt.shaped (.list ds) = true) : cmpM .eq (.ref l) (.ref m) h = .ok (.bl ds.isEmpty) h := by
  show M.bind (eqM (.ref l) (.ref m)) (fun b => M.pure (Mi.MV.bl b)) h = _
  rw [q_mb, eq_e (S' := S') a B hf hs]; rfl
theorem c_neE {S S' : List Nat} {h : MH} {l m : Nat} {ds : List PyData} (a : V S h (.ref l) (.list ds)) (B : At h m (.lst [])) (hf : fzs ds ≤ 4000) (hs : PySem.SeqAt.shaped (.list ds) = true) : cmpM .ne (.ref l) (.ref m) h = .ok (.bl (!ds.isEmpty)) h := by
  show M.bind (eqM (.ref l) (.ref m)) (fun b => M.pure (Mi.MV.bl (!b))) h = _
  rw [q_mb, eq_e (S' := S') a B hf hs]; rfl
section
variable {T : Tab} {C : CallF} {me : Mi.Env} {h : MH}
theorem range_fmM {f : Mi.MV → Option Mi.MV} (xs : List Mi.MV) : (List.range xs.length).filterMap (fun j => f (xs.getD j .non)) = xs.filterMap f := by
  have e : (List.range xs.length).map (fun j => xs.getD j Mi.MV.non) = xs := by
    apply List.ext_getElem
    · simp
    · intro i h1 h2
      simp at h1
      simp [List.getD, h1]
  have : (List.range xs.length).filterMap (fun j => f (xs.getD j .non)) = ((List.range xs.length).map (fun j => xs.getD j Mi.MV.non)).filterMap f := by
    rw [List.filterMap_map]; rfl
  rw [this, e]
/-- over a list of values -/
theorem comp_l {vs : List Nat} {t : CT} {e0 c e : ME} {l : Nat} {xs : List Mi.MV} (f : Mi.MV → Option Mi.MV) (hx : me.ex = none) (ei : evE T C me e0 h = .ok (.ref l) h) (A : At h l (.lst xs)) (hz : xs.length ≤ 16777216)
    (st : ∀ x h1, x ∈ xs → Fr [] h h1 → Sp (stepG T C me vs t c e x h1) (fun o h2 => o = f x ∧ Fr [] h1 h2)) :
    Sp (evE T C me (.comp vs t (.of e0) c e) h) (fun r h' => ∃ m, r = .ref m ∧ h.next ≤ m ∧ At h' m (.lst (xs.filterMap f)) ∧ Fr [] h h') := by
  have := comp_i (T := T) (C := C) (me := me) (h := h) (vs := vs) (t := t) (it := .of e0) (c := c) (e := e) (J := .lst l) (N := xs.length) (fun i => f (xs.getD i .non)) hx (by rw [q_iof, q_mb, ei, q_b1]; exact it_lst A) (sz_lst A) hz (fun i h1 hi F => ?_) (fun h1 F => by rw [at_lst (A.fr0 F)]; simp)
  · rw [range_fmM] at this
    exact this
  · have e1 : xs[i]? = some xs[i] := by simp [hi]
    refine ⟨xs[i], by rw [at_lst (A.fr0 F), e1], ?_⟩
    have e2 : xs.getD i .non = xs[i] := by simp [List.getD, hi]
    rw [e2]
    exact st _ h1 (List.getElem_mem hi) F
theorem sub_t2 {a b c : Mi.MV} {xs : List Mi.MV} : subM (.tup (a :: b :: c :: xs)) (.int 2) h = .ok c h := by
  refine sub_ix rfl ?_
  rw [idx_ok (by decide) (by simp <;> omega)]; rfl
end
/-! ### slices -/
def cutA {α : Type} (xs : List α) (lo hi : Option Int) : List α := (xs.drop (HT.sIx xs.length 0 lo)).take (HT.sIx xs.length xs.length hi - HT.sIx xs.length 0 lo)
theorem cutA_lo {α : Type} (xs : List α) {k : Int} (h : 0 ≤ k) : cutA xs none (some k) = xs.take k.toNat := by
  unfold cutA HT.sIx
  simp only [List.drop_zero, Nat.sub_zero]
  rw [if_neg (by omega)]
  rcases Nat.le_total k.toNat xs.length with q | q
  · rw [Nat.min_eq_left q]
  · rw [Nat.min_eq_right q, List.take_length, List.take_of_length_le q]
theorem cutA_hi {α : Type} (xs : List α) {k : Int} (h : 0 ≤ k) : cutA xs (some k) none = xs.drop k.toNat := by
  unfold cutA HT.sIx
  simp only
  rw [if_neg (by omega)]
  rcases Nat.le_total k.toNat xs.length with q | q
  · rw [Nat.min_eq_left q, List.take_of_length_le (by rw [List.length_drop]; omega)]
  · rw [Nat.min_eq_right q, List.drop_length, List.drop_of_length_le q]
    simp
theorem cutA_mem {α : Type} {xs : List α} {lo hi : Option Int} {x : α} (h : x ∈ cutA xs lo hi) : x ∈ xs := List.mem_of_mem_drop (List.mem_of_mem_take h)
theorem cutA_len {α : Type} (xs : List α) (lo hi : Option Int) : (cutA xs lo hi).length ≤ xs.length := by
  unfold cutA
  rw [List.length_take, List.length_drop]
  omega
section
variable {S : List Nat} {h : MH}
theorem Vs.take : ∀ {xs : List Mi.MV} {ds : List PyData} (k : Nat), Vs S h xs ds → Vs S h (xs.take k) (ds.take k)
  | _, _, 0, _ => by simpa using Vs.nil
  | _, _, k + 1, .nil => by simpa using Vs.nil
  | _, _, k + 1, .cons r t => .cons r (Vs.take k t)
theorem Vs.drop : ∀ {xs : List Mi.MV} {ds : List PyData} (k : Nat), Vs S h xs ds → Vs S h (xs.drop k) (ds.drop k)
  | _, _, 0, r => r
  | _, _, k + 1, .nil => by simpa using Vs.nil
  | _, _, k + 1, .cons r t => Vs.drop k t
theorem Vs.cut {xs : List Mi.MV} {ds : List PyData} (r : Vs S h xs ds) (lo hi : Option Int) : Vs S h (Mi.cut xs lo hi) (cutA ds lo hi) := by
  unfold Mi.cut cutA
  rw [r.len]
  exact (r.drop _).take _
theorem slc_v {Q : Mi.MV → MH → Prop} {E : PySem.Str → Nat → MH → Prop} {x : Mi.MV} {ds : List PyData} (a : V S h x (.list ds)) (lo hi : Option Int) (hS : h.next ∉ S) (hz : ds.length ≤ 16777216) (H : ∀ v h', V S h' v (.list (cutA ds lo hi)) → Fr [] h h' → Q v h') : Wr Q E (slcM x lo hi h) := by
  obtain ⟨n, xs, rfl, _, A, r⟩ := a.at_
  have : slcM (.ref n) lo hi h = newL (Mi.cut xs lo hi) h := by
    show (match asList h (.ref n) with | some xs => newL (Mi.cut xs lo hi) h | none => Res.stuck) = _
    rw [asA A]
  rw [this]
  have l := (r.cut lo hi).len
  exact newL_v (r.cut lo hi) hS (by rw [l]; have := cutA_len ds lo hi; omega) H
theorem q_dc {T : Tab} {C : CallF} {me : Mi.Env} (kvs : List (L2.Key × L2.Key)) : evE T C me (.dc kvs) h = newD (kvs.map fun p => (p.1, kM p.2)) h := by simp only [evE]
theorem zipK (kvs : List (L2.Key × L2.Key)) : (kvs.map fun p => (kD p.1, kD p.2)) = ((kvs.map fun p : L2.Key × L2.Key => (p.1, kM p.2)).map fun p => kD p.1).zip (kvs.map fun p => kD p.2) := by
  induction kvs with
  | nil => rfl
  | cons p l ih =>
    simp only [List.map_cons, List.zip_cons_cons]
    rw [ih]
theorem Vs.rev {xs : List Mi.MV} {ds : List PyData} : Vs S h xs ds → Vs S h xs.reverse ds.reverse
  | .nil => .nil
  | .cons r t => by
    rw [List.reverse_cons, List.reverse_cons]
    exact t.rev.app (.cons r .nil)
theorem rev_v {Q : Mi.MV → MH → Prop} {E : PySem.Str → Nat → MH → Prop} {x : Mi.MV} {ds : List PyData} (a : V S h x (.list ds)) (hS : h.next ∉ S) (hz : ds.length ≤ 16777216) (H : ∀ v h', V S h' v (.list ds.reverse) → Fr [] h h' → Q v h') : Wr Q E (revM x h) := by
  obtain ⟨n, xs, rfl, _, A, r⟩ := a.at_
  have : revM (.ref n) h = newL xs.reverse h := by
    show (match asList h (.ref n) with | some xs => newL xs.reverse h | none => Res.stuck) = _
    rw [asA A]
  rw [this]
  exact newL_v r.rev hS (by rw [List.length_reverse, r.len]; omega) H
theorem newD_v {Q : Mi.MV → MH → Prop} {E : PySem.Str → Nat → MH → Prop} {kvs : List (L2.Key × L2.Key)} (hS : h.next ∉ S) (H : ∀ v h', V S h' v (.dict (kvs.map fun p => (kD p.1, kD p.2))) → Fr [] h h' → Q v h') : Wr Q E (newD (kvs.map fun p => (p.1, kM p.2)) h) := by
  have F : Fr [] h (h.new (.dct (kvs.map fun p => (p.1, kM p.2)))) := Fr.new
  refine H (.ref h.next) _ ?_ F
  have r : ∀ kvs : List (L2.Key × L2.Key), Vs S (h.new (.dct (kvs.map fun p => (p.1, kM p.2)))) ((kvs.map fun p => (p.1, kM p.2)).map (·.2)) (kvs.map fun p => kD p.2) := by
    intro l
    generalize h.new (.dct (l.map fun p => (p.1, kM p.2))) = h'
    induction l with
    | nil => exact .nil
    | cons p l ih =>
      refine .cons ?_ ih
      obtain ⟨k, w⟩ := p
      cases w with
      | inl i => exact .int i
      | inr x => exact .str x
  rw [zipK kvs]
  exact .dct (Nat.lt_succ_self _) hS MH.new_same (r kvs)
end
/-! ### comprehensions that make new objects -/
theorem compL_d {step : Mi.MV → M (Option Mi.MV)} {it : Mi.It} {r N : Nat} {h0 : MH} {outs : Nat → PyData} (hit : ∀ h i, Fr [r] h0 h → r < h.next → i < N → ∃ v, it.at h i = some (some v) ∧ Sp (step v h) (fun o h' => ∃ w, o = some w ∧ V [r] h' w (outs i) ∧ Fr [] h h')) (hend : ∀ h, Fr [r] h0 h → it.at h N = some none) :
    ∀ (k i : Nat) (h : MH) (acc : List Mi.MV) (D : List PyData), Fr [r] h0 h → At h r (.lst acc) → Vs [r] h acc D → i + k = N → acc.length + k ≤ 16777216 → Sp (Mi.compL step it r k i h) (fun _ h' => ∃ acc', At h' r (.lst acc') ∧ Vs [r] h' acc' (D ++ (List.range k).map fun j => outs (i + j)) ∧ Fr [r] h h')
  | 0, i, h, acc, D, f, a, va, hk, _ => by
    refine Sp_for fun Q E hQ => ?_
    rw [compL_0 (by rw [show i = N by omega]; exact hend h f)]
    exact hQ _ _ ⟨acc, a, by simpa using va, Fr.refl⟩
  | k + 1, i, h, acc, D, f, a, va, hk, hz => by
    obtain ⟨v, e, s⟩ := hit h i f a.lt (by omega)
    refine Sp_for fun Q E hQ => ?_
    refine compL_1 e ?_
    refine Wr_of s ?_
    rintro _ h1 ⟨w, rfl, vw, f1⟩
    have a1 := a.fr0 f1
    have va1 := va.fr0 f1
    simp only
    refine ⟨acc, a1.get, by omega, ?_⟩
    have P : Fr [r] h1 (h1.put r (.lst (acc ++ [w]))) := Fr.put (by simp)
    refine Wr_of (compL_d hit hend k (i + 1) (h1.put r (.lst (acc ++ [w]))) (acc ++ [w]) (D ++ [outs i]) ((f.trans f1.up).trans P) (At.put a1.lt) ((va1.app (.cons vw .nil)).fr P) (by omega) (by simp; omega)) ?_
    rintro _ h2 ⟨acc', a2, v2, f2⟩
    refine hQ _ _ ⟨acc', a2, ?_, (f1.up.trans P).trans f2⟩
    rw [List.range_succ_eq_map, List.map_cons, List.map_map]
    have e : ((fun j => outs (i + j)) ∘ Nat.succ) = fun j => outs (i + 1 + j) := by
      funext j
      show outs (i + (j + 1)) = _
      congr 1
      omega
    rw [e]
    simpa using v2
theorem range_mapD {g : PyData → PyData} : ∀ ds : List PyData, (List.range ds.length).map (fun j => g (ds.getD j .none)) = ds.map g := by
  intro ds
  apply List.ext_getElem
  · simp
  · intro i h1 h2
    simp at h1
    simp [List.getD, h1]
section
variable {T : Tab} {C : CallF} {me : Mi.Env} {h : MH}
/-- over a list or a tuple of data; each turn makes a value, by its data -/
theorem comp_dv {Q : Mi.MV → MH → Prop} {E : PySem.Str → Nat → MH → Prop} {vs : List Nat} {t : CT} {e0 c e : ME} (g : PyData → PyData) (hx : me.ex = none)
    (H : Wr (fun v h1 => ∃ d ds, V [] h1 v d ∧ seqD d = some ds ∧ ds.length ≤ 16777216 ∧ (∀ r x dx h2, r < h2.next → dx ∈ ds → Fr [] h1 h2 → V [r] h2 x dx → Sp (stepG T C me vs t c e x h2) (fun o h3 => ∃ w, o = some w ∧ V [r] h3 w (g dx) ∧ Fr [] h2 h3)) ∧ ∀ u h2, V [] h2 u (.list (ds.map g)) → Fr [] h1 h2 → Q u h2) E (evE T C me e0 h)) :
    Wr Q E (evE T C me (.comp vs t (.of e0) c e) h) := by
  refine comp_w hx ?_
  rw [q_iof, y_bind]
  revert H
  cases evE T C me e0 h with
  | ok v h1 =>
    intro H
    simp only [y_ok] at H ⊢
    obtain ⟨d, ds, a, hd, hz, st, fin⟩ := H
    have b := a.weak (S' := [h1.next]) (fun m hm => .inr (by simp at hm; subst hm; exact Nat.le_refl _))
    obtain ⟨it, e1, e2, e3⟩ := b.itq hd
    rw [e1, y_ok, e2]
    have F0 : Fr [h1.next] h1 (h1.new (.lst [])) := Fr.new
    refine Wr_of (compL_d (N := ds.length) (h0 := h1.new (.lst [])) (outs := fun i => g (ds.getD i .none)) (fun h2 i f1 hr hi => ?_) (fun h2 f1 => ((e3 h2 (F0.trans f1)).2)) ds.length 0 (h1.new (.lst [])) [] [] Fr.refl At.new .nil (by omega) (by simpa using hz)) ?_
    · obtain ⟨x, y, q1, q2, w⟩ := (e3 h2 (F0.trans f1)).1 i hi
      refine ⟨x, q1, ?_⟩
      have := st h1.next x y h2 hr (List.mem_of_getElem? q2) ((F0.trans f1).mono fun m hm => .inr (by simp at hm; subst hm; exact Nat.le_refl _)) w
      have ey : ds.getD i .none = y := by simp [List.getD, q2]
      rw [ey]
      exact this
    · rintro _ h2 ⟨acc', A2, v2, f2⟩
      simp only [Nat.zero_add, List.nil_append] at v2
      rw [range_mapD] at v2
      exact fin (.ref h1.next) h2 (.lst A2.lt (by simp) A2.get (v2.weak (by simp))) ((F0.trans f2).mono fun m hm => .inr (by simp at hm; subst hm; exact Nat.le_refl _))
  | exc => exact id
  | stuck => exact id
theorem b_tup_v {S : List Nat} {v : Mi.MV} {d : PyData} {ds : List PyData} (a : V S h v d) (e : seqD d = some ds) (hz : ds.length ≤ 16777216) : ∃ w, biM T .tuple1 [v] h = .ok w h ∧ V S h w (.tuple ds) := by
  obtain ⟨xs, q, r⟩ := a.seq e
  refine ⟨.tup xs, ?_, .tup r⟩
  show (match asSeq h v with | some xs => if xs.length ≤ PySem.sizeLine then Res.ok (Mi.MV.tup xs) h else Res.stuck | none => Res.stuck) = _
  rw [q]
  simp only
  rw [if_pos (by rw [r.len, PySem.sizeLine_eq]; exact hz)]
end
theorem mul_v {S : List Nat} {h : MH} {Q : Mi.MV → MH → Prop} {E : PySem.Str → Nat → MH → Prop} {x : Mi.MV} {ds : List PyData} {k : Int} (a : V S h x (.list ds)) (h0 : 0 ≤ k) (h1 : k ≤ 1000) (hl : ds.length ≤ 1000) (hS : h.next ∉ S) (H : ∀ v h', V S h' v (.list (List.replicate k.toNat ds).flatten) → Fr [] h h' → Q v h') : Wr Q E (binM .mul x (.int k) h) := by
  obtain ⟨n, xs, rfl, _, A, r⟩ := a.at_
  have hm : xs.length * k.toNat ≤ 16777216 := by
    have : xs.length * k.toNat ≤ 1000 * 1000 := Nat.mul_le_mul (by rw [r.len]; exact hl) (by omega)
    omega
  have e : binM .mul (.ref n) (.int k) h = newL (List.replicate k.toNat xs).flatten h := by
    show (match h.get n with
      | some (.lst xs) => if -(2 ^ 63) ≤ k ∧ k < 2 ^ 63 ∧ xs.length * k.toNat ≤ PySem.sizeLine then newL (List.replicate k.toNat xs).flatten h else .stuck
      | _ => .stuck) = _
    rw [A.get]
    simp only
    rw [if_pos ⟨by omega, by omega, by rw [PySem.sizeLine_eq]; exact hm⟩]
  rw [e]
  have rr : ∀ j : Nat, Vs S h (List.replicate j xs).flatten (List.replicate j ds).flatten := by
    intro j
    induction j with
    | zero => exact .nil
    | succ j ih => rw [List.replicate_succ, List.replicate_succ, List.flatten_cons, List.flatten_cons]; exact r.app ih
  refine newL_v (rr _) hS ?_ H
  rw [List.length_flatten, List.map_replicate, List.sum_replicate_nat, Nat.mul_comm]
  exact hm
section
variable {T : Tab} {C : CallF} {me : Mi.Env} {h : MH} {Q : Mi.MV → MH → Prop} {E : PySem.Str → Nat → MH → Prop}
theorem z_chain3 (op op' op2 : Mi.COp) (a b c d : ME) : Wr Q E (evE T C me (.chain3 op op' op2 a b c d) h) = Wr (fun x h => Wr (fun y h => Wr (fun z h => Wr (fun k h => cnd (Wr (fun w h => Wr (fun z h => Wr (fun k h => cnd (Wr (fun v h => Wr Q E (cmpM op2 w v h)) E (evE T C me d h)) (Q (.bl false) h) k) E (boolM z h)) E (cmpM op' y w h)) E (evE T C me c h)) (Q (.bl false) h) k) E (boolM z h)) E (cmpM op x y h)) E (evE T C me b h)) E (evE T C me a h) := by
  have : evE T C me (.chain3 op op' op2 a b c d) h = M.bind (evE T C me a) (fun x => M.bind (evE T C me b) fun y => M.bind (cmpM op x y) fun z => M.bind (boolM z) fun k =>
      if k = true then M.bind (evE T C me c) fun w => M.bind (cmpM op' y w) fun z => M.bind (boolM z) fun k =>
        if k = true then M.bind (evE T C me d) fun v => cmpM op2 w v else M.pure (.bl false) else M.pure (.bl false)) h := by simp only [evE]
  rw [this, y_bind]; congr 1; funext x h; rw [y_bind]; congr 1; funext y h; rw [y_bind]; congr 1; funext z h; rw [y_bind]; congr 1; funext k h
  cases k
  · rfl
  · show Wr Q E (M.bind (evE T C me c) _ h) = Wr _ E _
    rw [y_bind]; congr 1; funext w h; rw [y_bind]; congr 1; funext z h; rw [y_bind]; congr 1; funext k h
    cases k
    · rfl
    · show Wr Q E (M.bind (evE T C me d) _ h) = Wr _ E _
      rw [y_bind]
theorem q_sst (a : ME) (e : me.ex = none) : evE T C me (.sst a) h = M.bind (evE T C me a) (fun x => sstM x) h := by simp [evE, e]
theorem sst_ok {ns : List Int} (hz : ns.length ≤ 50) : sstM (.tup (ns.map .int)) h = newL ((sds ns).map .int) h := by
  show (match intsM (ns.map Mi.MV.int) with | some ns => if ns.length ≤ 50 then newL ((sds ns).map .int) h else .stuck | none => .stuck) = _
  rw [ints_map2]
  simp only
  rw [if_pos hz]
theorem slc_t {xs : List Mi.MV} {lo hi : Option Int} : slcM (.tup xs) lo hi h = .ok (.tup (Mi.cut xs lo hi)) h := (rfl)
theorem c_niS {i : Int} {ns : List Int} : cmpM .niS (.int i) (.tup (ns.map .int)) h = .ok (.bl (!decide (i ∈ ns))) h := by
  show (match (asSeq h (.tup (ns.map Mi.MV.int))).bind intsM with | some ns => Res.ok (Mi.MV.bl (!decide (i ∈ ns))) h | none => .stuck) = _
  show (match (some (ns.map Mi.MV.int)).bind intsM with | some ns => Res.ok (Mi.MV.bl (!decide (i ∈ ns))) h | none => .stuck) = _
  rw [Option.bind_some, ints_map2]
theorem b_srtL {l : Nat} {ns : List Int} (A : At h l (.lst (ns.map .int))) : biM T .srt [.ref l] h = newL ((isort ns).map .int) h := by
  show (match (asList h (.ref l)).bind intsM with | some ns => newL ((isort ns).map .int) h | none => .stuck) = _
  rw [asA A, Option.bind_some, ints_map2]
/-- over a list of values that is made on the way -/
theorem comp_lw {vs : List Nat} {t : CT} {e0 c e : ME} (f : Mi.MV → Option Mi.MV) (hx : me.ex = none)
    (H : Wr (fun v h1 => ∃ l xs, v = .ref l ∧ At h1 l (.lst xs) ∧ xs.length ≤ 16777216 ∧ (∀ x h2, x ∈ xs → Fr [] h1 h2 → Sp (stepG T C me vs t c e x h2) (fun o h3 => o = f x ∧ Fr [] h2 h3)) ∧ ∀ m h2, h1.next ≤ m → At h2 m (.lst (xs.filterMap f)) → Fr [] h1 h2 → Q (.ref m) h2) E (evE T C me e0 h)) : Wr Q E (evE T C me (.comp vs t (.of e0) c e) h) := by
  refine comp_w hx ?_
  rw [q_iof, y_bind]
  revert H
  cases evE T C me e0 h with
  | ok v h1 =>
    intro H
    simp only [y_ok] at H ⊢
    obtain ⟨l, xs, rfl, A, hz, st, fin⟩ := H
    rw [it_lst A, y_ok, sz_lst A]
    have F0 : Fr [] h1 (h1.new (.lst [])) := Fr.new
    have fr : ∀ h2, Fr [h1.next] (h1.new (.lst [])) h2 → Fr [] h1 h2 := fun h2 f => F0.comp f (by simp)
    refine Wr_of (compL_s (N := xs.length) (h0 := h1.new (.lst [])) (outs := fun i => f (xs.getD i .non)) (fun h2 i f1 hi => ?_) (fun h2 f1 => by rw [at_lst (A.fr0 (fr h2 f1))]; simp) xs.length 0 (h1.new (.lst [])) [] Fr.refl At.new (by omega) (by simpa using hz)) ?_
    · refine ⟨xs[i], by rw [at_lst (A.fr0 (fr h2 f1))]; simp [hi], ?_⟩
      have e2 : xs.getD i .non = xs[i] := by simp [List.getD, hi]
      rw [e2]
      exact st _ h2 (List.getElem_mem hi) (fr h2 f1)
    · rintro _ h2 ⟨A2, f2⟩
      simp only [Nat.zero_add, List.nil_append] at A2
      rw [range_fmM] at A2
      exact fin _ h2 (Nat.le_refl _) A2 (fr h2 f2)
  | exc => exact id
  | stuck => exact id
end
/-! ### comprehensions, apart from some objects; by an invariant -/
theorem compL_dS {S : List Nat} {step : Mi.MV → M (Option Mi.MV)} {it : Mi.It} {r N : Nat} {h0 : MH} {outs : Nat → PyData} (hit : ∀ h i, Fr [r] h0 h → r < h.next → i < N → ∃ v, it.at h i = some (some v) ∧ Sp (step v h) (fun o h' => ∃ w, o = some w ∧ V (r :: S) h' w (outs i) ∧ Fr [] h h')) (hend : ∀ h, Fr [r] h0 h → it.at h N = some none) :
    ∀ (k i : Nat) (h : MH) (acc : List Mi.MV) (D : List PyData), Fr [r] h0 h → At h r (.lst acc) → Vs (r :: S) h acc D → i + k = N → acc.length + k ≤ 16777216 → Sp (Mi.compL step it r k i h) (fun _ h' => ∃ acc', At h' r (.lst acc') ∧ Vs (r :: S) h' acc' (D ++ (List.range k).map fun j => outs (i + j)) ∧ Fr [r] h h')
  | 0, i, h, acc, D, f, a, va, hk, _ => by
    refine Sp_for fun Q E hQ => ?_
    rw [compL_0 (by rw [show i = N by omega]; exact hend h f)]
    exact hQ _ _ ⟨acc, a, by simpa using va, Fr.refl⟩
  | k + 1, i, h, acc, D, f, a, va, hk, hz => by
    obtain ⟨v, e, s⟩ := hit h i f a.lt (by omega)
    refine Sp_for fun Q E hQ => ?_
    refine compL_1 e ?_
    refine Wr_of s ?_
    rintro _ h1 ⟨w, rfl, vw, f1⟩
    have a1 := a.fr0 f1
    have va1 := va.fr0 f1
    simp only
    refine ⟨acc, a1.get, by omega, ?_⟩
    have P : Fr [r] h1 (h1.put r (.lst (acc ++ [w]))) := Fr.put (by simp)
    have P' : Fr (r :: S) h1 (h1.put r (.lst (acc ++ [w]))) := Fr.put (by simp)
    refine Wr_of (compL_dS hit hend k (i + 1) (h1.put r (.lst (acc ++ [w]))) (acc ++ [w]) (D ++ [outs i]) ((f.trans f1.up).trans P) (At.put a1.lt) ((va1.app (.cons vw .nil)).fr P') (by omega) (by simp; omega)) ?_
    rintro _ h2 ⟨acc', a2, v2, f2⟩
    refine hQ _ _ ⟨acc', a2, ?_, (f1.up.trans P).trans f2⟩
    rw [List.range_succ_eq_map, List.map_cons, List.map_map]
    have e : ((fun j => outs (i + j)) ∘ Nat.succ) = fun j => outs (i + 1 + j) := by
      funext j
      show outs (i + (j + 1)) = _
      congr 1
      omega
    rw [e]
    simpa using v2
theorem compL_j {step : Mi.MV → M (Option Mi.MV)} {it : Mi.It} {r N : Nat} (J : Nat → List Mi.MV → MH → Prop)
    (hit : ∀ h i acc, J i acc h → At h r (.lst acc) → i < N → ∃ v, it.at h i = some (some v) ∧ Sp (step v h) (fun o h' => At h' r (.lst acc) ∧ match o with
      | none => J (i + 1) acc h'
      | some w => J (i + 1) (acc ++ [w]) (h'.put r (.lst (acc ++ [w])))))
    (hend : ∀ h acc, J N acc h → it.at h N = some none) : ∀ (k i : Nat) (h : MH) (acc : List Mi.MV), J i acc h → At h r (.lst acc) → i + k = N → acc.length + k ≤ 16777216 → Sp (Mi.compL step it r k i h) (fun _ h' => ∃ acc', At h' r (.lst acc') ∧ J N acc' h')
  | 0, i, h, acc, j, a, hk, _ => by
    have e : i = N := by omega
    subst e
    refine Sp_for fun Q E hQ => ?_
    rw [compL_0 (hend h acc j)]
    exact hQ _ _ ⟨acc, a, j⟩
  | k + 1, i, h, acc, j, a, hk, hz => by
    obtain ⟨v, e, s⟩ := hit h i acc j a (by omega)
    refine Sp_for fun Q E hQ => ?_
    refine compL_1 e ?_
    refine Wr_of s ?_
    rintro o h1 ⟨a1, j1⟩
    cases o with
    | none =>
      simp only at j1 ⊢
      exact Wr_of (compL_j J hit hend k (i + 1) h1 acc j1 a1 (by omega) (by omega)) fun _ h2 z => hQ _ _ z
    | some w =>
      simp only at j1 ⊢
      refine ⟨acc, a1.get, by omega, ?_⟩
      exact Wr_of (compL_j J hit hend k (i + 1) _ (acc ++ [w]) j1 (At.put a1.lt) (by omega) (by simp; omega)) fun _ h2 z => hQ _ _ z
section
variable {T : Tab} {C : CallF} {me : Mi.Env} {h : MH}
theorem comp_dS {S : List Nat} {Q : Mi.MV → MH → Prop} {E : PySem.Str → Nat → MH → Prop} {vs : List Nat} {t : CT} {e0 c e : ME} (g : PyData → PyData) (hx : me.ex = none)
    (H : Wr (fun v h1 => ∃ d ds, V S h1 v d ∧ seqD d = some ds ∧ ds.length ≤ 16777216 ∧ (∀ s ∈ S, s < h1.next) ∧ (∀ r x dx h2, h1.next ≤ r → r < h2.next → dx ∈ ds → Fr [] h1 h2 → V (r :: S) h2 x dx → Sp (stepG T C me vs t c e x h2) (fun o h3 => ∃ w, o = some w ∧ V (r :: S) h3 w (g dx) ∧ Fr [] h2 h3)) ∧ ∀ u h2, V S h2 u (.list (ds.map g)) → Fr [] h1 h2 → Q u h2) E (evE T C me e0 h)) :
    Wr Q E (evE T C me (.comp vs t (.of e0) c e) h) := by
  refine comp_w hx ?_
  rw [q_iof, y_bind]
  revert H
  cases evE T C me e0 h with
  | ok v h1 =>
    intro H
    simp only [y_ok] at H ⊢
    obtain ⟨d, ds, a, hd, hz, hS, st, fin⟩ := H
    have b := a.weak (S' := h1.next :: S) (fun m hm => by
      rcases List.mem_cons.mp hm with z | z
      · exact .inr (by rw [z]; exact Nat.le_refl _)
      · exact .inl z)
    obtain ⟨it, e1, e2, e3⟩ := b.itq hd
    rw [e1, y_ok, e2]
    have F0 : Fr [h1.next] h1 (h1.new (.lst [])) := Fr.new
    have up : ∀ {h2 : MH}, Fr [h1.next] h1 h2 → Fr (h1.next :: S) h1 h2 := fun f => f.mono fun m hm => .inl (by simp at hm; simp [hm])
    refine Wr_of (compL_dS (S := S) (N := ds.length) (h0 := h1.new (.lst [])) (outs := fun i => g (ds.getD i .none)) (fun h2 i f1 hr hi => ?_) (fun h2 f1 => ((e3 h2 (up (F0.trans f1))).2)) ds.length 0 (h1.new (.lst [])) [] [] Fr.refl At.new .nil (by omega) (by simpa using hz)) ?_
    · obtain ⟨x, y, q1, q2, w⟩ := (e3 h2 (up (F0.trans f1))).1 i hi
      refine ⟨x, q1, ?_⟩
      have := st h1.next x y h2 (Nat.le_refl _) hr (List.mem_of_getElem? q2) ((F0.trans f1).mono fun m hm => .inr (by simp at hm; subst hm; exact Nat.le_refl _)) w
      have ey : ds.getD i .none = y := by simp [List.getD, q2]
      rw [ey]
      exact this
    · rintro _ h2 ⟨acc', A2, v2, f2⟩
      simp only [Nat.zero_add, List.nil_append] at v2
      rw [range_mapD] at v2
      refine fin (.ref h1.next) h2 (.lst A2.lt (fun z => Nat.lt_irrefl _ (hS _ z)) A2.get (v2.weak fun m hm => .inl (by simp [hm]))) ((F0.trans f2).mono fun m hm => .inr (by simp at hm; subst hm; exact Nat.le_refl _))
  | exc => exact id
  | stuck => exact id
/-- by an invariant -/
theorem comp_j {Q : Mi.MV → MH → Prop} {E : PySem.Str → Nat → MH → Prop} {vs : List Nat} {t : CT} {it : MI} {c e : ME} {J0 : Mi.It} {N : Nat} (hx : me.ex = none) (hI : evI T C me it h = .ok J0 h) (hN : J0.size h = N) (hz : N ≤ 16777216) (J : Nat → List Mi.MV → MH → Prop) (j0 : J 0 [] (h.new (.lst [])))
    (hit : ∀ h1 i acc, J i acc h1 → At h1 h.next (.lst acc) → i < N → ∃ v, J0.at h1 i = some (some v) ∧ Sp (stepG T C me vs t c e v h1) (fun o h' => At h' h.next (.lst acc) ∧ match o with
      | none => J (i + 1) acc h'
      | some w => J (i + 1) (acc ++ [w]) (h'.put h.next (.lst (acc ++ [w])))))
    (hend : ∀ h1 acc, J N acc h1 → J0.at h1 N = some none)
    (fin : ∀ acc h', At h' h.next (.lst acc) → J N acc h' → Q (.ref h.next) h') : Wr Q E (evE T C me (.comp vs t it c e) h) := by
  refine comp_w hx ?_
  rw [hI, y_ok, hN]
  refine Wr_of (compL_j J hit hend N 0 (h.new (.lst [])) [] j0 At.new (by omega) (by simpa using hz)) ?_
  rintro _ h2 ⟨acc', A2, j2⟩
  exact fin _ _ A2 j2
end
end Lw
end

section
namespace Lw
open Mi
open PySem (PyData)
/-! ### points, rows -/
def ptD : PyData → Option (Int × Int)
  | .tuple [.int t, .int v] => if 0 ≤ t then some (t, v) else none
  | _ => none
def ptsD : List PyData → Option (List (Int × Int))
  | [] => some []
  | d :: ds => match ptD d, ptsD ds with
    | some p, some ps => some (p :: ps)
    | _, _ => none
def ascB : List (Int × Int) → Bool
  | p :: q :: r => decide (p.1 < q.1) && ascB (q :: r)
  | _ => true
def rowD (d : PyData) : Option (List (Int × Int)) := match (seqD d).bind ptsD with
  | some ps => if ascB ps = true then some ps else none
  | none => none
def pD (p : Int × Int) : PyData := .tuple [.int p.1, .int p.2]
theorem ptD_inv {d : PyData} {p : Int × Int} (e : ptD d = some p) : d = pD p ∧ 0 ≤ p.1 := by
  unfold ptD at e
  split at e
  · split at e
    · cases e; exact ⟨rfl, by assumption⟩
    · cases e
  · cases e
theorem ptsD_inv : ∀ {ds : List PyData} {ps : List (Int × Int)}, ptsD ds = some ps → ds = ps.map pD ∧ ∀ p ∈ ps, 0 ≤ p.1
  | [], ps, e => by cases e; exact ⟨rfl, by simp⟩
  | d :: ds, ps, e => by
    unfold ptsD at e
    cases h1 : ptD d with
    | none => rw [h1] at e; cases e
    | some p =>
      cases h2 : ptsD ds with
      | none => rw [h1, h2] at e; cases e
      | some qs =>
        rw [h1, h2] at e
        cases e
        obtain ⟨i1, i2⟩ := ptsD_inv h2
        obtain ⟨j1, j2⟩ := ptD_inv h1
        refine ⟨by rw [List.map_cons, ← i1, ← j1], fun q hq => ?_⟩
        rcases List.mem_cons.mp hq with rfl | hq
        · exact j2
        · exact i2 q hq
theorem ptsD_all : ∀ ds : List PyData, (ptsD ds).isSome = ds.all fun d => (ptD d).isSome
  | [] => rfl
  | d :: ds => by
    have ih := ptsD_all ds
    unfold ptsD
    rw [List.all_cons, ← ih]
    cases ptD d <;> cases ptsD ds <;> rfl
section
variable {S : List Nat} {n : Nat} {h : MH} {v : Mi.MV} {d : PyData}
theorem V.two {x : Mi.MV} {ds : List PyData} (a : V S h x (.tuple ds)) (e : ds.length = 2) : ∃ u w d1 d2, x = .tup [u, w] ∧ ds = [d1, d2] ∧ V S h u d1 ∧ V S h w d2 := by
  cases a with
  | tup r =>
    cases r with
    | nil => cases e
    | cons r1 t =>
      cases t with
      | nil => cases e
      | cons r2 t =>
        cases t with
        | nil => exact ⟨_, _, _, _, rfl, rfl, r1, r2⟩
        | cons r3 t => simp at e
end
theorem pt_two {d1 d2 : PyData} : (ptD (.tuple [d1, d2])).isSome = (dcnt d1 && isId d2) := by
  cases d1 <;> cases d2 <;> simp [ptD, dcnt, isId]
  split <;> simp_all
theorem pt_not {ds : List PyData} (e : ¬ ds.length = 2) : ptD (.tuple ds) = none := by
  unfold ptD
  split
  · rename_i z; cases z; simp at e
  · rfl
theorem V.pt {S : List Nat} {h : MH} {x : Mi.MV} {p : Int × Int} (a : V S h x (pD p)) : x = .tup [.int p.1, .int p.2] := by
  unfold pD at a
  obtain ⟨u, w, d1, d2, rfl, e, a1, a2⟩ := a.two rfl
  cases e
  cases a1
  cases a2
  rfl
/-! ### folds, plainly -/
structure St where
  n : Int
  s : Int
  lo : Int
  hi : Int
  f : Int × Int
  l : Int × Int
def stD (a : St) : PyData := .tuple [.int a.n, .int a.s, .int a.lo, .int a.hi, pD a.f, pD a.l]
def st0 (p : Int × Int) : St := ⟨1, p.2, p.2, p.2, p, p⟩
def st1 (a : St) (p : Int × Int) : St := ⟨a.n + 1, a.s + p.2, if p.2 < a.lo then p.2 else a.lo, if a.hi < p.2 then p.2 else a.hi, if p.1 < a.f.1 then p else a.f, if a.l.1 ≤ p.1 then p else a.l⟩
def stp (o : Option St) (p : Int × Int) : Option St := match o with
  | none => some (st0 p)
  | some a => some (st1 a p)
def oD (o : Option St) : PyData := match o with
  | none => .none
  | some a => stD a
def foldO (ps : List (Int × Int)) : Option St := ps.foldl stp none
def foldD (ps : List (Int × Int)) : PyData := oD (foldO ps)
def fstW (f : Int × Int) : List (Int × Int) → Int × Int
  | [] => f
  | p :: r => fstW (if p.1 < f.1 then p else f) r
def lstW (f : Int × Int) : List (Int × Int) → Int × Int
  | [] => f
  | p :: r => lstW (if f.1 ≤ p.1 then p else f) r
theorem stp_some (r : List (Int × Int)) : ∀ a : St, r.foldl stp (some a) = some ⟨a.n + r.length, a.s + (r.map (·.2)).sum, minI a.lo (r.map (·.2)), maxI a.hi (r.map (·.2)), fstW a.f r, lstW a.l r⟩ := by
  induction r with
  | nil => intro a; simp [minI, maxI, fstW, lstW]
  | cons p r ih =>
    intro a
    rw [List.foldl_cons]
    show r.foldl stp (some (st1 a p)) = _
    rw [ih]
    simp [st1, minI, maxI, fstW, lstW, Int.add_assoc, Int.add_comm 1]
theorem foldO_cons (p : Int × Int) (r : List (Int × Int)) : foldO (p :: r) = some ⟨((p :: r).length : Int), ((p :: r).map (·.2)).sum, minI p.2 (r.map (·.2)), maxI p.2 (r.map (·.2)), fstW p r, lstW p r⟩ := by
  unfold foldO
  rw [List.foldl_cons]
  show r.foldl stp (some (st0 p)) = _
  rw [stp_some]
  simp [st0, Int.add_comm]
/-- the points as they are placed -/
abbrev Tr := Int × Int × Int
def tl (p : Tr) : List Int := [p.1, p.2.1, p.2.2]
def tp2 (p : Tr) : Int × Int := (p.1, p.2.2)
def tr1 (k : Int) (ps : List (Int × Int)) : List Tr := ps.map fun p => (p.1, k, p.2)
def trs : Nat → List (List (Int × Int)) → List Tr
  | _, [] => []
  | k, r :: rs => tr1 k r ++ trs (k + 1) rs
def bef (b x : Tr) : Prop := b.2.1 < x.2.1 ∨ (b.2.1 = x.2.1 ∧ b.1 < x.1)
theorem asc_pw : ∀ ps : List (Int × Int), ascB ps = true → ps.Pairwise fun p q => p.1 < q.1
  | [], _ => List.Pairwise.nil
  | [p], _ => by simp
  | p :: q :: r, e => by
    unfold ascB at e
    rw [Bool.and_eq_true] at e
    have ih := asc_pw (q :: r) e.2
    have e1 : p.1 < q.1 := by simpa using e.1
    refine List.pairwise_cons.mpr ⟨fun x hx => ?_, ih⟩
    rcases List.mem_cons.mp hx with rfl | hx
    · exact e1
    · exact Int.lt_trans e1 ((List.pairwise_cons.mp ih).1 x hx)
theorem trs_at : ∀ (rs : List (List (Int × Int))) (k : Nat) (x : Tr), x ∈ trs k rs → (k : Int) ≤ x.2.1
  | [], _, _, h => by cases h
  | r :: rs, k, x, h => by
    unfold trs at h
    rcases List.mem_append.mp h with h | h
    · unfold tr1 at h
      obtain ⟨p, _, rfl⟩ := List.mem_map.mp h
      exact Int.le_refl _
    · have := trs_at rs (k + 1) x h
      omega
theorem trs_pw : ∀ (rs : List (List (Int × Int))) (k : Nat), (∀ r ∈ rs, ascB r = true) → (trs k rs).Pairwise bef
  | [], _, _ => List.Pairwise.nil
  | r :: rs, k, h => by
    unfold trs
    refine List.pairwise_append.mpr ⟨?_, trs_pw rs (k + 1) (fun q hq => h q (List.mem_cons_of_mem _ hq)), fun a ha b hb => ?_⟩
    · unfold tr1
      rw [List.pairwise_map]
      exact (asc_pw r (h r List.mem_cons_self)).imp fun {p q} z => .inr ⟨rfl, z⟩
    · have h1 := trs_at rs (k + 1) b hb
      unfold tr1 at ha
      obtain ⟨p, _, rfl⟩ := List.mem_map.mp ha
      exact .inl (by show (k : Int) < _; omega)
theorem lt_bef {b x : Tr} (h : bef b x) : ltT (tl x) (tl b) = decide (x.1 < b.1) := by
  obtain ⟨b1, b2, b3⟩ := b
  obtain ⟨x1, x2, x3⟩ := x
  unfold bef at h
  simp only at h
  have e : ltT (tl (x1, x2, x3)) (tl (b1, b2, b3)) = if decide (x1 = b1) = true then (if decide (x2 = b2) = true then (if decide (x3 = b3) = true then false else decide (x3 < b3)) else decide (x2 < b2)) else decide (x1 < b1) := rfl
  rw [e]
  simp only [decide_eq_true_eq]
  by_cases q : x1 = b1
  · rw [if_pos q]
    by_cases q2 : x2 = b2
    · omega
    · rw [if_neg q2]
      have : ¬ x2 < b2 := by omega
      have : ¬ x1 < b1 := by omega
      simp_all
  · rw [if_neg q]
theorem gt_bef {b x : Tr} (h : bef b x) : gtT (tl x) (tl b) = decide (b.1 ≤ x.1) := by
  obtain ⟨b1, b2, b3⟩ := b
  obtain ⟨x1, x2, x3⟩ := x
  unfold bef at h
  simp only at h
  have e : gtT (tl (x1, x2, x3)) (tl (b1, b2, b3)) = if decide (x1 = b1) = true then (if decide (x2 = b2) = true then (if decide (x3 = b3) = true then false else decide (b3 < x3)) else decide (b2 < x2)) else decide (b1 < x1) := rfl
  rw [e]
  simp only [decide_eq_true_eq]
  by_cases q : x1 = b1
  · rw [if_pos q]
    by_cases q2 : x2 = b2
    · omega
    · rw [if_neg q2]
      have : b2 < x2 := by omega
      have : b1 ≤ x1 := by omega
      simp_all
  · rw [if_neg q]
    exact decide_eq_decide.mpr (by omega)
theorem min_walk : ∀ (L : List Tr) (b : Tr), (∀ x ∈ L, bef b x) → L.Pairwise bef → ∃ c : Tr, bestT ltT (tl b) (L.map tl) = tl c ∧ tp2 c = fstW (tp2 b) (L.map tp2)
  | [], b, _, _ => ⟨b, rfl, rfl⟩
  | x :: L, b, h, hp => by
    rw [List.pairwise_cons] at hp
    have hx := h x List.mem_cons_self
    rw [List.map_cons, List.map_cons]
    unfold bestT fstW
    rw [lt_bef hx]
    by_cases q : x.1 < b.1
    · obtain ⟨c, e1, e2⟩ := min_walk L x hp.1 hp.2
      refine ⟨c, ?_, ?_⟩
      · simpa [q] using e1
      · rw [e2]; simp [tp2, q]
    · obtain ⟨c, e1, e2⟩ := min_walk L b (fun y hy => h y (List.mem_cons_of_mem _ hy)) hp.2
      refine ⟨c, ?_, ?_⟩
      · simpa [q] using e1
      · rw [e2]; simp [tp2, q]
theorem max_walk : ∀ (L : List Tr) (b : Tr), (∀ x ∈ L, bef b x) → L.Pairwise bef → ∃ c : Tr, bestT gtT (tl b) (L.map tl) = tl c ∧ tp2 c = lstW (tp2 b) (L.map tp2)
  | [], b, _, _ => ⟨b, rfl, rfl⟩
  | x :: L, b, h, hp => by
    rw [List.pairwise_cons] at hp
    have hx := h x List.mem_cons_self
    rw [List.map_cons, List.map_cons]
    unfold bestT lstW
    rw [gt_bef hx]
    by_cases q : b.1 ≤ x.1
    · obtain ⟨c, e1, e2⟩ := max_walk L x hp.1 hp.2
      refine ⟨c, ?_, ?_⟩
      · simpa [q] using e1
      · rw [e2]; simp [tp2, q]
    · obtain ⟨c, e1, e2⟩ := max_walk L b (fun y hy => h y (List.mem_cons_of_mem _ hy)) hp.2
      refine ⟨c, ?_, ?_⟩
      · simpa [q] using e1
      · rw [e2]; simp [tp2, q]
theorem trs_pts : ∀ (rs : List (List (Int × Int))) (k : Nat), (trs k rs).map tp2 = rs.flatten
  | [], _ => rfl
  | r :: rs, k => by
    unfold trs
    rw [List.map_append, trs_pts rs (k + 1), List.flatten_cons]
    congr 1
    unfold tr1
    rw [List.map_map]
    exact List.map_id' r
theorem trs_app : ∀ (rs : List (List (Int × Int))) (k : Nat) (r : List (Int × Int)), trs k (rs ++ [r]) = trs k rs ++ tr1 ((k + rs.length : Nat) : Int) r
  | [], k, r => by simp [trs]
  | q :: rs, k, r => by
    show tr1 k q ++ trs (k + 1) (rs ++ [r]) = (tr1 k q ++ trs (k + 1) rs) ++ _
    rw [trs_app rs (k + 1) r, List.append_assoc]
    simp [Nat.add_assoc, Nat.add_comm 1]
theorem trs_len (rs : List (List (Int × Int))) (k : Nat) : (trs k rs).length = rs.flatten.length := by
  have := congrArg List.length (trs_pts rs k)
  simpa using this
/-- rows of data -/
def rowsL : List PyData → Option (List (List (Int × Int)))
  | [] => some []
  | d :: ds => match rowD d, rowsL ds with
    | some r, some rs => some (r :: rs)
    | _, _ => none
def rowsD (d : PyData) : Option (List (List (Int × Int))) := (seqD d).bind rowsL
theorem rowsL_all : ∀ ds : List PyData, (rowsL ds).isSome = ds.all fun d => (rowD d).isSome
  | [] => rfl
  | d :: ds => by
    have ih := rowsL_all ds
    unfold rowsL
    rw [List.all_cons, ← ih]
    cases rowD d <;> cases rowsL ds <;> rfl
theorem rowD_inv {d : PyData} {r : List (Int × Int)} (e : rowD d = some r) : seqD d = some (r.map pD) ∧ ascB r = true := by
  unfold rowD at e
  cases h1 : seqD d with
  | none => rw [h1] at e; cases e
  | some ds =>
    rw [h1, Option.bind_some] at e
    cases h2 : ptsD ds with
    | none => rw [h2] at e; cases e
    | some ps =>
      rw [h2] at e
      simp only at e
      split at e
      · cases e
        rw [(ptsD_inv h2).1]
        exact ⟨rfl, by assumption⟩
      · cases e
theorem rowsL_at : ∀ {ds : List PyData} {rs : List (List (Int × Int))}, rowsL ds = some rs → ds.length = rs.length ∧ ∀ (i : Nat) (d : PyData), ds[i]? = some d → ∃ r, rs[i]? = some r ∧ rowD d = some r
  | [], rs, e => by cases e; exact ⟨rfl, fun i d z => by simp at z⟩
  | d :: ds, rs, e => by
    unfold rowsL at e
    cases h1 : rowD d with
    | none => rw [h1] at e; cases e
    | some r =>
      cases h2 : rowsL ds with
      | none => rw [h1, h2] at e; cases e
      | some qs =>
        rw [h1, h2] at e
        cases e
        obtain ⟨l, ih⟩ := rowsL_at h2
        refine ⟨by simp [l], fun i d' z => ?_⟩
        cases i with
        | zero => simp at z; subst z; exact ⟨r, rfl, h1⟩
        | succ i => simpa using ih i d' (by simpa using z)
theorem rowsL_asc {ds : List PyData} {rs : List (List (Int × Int))} (e : rowsL ds = some rs) : ∀ r ∈ rs, ascB r = true := by
  intro r hr
  obtain ⟨i, hi⟩ := List.getElem?_of_mem hr
  obtain ⟨l, H⟩ := rowsL_at e
  have hl : i < ds.length := by
    have := (List.getElem?_eq_some_iff.mp hi).1
    omega
  obtain ⟨r', e1, e2⟩ := H i ds[i] (by simp [hl])
  rw [hi] at e1
  cases e1
  exact (rowD_inv e2).2
end Lw
end

section
namespace Lw
open PySem PySem.Spec PyProof.Rows L2 Mi
def top (i : Nat) : Stmt := PySem.Challenge.pw_everygrain_k12_fractions_and_means.main.body.getD i (.Pass ⟨0, 0, 0, 0⟩)
def e_law : DE := ⟨⟨("law", none), "law", "law", defArgs (top 51), defBody (top 51), defScope (top 51), [], []⟩, ["_law_script", "_law_k", "_law_box_here", "_law_one", "_law_other", "_law_long", "_law_pair", "_law_turn", "_law_n", "_law_d"], ["_law_script"]⟩
def body_law : MSs := (.cons (.fors (.nm 1) (.rng1 (.bi .max2 (.cons (.int 2) (.cons (.bi .min2 (.cons (.int 4) (.cons (.bi .len (.cons (.var 0) .nil)) .nil))) .nil)))) (.cons (.asg (.nm 2) (.call "_law_box" (.cons (.call "_law_cell" (.cons (.var 0) (.cons (.var 1) .nil)) [] .nil []) .nil) [] .nil [])) (.cons (.asg (.sw [3, 4]) (.tup (.cons (.call "_law_fraction" (.cons (.var 2) .nil) [] .nil []) (.cons (.call "_law_fraction" (.cons (.var 2) .nil) [] .nil []) .nil)))) (.cons (.asg (.nm 5) (.call "_law_due" (.cons (.call "_law_due" (.cons (.var 3) (.cons (.var 4) (.cons (.int 0) .nil))) [] .nil []) (.cons (.call "_law_fraction" (.cons (.var 2) .nil) [] .nil []) (.cons (.int 2) .nil))) [] .nil [])) (.cons (.fors (.nm 6) (.of (.lst (.cons (.lst (.cons (.var 3) (.cons (.var 4) .nil))) (.cons (.lst (.cons (.var 4) (.cons (.var 3) .nil))) (.cons (.lst (.cons (.var 3) (.cons (.var 3) .nil))) (.cons (.lst (.cons (.var 5) (.cons (.var 4) .nil))) (.cons (.lst (.cons (.var 3) (.cons (.tup (.cons (.int 0) (.cons (.int 1) .nil))) .nil))) (.cons (.lst (.cons (.tup (.cons (.neg (.sub (.var 3) (.int 0))) (.cons (.sub (.var 3) (.int 1)) .nil))) (.cons (.var 3) .nil))) .nil)))))))) (.cons (.ifs (.notE (.call "_law_pair_right" (.cons (.sub (.var 6) (.int 0)) (.cons (.sub (.var 6) (.int 1)) .nil)) [] .nil [])) (.cons (.ret (.bl false)) .nil) .nil) .nil)) (.cons (.fors (.nm 7) (.rng1 (.int 3)) (.cons (.asg (.sw [8, 9]) (.tup (.cons (.call "_law_number" (.cons (.var 2) .nil) [] .nil []) (.cons (.call "_law_number" (.cons (.var 2) .nil) [] .nil []) .nil)))) (.cons (.ifs (.or (.notE (.call "_law_numbers_right" (.cons (.var 8) (.cons (.var 9) .nil)) [] .nil [])) (.or (.notE (.call "_law_numbers_right" (.cons (.bin .mul (.int 6) (.var 8)) (.cons (.bin .mul (.int 4) (.var 9)) .nil)) [] .nil [])) (.notE (.call "_law_numbers_right" (.cons (.int 0) (.cons (.var 9) .nil)) [] .nil [])))) (.cons (.ret (.bl false)) .nil) .nil) (.cons (.ifs (.or (.notE (.call "_law_odd_right" (.cons (.call "_law_odd" (.cons (.var 2) .nil) [] .nil []) (.cons (.call "_law_odd" (.cons (.var 2) .nil) [] .nil []) (.cons (.var 3) .nil))) [] .nil [])) (.notE (.call "_law_means_right" (.cons (.var 2) .nil) [] .nil []))) (.cons (.ret (.bl false)) .nil) .nil) .nil)))) (.cons (.fors (.nm 6) (.of (.lst (.cons (.lst (.cons (.int 1) (.cons (.int 0) .nil))) (.cons (.lst (.cons (.bl true) (.cons (.int 2) .nil))) (.cons (.lst (.cons (.int 1) (.cons (.bl true) .nil))) (.cons (.lst (.cons .non (.cons (.int 1) .nil))) (.cons (.lst (.cons (.int 2) (.cons (.str "1") .nil))) (.cons (.lst (.cons (.lst (.cons (.int 1) .nil)) (.cons (.int 2) .nil))) (.cons (.lst (.cons (.int 0) (.cons (.int 0) .nil))) (.cons (.lst (.cons (.tup (.cons (.int 1) (.cons (.int 2) .nil))) (.cons (.int 3) .nil))) .nil)))))))))) (.cons (.ifs (.notE (.call "_law_numbers_right" (.cons (.sub (.var 6) (.int 0)) (.cons (.sub (.var 6) (.int 1)) .nil)) [] .nil [])) (.cons (.ret (.bl false)) .nil) .nil) .nil)) .nil))))))) (.cons (.ret (.bl true)) .nil))
def f_law : FnI := ⟨1, 10, [(1, [], [])], body_law⟩
theorem fnp_law : f_law.np = 1 := rfl
theorem fns_law : f_law.ns = 10 := rfl
theorem fbo_law : f_law.body = body_law := rfl
def e_law_numbers_right : DE := ⟨⟨("_law_numbers_right", none), "_law_numbers_right", "_law_numbers_right", defArgs (top 43), defBody (top 43), defScope (top 43), [], []⟩, ["_law_n", "_law_d", "_law_due_here"], ["_law_n", "_law_d"]⟩
def body_law_numbers_right : MSs := (.cons (.asg (.nm 2) (.lst (.cons (.str "fraction") (.cons (.tup (.cons (.var 0) (.cons (.var 1) .nil))) .nil)))) (.cons (.ifs (.and (.call "_law_is_int" (.cons (.var 0) .nil) [] .nil []) (.and (.call "_law_is_int" (.cons (.var 1) .nil) [] .nil []) (.cmp .ne (.var 1) (.int 0)))) (.cons (.asg (.nm 2) (.lst (.cons (.str "told") (.cons (.call "_law_lowest" (.cons (.var 0) (.cons (.var 1) .nil)) [] .nil []) .nil)))) .nil) .nil) (.cons (.ret (.cmp .eq (.bi .repr (.cons (.lst (.cons (.call "_law_made" (.cons (.var 0) (.cons (.var 1) (.cons (.bl false) .nil))) [] .nil []) (.cons (.call "_law_made" (.cons (.var 0) (.cons (.var 1) (.cons (.bl true) .nil))) [] .nil []) .nil))) .nil)) (.bi .repr (.cons (.lst (.cons (.var 2) (.cons (.var 2) .nil))) .nil)))) .nil)))
def f_law_numbers_right : FnI := ⟨2, 3, [(2, [], [])], body_law_numbers_right⟩
theorem fnp_law_numbers_right : f_law_numbers_right.np = 2 := rfl
theorem fns_law_numbers_right : f_law_numbers_right.ns = 3 := rfl
theorem fbo_law_numbers_right : f_law_numbers_right.body = body_law_numbers_right := rfl
def e_law_made : DE := ⟨⟨("_law_made", none), "_law_made", "_law_made", defArgs (top 41), defBody (top 41), defScope (top 41), [], []⟩, ["_law_n", "_law_d", "_law_named", "e"], ["_law_n", "_law_d", "_law_named"]⟩
def body_law_made : MSs := (.cons (.trys (.cons (.ret (.lst (.cons (.str "told") (.cons (.ife (.var 2) (.call "fraction" .nil ["d", "n"] (.cons (.var 1) (.cons (.var 0) .nil)) [1, 0]) (.call "fraction" (.cons (.var 0) (.cons (.var 1) .nil)) [] .nil [])) .nil)))) .nil) (.cons "InvalidFraction" 3 (.cons (.ret (.lst (.cons (.str "fraction") (.cons (.efld 3 "given") .nil)))) .nil) .nil)) .nil)
def f_law_made : FnI := ⟨3, 4, [(3, [], [])], body_law_made⟩
theorem fnp_law_made : f_law_made.np = 3 := rfl
theorem fns_law_made : f_law_made.ns = 4 := rfl
theorem fbo_law_made : f_law_made.body = body_law_made := rfl
def e_fraction : DE := ⟨⟨("fraction", none), "fraction", "fraction", defArgs (top 11), defBody (top 11), defScope (top 11), [], []⟩, ["n", "d", "shared"], ["n", "d"]⟩
def body_fraction : MSs := (.cons (.ifs (.or (.notE (.call "is_value" (.cons (.var 0) .nil) [] .nil [])) (.or (.notE (.call "is_value" (.cons (.var 1) .nil) [] .nil [])) (.cmp .eq (.var 1) (.int 0)))) (.cons (.raise "InvalidFraction" (.cons (.tup (.cons (.var 0) (.cons (.var 1) .nil))) .nil)) .nil) .nil) (.cons (.asg (.nm 2) (.gcd "gcd" (.cons (.var 0) (.cons (.var 1) .nil)))) (.cons (.ret (.ife (.cmp .gt (.var 1) (.int 0)) (.tup (.cons (.bin .fdiv (.var 0) (.var 2)) (.cons (.bin .fdiv (.var 1) (.var 2)) .nil))) (.tup (.cons (.bin .fdiv (.neg (.var 0)) (.var 2)) (.cons (.bin .fdiv (.neg (.var 1)) (.var 2)) .nil))))) .nil)))
def f_fraction : FnI := ⟨2, 3, [(0, ["d", "n"], [1, 0]), (2, [], [])], body_fraction⟩
theorem fnp_fraction : f_fraction.np = 2 := rfl
theorem fns_fraction : f_fraction.ns = 3 := rfl
theorem fbo_fraction : f_fraction.body = body_fraction := rfl
def e_is_value : DE := ⟨⟨("is_value", none), "is_value", "is_value", defArgs (top 7), defBody (top 7), defScope (top 7), [], []⟩, ["value"], ["value"]⟩
def body_is_value : MSs := (.cons (.ret (.call "is_integer" (.cons (.var 0) .nil) [] .nil [])) .nil)
def f_is_value : FnI := ⟨1, 1, [(1, [], [])], body_is_value⟩
theorem fnp_is_value : f_is_value.np = 1 := rfl
theorem fns_is_value : f_is_value.ns = 1 := rfl
theorem fbo_is_value : f_is_value.body = body_is_value := rfl
def e_is_integer : DE := ⟨⟨("is_integer", none), "is_integer", "is_integer", defArgs (top 6), defBody (top 6), defScope (top 6), [], []⟩, ["value"], ["value"]⟩
def body_is_integer : MSs := (.cons (.ret (.and (.bi .isi (.cons (.var 0) (.cons (.ty "int") .nil))) (.notE (.bi .isi (.cons (.var 0) (.cons (.ty "bool") .nil)))))) .nil)
def f_is_integer : FnI := ⟨1, 1, [(1, [], [])], body_is_integer⟩
theorem fnp_is_integer : f_is_integer.np = 1 := rfl
theorem fns_is_integer : f_is_integer.ns = 1 := rfl
theorem fbo_is_integer : f_is_integer.body = body_is_integer := rfl
def e_law_lowest : DE := ⟨⟨("_law_lowest", none), "_law_lowest", "_law_lowest", defArgs (top 34), defBody (top 34), defScope (top 34), [], []⟩, ["_law_n", "_law_d", "_law_shared_here", "_law_sign"], ["_law_n", "_law_d"]⟩
def body_law_lowest : MSs := (.cons (.asg (.nm 2) (.call "_law_shared" (.cons (.var 0) (.cons (.var 1) .nil)) [] .nil [])) (.cons (.asg (.nm 3) (.ife (.cmp .lt (.var 1) (.int 0)) (.neg (.int 1)) (.int 1))) (.cons (.ret (.tup (.cons (.bin .fdiv (.bin .mul (.var 3) (.var 0)) (.var 2)) (.cons (.bin .fdiv (.bin .mul (.var 3) (.var 1)) (.var 2)) .nil)))) .nil)))
def f_law_lowest : FnI := ⟨2, 4, [(2, [], [])], body_law_lowest⟩
theorem fnp_law_lowest : f_law_lowest.np = 2 := rfl
theorem fns_law_lowest : f_law_lowest.ns = 4 := rfl
theorem fbo_law_lowest : f_law_lowest.body = body_law_lowest := rfl
def e_law_shared : DE := ⟨⟨("_law_shared", none), "_law_shared", "_law_shared", defArgs (top 33), defBody (top 33), defScope (top 33), [], []⟩, ["_law_n", "_law_d", "_law_one", "_law_other", "_law_turn", "_law_kept"], ["_law_n", "_law_d"]⟩
def body_law_shared : MSs := (.cons (.asg (.sw [2, 3]) (.tup (.cons (.bi .abs (.cons (.var 0) .nil)) (.cons (.bi .abs (.cons (.var 1) .nil)) .nil)))) (.cons (.fors (.nm 4) (.rng1 (.int 400)) (.cons (.ifs (.cmp .eq (.var 3) (.int 0)) (.cons (.ret (.var 2)) .nil) .nil) (.cons (.asg (.nm 5) (.var 3)) (.cons (.asg (.nm 3) (.bin .mod (.bi .int1 (.cons (.var 2) .nil)) (.var 3))) (.cons (.asg (.nm 2) (.var 5)) .nil))))) (.cons (.ret (.var 2)) .nil)))
def f_law_shared : FnI := ⟨2, 6, [(2, [], [])], body_law_shared⟩
theorem fnp_law_shared : f_law_shared.np = 2 := rfl
theorem fns_law_shared : f_law_shared.ns = 6 := rfl
theorem fbo_law_shared : f_law_shared.body = body_law_shared := rfl
def e_law_is_int : DE := ⟨⟨("_law_is_int", none), "_law_is_int", "_law_is_int", defArgs (top 36), defBody (top 36), defScope (top 36), [], []⟩, ["_law_value"], ["_law_value"]⟩
def body_law_is_int : MSs := (.cons (.ret (.and (.bi .isi (.cons (.var 0) (.cons (.ty "int") .nil))) (.notE (.bi .isi (.cons (.var 0) (.cons (.ty "bool") .nil)))))) .nil)
def f_law_is_int : FnI := ⟨1, 1, [(1, [], [])], body_law_is_int⟩
theorem fnp_law_is_int : f_law_is_int.np = 1 := rfl
theorem fns_law_is_int : f_law_is_int.ns = 1 := rfl
theorem fbo_law_is_int : f_law_is_int.body = body_law_is_int := rfl
def e_law_means_right : DE := ⟨⟨("_law_means_right", none), "_law_means_right", "_law_means_right", defArgs (top 50), defBody (top 50), defScope (top 50), [], []⟩, ["_law_box_here", "_law_points_here", "_law_values", "_law_first", "_law_last", "_law_fold", "_law_due_here", "_law_way", "_law_many", "_law_least", "_law_great", "_law_odds", "_law_odd_here", "_law_handed", "_law_told_here", "_law_point"], ["_law_box_here"]⟩
def body_law_means_right : MSs := (.cons (.asg (.nm 1) (.call "_law_points" (.cons (.var 0) .nil) [] .nil [])) (.cons (.asg (.nm 2) (.comp [15] (.nm 15) (.of (.var 1)) (.bl true) (.sub (.var 15) (.int 1)))) (.cons (.asg (.sw [3, 4]) (.tup (.cons (.sub (.var 1) (.int 0)) (.cons (.sub (.var 1) (.neg (.int 1))) .nil)))) (.cons (.asg (.nm 5) (.tup (.cons (.bi .len (.cons (.var 1) .nil)) (.cons (.bi .sum (.cons (.var 2) .nil)) (.cons (.bi .min1 (.cons (.var 2) .nil)) (.cons (.bi .max1 (.cons (.var 2) .nil)) (.cons (.var 3) (.cons (.var 4) .nil)))))))) (.cons (.asg (.nm 6) (.lst (.cons (.call "_law_lowest" (.cons (.bi .sum (.cons (.var 2) .nil)) (.cons (.bi .len (.cons (.var 2) .nil)) .nil)) [] .nil []) (.cons .non (.cons (.bin .sub (.sub (.var 4) (.int 1)) (.sub (.var 3) (.int 1))) .nil))))) (.cons (.ifs (.cmp .ne (.sub (.var 4) (.int 0)) (.sub (.var 3) (.int 0))) (.cons (.asg (.sub (.var 6) (.int 1)) (.call "_law_lowest" (.cons (.bin .sub (.sub (.var 4) (.int 1)) (.sub (.var 3) (.int 1))) (.cons (.bin .sub (.sub (.var 4) (.int 0)) (.sub (.var 3) (.int 0))) .nil)) [] .nil [])) .nil) .nil) (.cons (.fors (.nm 7) (.rng1 (.int 6)) (.cons (.ifs (.cmp .ne (.bi .repr (.cons (.call "_law_fold_asked" (.cons (.var 5) (.cons (.var 7) .nil)) [] .nil []) .nil)) (.bi .repr (.cons (.lst (.cons (.str "told") (.cons (.sub (.var 6) (.bin .mod (.var 7) (.int 3))) .nil))) .nil))) (.cons (.ret (.bl false)) .nil) .nil) .nil)) (.cons (.asg (.sw [8, 9, 10]) (.tup (.cons (.bi .len (.cons (.var 1) .nil)) (.cons (.bi .min1 (.cons (.var 2) .nil)) (.cons (.bi .max1 (.cons (.var 2) .nil)) .nil))))) (.cons (.asg (.nm 11) (.lst (.cons (.tup (.cons (.var 8) (.cons (.bin .add (.bin .mul (.var 8) (.var 10)) (.int 1)) (.cons (.var 9) (.cons (.var 10) (.cons (.var 3) (.cons (.var 4) .nil))))))) (.cons (.bi .list1 (.cons (.var 5) .nil)) (.cons (.slc (.var 5) .no (.yes (.int 5))) (.cons (.int 0) (.cons (.str "") (.cons (.dc []) .nil)))))))) (.cons (.expr (.app (.var 11) (.tup (.cons (.var 8) (.cons (.bi .sum (.cons (.var 2) .nil)) (.cons (.bin .add (.var 10) (.int 1)) (.cons (.var 10) (.cons (.var 3) (.cons (.var 4) .nil))))))))) (.cons (.expr (.app (.var 11) (.tup (.cons (.var 8) (.cons (.bi .sum (.cons (.var 2) .nil)) (.cons (.var 9) (.cons (.var 10) (.cons (.tup (.cons (.bin .add (.sub (.var 4) (.int 0)) (.int 1)) (.cons (.sub (.var 3) (.int 1)) .nil))) (.cons (.var 4) .nil))))))))) (.cons (.expr (.app (.var 11) (.tup (.cons (.int 0) (.cons (.int 0) (.cons (.int 0) (.cons (.int 0) (.cons (.var 3) (.cons (.var 4) .nil))))))))) (.cons (.fors (.nm 12) (.of (.var 11)) (.cons (.fors (.nm 7) (.rng1 (.int 3)) (.cons (.asg (.nm 13) (.ife (.bi .isi (.cons (.var 12) (.cons (.ty "list") .nil))) (.bi .list1 (.cons (.var 12) .nil)) (.var 12))) (.cons (.asg (.nm 14) (.call "_law_one_asked" (.cons (.var 13) (.cons (.var 7) .nil)) [] .nil [])) (.cons (.ifs (.bi .isi (.cons (.var 13) (.cons (.ty "list") .nil))) (.cons (.expr (.app (.var 13) (.str "more"))) .nil) .nil) (.cons (.ifs (.or (.cmp .ne (.sub (.var 14) (.int 0)) (.str "fold")) (.cmp .ne (.bi .repr (.cons (.sub (.var 14) (.int 1)) .nil)) (.bi .repr (.cons (.var 13) .nil)))) (.cons (.ret (.bl false)) .nil) .nil) .nil))))) .nil)) (.cons (.ret (.cmp .eq (.bi .repr (.cons (.comp [7] (.nm 7) (.rng1 (.int 3)) (.bl true) (.call "_law_one_asked" (.cons .non (.cons (.var 7) .nil)) [] .nil [])) .nil)) (.bi .repr (.cons (.bin .mul (.lst (.cons (.lst (.cons (.str "told") (.cons .non .nil))) .nil)) (.int 3)) .nil)))) .nil))))))))))))))
def f_law_means_right : FnI := ⟨1, 16, [(1, [], [])], body_law_means_right⟩
theorem fnp_law_means_right : f_law_means_right.np = 1 := rfl
theorem fns_law_means_right : f_law_means_right.ns = 16 := rfl
theorem fbo_law_means_right : f_law_means_right.body = body_law_means_right := rfl
def e_law_one_asked : DE := ⟨⟨("_law_one_asked", none), "_law_one_asked", "_law_one_asked", defArgs (top 49), defBody (top 49), defScope (top 49), [], []⟩, ["_law_fold", "_law_way", "e"], ["_law_fold", "_law_way"]⟩
def body_law_one_asked : MSs := (.cons (.trys (.cons (.ifs (.cmp .eq (.var 1) (.int 0)) (.cons (.ret (.lst (.cons (.str "told") (.cons (.call "mean" (.cons (.var 0) .nil) [] .nil []) .nil)))) .nil) .nil) (.cons (.ifs (.cmp .eq (.var 1) (.int 1)) (.cons (.ret (.lst (.cons (.str "told") (.cons (.call "rate" .nil ["fold"] (.cons (.var 0) .nil) [0]) .nil)))) .nil) .nil) (.cons (.ret (.lst (.cons (.str "told") (.cons (.call "delta" (.cons (.var 0) .nil) [] .nil []) .nil)))) .nil))) (.cons "InvalidFold" 2 (.cons (.ret (.lst (.cons (.str "fold") (.cons (.efld 2 "given") .nil)))) .nil) .nil)) .nil)
def f_law_one_asked : FnI := ⟨2, 3, [(2, [], [])], body_law_one_asked⟩
theorem fnp_law_one_asked : f_law_one_asked.np = 2 := rfl
theorem fns_law_one_asked : f_law_one_asked.ns = 3 := rfl
theorem fbo_law_one_asked : f_law_one_asked.body = body_law_one_asked := rfl
def e_delta : DE := ⟨⟨("delta", none), "delta", "delta", defArgs (top 26), defBody (top 26), defScope (top 26), [], []⟩, ["fold"], ["fold"]⟩
def body_delta : MSs := (.cons (.expr (.call "check_fold" (.cons (.var 0) .nil) [] .nil [])) (.cons (.ret (.ife (.cmp .isN (.var 0) .non) .non (.bin .sub (.sub (.sub (.var 0) (.int 5)) (.int 1)) (.sub (.sub (.var 0) (.int 4)) (.int 1))))) .nil))
def f_delta : FnI := ⟨1, 1, [(0, ["fold"], [0]), (1, [], [])], body_delta⟩
theorem fnp_delta : f_delta.np = 1 := rfl
theorem fns_delta : f_delta.ns = 1 := rfl
theorem fbo_delta : f_delta.body = body_delta := rfl
def e_check_fold : DE := ⟨⟨("check_fold", none), "check_fold", "check_fold", defArgs (top 24), defBody (top 24), defScope (top 24), [], []⟩, ["fold"], ["fold"]⟩
def body_check_fold : MSs := (.cons (.ifs (.notE (.call "is_fold" (.cons (.var 0) .nil) [] .nil [])) (.cons (.raise "InvalidFold" (.cons (.var 0) .nil)) .nil) .nil) .nil)
def f_check_fold : FnI := ⟨1, 1, [(1, [], [])], body_check_fold⟩
theorem fnp_check_fold : f_check_fold.np = 1 := rfl
theorem fns_check_fold : f_check_fold.ns = 1 := rfl
theorem fbo_check_fold : f_check_fold.body = body_check_fold := rfl
def e_is_fold : DE := ⟨⟨("is_fold", none), "is_fold", "is_fold", defArgs (top 23), defBody (top 23), defScope (top 23), [], []⟩, ["value"], ["value"]⟩
def body_is_fold : MSs := (.cons (.ret (.or (.cmp .isN (.var 0) .non) (.and (.call "has_parts" (.cons (.var 0) .nil) [] .nil []) (.and (.cmp .le (.sub (.sub (.var 0) (.int 4)) (.int 0)) (.sub (.sub (.var 0) (.int 5)) (.int 0))) (.call "can_sum" (.cons (.var 0) .nil) [] .nil []))))) .nil)
def f_is_fold : FnI := ⟨1, 1, [(1, [], [])], body_is_fold⟩
theorem fnp_is_fold : f_is_fold.np = 1 := rfl
theorem fns_is_fold : f_is_fold.ns = 1 := rfl
theorem fbo_is_fold : f_is_fold.body = body_is_fold := rfl
def e_can_sum : DE := ⟨⟨("can_sum", none), "can_sum", "can_sum", defArgs (top 22), defBody (top 22), defScope (top 22), [], []⟩, ["value", "count", "total", "least", "greatest", "first", "last", "lack", "left", "rest"], ["value"]⟩
def body_can_sum : MSs := (.cons (.asg (.tp [1, 2, 3, 4, 5, 6]) (.var 0)) (.cons (.ifs (.or (.cmp .lt (.bi .min2 (.cons (.sub (.var 5) (.int 1)) (.cons (.sub (.var 6) (.int 1)) .nil))) (.var 3)) (.cmp .gt (.bi .max2 (.cons (.sub (.var 5) (.int 1)) (.cons (.sub (.var 6) (.int 1)) .nil))) (.var 4))) (.cons (.ret (.bl false)) .nil) .nil) (.cons (.ifs (.cmp .eq (.var 1) (.int 1)) (.cons (.ret (.and (.cmp .eq (.var 5) (.var 6)) (.chain3 .eq .eq .eq (.var 2) (.var 3) (.var 4) (.sub (.var 5) (.int 1))))) .nil) .nil) (.cons (.asg (.nm 7) (.call "lacking" (.cons (.var 0) .nil) [] .nil [])) (.cons (.asg (.sw [8, 9]) (.tup (.cons (.bin .sub (.bin .sub (.var 1) (.int 2)) (.bi .len (.cons (.var 7) .nil))) (.cons (.bin .sub (.bin .sub (.bin .sub (.var 2) (.sub (.var 5) (.int 1))) (.sub (.var 6) (.int 1))) (.bi .sum (.cons (.var 7) .nil))) .nil)))) (.cons (.ret (.and (.cmp .ge (.var 8) (.int 0)) (.chain .le .le (.bin .mul (.var 8) (.var 3)) (.var 9) (.bin .mul (.var 8) (.var 4))))) .nil))))))
def f_can_sum : FnI := ⟨1, 10, [(1, [], [])], body_can_sum⟩
theorem fnp_can_sum : f_can_sum.np = 1 := rfl
theorem fns_can_sum : f_can_sum.ns = 10 := rfl
theorem fbo_can_sum : f_can_sum.body = body_can_sum := rfl
def e_lacking : DE := ⟨⟨("lacking", none), "lacking", "lacking", defArgs (top 21), defBody (top 21), defScope (top 21), [], []⟩, ["value", "ends", "part"], ["value"]⟩
def body_lacking : MSs := (.cons (.asg (.nm 1) (.tup (.cons (.sub (.sub (.var 0) (.int 4)) (.int 1)) (.cons (.sub (.sub (.var 0) (.int 5)) (.int 1)) .nil)))) (.cons (.ret (.comp [2] (.nm 2) (.of (.sst (.slc (.var 0) (.yes (.int 2)) (.yes (.int 4))))) (.cmp .niS (.var 2) (.var 1)) (.var 2))) .nil))
def f_lacking : FnI := ⟨1, 3, [(1, [], [])], body_lacking⟩
theorem fnp_lacking : f_lacking.np = 1 := rfl
theorem fns_lacking : f_lacking.ns = 3 := rfl
theorem fbo_lacking : f_lacking.body = body_lacking := rfl
def e_has_parts : DE := ⟨⟨("has_parts", none), "has_parts", "has_parts", defArgs (top 20), defBody (top 20), defScope (top 20), [], []⟩, ["value", "part"], ["value"]⟩
def body_has_parts : MSs := (.cons (.ifs (.or (.notE (.bi .isi (.cons (.var 0) (.cons (.ty "tuple") .nil)))) (.or (.cmp .ne (.bi .len (.cons (.var 0) .nil)) (.int 6)) (.or (.notE (.call "is_count" (.cons (.sub (.var 0) (.int 0)) .nil) [] .nil [])) (.cmp .eq (.sub (.var 0) (.int 0)) (.int 0))))) (.cons (.ret (.bl false)) .nil) .nil) (.cons (.ret (.and (.bi .all (.cons (.comp [1] (.nm 1) (.of (.slc (.var 0) (.yes (.int 1)) (.yes (.int 4)))) (.bl true) (.call "is_value" (.cons (.var 1) .nil) [] .nil [])) .nil)) (.and (.call "is_point" (.cons (.sub (.var 0) (.int 4)) .nil) [] .nil []) (.call "is_point" (.cons (.sub (.var 0) (.int 5)) .nil) [] .nil [])))) .nil))
def f_has_parts : FnI := ⟨1, 2, [(1, [], [])], body_has_parts⟩
theorem fnp_has_parts : f_has_parts.np = 1 := rfl
theorem fns_has_parts : f_has_parts.ns = 2 := rfl
theorem fbo_has_parts : f_has_parts.body = body_has_parts := rfl
def e_is_point : DE := ⟨⟨("is_point", none), "is_point", "is_point", defArgs (top 19), defBody (top 19), defScope (top 19), [], []⟩, ["value"], ["value"]⟩
def body_is_point : MSs := (.cons (.ret (.and (.bi .isi (.cons (.var 0) (.cons (.ty "tuple") .nil))) (.and (.cmp .eq (.bi .len (.cons (.var 0) .nil)) (.int 2)) (.and (.call "is_count" (.cons (.sub (.var 0) (.int 0)) .nil) [] .nil []) (.call "is_value" (.cons (.sub (.var 0) (.int 1)) .nil) [] .nil []))))) .nil)
def f_is_point : FnI := ⟨1, 1, [(1, [], [])], body_is_point⟩
theorem fnp_is_point : f_is_point.np = 1 := rfl
theorem fns_is_point : f_is_point.ns = 1 := rfl
theorem fbo_is_point : f_is_point.body = body_is_point := rfl
def e_is_count : DE := ⟨⟨("is_count", none), "is_count", "is_count", defArgs (top 8), defBody (top 8), defScope (top 8), [], []⟩, ["value"], ["value"]⟩
def body_is_count : MSs := (.cons (.ret (.and (.call "is_integer" (.cons (.var 0) .nil) [] .nil []) (.cmp .ge (.var 0) (.int 0)))) .nil)
def f_is_count : FnI := ⟨1, 1, [(1, [], [])], body_is_count⟩
theorem fnp_is_count : f_is_count.np = 1 := rfl
theorem fns_is_count : f_is_count.ns = 1 := rfl
theorem fbo_is_count : f_is_count.body = body_is_count := rfl
def e_rate : DE := ⟨⟨("rate", none), "rate", "rate", defArgs (top 27), defBody (top 27), defScope (top 27), [], []⟩, ["fold"], ["fold"]⟩
def body_rate : MSs := (.cons (.expr (.call "check_fold" (.cons (.var 0) .nil) [] .nil [])) (.cons (.ifs (.or (.cmp .isN (.var 0) .non) (.cmp .eq (.sub (.sub (.var 0) (.int 4)) (.int 0)) (.sub (.sub (.var 0) (.int 5)) (.int 0)))) (.cons (.ret .non) .nil) .nil) (.cons (.ret (.call "fraction" (.cons (.bin .sub (.sub (.sub (.var 0) (.int 5)) (.int 1)) (.sub (.sub (.var 0) (.int 4)) (.int 1))) (.cons (.bin .sub (.sub (.sub (.var 0) (.int 5)) (.int 0)) (.sub (.sub (.var 0) (.int 4)) (.int 0))) .nil)) [] .nil [])) .nil)))
def f_rate : FnI := ⟨1, 1, [(0, ["fold"], [0]), (1, [], [])], body_rate⟩
theorem fnp_rate : f_rate.np = 1 := rfl
theorem fns_rate : f_rate.ns = 1 := rfl
theorem fbo_rate : f_rate.body = body_rate := rfl
def e_mean : DE := ⟨⟨("mean", none), "mean", "mean", defArgs (top 25), defBody (top 25), defScope (top 25), [], []⟩, ["fold"], ["fold"]⟩
def body_mean : MSs := (.cons (.expr (.call "check_fold" (.cons (.var 0) .nil) [] .nil [])) (.cons (.ret (.ife (.cmp .isN (.var 0) .non) .non (.call "fraction" (.cons (.sub (.var 0) (.int 1)) (.cons (.sub (.var 0) (.int 0)) .nil)) [] .nil []))) .nil))
def f_mean : FnI := ⟨1, 1, [(0, ["fold"], [0]), (1, [], [])], body_mean⟩
theorem fnp_mean : f_mean.np = 1 := rfl
theorem fns_mean : f_mean.ns = 1 := rfl
theorem fbo_mean : f_mean.body = body_mean := rfl
def e_law_fold_asked : DE := ⟨⟨("_law_fold_asked", none), "_law_fold_asked", "_law_fold_asked", defArgs (top 48), defBody (top 48), defScope (top 48), [], []⟩, ["_law_fold", "_law_way", "e"], ["_law_fold", "_law_way"]⟩
def body_law_fold_asked : MSs := (.cons (.trys (.cons (.ret (.lst (.cons (.str "told") (.cons (.sub (.lst (.cons (.call "mean" (.cons (.var 0) .nil) [] .nil []) (.cons (.call "rate" (.cons (.var 0) .nil) [] .nil []) (.cons (.call "delta" (.cons (.var 0) .nil) [] .nil []) (.cons (.call "mean" .nil ["fold"] (.cons (.var 0) .nil) [0]) (.cons (.call "rate" .nil ["fold"] (.cons (.var 0) .nil) [0]) (.cons (.call "delta" .nil ["fold"] (.cons (.var 0) .nil) [0]) .nil))))))) (.var 1)) .nil)))) .nil) (.cons "InvalidFold" 2 (.cons (.ret (.lst (.cons (.str "fold") (.cons (.efld 2 "given") .nil)))) .nil) .nil)) .nil)
def f_law_fold_asked : FnI := ⟨2, 3, [(2, [], [])], body_law_fold_asked⟩
theorem fnp_law_fold_asked : f_law_fold_asked.np = 2 := rfl
theorem fns_law_fold_asked : f_law_fold_asked.ns = 3 := rfl
theorem fbo_law_fold_asked : f_law_fold_asked.body = body_law_fold_asked := rfl
def e_law_points : DE := ⟨⟨("_law_points", none), "_law_points", "_law_points", defArgs (top 47), defBody (top 47), defScope (top 47), [], []⟩, ["_law_box_here", "_law_way", "_law_many", "_law_time", "_law_found", "_law_turn"], ["_law_box_here"]⟩
def body_law_points : MSs := (.cons (.asg (.sw [1, 2]) (.tup (.cons (.call "_law_take" (.cons (.var 0) (.cons (.int 3) .nil)) [] .nil []) (.cons (.bin .add (.int 1) (.call "_law_take" (.cons (.var 0) (.cons (.int 6) .nil)) [] .nil [])) .nil)))) (.cons (.asg (.sw [3, 4]) (.tup (.cons (.sub (.lst (.cons (.int 0) (.cons (.int 2) (.cons (.bin .pow (.int 10) (.int 11)) (.cons (.int 7) .nil))))) (.call "_law_take" (.cons (.var 0) (.cons (.int 4) .nil)) [] .nil [])) (.cons (.lst .nil) .nil)))) (.cons (.fors (.nm 5) (.rng1 (.var 2)) (.cons (.expr (.app (.var 4) (.tup (.cons (.var 3) (.cons (.call "_law_number" (.cons (.var 0) .nil) [] .nil []) .nil))))) (.cons (.asg (.nm 3) (.bin .add (.var 3) (.ife (.cmp .eq (.var 1) (.int 0)) (.int 0) (.bin .add (.int 1) (.call "_law_take" (.cons (.var 0) (.cons (.int 40) .nil)) [] .nil []))))) .nil))) (.cons (.ret (.var 4)) .nil))))
def f_law_points : FnI := ⟨1, 6, [(1, [], [])], body_law_points⟩
theorem fnp_law_points : f_law_points.np = 1 := rfl
theorem fns_law_points : f_law_points.ns = 6 := rfl
theorem fbo_law_points : f_law_points.body = body_law_points := rfl
def e_law_take : DE := ⟨⟨("_law_take", none), "_law_take", "_law_take", defArgs (top 31), defBody (top 31), defScope (top 31), [], []⟩, ["_law_box_here", "_law_many", "_law_digit", "_law_mixed"], ["_law_box_here", "_law_many"]⟩
def body_law_take : MSs := (.cons (.ifs (.and (.sub (.var 0) (.int 1)) (.cmp .gt (.sub (.var 0) (.int 0)) (.int 0))) (.cons (.asg (.nm 2) (.bin .mod (.bi .int1 (.cons (.sub (.var 0) (.int 0)) .nil)) (.var 1))) (.cons (.asg (.sub (.var 0) (.int 0)) (.bin .fdiv (.sub (.var 0) (.int 0)) (.var 1))) (.cons (.ret (.var 2)) .nil))) .nil) (.cons (.asg (.sub (.var 0) (.int 3)) (.bin .add (.sub (.var 0) (.int 3)) (.int 1))) (.cons (.asg (.nm 3) (.bin .mod (.bi .int1 (.cons (.bin .pow (.bin .add (.bin .add (.sub (.var 0) (.int 2)) (.bin .mul (.int 15485863) (.sub (.var 0) (.int 3)))) (.int 179424673)) (.int 5)) .nil)) (.int 2147483647))) (.cons (.ret (.bin .mod (.bin .fdiv (.bin .mod (.bi .int1 (.cons (.bin .pow (.bin .add (.bin .mul (.var 3) (.int 48271)) (.bin .mul (.int 104729) (.sub (.var 0) (.int 3)))) (.int 3)) .nil)) (.int 2147483587)) (.int 64)) (.var 1))) .nil))))
def f_law_take : FnI := ⟨2, 4, [(2, [], [])], body_law_take⟩
theorem fnp_law_take : f_law_take.np = 2 := rfl
theorem fns_law_take : f_law_take.ns = 4 := rfl
theorem fbo_law_take : f_law_take.body = body_law_take := rfl
def e_law_number : DE := ⟨⟨("_law_number", none), "_law_number", "_law_number", defArgs (top 32), defBody (top 32), defScope (top 32), [], []⟩, ["_law_box_here", "_law_way"], ["_law_box_here"]⟩
def body_law_number : MSs := (.cons (.asg (.nm 1) (.call "_law_take" (.cons (.var 0) (.cons (.int 6) .nil)) [] .nil [])) (.cons (.ifs (.cmp .eq (.var 1) (.int 0)) (.cons (.ret (.sub (.lst (.cons (.int 0) (.cons (.int 1) (.cons (.neg (.int 1)) .nil)))) (.call "_law_take" (.cons (.var 0) (.cons (.int 3) .nil)) [] .nil []))) .nil) .nil) (.cons (.ifs (.cmp .eq (.var 1) (.int 1)) (.cons (.ret (.bin .mul (.sub (.lst (.cons (.int 2) (.cons (.neg (.int 3)) .nil))) (.call "_law_take" (.cons (.var 0) (.cons (.int 2) .nil)) [] .nil [])) (.bin .add (.bin .pow (.int 10) (.int 11)) (.call "_law_take" (.cons (.var 0) (.cons (.int 999) .nil)) [] .nil [])))) .nil) .nil) (.cons (.ifs (.cmp .eq (.var 1) (.int 2)) (.cons (.ret (.sub (.lst (.cons (.int 12) (.cons (.int 60) (.cons (.neg (.int 30)) (.cons (.int 36) (.cons (.int 999999999999) (.cons (.int 7) .nil))))))) (.call "_law_take" (.cons (.var 0) (.cons (.int 6) .nil)) [] .nil []))) .nil) .nil) (.cons (.ret (.bin .sub (.call "_law_take" (.cons (.var 0) (.cons (.int 25) .nil)) [] .nil []) (.int 12))) .nil)))))
def f_law_number : FnI := ⟨1, 2, [(1, [], [])], body_law_number⟩
theorem fnp_law_number : f_law_number.np = 1 := rfl
theorem fns_law_number : f_law_number.ns = 2 := rfl
theorem fbo_law_number : f_law_number.body = body_law_number := rfl
def e_law_odd : DE := ⟨⟨("_law_odd", none), "_law_odd", "_law_odd", defArgs (top 44), defBody (top 44), defScope (top 44), [], []⟩, ["_law_box_here", "_law_n", "_law_d", "_law_way"], ["_law_box_here"]⟩
def body_law_odd : MSs := (.cons (.asg (.sw [1, 2, 3]) (.tup (.cons (.call "_law_number" (.cons (.var 0) .nil) [] .nil []) (.cons (.call "_law_number" (.cons (.var 0) .nil) [] .nil []) (.cons (.call "_law_take" (.cons (.var 0) (.cons (.int 9) .nil)) [] .nil []) .nil))))) (.cons (.ifs (.cmp .lt (.var 3) (.int 4)) (.cons (.ret (.sub (.lst (.cons (.tup (.cons (.var 1) (.cons (.var 2) .nil))) (.cons (.tup (.cons (.bin .mul (.int 2) (.var 1)) (.cons (.bin .mul (.int 2) (.var 2)) .nil))) (.cons (.tup (.cons (.var 1) (.cons (.bin .add (.bi .abs (.cons (.var 2) .nil)) (.int 1)) .nil))) (.cons (.tup (.cons (.bin .mul (.var 1) (.var 2)) (.cons (.var 2) .nil))) .nil))))) (.var 3))) .nil) .nil) (.cons (.ifs (.cmp .eq (.var 3) (.int 4)) (.cons (.ret (.lst (.cons (.var 1) (.cons (.int 1) .nil)))) .nil) .nil) (.cons (.ifs (.cmp .eq (.var 3) (.int 5)) (.cons (.ret (.sub (.lst (.cons .non (.cons (.int 3) (.cons (.str "") (.cons (.str "1/2") (.cons (.lst .nil) (.cons (.dc []) (.cons (.bl true) .nil)))))))) (.call "_law_take" (.cons (.var 0) (.cons (.int 7) .nil)) [] .nil []))) .nil) .nil) (.cons (.ifs (.cmp .eq (.var 3) (.int 6)) (.cons (.ret (.sub (.lst (.cons (.tup (.cons (.var 1) .nil)) (.cons (.tup (.cons (.var 1) (.cons (.int 1) (.cons (.int 1) .nil)))) (.cons (.tup .nil) .nil)))) (.call "_law_take" (.cons (.var 0) (.cons (.int 3) .nil)) [] .nil []))) .nil) .nil) (.cons (.ret (.sub (.lst (.cons (.tup (.cons (.bl true) (.cons (.int 2) .nil))) (.cons (.tup (.cons (.var 1) (.cons (.bl true) .nil))) (.cons (.tup (.cons .non (.cons (.int 1) .nil))) (.cons (.tup (.cons (.int 1) (.cons (.str "2") .nil))) (.cons (.tup (.cons (.var 1) (.cons .non .nil))) (.cons (.tup (.cons (.int 1) (.cons (.tup (.cons (.int 1) (.cons (.int 1) .nil))) .nil))) .nil))))))) (.call "_law_take" (.cons (.var 0) (.cons (.int 6) .nil)) [] .nil []))) .nil))))))
def f_law_odd : FnI := ⟨1, 4, [(1, [], [])], body_law_odd⟩
theorem fnp_law_odd : f_law_odd.np = 1 := rfl
theorem fns_law_odd : f_law_odd.ns = 4 := rfl
theorem fbo_law_odd : f_law_odd.body = body_law_odd := rfl
def e_law_odd_right : DE := ⟨⟨("_law_odd_right", none), "_law_odd_right", "_law_odd_right", defArgs (top 46), defBody (top 46), defScope (top 46), [], []⟩, ["_law_odd_here", "_law_more", "_law_good", "_law_way", "_law_pair", "_law_wrong", "_law_due_here", "_law_at"], ["_law_odd_here", "_law_more", "_law_good"]⟩
def body_law_odd_right : MSs := (.cons (.ifs (.cmp .ne (.bi .repr (.cons (.lst (.cons (.call "is_fraction" (.cons (.var 0) .nil) [] .nil []) (.cons (.call "is_fraction" .nil ["value"] (.cons (.var 1) .nil) [0]) .nil))) .nil)) (.bi .repr (.cons (.lst (.cons (.call "_law_is_fraction" (.cons (.var 0) .nil) [] .nil []) (.cons (.call "_law_is_fraction" (.cons (.var 1) .nil) [] .nil []) .nil))) .nil))) (.cons (.ret (.bl false)) .nil) .nil) (.cons (.fors (.nm 3) (.rng1 (.int 5)) (.cons (.fors (.nm 4) (.of (.lst (.cons (.lst (.cons (.var 0) (.cons (.var 2) .nil))) (.cons (.lst (.cons (.var 2) (.cons (.var 0) .nil))) (.cons (.lst (.cons (.var 0) (.cons (.var 1) .nil))) (.cons (.lst (.cons (.var 0) (.cons (.var 0) .nil))) .nil)))))) (.cons (.asg (.nm 5) (.comp [7] (.nm 7) (.rng1 (.int 2)) (.notE (.call "_law_is_fraction" (.cons (.sub (.var 4) (.var 7)) .nil) [] .nil [])) (.var 7))) (.cons (.ifs (.cmp .eq (.var 5) (.lst .nil)) (.cons (.asg (.nm 6) (.bi .repr (.cons (.lst (.cons (.str "told") (.cons (.call "_law_due" (.cons (.sub (.var 4) (.int 0)) (.cons (.sub (.var 4) (.int 1)) (.cons (.var 3) .nil))) [] .nil []) .nil))) .nil))) (.cons (.ifs (.cmp .ne (.bi .repr (.cons (.call "_law_asked" (.cons (.sub (.var 4) (.int 0)) (.cons (.sub (.var 4) (.int 1)) (.cons (.var 3) (.cons (.bl false) .nil)))) [] .nil []) .nil)) (.var 6)) (.cons (.ret (.bl false)) .nil) .nil) .nil)) (.cons (.ifs (.notE (.call "_law_refused" (.cons (.sub (.var 4) (.int 0)) (.cons (.sub (.var 4) (.int 1)) (.cons (.var 3) (.cons (.sub (.var 5) (.int 0)) .nil)))) [] .nil [])) (.cons (.ret (.bl false)) .nil) .nil) .nil)) .nil))) .nil)) (.cons (.ret (.bl true)) .nil)))
def f_law_odd_right : FnI := ⟨3, 8, [(3, [], [])], body_law_odd_right⟩
theorem fnp_law_odd_right : f_law_odd_right.np = 3 := rfl
theorem fns_law_odd_right : f_law_odd_right.ns = 8 := rfl
theorem fbo_law_odd_right : f_law_odd_right.body = body_law_odd_right := rfl
def e_law_refused : DE := ⟨⟨("_law_refused", none), "_law_refused", "_law_refused", defArgs (top 45), defBody (top 45), defScope (top 45), [], []⟩, ["_law_one", "_law_other", "_law_way", "_law_at", "_law_pair", "_law_told_here", "_law_value"], ["_law_one", "_law_other", "_law_way", "_law_at"]⟩
def body_law_refused : MSs := (.cons (.asg (.nm 4) (.comp [6] (.nm 6) (.of (.lst (.cons (.var 0) (.cons (.var 1) .nil)))) (.bl true) (.ife (.bi .isi (.cons (.var 6) (.cons (.ty "list") .nil))) (.bi .list1 (.cons (.var 6) .nil)) (.var 6)))) (.cons (.asg (.nm 5) (.call "_law_asked" (.cons (.sub (.var 4) (.int 0)) (.cons (.sub (.var 4) (.int 1)) (.cons (.var 2) (.cons (.cmp .eq (.var 3) (.int 0)) .nil)))) [] .nil [])) (.cons (.ifs (.bi .isi (.cons (.sub (.var 4) (.var 3)) (.cons (.ty "list") .nil))) (.cons (.expr (.app (.sub (.var 4) (.var 3)) (.str "more"))) .nil) .nil) (.cons (.ret (.and (.cmp .eq (.sub (.var 5) (.int 0)) (.str "fraction")) (.cmp .eq (.bi .repr (.cons (.sub (.var 5) (.int 1)) .nil)) (.bi .repr (.cons (.sub (.var 4) (.var 3)) .nil))))) .nil))))
def f_law_refused : FnI := ⟨4, 7, [(4, [], [])], body_law_refused⟩
theorem fnp_law_refused : f_law_refused.np = 4 := rfl
theorem fns_law_refused : f_law_refused.ns = 7 := rfl
theorem fbo_law_refused : f_law_refused.body = body_law_refused := rfl
def e_law_asked : DE := ⟨⟨("_law_asked", none), "_law_asked", "_law_asked", defArgs (top 40), defBody (top 40), defScope (top 40), [], []⟩, ["_law_one", "_law_other", "_law_way", "_law_named", "e"], ["_law_one", "_law_other", "_law_way", "_law_named"]⟩
def body_law_asked : MSs := (.cons (.trys (.cons (.ret (.lst (.cons (.str "told") (.cons (.call "_law_told" (.cons (.var 0) (.cons (.var 1) (.cons (.var 2) (.cons (.var 3) .nil)))) [] .nil []) .nil)))) .nil) (.cons "InvalidFraction" 4 (.cons (.ret (.lst (.cons (.str "fraction") (.cons (.efld 4 "given") .nil)))) .nil) .nil)) .nil)
def f_law_asked : FnI := ⟨4, 5, [(4, [], [])], body_law_asked⟩
theorem fnp_law_asked : f_law_asked.np = 4 := rfl
theorem fns_law_asked : f_law_asked.ns = 5 := rfl
theorem fbo_law_asked : f_law_asked.body = body_law_asked := rfl
def e_law_told : DE := ⟨⟨("_law_told", none), "_law_told", "_law_told", defArgs (top 39), defBody (top 39), defScope (top 39), [], []⟩, ["_law_one", "_law_other", "_law_way", "_law_named"], ["_law_one", "_law_other", "_law_way", "_law_named"]⟩
def body_law_told : MSs := (.cons (.ifs (.cmp .eq (.var 2) (.int 0)) (.cons (.ret (.ife (.var 3) (.call "plus" .nil ["other", "one"] (.cons (.var 1) (.cons (.var 0) .nil)) [1, 0]) (.call "plus" (.cons (.var 0) (.cons (.var 1) .nil)) [] .nil []))) .nil) .nil) (.cons (.ifs (.cmp .eq (.var 2) (.int 1)) (.cons (.ret (.ife (.var 3) (.call "minus" .nil ["other", "one"] (.cons (.var 1) (.cons (.var 0) .nil)) [1, 0]) (.call "minus" (.cons (.var 0) (.cons (.var 1) .nil)) [] .nil []))) .nil) .nil) (.cons (.ifs (.cmp .eq (.var 2) (.int 2)) (.cons (.ret (.ife (.var 3) (.call "times" .nil ["other", "one"] (.cons (.var 1) (.cons (.var 0) .nil)) [1, 0]) (.call "times" (.cons (.var 0) (.cons (.var 1) .nil)) [] .nil []))) .nil) .nil) (.cons (.ifs (.cmp .eq (.var 2) (.int 3)) (.cons (.ret (.ife (.var 3) (.call "by" .nil ["other", "one"] (.cons (.var 1) (.cons (.var 0) .nil)) [1, 0]) (.call "by" (.cons (.var 0) (.cons (.var 1) .nil)) [] .nil []))) .nil) .nil) (.cons (.ret (.ife (.var 3) (.call "compared" .nil ["other", "one"] (.cons (.var 1) (.cons (.var 0) .nil)) [1, 0]) (.call "compared" (.cons (.var 0) (.cons (.var 1) .nil)) [] .nil []))) .nil)))))
def f_law_told : FnI := ⟨4, 4, [(4, [], [])], body_law_told⟩
theorem fnp_law_told : f_law_told.np = 4 := rfl
theorem fns_law_told : f_law_told.ns = 4 := rfl
theorem fbo_law_told : f_law_told.body = body_law_told := rfl
def e_compared : DE := ⟨⟨("compared", none), "compared", "compared", defArgs (top 17), defBody (top 17), defScope (top 17), [], []⟩, ["one", "other", "left", "right"], ["one", "other"]⟩
def body_compared : MSs := (.cons (.expr (.call "check_fractions" (.cons (.var 0) (.cons (.var 1) .nil)) [] .nil [])) (.cons (.asg (.sw [2, 3]) (.tup (.cons (.bin .mul (.sub (.var 0) (.int 0)) (.sub (.var 1) (.int 1))) (.cons (.bin .mul (.sub (.var 1) (.int 0)) (.sub (.var 0) (.int 1))) .nil)))) (.cons (.ret (.bin .sub (.bi .int1 (.cons (.cmp .gt (.var 2) (.var 3)) .nil)) (.bi .int1 (.cons (.cmp .lt (.var 2) (.var 3)) .nil)))) .nil)))
def f_compared : FnI := ⟨2, 4, [(0, ["other", "one"], [1, 0]), (2, [], [])], body_compared⟩
theorem fnp_compared : f_compared.np = 2 := rfl
theorem fns_compared : f_compared.ns = 4 := rfl
theorem fbo_compared : f_compared.body = body_compared := rfl
def e_check_fractions : DE := ⟨⟨("check_fractions", none), "check_fractions", "check_fractions", defArgs (top 12), defBody (top 12), defScope (top 12), [], []⟩, ["one", "other", "value"], ["one", "other"]⟩
def body_check_fractions : MSs := (.cons (.fors (.nm 2) (.of (.tup (.cons (.var 0) (.cons (.var 1) .nil)))) (.cons (.ifs (.notE (.call "is_fraction" (.cons (.var 2) .nil) [] .nil [])) (.cons (.raise "InvalidFraction" (.cons (.var 2) .nil)) .nil) .nil) .nil)) .nil)
def f_check_fractions : FnI := ⟨2, 3, [(2, [], [])], body_check_fractions⟩
theorem fnp_check_fractions : f_check_fractions.np = 2 := rfl
theorem fns_check_fractions : f_check_fractions.ns = 3 := rfl
theorem fbo_check_fractions : f_check_fractions.body = body_check_fractions := rfl
def e_is_fraction : DE := ⟨⟨("is_fraction", none), "is_fraction", "is_fraction", defArgs (top 10), defBody (top 10), defScope (top 10), [], []⟩, ["value", "n", "d"], ["value"]⟩
def body_is_fraction : MSs := (.cons (.ifs (.or (.notE (.bi .isi (.cons (.var 0) (.cons (.ty "tuple") .nil)))) (.cmp .ne (.bi .len (.cons (.var 0) .nil)) (.int 2))) (.cons (.ret (.bl false)) .nil) .nil) (.cons (.asg (.tp [1, 2]) (.var 0)) (.cons (.ret (.and (.call "is_value" (.cons (.var 1) .nil) [] .nil []) (.and (.call "is_value" (.cons (.var 2) .nil) [] .nil []) (.and (.cmp .gt (.var 2) (.int 0)) (.cmp .eq (.gcd "gcd" (.cons (.var 1) (.cons (.var 2) .nil))) (.int 1)))))) .nil)))
def f_is_fraction : FnI := ⟨1, 3, [(0, ["value"], [0]), (1, [], [])], body_is_fraction⟩
theorem fnp_is_fraction : f_is_fraction.np = 1 := rfl
theorem fns_is_fraction : f_is_fraction.ns = 3 := rfl
theorem fbo_is_fraction : f_is_fraction.body = body_is_fraction := rfl
def e_by : DE := ⟨⟨("by", none), "by", "by", defArgs (top 16), defBody (top 16), defScope (top 16), [], []⟩, ["one", "other"], ["one", "other"]⟩
def body_by : MSs := (.cons (.expr (.call "check_fractions" (.cons (.var 0) (.cons (.var 1) .nil)) [] .nil [])) (.cons (.ifs (.cmp .eq (.sub (.var 1) (.int 0)) (.int 0)) (.cons (.ret .non) .nil) .nil) (.cons (.ret (.call "fraction" (.cons (.bin .mul (.sub (.var 0) (.int 0)) (.sub (.var 1) (.int 1))) (.cons (.bin .mul (.sub (.var 0) (.int 1)) (.sub (.var 1) (.int 0))) .nil)) [] .nil [])) .nil)))
def f_by : FnI := ⟨2, 2, [(0, ["other", "one"], [1, 0]), (2, [], [])], body_by⟩
theorem fnp_by : f_by.np = 2 := rfl
theorem fns_by : f_by.ns = 2 := rfl
theorem fbo_by : f_by.body = body_by := rfl
def e_times : DE := ⟨⟨("times", none), "times", "times", defArgs (top 15), defBody (top 15), defScope (top 15), [], []⟩, ["one", "other"], ["one", "other"]⟩
def body_times : MSs := (.cons (.expr (.call "check_fractions" (.cons (.var 0) (.cons (.var 1) .nil)) [] .nil [])) (.cons (.ret (.call "fraction" (.cons (.bin .mul (.sub (.var 0) (.int 0)) (.sub (.var 1) (.int 0))) (.cons (.bin .mul (.sub (.var 0) (.int 1)) (.sub (.var 1) (.int 1))) .nil)) [] .nil [])) .nil))
def f_times : FnI := ⟨2, 2, [(0, ["other", "one"], [1, 0]), (2, [], [])], body_times⟩
theorem fnp_times : f_times.np = 2 := rfl
theorem fns_times : f_times.ns = 2 := rfl
theorem fbo_times : f_times.body = body_times := rfl
def e_minus : DE := ⟨⟨("minus", none), "minus", "minus", defArgs (top 14), defBody (top 14), defScope (top 14), [], []⟩, ["one", "other"], ["one", "other"]⟩
def body_minus : MSs := (.cons (.expr (.call "check_fractions" (.cons (.var 0) (.cons (.var 1) .nil)) [] .nil [])) (.cons (.ret (.call "fraction" (.cons (.bin .sub (.bin .mul (.sub (.var 0) (.int 0)) (.sub (.var 1) (.int 1))) (.bin .mul (.sub (.var 1) (.int 0)) (.sub (.var 0) (.int 1)))) (.cons (.bin .mul (.sub (.var 0) (.int 1)) (.sub (.var 1) (.int 1))) .nil)) [] .nil [])) .nil))
def f_minus : FnI := ⟨2, 2, [(0, ["other", "one"], [1, 0]), (2, [], [])], body_minus⟩
theorem fnp_minus : f_minus.np = 2 := rfl
theorem fns_minus : f_minus.ns = 2 := rfl
theorem fbo_minus : f_minus.body = body_minus := rfl
def e_plus : DE := ⟨⟨("plus", none), "plus", "plus", defArgs (top 13), defBody (top 13), defScope (top 13), [], []⟩, ["one", "other"], ["one", "other"]⟩
def body_plus : MSs := (.cons (.expr (.call "check_fractions" (.cons (.var 0) (.cons (.var 1) .nil)) [] .nil [])) (.cons (.ret (.call "fraction" (.cons (.bin .add (.bin .mul (.sub (.var 0) (.int 0)) (.sub (.var 1) (.int 1))) (.bin .mul (.sub (.var 1) (.int 0)) (.sub (.var 0) (.int 1)))) (.cons (.bin .mul (.sub (.var 0) (.int 1)) (.sub (.var 1) (.int 1))) .nil)) [] .nil [])) .nil))
def f_plus : FnI := ⟨2, 2, [(0, ["other", "one"], [1, 0]), (2, [], [])], body_plus⟩
theorem fnp_plus : f_plus.np = 2 := rfl
theorem fns_plus : f_plus.ns = 2 := rfl
theorem fbo_plus : f_plus.body = body_plus := rfl
def e_law_due : DE := ⟨⟨("_law_due", none), "_law_due", "_law_due", defArgs (top 38), defBody (top 38), defScope (top 38), [], []⟩, ["_law_one", "_law_other", "_law_way", "_law_n", "_law_d", "_law_more", "_law_under"], ["_law_one", "_law_other", "_law_way"]⟩
def body_law_due : MSs := (.cons (.asg (.tp [3, 4, 5, 6]) (.tup (.cons (.sub (.var 0) (.int 0)) (.cons (.sub (.var 0) (.int 1)) (.cons (.sub (.var 1) (.int 0)) (.cons (.sub (.var 1) (.int 1)) .nil)))))) (.cons (.ifs (.cmp .eq (.var 2) (.int 0)) (.cons (.ret (.call "_law_lowest" (.cons (.bin .add (.bin .mul (.var 3) (.var 6)) (.bin .mul (.var 5) (.var 4))) (.cons (.bin .mul (.var 4) (.var 6)) .nil)) [] .nil [])) .nil) .nil) (.cons (.ifs (.cmp .eq (.var 2) (.int 1)) (.cons (.ret (.call "_law_lowest" (.cons (.bin .sub (.bin .mul (.var 3) (.var 6)) (.bin .mul (.var 5) (.var 4))) (.cons (.bin .mul (.var 4) (.var 6)) .nil)) [] .nil [])) .nil) .nil) (.cons (.ifs (.cmp .eq (.var 2) (.int 2)) (.cons (.ret (.call "_law_lowest" (.cons (.bin .mul (.var 3) (.var 5)) (.cons (.bin .mul (.var 4) (.var 6)) .nil)) [] .nil [])) .nil) .nil) (.cons (.ifs (.cmp .eq (.var 2) (.int 3)) (.cons (.ret (.ife (.cmp .eq (.var 5) (.int 0)) .non (.call "_law_lowest" (.cons (.bin .mul (.var 3) (.var 6)) (.cons (.bin .mul (.var 4) (.var 5)) .nil)) [] .nil []))) .nil) .nil) (.cons (.ret (.ife (.cmp .gt (.bin .mul (.var 3) (.var 6)) (.bin .mul (.var 5) (.var 4))) (.int 1) (.ife (.cmp .lt (.bin .mul (.var 3) (.var 6)) (.bin .mul (.var 5) (.var 4))) (.neg (.int 1)) (.int 0)))) .nil))))))
def f_law_due : FnI := ⟨3, 7, [(3, [], [])], body_law_due⟩
theorem fnp_law_due : f_law_due.np = 3 := rfl
theorem fns_law_due : f_law_due.ns = 7 := rfl
theorem fbo_law_due : f_law_due.body = body_law_due := rfl
def e_law_is_fraction : DE := ⟨⟨("_law_is_fraction", none), "_law_is_fraction", "_law_is_fraction", defArgs (top 37), defBody (top 37), defScope (top 37), [], []⟩, ["_law_value"], ["_law_value"]⟩
def body_law_is_fraction : MSs := (.cons (.ifs (.or (.notE (.bi .isi (.cons (.var 0) (.cons (.ty "tuple") .nil)))) (.or (.cmp .ne (.bi .len (.cons (.var 0) .nil)) (.int 2)) (.or (.notE (.call "_law_is_int" (.cons (.sub (.var 0) (.int 0)) .nil) [] .nil [])) (.notE (.call "_law_is_int" (.cons (.sub (.var 0) (.int 1)) .nil) [] .nil []))))) (.cons (.ret (.bl false)) .nil) .nil) (.cons (.ret (.and (.cmp .gt (.sub (.var 0) (.int 1)) (.int 0)) (.cmp .eq (.call "_law_shared" (.cons (.sub (.var 0) (.int 0)) (.cons (.sub (.var 0) (.int 1)) .nil)) [] .nil []) (.int 1)))) .nil))
def f_law_is_fraction : FnI := ⟨1, 1, [(1, [], [])], body_law_is_fraction⟩
theorem fnp_law_is_fraction : f_law_is_fraction.np = 1 := rfl
theorem fns_law_is_fraction : f_law_is_fraction.ns = 1 := rfl
theorem fbo_law_is_fraction : f_law_is_fraction.body = body_law_is_fraction := rfl
def e_law_pair_right : DE := ⟨⟨("_law_pair_right", none), "_law_pair_right", "_law_pair_right", defArgs (top 42), defBody (top 42), defScope (top 42), [], []⟩, ["_law_one", "_law_other", "_law_named", "_law_way", "_law_due_here", "_law_back", "_law_told_here"], ["_law_one", "_law_other"]⟩
def body_law_pair_right : MSs := (.cons (.fors (.nm 2) (.of (.lst (.cons (.bl false) (.cons (.bl true) .nil)))) (.cons (.fors (.nm 3) (.rng1 (.int 5)) (.cons (.asg (.nm 4) (.bi .repr (.cons (.lst (.cons (.str "told") (.cons (.call "_law_due" (.cons (.var 0) (.cons (.var 1) (.cons (.var 3) .nil))) [] .nil []) .nil))) .nil))) (.cons (.ifs (.or (.cmp .ne (.bi .repr (.cons (.call "_law_asked" (.cons (.var 0) (.cons (.var 1) (.cons (.var 3) (.cons (.var 2) .nil)))) [] .nil []) .nil)) (.var 4)) (.cmp .ne (.bi .repr (.cons (.call "_law_asked" (.cons (.var 0) (.cons (.var 1) (.cons (.var 3) (.cons (.notE (.var 2)) .nil)))) [] .nil []) .nil)) (.var 4))) (.cons (.ret (.bl false)) .nil) .nil) .nil))) .nil)) (.cons (.asg (.nm 5) (.lst (.cons (.call "minus" (.cons (.call "plus" (.cons (.var 0) (.cons (.var 1) .nil)) [] .nil []) (.cons (.var 1) .nil)) [] .nil []) (.cons (.call "plus" (.cons (.call "minus" (.cons (.var 0) (.cons (.var 1) .nil)) [] .nil []) (.cons (.var 1) .nil)) [] .nil []) .nil)))) (.cons (.ifs (.cmp .ne (.sub (.var 1) (.int 0)) (.int 0)) (.cons (.asg (.nm 5) (.bin .add (.var 5) (.lst (.cons (.call "by" (.cons (.call "times" (.cons (.var 0) (.cons (.var 1) .nil)) [] .nil []) (.cons (.var 1) .nil)) [] .nil []) (.cons (.call "times" (.cons (.call "by" (.cons (.var 0) (.cons (.var 1) .nil)) [] .nil []) (.cons (.var 1) .nil)) [] .nil []) .nil))))) .nil) .nil) (.cons (.asg (.nm 6) (.lst (.cons (.call "is_fraction" (.cons (.var 0) .nil) [] .nil []) (.cons (.call "is_fraction" .nil ["value"] (.cons (.var 1) .nil) [0]) .nil)))) (.cons (.ret (.and (.cmp .eq (.bi .repr (.cons (.var 5) .nil)) (.bi .repr (.cons (.bin .mul (.lst (.cons (.var 0) .nil)) (.bi .len (.cons (.var 5) .nil))) .nil))) (.cmp .eq (.bi .repr (.cons (.var 6) .nil)) (.str "[True, True]")))) .nil)))))
def f_law_pair_right : FnI := ⟨2, 7, [(2, [], [])], body_law_pair_right⟩
theorem fnp_law_pair_right : f_law_pair_right.np = 2 := rfl
theorem fns_law_pair_right : f_law_pair_right.ns = 7 := rfl
theorem fbo_law_pair_right : f_law_pair_right.body = body_law_pair_right := rfl
def e_law_fraction : DE := ⟨⟨("_law_fraction", none), "_law_fraction", "_law_fraction", defArgs (top 35), defBody (top 35), defScope (top 35), [], []⟩, ["_law_box_here", "_law_d"], ["_law_box_here"]⟩
def body_law_fraction : MSs := (.cons (.asg (.nm 1) (.call "_law_number" (.cons (.var 0) .nil) [] .nil [])) (.cons (.ret (.call "_law_lowest" (.cons (.call "_law_number" (.cons (.var 0) .nil) [] .nil []) (.cons (.ife (.cmp .ne (.var 1) (.int 0)) (.var 1) (.int 9)) .nil)) [] .nil [])) .nil))
def f_law_fraction : FnI := ⟨1, 2, [(1, [], [])], body_law_fraction⟩
theorem fnp_law_fraction : f_law_fraction.np = 1 := rfl
theorem fns_law_fraction : f_law_fraction.ns = 2 := rfl
theorem fbo_law_fraction : f_law_fraction.body = body_law_fraction := rfl
def e_law_cell : DE := ⟨⟨("_law_cell", none), "_law_cell", "_law_cell", defArgs (top 29), defBody (top 29), defScope (top 29), [], []⟩, ["_law_script", "_law_k"], ["_law_script", "_law_k"]⟩
def body_law_cell : MSs := (.cons (.ret (.ife (.cmp .lt (.var 1) (.bi .len (.cons (.var 0) .nil))) (.sub (.var 0) (.var 1)) (.bin .add (.bin .mul (.int 6007) (.var 1)) (.bin .mod (.bi .sum (.cons (.slc (.var 0) .no (.yes (.int 1))) .nil)) (.int 1000033))))) .nil)
def f_law_cell : FnI := ⟨2, 2, [(2, [], [])], body_law_cell⟩
theorem fnp_law_cell : f_law_cell.np = 2 := rfl
theorem fns_law_cell : f_law_cell.ns = 2 := rfl
theorem fbo_law_cell : f_law_cell.body = body_law_cell := rfl
def e_law_box : DE := ⟨⟨("_law_box", none), "_law_box", "_law_box", defArgs (top 30), defBody (top 30), defScope (top 30), [], []⟩, ["_law_great"], ["_law_great"]⟩
def body_law_box : MSs := (.cons (.ret (.lst (.cons (.bi .abs (.cons (.var 0) .nil)) (.cons (.cmp .ge (.bi .abs (.cons (.var 0) .nil)) (.bin .pow (.int 10) (.int 18))) (.cons (.bin .mod (.bi .int1 (.cons (.bi .abs (.cons (.var 0) .nil)) .nil)) (.int 2147483629)) (.cons (.int 0) .nil)))))) .nil)
def f_law_box : FnI := ⟨1, 1, [(1, [], [])], body_law_box⟩
theorem fnp_law_box : f_law_box.np = 1 := rfl
theorem fns_law_box : f_law_box.ns = 1 := rfl
theorem fbo_law_box : f_law_box.body = body_law_box := rfl
def e_InvalidFold_init : DE := ⟨⟨("InvalidFold", some "__init__"), "__init__", "InvalidFold.__init__", defArgs (inClass (top 3) 0), defBody (inClass (top 3) 0), defScope (inClass (top 3) 0), [], []⟩, ["self", "given"], ["self", "given"]⟩
def e_InvalidFraction_init : DE := ⟨⟨("InvalidFraction", some "__init__"), "__init__", "InvalidFraction.__init__", defArgs (inClass (top 4) 0), defBody (inClass (top 4) 0), defScope (inClass (top 4) 0), [], []⟩, ["self", "given"], ["self", "given"]⟩
def fns0 : List (PySem.Str × DE × FnI) := [("law", e_law, f_law), ("_law_numbers_right", e_law_numbers_right, f_law_numbers_right), ("_law_made", e_law_made, f_law_made), ("fraction", e_fraction, f_fraction), ("is_value", e_is_value, f_is_value), ("is_integer", e_is_integer, f_is_integer), ("_law_lowest", e_law_lowest, f_law_lowest), ("_law_shared", e_law_shared, f_law_shared), ("_law_is_int", e_law_is_int, f_law_is_int), ("_law_means_right", e_law_means_right, f_law_means_right), ("_law_one_asked", e_law_one_asked, f_law_one_asked), ("delta", e_delta, f_delta), ("check_fold", e_check_fold, f_check_fold), ("is_fold", e_is_fold, f_is_fold), ("can_sum", e_can_sum, f_can_sum), ("lacking", e_lacking, f_lacking), ("has_parts", e_has_parts, f_has_parts), ("is_point", e_is_point, f_is_point), ("is_count", e_is_count, f_is_count), ("rate", e_rate, f_rate), ("mean", e_mean, f_mean), ("_law_fold_asked", e_law_fold_asked, f_law_fold_asked), ("_law_points", e_law_points, f_law_points), ("_law_take", e_law_take, f_law_take), ("_law_number", e_law_number, f_law_number), ("_law_odd", e_law_odd, f_law_odd), ("_law_odd_right", e_law_odd_right, f_law_odd_right), ("_law_refused", e_law_refused, f_law_refused), ("_law_asked", e_law_asked, f_law_asked), ("_law_told", e_law_told, f_law_told)]
def fns1 : List (PySem.Str × DE × FnI) := [("compared", e_compared, f_compared), ("check_fractions", e_check_fractions, f_check_fractions), ("is_fraction", e_is_fraction, f_is_fraction), ("by", e_by, f_by), ("times", e_times, f_times), ("minus", e_minus, f_minus), ("plus", e_plus, f_plus), ("_law_due", e_law_due, f_law_due), ("_law_is_fraction", e_law_is_fraction, f_law_is_fraction), ("_law_pair_right", e_law_pair_right, f_law_pair_right), ("_law_fraction", e_law_fraction, f_law_fraction), ("_law_cell", e_law_cell, f_law_cell), ("_law_box", e_law_box, f_law_box)]
def τ : Txt where
  fns := fns0 ++ (fns1)
  mes := []
  xs := [⟨"InvalidFold", ["given"], "GrainError", e_InvalidFold_init⟩, ⟨"InvalidFraction", ["given"], "GrainError", e_InvalidFraction_init⟩]
  own := ["InvalidFold", "InvalidFraction"]
  free := ["abs", "all", "bool", "int", "isinstance", "len", "list", "max", "min", "range", "repr", "set", "sorted", "sum", "tuple"]
  gi := []
  bf := [("gcd", "math.gcd")]
  noat := []
  isc := []
  sub := [("InvalidFold", "InvalidFold", true), ("InvalidFold", "InvalidFraction", false), ("InvalidFraction", "InvalidFold", false), ("InvalidFraction", "InvalidFraction", true)]
  xat := ["given"]
  mp := []
theorem tfn_law : τ.tab.fn "law" = some f_law := by kernel_rfl
theorem tfn_law_numbers_right : τ.tab.fn "_law_numbers_right" = some f_law_numbers_right := by kernel_rfl
theorem tfn_law_made : τ.tab.fn "_law_made" = some f_law_made := by kernel_rfl
theorem tfn_fraction : τ.tab.fn "fraction" = some f_fraction := by kernel_rfl
theorem tfn_is_value : τ.tab.fn "is_value" = some f_is_value := by kernel_rfl
theorem tfn_is_integer : τ.tab.fn "is_integer" = some f_is_integer := by kernel_rfl
theorem tfn_law_lowest : τ.tab.fn "_law_lowest" = some f_law_lowest := by kernel_rfl
theorem tfn_law_shared : τ.tab.fn "_law_shared" = some f_law_shared := by kernel_rfl
theorem tfn_law_is_int : τ.tab.fn "_law_is_int" = some f_law_is_int := by kernel_rfl
theorem tfn_law_means_right : τ.tab.fn "_law_means_right" = some f_law_means_right := by kernel_rfl
theorem tfn_law_one_asked : τ.tab.fn "_law_one_asked" = some f_law_one_asked := by kernel_rfl
theorem tfn_delta : τ.tab.fn "delta" = some f_delta := by kernel_rfl
theorem tfn_check_fold : τ.tab.fn "check_fold" = some f_check_fold := by kernel_rfl
theorem tfn_is_fold : τ.tab.fn "is_fold" = some f_is_fold := by kernel_rfl
theorem tfn_can_sum : τ.tab.fn "can_sum" = some f_can_sum := by kernel_rfl
theorem tfn_lacking : τ.tab.fn "lacking" = some f_lacking := by kernel_rfl
theorem tfn_has_parts : τ.tab.fn "has_parts" = some f_has_parts := by kernel_rfl
theorem tfn_is_point : τ.tab.fn "is_point" = some f_is_point := by kernel_rfl
theorem tfn_is_count : τ.tab.fn "is_count" = some f_is_count := by kernel_rfl
theorem tfn_rate : τ.tab.fn "rate" = some f_rate := by kernel_rfl
theorem tfn_mean : τ.tab.fn "mean" = some f_mean := by kernel_rfl
theorem tfn_law_fold_asked : τ.tab.fn "_law_fold_asked" = some f_law_fold_asked := by kernel_rfl
theorem tfn_law_points : τ.tab.fn "_law_points" = some f_law_points := by kernel_rfl
theorem tfn_law_take : τ.tab.fn "_law_take" = some f_law_take := by kernel_rfl
theorem tfn_law_number : τ.tab.fn "_law_number" = some f_law_number := by kernel_rfl
theorem tfn_law_odd : τ.tab.fn "_law_odd" = some f_law_odd := by kernel_rfl
theorem tfn_law_odd_right : τ.tab.fn "_law_odd_right" = some f_law_odd_right := by kernel_rfl
theorem tfn_law_refused : τ.tab.fn "_law_refused" = some f_law_refused := by kernel_rfl
theorem tfn_law_asked : τ.tab.fn "_law_asked" = some f_law_asked := by kernel_rfl
theorem tfn_law_told : τ.tab.fn "_law_told" = some f_law_told := by kernel_rfl
theorem tfn_compared : τ.tab.fn "compared" = some f_compared := by kernel_rfl
theorem tfn_check_fractions : τ.tab.fn "check_fractions" = some f_check_fractions := by kernel_rfl
theorem tfn_is_fraction : τ.tab.fn "is_fraction" = some f_is_fraction := by kernel_rfl
theorem tfn_by : τ.tab.fn "by" = some f_by := by kernel_rfl
theorem tfn_times : τ.tab.fn "times" = some f_times := by kernel_rfl
theorem tfn_minus : τ.tab.fn "minus" = some f_minus := by kernel_rfl
theorem tfn_plus : τ.tab.fn "plus" = some f_plus := by kernel_rfl
theorem tfn_law_due : τ.tab.fn "_law_due" = some f_law_due := by kernel_rfl
theorem tfn_law_is_fraction : τ.tab.fn "_law_is_fraction" = some f_law_is_fraction := by kernel_rfl
theorem tfn_law_pair_right : τ.tab.fn "_law_pair_right" = some f_law_pair_right := by kernel_rfl
theorem tfn_law_fraction : τ.tab.fn "_law_fraction" = some f_law_fraction := by kernel_rfl
theorem tfn_law_cell : τ.tab.fn "_law_cell" = some f_law_cell := by kernel_rfl
theorem tfn_law_box : τ.tab.fn "_law_box" = some f_law_box := by kernel_rfl
theorem txf_InvalidFold : τ.tab.exf "InvalidFold" = some (["given"] : List PySem.Str) := by kernel_rfl
theorem txf_InvalidFraction : τ.tab.exf "InvalidFraction" = some (["given"] : List PySem.Str) := by kernel_rfl
theorem tsub_InvalidFold_InvalidFold : τ.tab.sub "InvalidFold" "InvalidFold" = some true := by kernel_rfl
theorem tsub_InvalidFold_InvalidFraction : τ.tab.sub "InvalidFold" "InvalidFraction" = some false := by kernel_rfl
theorem tsub_InvalidFraction_InvalidFold : τ.tab.sub "InvalidFraction" "InvalidFold" = some false := by kernel_rfl
theorem tsub_InvalidFraction_InvalidFraction : τ.tab.sub "InvalidFraction" "InvalidFraction" = some true := by kernel_rfl
theorem txa_given : τ.tab.xat "given" = true := by kernel_rfl
end Lw
end

section
namespace Lw
open Mi
section
variable {C : CallF} {h : MH}
theorem k_law_asked (x0 x1 x2 x3 : Mi.MV) : callM τ.tab C "_law_asked" [x0, x1, x2, x3] [] [] h = C f_law_asked [x0, x1, x2, x3] h := x_callM tfn_law_asked (by simp [argsOf, fnp_law_asked])
theorem k_law_box (x0 : Mi.MV) : callM τ.tab C "_law_box" [x0] [] [] h = C f_law_box [x0] h := x_callM tfn_law_box (by simp [argsOf, fnp_law_box])
theorem k_law_cell (x0 x1 : Mi.MV) : callM τ.tab C "_law_cell" [x0, x1] [] [] h = C f_law_cell [x0, x1] h := x_callM tfn_law_cell (by simp [argsOf, fnp_law_cell])
theorem k_law_due (x0 x1 x2 : Mi.MV) : callM τ.tab C "_law_due" [x0, x1, x2] [] [] h = C f_law_due [x0, x1, x2] h := x_callM tfn_law_due (by simp [argsOf, fnp_law_due])
theorem k_law_fold_asked (x0 x1 : Mi.MV) : callM τ.tab C "_law_fold_asked" [x0, x1] [] [] h = C f_law_fold_asked [x0, x1] h := x_callM tfn_law_fold_asked (by simp [argsOf, fnp_law_fold_asked])
theorem k_law_fraction (x0 : Mi.MV) : callM τ.tab C "_law_fraction" [x0] [] [] h = C f_law_fraction [x0] h := x_callM tfn_law_fraction (by simp [argsOf, fnp_law_fraction])
theorem k_law_is_fraction (x0 : Mi.MV) : callM τ.tab C "_law_is_fraction" [x0] [] [] h = C f_law_is_fraction [x0] h := x_callM tfn_law_is_fraction (by simp [argsOf, fnp_law_is_fraction])
theorem k_law_is_int (x0 : Mi.MV) : callM τ.tab C "_law_is_int" [x0] [] [] h = C f_law_is_int [x0] h := x_callM tfn_law_is_int (by simp [argsOf, fnp_law_is_int])
theorem k_law_lowest (x0 x1 : Mi.MV) : callM τ.tab C "_law_lowest" [x0, x1] [] [] h = C f_law_lowest [x0, x1] h := x_callM tfn_law_lowest (by simp [argsOf, fnp_law_lowest])
theorem k_law_made (x0 x1 x2 : Mi.MV) : callM τ.tab C "_law_made" [x0, x1, x2] [] [] h = C f_law_made [x0, x1, x2] h := x_callM tfn_law_made (by simp [argsOf, fnp_law_made])
theorem k_law_means_right (x0 : Mi.MV) : callM τ.tab C "_law_means_right" [x0] [] [] h = C f_law_means_right [x0] h := x_callM tfn_law_means_right (by simp [argsOf, fnp_law_means_right])
theorem k_law_number (x0 : Mi.MV) : callM τ.tab C "_law_number" [x0] [] [] h = C f_law_number [x0] h := x_callM tfn_law_number (by simp [argsOf, fnp_law_number])
theorem k_law_numbers_right (x0 x1 : Mi.MV) : callM τ.tab C "_law_numbers_right" [x0, x1] [] [] h = C f_law_numbers_right [x0, x1] h := x_callM tfn_law_numbers_right (by simp [argsOf, fnp_law_numbers_right])
theorem k_law_odd (x0 : Mi.MV) : callM τ.tab C "_law_odd" [x0] [] [] h = C f_law_odd [x0] h := x_callM tfn_law_odd (by simp [argsOf, fnp_law_odd])
theorem k_law_odd_right (x0 x1 x2 : Mi.MV) : callM τ.tab C "_law_odd_right" [x0, x1, x2] [] [] h = C f_law_odd_right [x0, x1, x2] h := x_callM tfn_law_odd_right (by simp [argsOf, fnp_law_odd_right])
theorem k_law_one_asked (x0 x1 : Mi.MV) : callM τ.tab C "_law_one_asked" [x0, x1] [] [] h = C f_law_one_asked [x0, x1] h := x_callM tfn_law_one_asked (by simp [argsOf, fnp_law_one_asked])
theorem k_law_pair_right (x0 x1 : Mi.MV) : callM τ.tab C "_law_pair_right" [x0, x1] [] [] h = C f_law_pair_right [x0, x1] h := x_callM tfn_law_pair_right (by simp [argsOf, fnp_law_pair_right])
theorem k_law_points (x0 : Mi.MV) : callM τ.tab C "_law_points" [x0] [] [] h = C f_law_points [x0] h := x_callM tfn_law_points (by simp [argsOf, fnp_law_points])
theorem k_law_refused (x0 x1 x2 x3 : Mi.MV) : callM τ.tab C "_law_refused" [x0, x1, x2, x3] [] [] h = C f_law_refused [x0, x1, x2, x3] h := x_callM tfn_law_refused (by simp [argsOf, fnp_law_refused])
theorem k_law_shared (x0 x1 : Mi.MV) : callM τ.tab C "_law_shared" [x0, x1] [] [] h = C f_law_shared [x0, x1] h := x_callM tfn_law_shared (by simp [argsOf, fnp_law_shared])
theorem k_law_take (x0 x1 : Mi.MV) : callM τ.tab C "_law_take" [x0, x1] [] [] h = C f_law_take [x0, x1] h := x_callM tfn_law_take (by simp [argsOf, fnp_law_take])
theorem k_law_told (x0 x1 x2 x3 : Mi.MV) : callM τ.tab C "_law_told" [x0, x1, x2, x3] [] [] h = C f_law_told [x0, x1, x2, x3] h := x_callM tfn_law_told (by simp [argsOf, fnp_law_told])
theorem k_by (x0 x1 : Mi.MV) : callM τ.tab C "by" [x0, x1] [] [] h = C f_by [x0, x1] h := x_callM tfn_by (by simp [argsOf, fnp_by])
theorem k_by_1 (y0 y1 : Mi.MV) : callM τ.tab C "by" [] [y0, y1] [1, 0] h = C f_by [y1, y0] h := x_callM tfn_by (by simp [argsOf, fnp_by])
theorem k_can_sum (x0 : Mi.MV) : callM τ.tab C "can_sum" [x0] [] [] h = C f_can_sum [x0] h := x_callM tfn_can_sum (by simp [argsOf, fnp_can_sum])
theorem k_check_fold (x0 : Mi.MV) : callM τ.tab C "check_fold" [x0] [] [] h = C f_check_fold [x0] h := x_callM tfn_check_fold (by simp [argsOf, fnp_check_fold])
theorem k_check_fractions (x0 x1 : Mi.MV) : callM τ.tab C "check_fractions" [x0, x1] [] [] h = C f_check_fractions [x0, x1] h := x_callM tfn_check_fractions (by simp [argsOf, fnp_check_fractions])
theorem k_compared (x0 x1 : Mi.MV) : callM τ.tab C "compared" [x0, x1] [] [] h = C f_compared [x0, x1] h := x_callM tfn_compared (by simp [argsOf, fnp_compared])
theorem k_compared_1 (y0 y1 : Mi.MV) : callM τ.tab C "compared" [] [y0, y1] [1, 0] h = C f_compared [y1, y0] h := x_callM tfn_compared (by simp [argsOf, fnp_compared])
theorem k_delta (x0 : Mi.MV) : callM τ.tab C "delta" [x0] [] [] h = C f_delta [x0] h := x_callM tfn_delta (by simp [argsOf, fnp_delta])
theorem k_delta_1 (y0 : Mi.MV) : callM τ.tab C "delta" [] [y0] [0] h = C f_delta [y0] h := x_callM tfn_delta (by simp [argsOf, fnp_delta])
theorem k_fraction (x0 x1 : Mi.MV) : callM τ.tab C "fraction" [x0, x1] [] [] h = C f_fraction [x0, x1] h := x_callM tfn_fraction (by simp [argsOf, fnp_fraction])
theorem k_fraction_1 (y0 y1 : Mi.MV) : callM τ.tab C "fraction" [] [y0, y1] [1, 0] h = C f_fraction [y1, y0] h := x_callM tfn_fraction (by simp [argsOf, fnp_fraction])
theorem k_has_parts (x0 : Mi.MV) : callM τ.tab C "has_parts" [x0] [] [] h = C f_has_parts [x0] h := x_callM tfn_has_parts (by simp [argsOf, fnp_has_parts])
theorem k_is_count (x0 : Mi.MV) : callM τ.tab C "is_count" [x0] [] [] h = C f_is_count [x0] h := x_callM tfn_is_count (by simp [argsOf, fnp_is_count])
theorem k_is_fold (x0 : Mi.MV) : callM τ.tab C "is_fold" [x0] [] [] h = C f_is_fold [x0] h := x_callM tfn_is_fold (by simp [argsOf, fnp_is_fold])
theorem k_is_fraction (x0 : Mi.MV) : callM τ.tab C "is_fraction" [x0] [] [] h = C f_is_fraction [x0] h := x_callM tfn_is_fraction (by simp [argsOf, fnp_is_fraction])
theorem k_is_fraction_1 (y0 : Mi.MV) : callM τ.tab C "is_fraction" [] [y0] [0] h = C f_is_fraction [y0] h := x_callM tfn_is_fraction (by simp [argsOf, fnp_is_fraction])
theorem k_is_integer (x0 : Mi.MV) : callM τ.tab C "is_integer" [x0] [] [] h = C f_is_integer [x0] h := x_callM tfn_is_integer (by simp [argsOf, fnp_is_integer])
theorem k_is_point (x0 : Mi.MV) : callM τ.tab C "is_point" [x0] [] [] h = C f_is_point [x0] h := x_callM tfn_is_point (by simp [argsOf, fnp_is_point])
theorem k_is_value (x0 : Mi.MV) : callM τ.tab C "is_value" [x0] [] [] h = C f_is_value [x0] h := x_callM tfn_is_value (by simp [argsOf, fnp_is_value])
theorem k_lacking (x0 : Mi.MV) : callM τ.tab C "lacking" [x0] [] [] h = C f_lacking [x0] h := x_callM tfn_lacking (by simp [argsOf, fnp_lacking])
theorem k_mean (x0 : Mi.MV) : callM τ.tab C "mean" [x0] [] [] h = C f_mean [x0] h := x_callM tfn_mean (by simp [argsOf, fnp_mean])
theorem k_mean_1 (y0 : Mi.MV) : callM τ.tab C "mean" [] [y0] [0] h = C f_mean [y0] h := x_callM tfn_mean (by simp [argsOf, fnp_mean])
theorem k_minus (x0 x1 : Mi.MV) : callM τ.tab C "minus" [x0, x1] [] [] h = C f_minus [x0, x1] h := x_callM tfn_minus (by simp [argsOf, fnp_minus])
theorem k_minus_1 (y0 y1 : Mi.MV) : callM τ.tab C "minus" [] [y0, y1] [1, 0] h = C f_minus [y1, y0] h := x_callM tfn_minus (by simp [argsOf, fnp_minus])
theorem k_plus (x0 x1 : Mi.MV) : callM τ.tab C "plus" [x0, x1] [] [] h = C f_plus [x0, x1] h := x_callM tfn_plus (by simp [argsOf, fnp_plus])
theorem k_plus_1 (y0 y1 : Mi.MV) : callM τ.tab C "plus" [] [y0, y1] [1, 0] h = C f_plus [y1, y0] h := x_callM tfn_plus (by simp [argsOf, fnp_plus])
theorem k_rate (x0 : Mi.MV) : callM τ.tab C "rate" [x0] [] [] h = C f_rate [x0] h := x_callM tfn_rate (by simp [argsOf, fnp_rate])
theorem k_rate_1 (y0 : Mi.MV) : callM τ.tab C "rate" [] [y0] [0] h = C f_rate [y0] h := x_callM tfn_rate (by simp [argsOf, fnp_rate])
theorem k_times (x0 x1 : Mi.MV) : callM τ.tab C "times" [x0, x1] [] [] h = C f_times [x0, x1] h := x_callM tfn_times (by simp [argsOf, fnp_times])
theorem k_times_1 (y0 y1 : Mi.MV) : callM τ.tab C "times" [] [y0, y1] [1, 0] h = C f_times [y1, y0] h := x_callM tfn_times (by simp [argsOf, fnp_times])
end
end Lw
end

section
namespace Lw
open Mi
open PySem (PyData)
abbrev rn (n : Nat) (fi : FnI) (vs : List Mi.MV) (h : MH) : Res Mi.MV := Mi.run τ.tab n fi vs h
theorem run1 (n : Nat) (fi : FnI) (vs : List Mi.MV) (h : MH) : Mi.run τ.tab (n+1) fi vs h = (if vs.length = fi.np then (match exB τ.tab (Mi.run τ.tab n) fi.body { sl := vs.map some ++ List.replicate (fi.ns - fi.np) none, ex := none } h with
    | .ok (.ret v) h' => .ok v h'
    | .ok (.next _) h' => .ok .non h'
    | .exc c n _ h' => .exc c n h'
    | _ => .stuck) else .stuck) := rfl
/-! ### draws -/
structure isB (h : MH) (b : Nat) (N : Int) : Prop where
  lt : b < h.next
  ex : ∃ (g : Int) (big : Bool) (m c : Int), h.get b = some (.lst [.int g, .bl big, .int m, .int c]) ∧ 0 ≤ m ∧ m < 2147483629 ∧ 0 ≤ c ∧ c ≤ N
/-- all but b stays -/
structure Kp (b : Nat) (h h' : MH) : Prop where
  nx : h.next ≤ h'.next
  st : ∀ m, m < h.next → m ≠ b → h'.get m = h.get m
theorem Kp.refl {b : Nat} {h : MH} : Kp b h h := ⟨Nat.le_refl _, fun _ _ _ => rfl⟩
theorem Kp.trans {b : Nat} {h h1 h2 : MH} (a : Kp b h h1) (c : Kp b h1 h2) : Kp b h h2 := ⟨Nat.le_trans a.nx c.nx, fun m l n => (c.st m (Nat.lt_of_lt_of_le l a.nx) n).trans (a.st m l n)⟩
theorem Kp.put {b : Nat} {h : MH} {o : MO} : Kp b h (h.put b o) := ⟨Nat.le_refl _, fun m _ n => MH.put_ne n⟩
theorem mg {b : Nat} {o : MO} {h : MH} : (h.put b o).next = h.next := rfl
theorem s24 {n b : Nat} {h : MH} {N many : Int} (B : isB h b N) (hN : N < 2 ^ 32) (h0 : 0 < many) (h1 : many < 2 ^ 60) : ∃ d h', rn (n+1) f_law_take [.ref b, .int many] h = .ok (.int d) h' ∧ 0 ≤ d ∧ d < many ∧ isB h' b (N + 1) ∧ Kp b h h' := by
  obtain ⟨hl, g, big, m, c, e, m0, m1, c0, c1⟩ := B
  have hlg : many.natAbs.log2 < 9000 := by
    have z2 : many.natAbs ≠ 0 := by omega
    have : many.natAbs.log2 < 60 := (Nat.log2_lt z2).mpr (by omega)
    omega
  by_cases hb : big = true ∧ 0 < g
  · obtain ⟨rfl, hg⟩ := hb
    refine ⟨g % many, h.put b (.lst [.int (g / many), .bl true, .int m, .int c]), ?_, Int.emod_nonneg _ (by omega), Int.emod_lt_of_pos _ h0, ⟨hl, _, _, _, _, MH.put_same, m0, m1, c0, by omega⟩, Kp.put⟩
    unfold rn
    (simp [run1, exB, exS, exH, evE, evEs, evT, evO, evI, mb, mp, mst, SR.of, opt, biM, isi1, isiAny, isCl, subTy, boolM, calmB, binM, cmpM, eqM, callM, argsOf, MEs.len, Env.set, PySem.sizeLine_eq, asgM, MT.hot, fnp_law_take, fns_law_take, fbo_law_take, body_law_take, subM, setSubM, asSeq, asList, e, Mi.idx, L2.ixN, hg, h0, hlg])
  · have q5 : (m + 15485863 * (c + 1) + 179424673).natAbs < 18446744073709551616 := by omega
    generalize hx : (m + 15485863 * (c + 1) + 179424673) ^ 5 % 2147483647 = x
    have x0 : 0 ≤ x := by rw [← hx]; exact Int.emod_nonneg _ (by decide)
    have x1 : x < 2147483647 := by rw [← hx]; exact Int.emod_lt_of_pos _ (by decide)
    have q3 : (x * 48271 + 104729 * (c + 1)).natAbs < 18446744073709551616 := by omega
    refine ⟨(x * 48271 + 104729 * (c + 1)) ^ 3 % 2147483587 / 64 % many, h.put b (.lst [.int g, .bl big, .int m, .int (c + 1)]), ?_, Int.emod_nonneg _ (by omega), Int.emod_lt_of_pos _ h0, ⟨hl, _, _, _, _, MH.put_same, m0, m1, by omega, by omega⟩, Kp.put⟩
    have l64 : Nat.log2 64 = 6 := by decide +kernel
    unfold rn
    cases big with
    | false => (simp [run1, exB, exS, exH, evE, evEs, evT, evO, evI, mb, mp, mst, SR.of, opt, biM, isi1, isiAny, isCl, subTy, boolM, calmB, binM, cmpM, eqM, callM, argsOf, MEs.len, Env.set, PySem.sizeLine_eq, asgM, MT.hot, fnp_law_take, fns_law_take, fbo_law_take, body_law_take, subM, setSubM, asSeq, asList, e, Mi.idx, L2.ixN, h0, hlg, q5, small, q3, hx, l64])
    | true =>
      have hg : ¬ 0 < g := fun z => hb ⟨rfl, z⟩
      (simp [run1, exB, exS, exH, evE, evEs, evT, evO, evI, mb, mp, mst, SR.of, opt, biM, isi1, isiAny, isCl, subTy, boolM, calmB, binM, cmpM, eqM, callM, argsOf, MEs.len, Env.set, PySem.sizeLine_eq, asgM, MT.hot, fnp_law_take, fns_law_take, fbo_law_take, body_law_take, subM, setSubM, asSeq, asList, e, Mi.idx, L2.ixN, h0, hlg, q5, small, q3, hx, l64, hg])
theorem cut1 (xs : List Mi.MV) : Mi.cut xs none (some 1) = xs.take 1 := by
  unfold Mi.cut HT.sIx
  cases xs <;> simp
theorem s2 {n : Nat} {h : MH} (g : Int) : ∃ h', rn (n+1) f_law_box [.int g] h = .ok (.ref h.next) h' ∧ isB h' h.next 0 ∧ h'.next = h.next + 1 ∧ ∀ m, m < h.next → h'.get m = h.get m := by
  refine ⟨h.new (.lst [.int (if g < 0 then -g else g), .bl (decide (10 ^ 18 ≤ (if g < 0 then -g else g))), .int ((if g < 0 then -g else g) % 2147483629), .int 0]), ?_, ⟨Nat.lt_succ_self _, _, _, _, _, MH.new_same, Int.emod_nonneg _ (by decide), Int.emod_lt_of_pos _ (by decide), by decide, by decide⟩, rfl, fun m hm => MH.new_ne (by omega)⟩
  unfold rn
  (simp [run1, exB, exS, exH, evE, evEs, evT, evO, evI, mb, mp, mst, SR.of, opt, biM, isi1, isiAny, isCl, subTy, boolM, calmB, binM, cmpM, eqM, callM, argsOf, MEs.len, Env.set, PySem.sizeLine_eq, asgM, MT.hot, fnp_law_box, fns_law_box, fbo_law_box, body_law_box, newL])
theorem Kp.frr {b : Nat} {h h' : MH} (K : Kp b h h') : Fr [b] h h' := ⟨K.nx, fun m l n => K.st m l (by simpa using n)⟩
theorem Fr.kp {b : Nat} {h h' : MH} (K : Fr [b] h h') : Kp b h h' := ⟨K.nx, fun m l n => K.st m l (by simpa using n)⟩
theorem take_sp {n b : Nat} {h : MH} {N many : Int} (B : isB h b N) (hN : N < 2 ^ 32) (h0 : 0 < many) (h1 : many < 2 ^ 60) : Sp (Mi.run τ.tab (n+1) f_law_take [.ref b, .int many] h) (fun v h' => ∃ d, v = .int d ∧ 0 ≤ d ∧ d < many ∧ isB h' b (N + 1) ∧ Fr [b] h h') := by
  obtain ⟨d, h', e, r1, r2, r3, r4⟩ := s24 (n := n) B hN h0 h1
  exact ⟨_, _, e, d, rfl, r1, r2, r3, r4.frr⟩
theorem c_take {T : Tab} {C : CallF} {h : MH} {x y : Mi.MV} (e : T.fn "_law_take" = some f_law_take) : callM T C "_law_take" [x, y] [] [] h = C f_law_take [x, y] h := x_callM e (by simp [argsOf, fnp_law_take])
theorem isB.new {h : MH} {b : Nat} {N : Int} {o : MO} (B : isB h b N) : isB (h.new o) b N := by
  obtain ⟨hl, g, big, m, c, e, r⟩ := B
  exact ⟨Nat.lt_succ_of_lt hl, g, big, m, c, by rw [MH.new_ne (by omega)]; exact e, r⟩
theorem isB.fr0 {b : Nat} {h h' : MH} {N : Int} (B : isB h b N) (F : Fr [] h h') : isB h' b N := by
  obtain ⟨hl, g, big, m, c, e, r⟩ := B
  exact ⟨Nat.lt_of_lt_of_le hl F.nx, g, big, m, c, (F.st b hl (by simp)).trans e, r⟩
theorem isB.up {h : MH} {b : Nat} {N M : Int} (B : isB h b N) (e : N ≤ M) : isB h b M := by
  obtain ⟨z1, g0, big, m0, c0, z2, z3⟩ := B
  exact ⟨z1, g0, big, m0, c0, z2, by omega⟩
theorem isB.put {h : MH} {b n : Nat} {N : Int} {o : MO} (e : b ≠ n) (B : isB h b N) : isB (h.put n o) b N := by
  obtain ⟨hl, g, big, m, c, e', r⟩ := B
  exact ⟨hl, g, big, m, c, by rw [MH.put_ne e]; exact e', r⟩
theorem b_lenf {h : MH} {l : Nat} {xs : List Mi.MV} (a : At h l (.frz xs)) : biM τ.tab .len [.ref l] h = .ok (.int xs.length) h := by
  show (match asSeq h (.ref l) with | some xs => Res.ok (Mi.MV.int xs.length) h | none => Res.stuck) = _
  unfold asSeq asList
  simp only [a.get]
theorem c_cell {C : CallF} {h : MH} (x y : Mi.MV) : callM τ.tab C "_law_cell" [x, y] [] [] h = C f_law_cell [x, y] h := x_callM tfn_law_cell (by simp [argsOf, fnp_law_cell])
theorem c_box {C : CallF} {h : MH} (x : Mi.MV) : callM τ.tab C "_law_box" [x] [] [] h = C f_law_box [x] h := x_callM tfn_law_box (by simp [argsOf, fnp_law_box])
theorem cell_sp {n : Nat} {ns : List Int} {h : MH} {s : Nat} {k : Nat} (hs : At h s (.frz (ns.map .int))) : Sp (Mi.run τ.tab (n+1) f_law_cell [.ref s, .int k] h) (fun v h' => ∃ i, v = .int i ∧ Fr [] h h') := by
  have al : asList h (.ref s) = some (ns.map Mi.MV.int) := by unfold asList; simp only [hs.get]
  refine Sp_for fun Q E hQ => ?_
  refine run_w { sl := [some (.ref s), some (.int k)], ex := none } body_law_cell rfl rfl rfl ?_
  unfold body_law_cell
  (try simp only [XN, Mi.Env.set, Nat.reduceAdd, Nat.reduceLeDiff, x_ct, x_cf, b_lenf hs])
  refine cnd_d (fun hk => ?_) (fun hk => ?_)
  · have hk2 : k < ns.length := by simpa using hk
    have es : subM (.ref s) (.int k) h = .ok (.int ns[k]) h := by
      refine sub_ix (xs := ns.map Mi.MV.int) al ?_
      rw [List.length_map, idx_ok (by omega) (by omega)]
      simp [hk2]
    (try simp only [XN, Mi.Env.set, Nat.reduceAdd, Nat.reduceLeDiff, x_ct, x_cf, es])
    exact hQ _ _ ⟨_, rfl, Fr.refl⟩
  · have esl : slcM (.ref s) none (some 1) h = .ok (.ref h.next) (h.new (.lst ((ns.map Mi.MV.int).take 1))) := by
      show (match asList h (.ref s) with | some xs => newL (Mi.cut xs none (some 1)) h | none => Res.stuck) = _
      rw [al]
      show newL (Mi.cut (ns.map .int) none (some 1)) h = _
      rw [cut1]
      exact x_newL (by simp; omega)
    have esum : biM τ.tab .sum [.ref h.next] (h.new (.lst ((ns.map Mi.MV.int).take 1))) = .ok (.int (ns.take 1).sum) (h.new (.lst ((ns.map Mi.MV.int).take 1))) := by
      show (match (asList (h.new (.lst ((ns.map Mi.MV.int).take 1))) (.ref h.next)).bind intsM with
        | some ns => Res.ok (Mi.MV.int ns.sum) _
        | none => .stuck) = _
      unfold asList
      simp only [MH.new_same, Option.bind_some]
      rw [← List.map_take, ints_map]
    (try simp only [XN, Mi.Env.set, Nat.reduceAdd, Nat.reduceLeDiff, x_ct, x_cf, show small 6007 by unfold small; omega, true_or, esl, esum, show (0 : Int) < 1000033 by decide])
    exact hQ _ _ ⟨_, rfl, Fr.new⟩
theorem box_sp {n : Nat} {h : MH} (g : Int) : Sp (Mi.run τ.tab (n+1) f_law_box [.int g] h) (fun v h' => v = .ref h.next ∧ isB h' h.next 0 ∧ Fr [] h h') := by
  obtain ⟨h', e, B, nx, st⟩ := s2 (n := n) (h := h) g
  exact ⟨_, _, e, rfl, B, ⟨by omega, fun m l _ => st m l⟩⟩
theorem scr_at (ns : List Int) : At (scr ns) 0 (.frz (ns.map .int)) := ⟨Nat.one_pos, rfl⟩
end Lw
end

section
namespace Lw
open Mi
open PySem (PyData)
section
variable {S : List Nat} {n : Nat} {h : MH} {v : Mi.MV} {d : PyData}
theorem e_int (a : V S h v d) : Mi.run τ.tab (n+1) f_is_integer [v] h = .ok (.bl (isId d)) h := by
  have e1 := isi_int (T := τ.tab) a
  have e2 := isi_bool (T := τ.tab) a
  refine eq_of_wr ?_
  refine run_w { sl := [some v], ex := none } body_is_integer rfl rfl rfl ?_
  unfold body_is_integer
  cases d <;> (try simp only [XN, Mi.Env.set, Nat.reduceAdd, Nat.reduceLeDiff, x_ct, x_cf, e1, e2, isNd, isBd, isId, Bool.not_true, Bool.not_false]) <;> first | exact ⟨rfl, rfl⟩ | simp
theorem e_value (a : V S h v d) : Mi.run τ.tab (n+2) f_is_value [v] h = .ok (.bl (isId d)) h := by
  refine eq_of_wr ?_
  refine run_w { sl := [some v], ex := none } body_is_value rfl rfl rfl ?_
  unfold body_is_value
  (try simp only [XN, Mi.Env.set, Nat.reduceAdd, Nat.reduceLeDiff, x_ct, x_cf, k_is_integer, e_int (n := n) a])
  first | exact ⟨rfl, rfl⟩ | simp
theorem e_count (a : V S h v d) : Mi.run τ.tab (n+2) f_is_count [v] h = .ok (.bl (dcnt d)) h := by
  have e1 := e_int (n := n) a
  refine eq_of_wr ?_
  refine run_w { sl := [some v], ex := none } body_is_count rfl rfl rfl ?_
  unfold body_is_count
  cases a <;> (try simp only [XN, Mi.Env.set, Nat.reduceAdd, Nat.reduceLeDiff, x_ct, x_cf, k_is_integer, e1, isId, dcnt]) <;> first | exact ⟨rfl, rfl⟩ | simp
theorem e_point (a : V S h v d) : Mi.run τ.tab (n+3) f_is_point [v] h = .ok (.bl (ptD d).isSome) h := by
  have e1 := isi_tuple (T := τ.tab) a
  refine eq_of_wr ?_
  refine run_w { sl := [some v], ex := none } body_is_point rfl rfl rfl ?_
  unfold body_is_point
  cases d with
  | tuple ds =>
    (try simp only [XN, Mi.Env.set, Nat.reduceAdd, Nat.reduceLeDiff, x_ct, x_cf, e1, isTd, a.lenq (ds := ds) rfl])
    refine cnd_d (fun hz => ?_) (fun hz => ?_)
    · obtain ⟨u, w, d1, d2, rfl, rfl, a1, a2⟩ := a.two (by omega)
      (try simp only [XN, Mi.Env.set, Nat.reduceAdd, Nat.reduceLeDiff, x_ct, x_cf, k_is_count, e_count (n := n) a1])
      cases hc : dcnt d1 with
      | true =>
        (try simp only [XN, Mi.Env.set, Nat.reduceAdd, Nat.reduceLeDiff, x_ct, x_cf, k_is_value, e_value (n := n) a2])
        first | exact ⟨by rw [pt_two, hc]; rfl, rfl⟩ | exact ⟨by rw [pt_two, hc]; rfl, trivial⟩
      | false =>
        (try simp only [XN, Mi.Env.set, Nat.reduceAdd, Nat.reduceLeDiff, x_ct, x_cf])
        first | exact ⟨by rw [pt_two, hc]; rfl, rfl⟩ | exact ⟨by rw [pt_two, hc]; rfl, trivial⟩
    · (try simp only [XN, Mi.Env.set, Nat.reduceAdd, Nat.reduceLeDiff, x_ct, x_cf])
      first | exact ⟨by rw [pt_not (by omega)]; rfl, rfl⟩ | exact ⟨by rw [pt_not (by omega)]; rfl, trivial⟩
  | _ => (try simp only [XN, Mi.Env.set, Nat.reduceAdd, Nat.reduceLeDiff, x_ct, x_cf, e1, isTd]); first | exact ⟨rfl, rfl⟩ | simp [ptD]
end
end Lw
end

section
namespace Lw
open Mi
open PySem (PyData)
theorem V.itb {S : List Nat} {h : MH} {v : Mi.MV} {d : PyData} {ds : List PyData} (a : V S h v d) (e : seqD d = some ds) : ∃ it xs, Vs S h xs ds ∧ ∀ h1, Fr S h h1 → itOf v h1 = .ok it h1 ∧ it.size h1 = xs.length ∧ ∀ i, it.at h1 i = some xs[i]? := by
  cases a with
  | @lst n xs _ l s g r =>
    cases e
    refine ⟨.lst n, xs, r, fun h1 F => ?_⟩
    have A : At h1 n (.lst xs) := (At.mk l g).fr F s
    exact ⟨it_lst A, sz_lst A, fun i => at_lst A⟩
  | @tup xs _ r =>
    cases e
    exact ⟨.tup xs, xs, r, fun h1 F => ⟨it_tup, sz_tup, fun i => rfl⟩⟩
  | _ => cases e
/-- a loop over data, by what holds -/
theorem for_q {P : Po} {S : List Nat} {hb h : MH} {me : Mi.Env} {it : Mi.It} {xs : List Mi.MV} {ds : List PyData} {step : Mi.MV → Mi.Env → MH → SR} (J : Nat → Mi.Env → MH → Prop) (r : Vs S hb xs ds) (hat : ∀ h1, Fr S hb h1 → ∀ i, it.at h1 i = some xs[i]?) (jf : ∀ i me1 h1, J i me1 h1 → Fr S hb h1) (j0 : J 0 me h)
    (st : ∀ i x d me1 h1, i < ds.length → ds[i]? = some d → V S hb x d → J i me1 h1 → Wt (P.wl (J (i + 1))) (step x me1 h1))
    (fin : ∀ me1 h1, J ds.length me1 h1 → P.nx me1 h1) : Wt P (forL step it xs.length 0 me h) := by
  refine forL_w (N := xs.length) (items := fun i => xs[i]?.getD .non) (I := J) ?_ ?_ ?_ ?_ xs.length 0 me h (by omega) j0
  · rintro i me1 h1 j hi
    rw [hat h1 (jf _ _ _ j)]
    simp [hi]
  · rintro me1 h1 j
    rw [hat h1 (jf _ _ _ j)]
    simp
  · rintro i me1 h1 hi j
    have hi2 : i < ds.length := r.len ▸ hi
    obtain ⟨x, y, e1, e2, w⟩ := Vs.at r hi2
    rw [e1]
    exact st i x y me1 h1 hi2 e2 w j
  · rintro me1 h1 j
    exact fin me1 h1 (r.len ▸ j)
section
variable {P : Po} {T : Tab} {C : CallF} {me : Mi.Env} {h : MH} {k : Nat}
theorem ss_at {xs ys : List Mi.MV} {w : Mi.MV} {i : Int} {j : Nat} (A : At h k (.lst xs)) (hi : i = (j : Int)) (hj : j < xs.length) (hy : xs.set j w = ys) : setSubM (.ref k) (.int i) w h = .ok () (h.put k (.lst ys)) := by
  subst hy hi
  show (match h.get k with
    | some (.lst xs) => match Mi.idx xs.length (j : Int) with
      | some j => Res.ok () (h.put k (.lst (xs.set j w)))
      | none => .stuck
    | _ => .stuck) = _
  rw [A.get]
  simp only
  rw [idx_ok (by omega) (by omega)]
  rfl
theorem sl_at {xs : List Mi.MV} {w : Mi.MV} {i : Int} {j : Nat} (A : At h k (.lst xs)) (hi : i = (j : Int)) (hj : j < xs.length) (hy : xs[j]? = some w) : subM (.ref k) (.int i) h = .ok w h := by
  subst hi
  refine sub_ix (asL A) ?_
  rw [idx_ok (by omega) (by omega)]
  simpa using hy
theorem ife_ok {c a b : ME} {q : Bool} {x y : Mi.MV} (hc : evT T C me c h = .ok q h) (ha : evE T C me a h = .ok x h) (hb : evE T C me b h = .ok y h) : evE T C me (.ife c a b) h = .ok (if q = true then x else y) h := by
  rw [q_ife, q_mb, hc, q_b1]
  cases q
  · exact hb
  · exact ha
theorem asgs_w {s : Nat} {e : ME} {xs ys : List Mi.MV} {w : Mi.MV} {i : Int} {j : Nat} (A : At h k (.lst xs)) (hv : me.sl[s]?.getD none = some (.ref k)) (ev : evE T C me e h = .ok w h) (hi : i = (j : Int)) (hj : j < xs.length) (hy : xs.set j w = ys) (H : ∀ h1, Fr [k] h h1 → At h1 k (.lst ys) → P.nx me h1) : Wt P (exS T C (.asg (.sub (.var s) (.int i)) e) me h) := by
  rw [z_asgsub, ev, y_ok, q_var, hv, q_opt, y_ok, q_int, y_ok, ss_at A hi hj hy, y_ok]
  exact H _ (Fr.put (by simp)) (At.put A.lt)
end
theorem if_mv {α : Type} {c : Prop} [Decidable c] (f : α → Mi.MV) (a b : α) : (if decide c = true then f a else f b) = f (if c then a else b) := by
  by_cases q : c <;> simp [q]
theorem isNon_r (k : Nat) : isNon (.ref k) = false := (rfl)
def pV (p : Int × Int) : Mi.MV := .tup [.int p.1, .int p.2]
def stV (a : St) : List Mi.MV := [.int a.n, .int a.s, .int a.lo, .int a.hi, pV a.f, pV a.l]
theorem stV_v {S : List Nat} {h : MH} (a : St) : V S h (.tup (stV a)) (stD a) := .tup (.cons (.int _) (.cons (.int _) (.cons (.int _) (.cons (.int _) (.cons (.tup (.cons (.int _) (.cons (.int _) .nil))) (.cons (.tup (.cons (.int _) (.cons (.int _) .nil))) .nil))))))
end Lw
end

section
namespace Lw
open Mi
open PySem (PyData)
theorem sw3 {T : Tab} {C : CallF} {me : Mi.Env} {h : MH} {a b c : Mi.MV} {i j k : Nat} (hx : me.ex = none) : asgM T C me (.tup [a, b, c]) (.sw [i, j, k]) h = .ok (((me.set k c).set j b).set i a) h := by
  simp [asgM, hx]; rfl
def rD (ps : List (Int × Int)) : PyData := .list (ps.map pD)
def tD (ps : List (Int × Int)) : PyData := .tuple (ps.map pD)
theorem row_v {S : List Nat} {h : MH} : ∀ ps : List (Int × Int), Vs S h (ps.map pV) (ps.map pD)
  | [] => .nil
  | p :: ps => .cons (.tup (.cons (.int _) (.cons (.int _) .nil))) (row_v ps)
/-- a row of points, their numbers small -/
structure gr (L : Nat) (ps : List (Int × Int)) : Prop where
  asc : ascB ps = true
  le : ps.length ≤ L
  t0 : ∀ p ∈ ps, 0 ≤ p.1
  t1 : ∀ p ∈ ps, p.1 < 10 ^ 13
  v1 : ∀ p ∈ ps, p.2.natAbs < 10 ^ 13
theorem pw_asc : ∀ ps : List (Int × Int), (ps.Pairwise fun p q => p.1 < q.1) → ascB ps = true
  | [], _ => rfl
  | [p], _ => rfl
  | p :: q :: r, e => by
    rw [List.pairwise_cons] at e
    unfold ascB
    rw [Bool.and_eq_true]
    exact ⟨by simpa using e.1 q (by simp), pw_asc (q :: r) e.2⟩
/-- ascending times -/
structure gt (ts : List Int) : Prop where
  pw : ts.Pairwise (· < ·)
  le : ts.length ≤ 8
  t0 : ∀ t ∈ ts, 0 ≤ t
  t1 : ∀ t ∈ ts, t < 10 ^ 13
theorem isB.fr {h : MH} {b : Nat} {N : Int} {h' : MH} {S : List Nat} (B : isB h b N) (F : Fr S h h') (hb : b ∉ S) : isB h' b N := by
  obtain ⟨hl, g, big, m, c, e, r⟩ := B
  exact ⟨Nat.lt_of_lt_of_le hl F.nx, g, big, m, c, (F.st b hl hb).trans e, r⟩
theorem pick_mem {h : MH} {l : Nat} {xs : List Mi.MV} {i : Int} {P : Mi.MV → Prop} (A : At h l (.lst xs)) (h0 : 0 ≤ i) (h1 : i < xs.length) (H : ∀ x ∈ xs, P x) : ∃ x, P x ∧ subM (.ref l) (.int i) h = .ok x h := by
  obtain ⟨x, e, s⟩ := sub_nat A h0 h1
  exact ⟨x, H x (List.mem_of_getElem? e), s⟩
theorem gr_of {ts : List Int} {ps : List (Int × Int)} (g : gt ts) (s : (ps.map (·.1)).Sublist ts) (hv : ∀ p ∈ ps, p.2.natAbs < 10 ^ 13) : gr 8 ps := by
  have hl : ps.length ≤ 8 := by
    have := s.length_le
    rw [List.length_map] at this
    have := g.le
    omega
  refine ⟨pw_asc ps ?_, hl, fun p hp => g.t0 _ (s.subset (List.mem_map_of_mem hp)), fun p hp => g.t1 _ (s.subset (List.mem_map_of_mem hp)), hv⟩
  have := g.pw.sublist s
  rwa [List.pairwise_map] at this
/-! ### data that is asked about -/
def el0 : PyData → Prop
  | .none => True
  | .bool _ => True
  | .int i => i.natAbs < 10 ^ 14
  | .str x => (∀ c ∈ x.cps.toList, c < 16 ^ 8) ∧ x.cps.size ≤ 40
  | _ => False
def el1 : PyData → Prop
  | .list ds => ds.length ≤ 3 ∧ ∀ x ∈ ds, el0 x
  | .tuple ds => ds.length ≤ 3 ∧ ∀ x ∈ ds, el0 x
  | d => el0 d
def okd (L : Nat) : PyData → Prop
  | .list ds => ds.length ≤ L ∧ ∀ x ∈ ds, el1 x
  | .tuple ds => ds.length ≤ L ∧ ∀ x ∈ ds, el1 x
  | .dict kvs => Sh (.dict kvs) 10 1
  | d => el0 d
theorem shs_all {w z : Nat} : ∀ ds : List PyData, (∀ x ∈ ds, Sh x w z) → Shs ds ((w + 1) * ds.length) z
  | [], _ => by simpa using shs_nil
  | d :: ds, H => by
    have a := H d (by simp)
    have b := shs_all ds fun x hx => H x (by simp [hx])
    refine (shs_cons a b).up ?_ (Nat.le_refl _)
    rw [List.length_cons, Nat.mul_add]
    omega
theorem el0_sh {d : PyData} (e : el0 d) : Sh d 100 0 := by
  cases d with
  | none => exact sh_non.up (by omega) (by omega)
  | bool b => exact (sh_bl b).up (by omega) (by omega)
  | int i => exact (sh_int (Nat.lt_trans e (by decide))).up (by omega) (by omega)
  | str x => exact (sh_str e.1 e.2).up (by omega) (by omega)
  | _ => exact False.elim e
theorem el1_sh {d : PyData} (e : el1 d) : Sh d 310 1 := by
  cases d with
  | list ds =>
    refine (sh_lst (shs_all ds fun x hx => el0_sh (e.2 x hx))).up ?_ (by omega)
    have : ds.length ≤ 3 := e.1
    omega
  | tuple ds =>
    refine (sh_tup (shs_all ds fun x hx => el0_sh (e.2 x hx))).up ?_ (by omega)
    have : ds.length ≤ 3 := e.1
    omega
  | none => exact (el0_sh (d := .none) e).up (by omega) (by omega)
  | bool b => exact (el0_sh (d := .bool b) e).up (by omega) (by omega)
  | int i => exact (el0_sh (d := .int i) e).up (by omega) (by omega)
  | str x => exact (el0_sh (d := .str x) e).up (by omega) (by omega)
  | dict kvs => exact False.elim e
theorem okd_sh {L : Nat} {d : PyData} (e : okd L d) : Sh d (311 * L + 100) 2 := by
  cases d with
  | list ds =>
    refine (sh_lst (shs_all ds fun x hx => el1_sh (e.2 x hx))).up ?_ (by omega)
    have : 311 * ds.length ≤ 311 * L := Nat.mul_le_mul_left _ e.1
    omega
  | tuple ds =>
    refine (sh_tup (shs_all ds fun x hx => el1_sh (e.2 x hx))).up ?_ (by omega)
    have : 311 * ds.length ≤ 311 * L := Nat.mul_le_mul_left _ e.1
    omega
  | dict kvs => exact Sh.up e (by omega) (by omega)
  | none => exact (el0_sh (d := .none) e).up (by omega) (by omega)
  | bool b => exact (el0_sh (d := .bool b) e).up (by omega) (by omega)
  | int i => exact (el0_sh (d := .int i) e).up (by omega) (by omega)
  | str x => exact (el0_sh (d := .str x) e).up (by omega) (by omega)
theorem fzs_all {w : Nat} : ∀ ds : List PyData, (∀ x ∈ ds, fz x ≤ w) → fzs ds ≤ w + ds.length
  | [], _ => by simp [fzs]
  | d :: ds, H => by
    have a := H d (by simp)
    have b := fzs_all ds fun x hx => H x (by simp [hx])
    simp only [fzs, List.length_cons]
    omega
theorem el0_fz {d : PyData} (e : el0 d) : fz d = 1 := by
  cases d <;> first | rfl | exact False.elim e
theorem el1_fz {d : PyData} (e : el1 d) : fz d ≤ 5 := by
  cases d with
  | list ds =>
    have := fzs_all (w := 1) ds fun x hx => by rw [el0_fz (e.2 x hx)]; exact Nat.le_refl _
    have : ds.length ≤ 3 := e.1
    simp only [fz]; omega
  | tuple ds =>
    have := fzs_all (w := 1) ds fun x hx => by rw [el0_fz (e.2 x hx)]; exact Nat.le_refl _
    have : ds.length ≤ 3 := e.1
    simp only [fz]; omega
  | none => simp [fz]
  | bool b => simp [fz]
  | int i => simp [fz]
  | str x => simp [fz]
  | dict kvs => exact False.elim e
theorem okd_fz {L : Nat} {d : PyData} (e : okd L d) : fz d ≤ L + 20 := by
  cases d with
  | list ds =>
    have := fzs_all (w := 5) ds fun x hx => el1_fz (e.2 x hx)
    have : ds.length ≤ L := e.1
    simp only [fz]; omega
  | tuple ds =>
    have := fzs_all (w := 5) ds fun x hx => el1_fz (e.2 x hx)
    have : ds.length ≤ L := e.1
    simp only [fz]; omega
  | none => simp [fz]
  | bool b => simp [fz]
  | int i => simp [fz]
  | str x => simp [fz]
  | dict kvs => have := Sh.fz e; omega
theorem el0_int {i : Int} (h : i.natAbs < 10 ^ 13) : el0 (.int i) := Nat.lt_trans h (by decide)
theorem pD_el {p : Int × Int} (h1 : p.1.natAbs < 10 ^ 13) (h2 : p.2.natAbs < 10 ^ 13) : el1 (pD p) := by
  refine ⟨by simp, fun x hx => ?_⟩
  simp only [List.mem_cons, List.not_mem_nil, or_false] at hx
  rcases hx with rfl | rfl
  · exact el0_int h1
  · exact el0_int h2
theorem gr.el {L : Nat} {ps : List (Int × Int)} (g : gr L ps) : ∀ x ∈ ps.map pD, el1 x := by
  intro x hx
  obtain ⟨p, hp, rfl⟩ := List.mem_map.mp hx
  have h0 := g.t0 p hp
  have h1 := g.t1 p hp
  exact pD_el (by omega) (g.v1 p hp)
theorem gr.okd {L : Nat} {ps : List (Int × Int)} (g : gr L ps) : okd L (rD ps) := ⟨by rw [List.length_map]; exact g.le, g.el⟩
theorem str_el {i : Int} (h : i.natAbs < 10 ^ 13) : el0 (.str (PySem.Str.ofString (toString i))) := ⟨small_int i, Nat.le_trans (len_int (Nat.lt_trans h (by decide))) (by decide)⟩
theorem b_str {T : Tab} {h : MH} {i : Int} (hi : i.natAbs < 10 ^ 13) : biM T .str1 [.int i] h = .ok (.str (PySem.Str.ofString (toString i))) h := by
  have : i.natAbs.log2 < 1920 := by
    by_cases z : i.natAbs = 0
    · rw [z]; decide
    · exact Nat.lt_trans ((Nat.log2_lt z).mpr (Nat.lt_trans hi (by decide : 10 ^ 13 < 2 ^ 50))) (by decide)
  show (if i.natAbs.log2 < 1920 then M.pure (Mi.MV.str (PySem.Str.ofString (toString i))) else M.stuck) h = _
  rw [if_pos this]; rfl
theorem ap_el {es fs : List PyData} (a : ∀ x ∈ es, el1 x) (b : ∀ x ∈ fs, el1 x) : ∀ x ∈ es ++ fs, el1 x := fun x hx => by
  rcases List.mem_append.mp hx with z | z
  · exact a x z
  · exact b x z
theorem cut_el {es : List PyData} {lo hi : Option Int} (a : ∀ x ∈ es, el1 x) : ∀ x ∈ cutA es lo hi, el1 x := fun x hx => a x (cutA_mem hx)
theorem one_el {d : PyData} (a : el1 d) : ∀ x ∈ [d], el1 x := fun x hx => by
  simp only [List.mem_cons, List.not_mem_nil, or_false] at hx
  subst hx
  exact a
def told (d : PyData) : PyData := .list [.str "told", d]
/-- lists of at most so many parts -/
def sq (z : Nat) (d : PyData) : Prop := ∀ es, seqD d = some es → es.length ≤ z
/-! ### rows as data -/
theorem ptsD_map : ∀ ps : List (Int × Int), (∀ p ∈ ps, 0 ≤ p.1) → ptsD (ps.map pD) = some ps
  | [], _ => rfl
  | p :: ps, H => by
    have h0 := H p (by simp)
    have ih := ptsD_map ps fun q hq => H q (by simp [hq])
    have e : ptD (pD p) = some p := by
      show (if 0 ≤ p.1 then some (p.1, p.2) else none) = _
      rw [if_pos h0]
    rw [List.map_cons]
    unfold ptsD
    rw [e, ih]
theorem rowD_of {ps : List (Int × Int)} {d : PyData} (e : seqD d = some (ps.map pD)) (h0 : ∀ p ∈ ps, 0 ≤ p.1) (ha : ascB ps = true) : rowD d = some ps := by
  unfold rowD
  rw [e, Option.bind_some, ptsD_map ps h0]
  simp only
  rw [if_pos ha]
theorem gr.rD {L : Nat} {ps : List (Int × Int)} (g : gr L ps) : rowD (rD ps) = some ps := rowD_of rfl g.t0 g.asc
theorem gr.tD {L : Nat} {ps : List (Int × Int)} (g : gr L ps) : rowD (tD ps) = some ps := rowD_of rfl g.t0 g.asc
theorem rowsL_map {f : List (Int × Int) → PyData} : ∀ rs : List (List (Int × Int)), (∀ r ∈ rs, rowD (f r) = some r) → rowsL (rs.map f) = some rs
  | [], _ => rfl
  | r :: rs, H => by
    have h0 := H r (by simp)
    have ih := rowsL_map rs fun q hq => H q (by simp [hq])
    rw [List.map_cons]
    unfold rowsL
    rw [h0, ih]
theorem rowsL_app : ∀ {as bs : List PyData} {ra rb : List (List (Int × Int))}, rowsL as = some ra → rowsL bs = some rb → rowsL (as ++ bs) = some (ra ++ rb)
  | [], _, _, _, e, e2 => by cases e; exact e2
  | d :: as, bs, ra, rb, e, e2 => by
    unfold rowsL at e
    cases h1 : rowD d with
    | none => rw [h1] at e; cases e
    | some r =>
      cases h2 : rowsL as with
      | none => rw [h1, h2] at e; cases e
      | some q =>
        rw [h1, h2] at e
        cases e
        rw [List.cons_append]
        unfold rowsL
        rw [h1, rowsL_app h2 e2]
        rfl
theorem rowsL_no {ds : List PyData} {d : PyData} (h : d ∈ ds) (e : rowD d = none) : rowsL ds = none := by
  have := rowsL_all ds
  cases q : rowsL ds with
  | none => rfl
  | some rs =>
    rw [q] at this
    have h2 := List.all_eq_true.mp this.symm d h
    rw [e] at h2
    cases h2
/-! ### bounds -/
theorem sum_le (B : Nat) : ∀ l : List Int, (∀ x ∈ l, x.natAbs ≤ B) → l.sum.natAbs ≤ B * l.length
  | [], _ => by simp
  | x :: l, H => by
    have h0 := H x (by simp)
    have ih := sum_le B l fun y hy => H y (by simp [hy])
    rw [List.sum_cons, List.length_cons, Nat.mul_add]
    omega
theorem fstW_mem : ∀ (l : List (Int × Int)) (f : Int × Int), fstW f l ∈ f :: l
  | [], f => by simp [fstW]
  | p :: l, f => by
    unfold fstW
    have := fstW_mem l (if p.1 < f.1 then p else f)
    split <;> simp_all
    · rcases this with q | q <;> simp [q]
theorem lstW_mem : ∀ (l : List (Int × Int)) (f : Int × Int), lstW f l ∈ f :: l
  | [], f => by simp [lstW]
  | p :: l, f => by
    unfold lstW
    have := lstW_mem l (if f.1 ≤ p.1 then p else f)
    split <;> simp_all
    · rcases this with q | q <;> simp [q]
def bp (ps : List (Int × Int)) : Prop := ∀ p ∈ ps, p.1.natAbs < 10 ^ 14 ∧ p.2.natAbs < 10 ^ 14
theorem i_sh {i : Int} (h : i.natAbs < 10 ^ 20) : Sh (.int i) 96 0 := sh_int (Nat.lt_trans h (by decide))
theorem p_sh {p : Int × Int} (h : p.1.natAbs < 10 ^ 14 ∧ p.2.natAbs < 10 ^ 14) : Sh (pD p) 194 1 := (sh_tup (shs_cons (i_sh (by omega)) (shs_cons (i_sh (by omega)) shs_nil))).up (by omega) (by omega)
theorem fold_sh {ps : List (Int × Int)} (hl : ps.length ≤ 1000) (hb : bp ps) : Sh (told (foldD ps)) 1000 3 ∧ fz (told (foldD ps)) ≤ 100 := by
  have s4 : Sh (.str "told") 10 0 := sh_sm (by decide +kernel)
  cases ps with
  | nil => exact ⟨(sh_lst (shs_cons (s4.up (Nat.le_refl _) (Nat.zero_le 0)) (shs_cons sh_non shs_nil))).up (by omega) (by omega), by decide⟩
  | cons p r =>
    have hv : ∀ x ∈ (p :: r).map (·.2), x.natAbs ≤ 10 ^ 14 := fun x hx => by
      obtain ⟨q, hq, rfl⟩ := List.mem_map.mp hx
      have := (hb q hq).2
      omega
    have h1 := sum_le (10 ^ 14) _ hv
    have h2 := minI_mem (r.map (·.2)) p.2
    have h3 := maxI_mem (r.map (·.2)) p.2
    rw [← List.map_cons (f := fun q : Int × Int => q.2)] at h2 h3
    have h2' := hv _ h2
    have h3' := hv _ h3
    have h4 := hb _ (fstW_mem r p)
    have h5 := hb _ (lstW_mem r p)
    have hm : 10 ^ 14 * ((p :: r).map (·.2)).length ≤ 10 ^ 14 * 1000 := Nat.mul_le_mul_left _ (by rw [List.length_map]; exact hl)
    have hlc := hl
    unfold foldD
    rw [foldO_cons]
    unfold told oD stD
    constructor
    · refine (sh_lst (shs_cons (s4.up (Nat.le_refl _) (Nat.zero_le 2)) (shs_cons (sh_tup (shs_cons ((i_sh ?_).up (Nat.le_refl _) (Nat.zero_le 1)) (shs_cons ((i_sh ?_).up (Nat.le_refl _) (Nat.zero_le 1)) (shs_cons ((i_sh ?_).up (Nat.le_refl _) (Nat.zero_le 1)) (shs_cons ((i_sh ?_).up (Nat.le_refl _) (Nat.zero_le 1)) (shs_cons (p_sh h4) (shs_cons (p_sh h5) shs_nil))))))) shs_nil))).up (by omega) (by omega)
      · simp only; omega
      · simp only; omega
      · simp only; omega
      · simp only; omega
    · simp only [fz, fzs, pD]; omega
theorem gr.bp {L : Nat} {ps : List (Int × Int)} (g : gr L ps) : bp ps := fun p hp => by
  have h0 := g.t0 p hp
  have h1 := g.t1 p hp
  have h2 := g.v1 p hp
  exact ⟨by omega, by omega⟩
theorem bp_fl {rs : List (List (Int × Int))} (H : ∀ r ∈ rs, bp r) : bp rs.flatten := fun p hp => by
  obtain ⟨r, hr, hp⟩ := List.mem_flatten.mp hp
  exact H r hr p hp
theorem el1_sq {d : PyData} (e : el1 d) : sq 1000000 d := fun es he => by
  cases d with
  | list ds => cases he; have : es.length ≤ 3 := e.1; omega
  | tuple ds => cases he; have : es.length ≤ 3 := e.1; omega
  | _ => cases he
theorem okd_sq {L : Nat} {d : PyData} (e : okd L d) (hL : L ≤ 1000000) : sq 1000000 d := fun es he => by
  cases d with
  | list ds => cases he; have : es.length ≤ L := e.1; omega
  | tuple ds => cases he; have : es.length ≤ L := e.1; omega
  | _ => cases he
theorem okd_ll {L : Nat} {d : PyData} (e : okd L d) (hL : L ≤ 1000000) : ∀ ds, d = .list ds → ds.length ≤ 1000000 := fun ds he => by
  subst he
  have : ds.length ≤ L := e.1
  omega
theorem okd_row {L : Nat} {d : PyData} {r : List (Int × Int)} (e : okd L d) (he : rowD d = some r) : r.length ≤ L ∧ bp r := by
  obtain ⟨h1, _⟩ := rowD_inv he
  have key : ∀ ds : List PyData, ds = r.map pD → ds.length ≤ L → (∀ x ∈ ds, el1 x) → r.length ≤ L ∧ bp r := by
    rintro ds rfl h2 h3
    rw [List.length_map] at h2
    refine ⟨h2, fun p hp => ?_⟩
    have := (h3 (pD p) (List.mem_map_of_mem hp)).2
    exact ⟨this (.int p.1) (by simp), this (.int p.2) (by simp)⟩
  cases d with
  | list ds => cases h1; exact key _ rfl e.1 e.2
  | tuple ds => cases h1; exact key _ rfl e.1 e.2
  | _ => cases h1
theorem okd_up {L M : Nat} {d : PyData} (e : okd L d) (h : L ≤ M) : okd M d := by
  cases d with
  | list ds => exact ⟨Nat.le_trans e.1 h, e.2⟩
  | tuple ds => exact ⟨Nat.le_trans e.1 h, e.2⟩
  | _ => exact e
theorem more_el : el0 (.str "more") := by
  have e : ((("more" : PySem.Str).cps.toList.all (fun c => decide (c < 16 ^ 8))) && decide (("more" : PySem.Str).cps.size ≤ 40)) = true := by decide +kernel
  simp only [Bool.and_eq_true, List.all_eq_true, decide_eq_true_eq] at e
  exact e
theorem okd_grown {L : Nat} {d : PyData} (e : okd L d) : okd (L + 1) (grown d) := by
  cases d with
  | list ds =>
    refine ⟨by rw [List.length_append]; exact Nat.add_le_add_right e.1 1, ap_el e.2 (one_el more_el)⟩
  | tuple ds => exact okd_up (d := .tuple ds) e (by omega)
  | _ => exact e
/-- a list of such data -/
theorem okl_sh {ds : List PyData} (hl : ds.length ≤ 8) (H : ∀ x ∈ ds, okd 21 x) : Sh (.list ds) 60000 3 ∧ fz (.list ds) ≤ 100 := by
  constructor
  · refine (sh_lst (shs_all ds fun x hx => okd_sh (H x hx))).up ?_ (by omega)
    have : (311 * 21 + 100 + 1) * ds.length ≤ (311 * 21 + 100 + 1) * 8 := Nat.mul_le_mul_left _ hl
    omega
  · have := fzs_all (w := 41) ds fun x hx => okd_fz (H x hx)
    simp only [fz]
    omega
theorem bl_sh {a b : Bool} : Sh (.list [.bool a, .bool b]) 10 1 := (sh_lst (shs_cons (sh_bl a) (shs_cons (sh_bl b) shs_nil))).up (by omega) (by omega)
theorem gr.up {L M : Nat} {ps : List (Int × Int)} (g : gr L ps) (h : L ≤ M) : gr M ps := ⟨g.asc, Nat.le_trans g.le h, g.t0, g.t1, g.v1⟩
theorem vs_pts {S : List Nat} {h : MH} : ∀ {xs : List Mi.MV} (ps : List (Int × Int)), Vs S h xs (ps.map pD) → xs = ps.map pV
  | _, [], .nil => rfl
  | _, p :: ps, .cons r t => by rw [List.map_cons, ← vs_pts ps t, r.pt]; rfl
theorem rD_at {S : List Nat} {h : MH} {x : Mi.MV} {ps : List (Int × Int)} (a : V S h x (rD ps)) : ∃ k, x = .ref k ∧ k ∉ S ∧ At h k (.lst (ps.map pV)) := by
  obtain ⟨k, xs, rfl, hk, A, r⟩ := a.at_
  rw [vs_pts ps r] at A
  exact ⟨k, rfl, hk, A⟩
theorem pts_lay : ∀ ps : List (Int × Int), PyData.canLayAll0 (ps.map pD) = true
  | [] => rfl
  | p :: ps => by simp only [List.map_cons, PyData.canLayAll0, PyData.canLay0, pD, pts_lay ps]; rfl
theorem pts_dp : ∀ ps : List (Int × Int), PyData.depthAll (ps.map pD) ≤ 1
  | [] => Nat.zero_le _
  | p :: ps => by
    have := pts_dp ps
    simp only [List.map_cons, PyData.depthAll, PyData.depth, pD]
    omega
theorem rows_lay : ∀ rs : List (List (Int × Int)), PyData.canLayAll0 (rs.map rD) = true
  | [] => rfl
  | r :: rs => by simp only [List.map_cons, PyData.canLayAll0, PyData.canLay0, rD, pts_lay r, rows_lay rs]; rfl
theorem rows_dp : ∀ rs : List (List (Int × Int)), PyData.depthAll (rs.map rD) ≤ 2
  | [] => Nat.zero_le _
  | r :: rs => by
    have h1 := rows_dp rs
    have h2 := pts_dp r
    simp only [List.map_cons, PyData.depthAll, PyData.depth, rD]
    omega
theorem rows_shaped (rs : List (List (Int × Int))) : PySem.SeqAt.shaped (.list (rs.map rD)) = true := by
  unfold PySem.SeqAt.shaped
  have := rows_dp rs
  simp only [PyData.canLay0, rows_lay rs, PyData.depth]
  simp; omega
theorem fl_le (k : Nat) : ∀ R : List (List (Int × Int)), (∀ r ∈ R, r.length ≤ k) → R.flatten.length ≤ k * R.length
  | [], _ => by simp
  | r :: R, H => by
    have h0 := H r (by simp)
    have ih := fl_le k R fun q hq => H q (by simp [hq])
    rw [List.flatten_cons, List.length_append, List.length_cons, Nat.mul_add]
    omega
end Lw
end

section
namespace Lw
open Mi
open PySem (PyData)
/-! ### what is a fold -/
def lack (a : St) : List Int := (sds [a.lo, a.hi]).filter fun x => !decide (x ∈ [a.f.2, a.l.2])
def canS (a : St) : Bool :=
  !(decide ((if a.l.2 < a.f.2 then a.l.2 else a.f.2) < a.lo) || decide (a.hi < (if a.l.2 > a.f.2 then a.l.2 else a.f.2))) &&
  (if a.n = 1 then decide (a.f = a.l) && (decide (a.s = a.lo) && (decide (a.lo = a.hi) && decide (a.hi = a.f.2)))
  else decide (0 ≤ a.n - 2 - (lack a).length) && (decide ((a.n - 2 - (lack a).length) * a.lo ≤ a.s - a.f.2 - a.l.2 - (lack a).sum) && decide (a.s - a.f.2 - a.l.2 - (lack a).sum ≤ (a.n - 2 - (lack a).length) * a.hi)))
def foldDo : PyData → Option (Option St)
  | .none => some none
  | .tuple [.int n, .int s, .int lo, .int hi, p, q] => match ptD p, ptD q with
    | some f, some l => if 1 ≤ n then some (some ⟨n, s, lo, hi, f, l⟩) else none
    | _, _ => none
  | _ => none
def isFd (d : PyData) : Bool := match foldDo d with
  | some none => true
  | some (some a) => decide (a.f.1 ≤ a.l.1) && canS a
  | none => false
structure Fo (ps : List (Int × Int)) (a : St) : Prop where
  n : a.n = ps.length
  s : a.s = (ps.map (·.2)).sum
  lo : a.lo ∈ ps.map (·.2)
  lo' : ∀ p ∈ ps, a.lo ≤ p.2
  hi : a.hi ∈ ps.map (·.2)
  hi' : ∀ p ∈ ps, p.2 ≤ a.hi
  fl : a.f.1 ≤ a.l.1
  fm : ∀ p ∈ ps, a.f.1 ≤ p.1
  lm : ∀ p ∈ ps, p.1 ≤ a.l.1
  dec : (ps = [a.f] ∧ a.f = a.l) ∨ ∃ o, ps.Perm (a.f :: a.l :: o)
theorem fo0 (p : Int × Int) : Fo [p] (st0 p) := by
  refine ⟨rfl, by simp [st0], by simp [st0], by simp [st0], by simp [st0], by simp [st0], Int.le_refl _, by simp [st0], by simp [st0], .inl ⟨rfl, rfl⟩⟩
theorem Fo.fmem {ps : List (Int × Int)} {a : St} (h : Fo ps a) : a.f ∈ ps ∧ a.l ∈ ps := by
  rcases h.dec with ⟨e, e2⟩ | ⟨o, e⟩
  · rw [← e2, e]; simp
  · exact ⟨e.mem_iff.mpr (by simp), e.mem_iff.mpr (by simp)⟩
theorem fo1 {ps : List (Int × Int)} {a : St} (h : Fo ps a) (p : Int × Int) : Fo (ps ++ [p]) (st1 a p) := by
  have hfl := h.fl
  refine ⟨by simp [st1, h.n], by simp [st1, h.s], ?_, fun q hq => ?_, ?_, fun q hq => ?_, ?_, fun q hq => ?_, fun q hq => ?_, ?_⟩
  · have := h.lo
    simp only [st1]
    split
    · simp
    · rw [List.map_append]; exact List.mem_append_left _ this
  · simp only [st1]
    rcases List.mem_append.mp hq with z | z
    · have := h.lo' q z; split <;> omega
    · simp at z; subst z; split <;> omega
  · have := h.hi
    simp only [st1]
    split
    · simp
    · rw [List.map_append]; exact List.mem_append_left _ this
  · simp only [st1]
    rcases List.mem_append.mp hq with z | z
    · have := h.hi' q z; split <;> omega
    · simp at z; subst z; split <;> omega
  · simp only [st1]
    split <;> split <;> omega
  · simp only [st1]
    rcases List.mem_append.mp hq with z | z
    · have := h.fm q z; split <;> omega
    · simp at z; subst z; split <;> omega
  · simp only [st1]
    rcases List.mem_append.mp hq with z | z
    · have := h.lm q z; split <;> omega
    · simp at z; subst z; split <;> omega
  · right
    have pr : (ps ++ [p]).Perm (p :: ps) := by simpa using (List.perm_append_comm (l₁ := ps) (l₂ := [p]))
    rcases h.dec with ⟨e, e2⟩ | ⟨o, e⟩
    · refine ⟨[], ?_⟩
      rw [e] at pr ⊢
      simp only [st1, ← e2]
      by_cases q : p.1 < a.f.1
      · have q2 : ¬ a.f.1 ≤ p.1 := by omega
        rw [if_pos q, if_neg q2]
        exact pr
      · have q2 : a.f.1 ≤ p.1 := by omega
        rw [if_neg q, if_pos q2]
        simp
    · simp only [st1]
      by_cases q : p.1 < a.f.1
      · have q2 : ¬ a.l.1 ≤ p.1 := by omega
        rw [if_pos q, if_neg q2]
        exact ⟨a.f :: o, (pr.trans (e.cons p)).trans ((List.Perm.swap a.l a.f o).cons p)⟩
      · rw [if_neg q]
        by_cases q2 : a.l.1 ≤ p.1
        · rw [if_pos q2]
          refine ⟨a.l :: o, (pr.trans (e.cons p)).trans ?_⟩
          exact List.Perm.swap a.f p (a.l :: o)
        · rw [if_neg q2]
          refine ⟨p :: o, (pr.trans (e.cons p)).trans ?_⟩
          exact (List.Perm.swap a.f p (a.l :: o)).trans ((List.Perm.swap a.l p o).cons a.f)
theorem fo_foldl : ∀ (r ps : List (Int × Int)) (a : St), Fo ps a → Fo (ps ++ r) (r.foldl st1 a)
  | [], ps, a, h => by simpa using h
  | p :: r, ps, a, h => by
    have := fo_foldl r (ps ++ [p]) (st1 a p) (fo1 h p)
    simpa using this
theorem foldl_stp : ∀ (r : List (Int × Int)) (a : St), r.foldl stp (some a) = some (r.foldl st1 a)
  | [], _ => rfl
  | p :: r, a => by rw [List.foldl_cons, List.foldl_cons]; exact foldl_stp r (st1 a p)
theorem fo_of {ps : List (Int × Int)} {a : St} (e : foldO ps = some a) : Fo ps a := by
  cases ps with
  | nil => cases e
  | cons p r =>
    unfold foldO at e
    rw [List.foldl_cons] at e
    have e' : some (r.foldl st1 (st0 p)) = some a := (foldl_stp r (st0 p)).symm.trans e
    cases e'
    exact fo_foldl r [p] (st0 p) (fo0 p)
theorem foldO_none {ps : List (Int × Int)} (e : foldO ps = none) : ps = [] := by
  cases ps with
  | nil => rfl
  | cons p r => rw [foldO_cons] at e; cases e
theorem perm_sub : ∀ {K W : List Int}, K.Nodup → (∀ x ∈ K, x ∈ W) → ∃ W', W.Perm (K ++ W')
  | [], W, _, _ => ⟨W, .refl _⟩
  | k :: K, W, hn, hs => by
    rw [List.nodup_cons] at hn
    have hk : k ∈ W := hs k List.mem_cons_self
    obtain ⟨W', h⟩ := perm_sub (K := K) (W := W.erase k) hn.2 fun x hx => (List.mem_erase_of_ne (fun z => hn.1 (by rw [← z]; exact hx))).mpr (hs x (List.mem_cons_of_mem _ hx))
    exact ⟨W', (List.perm_cons_erase hk).trans (h.cons k)⟩
theorem sum_bd {lo hi : Int} : ∀ W : List Int, (∀ x ∈ W, lo ≤ x ∧ x ≤ hi) → (W.length : Int) * lo ≤ W.sum ∧ W.sum ≤ (W.length : Int) * hi
  | [], _ => by simp
  | x :: W, H => by
    have h0 := H x List.mem_cons_self
    have ih := sum_bd W fun y hy => H y (List.mem_cons_of_mem _ hy)
    rw [List.sum_cons, List.length_cons]
    have e1 : ((W.length + 1 : Nat) : Int) * lo = (W.length : Int) * lo + lo := by rw [Int.natCast_add, Int.add_mul]; simp
    have e2 : ((W.length + 1 : Nat) : Int) * hi = (W.length : Int) * hi + hi := by rw [Int.natCast_add, Int.add_mul]; simp
    omega
theorem perm_sum {l l' : List Int} (h : l.Perm l') : l.sum = l'.sum := by
  induction h with
  | nil => rfl
  | cons x _ ih => rw [List.sum_cons, List.sum_cons, ih]
  | swap x y l => simp only [List.sum_cons]; omega
  | trans _ _ a b => exact a.trans b
theorem lack_nodup (a : St) : (lack a).Nodup := (lt_nodup (sds_pw _)).filter _
theorem lack_mem {a : St} {x : Int} : x ∈ lack a ↔ (x = a.lo ∨ x = a.hi) ∧ x ≠ a.f.2 ∧ x ≠ a.l.2 := by
  unfold lack
  rw [List.mem_filter, sds_mem]
  simp
theorem Fo.can {ps : List (Int × Int)} {a : St} (h : Fo ps a) : canS a = true := by
  obtain ⟨m1, m2⟩ := h.fmem
  have a1 := h.lo' _ m1
  have a2 := h.lo' _ m2
  have b1 := h.hi' _ m1
  have b2 := h.hi' _ m2
  have c1 : ¬ (if a.l.2 < a.f.2 then a.l.2 else a.f.2) < a.lo := by split <;> omega
  have c2 : ¬ a.hi < (if a.l.2 > a.f.2 then a.l.2 else a.f.2) := by split <;> omega
  unfold canS
  simp only [c1, c2, decide_false, Bool.or_false, Bool.not_false, Bool.true_and]
  by_cases h1 : a.n = 1
  · rw [if_pos h1]
    rcases h.dec with ⟨e, e2⟩ | ⟨o, e⟩
    · have hs := h.s
      have hlo := h.lo
      have hhi := h.hi
      rw [e] at hs hlo hhi
      simp at hs hlo hhi
      simp [e2.symm, hs, hlo, hhi]
    · have := e.length_eq
      have hn := h.n
      rw [this] at hn
      simp at hn
      omega
  · rw [if_neg h1]
    rcases h.dec with ⟨e, e2⟩ | ⟨o, e⟩
    · have hn := h.n
      rw [e] at hn
      simp at hn
      omega
    · have hn := h.n
      have hs := h.s
      rw [e.length_eq] at hn
      rw [perm_sum (e.map _)] at hs
      simp only [List.map_cons, List.sum_cons, List.length_cons] at hs hn
      have inW : ∀ x, x ∈ ps.map (·.2) → x ≠ a.f.2 → x ≠ a.l.2 → x ∈ o.map (·.2) := fun x hx n1 n2 => by
        have := ((e.map (·.2)).mem_iff (a := x)).mp hx
        simp only [List.map_cons, List.mem_cons] at this
        rcases this with q | q | q
        · exact absurd q n1
        · exact absurd q n2
        · exact q
      obtain ⟨W', hp⟩ := perm_sub (K := lack a) (W := o.map (·.2)) (lack_nodup a) fun x hx => by
        obtain ⟨q, n1, n2⟩ := lack_mem.mp hx
        rcases q with rfl | rfl
        · exact inW _ h.lo n1 n2
        · exact inW _ h.hi n1 n2
      have hl := hp.length_eq
      have hsum := perm_sum hp
      rw [List.length_map, List.length_append] at hl
      rw [List.sum_append] at hsum
      have hb := sum_bd (lo := a.lo) (hi := a.hi) W' fun x hx => by
        have : x ∈ o.map (·.2) := hp.mem_iff.mpr (List.mem_append_right _ hx)
        obtain ⟨p, hp2, rfl⟩ := List.mem_map.mp this
        have hm : p ∈ ps := e.mem_iff.mpr (by simp [hp2])
        exact ⟨h.lo' _ hm, h.hi' _ hm⟩
      have e1 : a.n - 2 - ((lack a).length : Int) = (W'.length : Int) := by omega
      have e2 : a.s - a.f.2 - a.l.2 - (lack a).sum = W'.sum := by omega
      rw [e1, e2]
      have : (0 : Int) ≤ W'.length := by omega
      simp [this, hb.1, hb.2]
theorem ptD_pD {p : Int × Int} (h : 0 ≤ p.1) : ptD (pD p) = some p := by
  show (if 0 ≤ p.1 then some (p.1, p.2) else none) = _
  rw [if_pos h]
theorem Fo.do {ps : List (Int × Int)} {a : St} (h : Fo ps a) (h0 : ∀ p ∈ ps, 0 ≤ p.1) : foldDo (stD a) = some (some a) := by
  obtain ⟨m1, m2⟩ := h.fmem
  have hn := h.n
  have : 0 < ps.length := List.length_pos_of_mem m1
  show (match ptD (pD a.f), ptD (pD a.l) with
    | some f, some l => if 1 ≤ a.n then some (some (⟨a.n, a.s, a.lo, a.hi, f, l⟩ : St)) else none
    | _, _ => none) = _
  rw [ptD_pD (h0 _ m1), ptD_pD (h0 _ m2)]
  simp only
  rw [if_pos (by omega)]
theorem foldO_isF (ps : List (Int × Int)) (h0 : ∀ p ∈ ps, 0 ≤ p.1) : isFd (foldD ps) = true ∧ foldDo (foldD ps) = some (foldO ps) := by
  unfold foldD
  cases e : foldO ps with
  | none => exact ⟨rfl, rfl⟩
  | some a =>
    have h := fo_of e
    have := h.do h0
    refine ⟨?_, this⟩
    show isFd (stD a) = true
    unfold isFd
    rw [this]
    simp [h.fl, h.can]
/-! ### two folds -/
def bes (a b : St) : St := ⟨a.n + b.n, a.s + b.s, if b.lo < a.lo then b.lo else a.lo, if b.hi > a.hi then b.hi else a.hi, if b.f.1 < a.f.1 then b.f else a.f, if a.l.1 > b.l.1 then a.l else b.l⟩
def besO : Option St → Option St → Option St
  | none, y => y
  | some a, none => some a
  | some a, some b => some (bes a b)
theorem st_eq {a b : St} (h1 : a.n = b.n) (h2 : a.s = b.s) (h3 : a.lo = b.lo) (h4 : a.hi = b.hi) (h5 : a.f = b.f) (h6 : a.l = b.l) : a = b := by
  cases a; cases b; simp_all
theorem bes0 (a : St) (p : Int × Int) : st1 a p = bes a (st0 p) := by
  refine st_eq rfl rfl rfl rfl rfl ?_
  show (if a.l.1 ≤ p.1 then p else a.l) = if a.l.1 > p.1 then a.l else p
  by_cases q : a.l.1 ≤ p.1
  · rw [if_pos q, if_neg (by omega)]
  · rw [if_neg q, if_pos (by omega)]
theorem bes1 (a b : St) (p : Int × Int) : st1 (bes a b) p = bes a (st1 b p) := by
  refine st_eq ?_ ?_ ?_ ?_ ?_ ?_
  · show a.n + b.n + 1 = a.n + (b.n + 1); omega
  · show a.s + b.s + p.2 = a.s + (b.s + p.2); omega
  · simp only [bes, st1]
    (repeat' split) <;> omega
  · simp only [bes, st1]
    (repeat' split) <;> omega
  · simp only [bes, st1]
    by_cases q1 : b.f.1 < a.f.1 <;> by_cases q2 : p.1 < b.f.1 <;> by_cases q3 : p.1 < a.f.1 <;> simp [q1, q2, q3] <;> omega
  · simp only [bes, st1]
    by_cases q1 : a.l.1 > b.l.1 <;> by_cases q2 : b.l.1 ≤ p.1 <;> by_cases q3 : a.l.1 ≤ p.1 <;> simp [q1, q2, q3] <;> omega
theorem bes_foldl (a : St) : ∀ (r : List (Int × Int)) (b : St), r.foldl st1 (bes a b) = bes a (r.foldl st1 b)
  | [], _ => rfl
  | p :: r, b => by rw [List.foldl_cons, List.foldl_cons, bes1, bes_foldl a r]
theorem foldO_app (ps qs : List (Int × Int)) : foldO (ps ++ qs) = besO (foldO ps) (foldO qs) := by
  have e : foldO (ps ++ qs) = qs.foldl stp (foldO ps) := by unfold foldO; rw [List.foldl_append]
  rw [e]
  cases hp : foldO ps with
  | none => cases h : foldO qs <;> exact h
  | some a =>
    cases qs with
    | nil => rfl
    | cons q r =>
      have e2 : foldO (q :: r) = some (r.foldl st1 (st0 q)) := foldl_stp r (st0 q)
      rw [e2, List.foldl_cons]
      show r.foldl stp (some (st1 a q)) = _
      rw [foldl_stp, bes0, bes_foldl]
      rfl
end Lw
end

section
namespace Lw
open Mi
open PySem (PyData)
/-! ### the fold does not ask for the order of the rows' points -/
def bf (b x : Tr) : Prop := b.1 = x.1 → b.2.1 < x.2.1
def Fst (c : Tr) (L : List Tr) : Prop := c ∈ L ∧ ∀ x ∈ L, x = c ∨ c.1 < x.1 ∨ (c.1 = x.1 ∧ c.2.1 < x.2.1)
def Lst (c : Tr) (L : List Tr) : Prop := c ∈ L ∧ ∀ x ∈ L, x = c ∨ x.1 < c.1 ∨ (x.1 = c.1 ∧ x.2.1 < c.2.1)
theorem fst_walk : ∀ (L : List Tr) (b : Tr), (∀ x ∈ L, bf b x) → L.Pairwise bf → ∃ c, Fst c (b :: L) ∧ tp2 c = fstW (tp2 b) (L.map tp2)
  | [], b, _, _ => ⟨b, ⟨by simp, by simp⟩, rfl⟩
  | x :: L, b, h, hp => by
    rw [List.pairwise_cons] at hp
    have hx := h x List.mem_cons_self
    rw [List.map_cons]
    unfold fstW
    by_cases q : x.1 < b.1
    · obtain ⟨c, ⟨c1, c2⟩, e⟩ := fst_walk L x hp.1 hp.2
      refine ⟨c, ⟨List.mem_cons_of_mem _ c1, fun y hy => ?_⟩, by rw [e]; simp [tp2, q]⟩
      rcases List.mem_cons.mp hy with rfl | hy
      · rcases c2 x List.mem_cons_self with rfl | z | z
        · exact .inr (.inl q)
        · exact .inr (.inl (Int.lt_trans z q))
        · exact .inr (.inl (by omega))
      · exact c2 y hy
    · obtain ⟨c, ⟨c1, c2⟩, e⟩ := fst_walk L b (fun y hy => h y (List.mem_cons_of_mem _ hy)) hp.2
      refine ⟨c, ⟨?_, fun y hy => ?_⟩, by rw [e]; simp [tp2, q]⟩
      · rcases List.mem_cons.mp c1 with rfl | c1
        · simp
        · simp [c1]
      · rcases List.mem_cons.mp hy with rfl | hy
        · exact c2 _ List.mem_cons_self
        · rcases List.mem_cons.mp hy with rfl | hy
          · rcases c2 b List.mem_cons_self with rfl | z | z
            · by_cases q2 : b.1 = y.1
              · exact .inr (.inr ⟨q2, hx q2⟩)
              · exact .inr (.inl (by omega))
            · exact .inr (.inl (by omega))
            · by_cases q2 : b.1 = y.1
              · exact .inr (.inr ⟨by omega, by have := hx q2; omega⟩)
              · exact .inr (.inl (by omega))
          · exact c2 _ (List.mem_cons_of_mem _ hy)
theorem lst_walk : ∀ (L : List Tr) (b : Tr), (∀ x ∈ L, bf b x) → L.Pairwise bf → ∃ c, Lst c (b :: L) ∧ tp2 c = lstW (tp2 b) (L.map tp2)
  | [], b, _, _ => ⟨b, ⟨by simp, by simp⟩, rfl⟩
  | x :: L, b, h, hp => by
    rw [List.pairwise_cons] at hp
    have hx := h x List.mem_cons_self
    rw [List.map_cons]
    unfold lstW
    by_cases q : b.1 ≤ x.1
    · obtain ⟨c, ⟨c1, c2⟩, e⟩ := lst_walk L x hp.1 hp.2
      refine ⟨c, ⟨List.mem_cons_of_mem _ c1, fun y hy => ?_⟩, by rw [e]; simp [tp2, q]⟩
      rcases List.mem_cons.mp hy with rfl | hy
      · have hxy : y.1 < x.1 ∨ (y.1 = x.1 ∧ y.2.1 < x.2.1) := by
          by_cases q2 : y.1 = x.1
          · exact .inr ⟨q2, hx q2⟩
          · exact .inl (by omega)
        rcases c2 x List.mem_cons_self with rfl | z | z
        · exact .inr hxy
        · exact .inr (.inl (by omega))
        · rcases hxy with w | w
          · exact .inr (.inl (by omega))
          · exact .inr (.inr ⟨by omega, by omega⟩)
      · exact c2 y hy
    · obtain ⟨c, ⟨c1, c2⟩, e⟩ := lst_walk L b (fun y hy => h y (List.mem_cons_of_mem _ hy)) hp.2
      refine ⟨c, ⟨?_, fun y hy => ?_⟩, by rw [e]; simp [tp2, q]⟩
      · rcases List.mem_cons.mp c1 with rfl | c1
        · simp
        · simp [c1]
      · rcases List.mem_cons.mp hy with rfl | hy
        · exact c2 _ List.mem_cons_self
        · rcases List.mem_cons.mp hy with rfl | hy
          · rcases c2 b List.mem_cons_self with rfl | z | z
            · exact .inr (.inl (by omega))
            · exact .inr (.inl (by omega))
            · exact .inr (.inl (by omega))
          · exact c2 _ (List.mem_cons_of_mem _ hy)
theorem fst_one {c c' : Tr} {L L' : List Tr} (h : Fst c L) (h' : Fst c' L') (m : ∀ x, x ∈ L ↔ x ∈ L') : c = c' := by
  rcases h.2 c' ((m c').mpr h'.1) with q | q | q
  · exact q.symm
  all_goals
    rcases h'.2 c ((m c).mp h.1) with w | w | w
    · exact w
    all_goals omega
theorem lst_one {c c' : Tr} {L L' : List Tr} (h : Lst c L) (h' : Lst c' L') (m : ∀ x, x ∈ L ↔ x ∈ L') : c = c' := by
  rcases h.2 c' ((m c').mpr h'.1) with q | q | q
  · exact q.symm
  all_goals
    rcases h'.2 c ((m c).mp h.1) with w | w | w
    · exact w
    all_goals omega
theorem foldO_perm {L L' : List Tr} (hp : L.Perm L') (h : L.Pairwise bf) (h' : L'.Pairwise bf) : foldO (L.map tp2) = foldO (L'.map tp2) := by
  cases L with
  | nil => rw [List.nil_perm.mp hp]
  | cons q r =>
    cases L' with
    | nil => exact absurd hp.length_eq (by simp)
    | cons q' r' =>
      rw [List.pairwise_cons] at h h'
      obtain ⟨c, c1, c2⟩ := fst_walk r q h.1 h.2
      obtain ⟨c', c1', c2'⟩ := fst_walk r' q' h'.1 h'.2
      obtain ⟨e, e1, e2⟩ := lst_walk r q h.1 h.2
      obtain ⟨e', e1', e2'⟩ := lst_walk r' q' h'.1 h'.2
      have hm : ∀ x, x ∈ q :: r ↔ x ∈ q' :: r' := fun x => hp.mem_iff
      have hc := fst_one c1 c1' hm
      have he := lst_one e1 e1' hm
      subst hc he
      rw [List.map_cons, List.map_cons, foldO_cons, foldO_cons]
      have hpv : ((q :: r).map tp2).map (·.2) |>.Perm (((q' :: r').map tp2).map (·.2)) := (hp.map _).map _
      have hn := hp.length_eq
      have hs := perm_sum hpv
      simp only [List.map_cons] at hpv hs
      have hlo : minI (tp2 q).2 ((r.map tp2).map (·.2)) = minI (tp2 q').2 ((r'.map tp2).map (·.2)) :=
        Int.le_antisymm (minI_le _ _ _ (hpv.mem_iff.mpr (minI_mem _ _))) (minI_le _ _ _ (hpv.mem_iff.mp (minI_mem _ _)))
      have hhi : maxI (tp2 q).2 ((r.map tp2).map (·.2)) = maxI (tp2 q').2 ((r'.map tp2).map (·.2)) :=
        Int.le_antisymm (maxI_ge _ _ _ (hpv.mem_iff.mp (maxI_mem _ _))) (maxI_ge _ _ _ (hpv.mem_iff.mpr (maxI_mem _ _)))
      congr 1
      refine st_eq ?_ ?_ hlo hhi (c2.symm.trans c2') (e2.symm.trans e2')
      · simp only [List.length_cons, List.length_map] at hn ⊢
        omega
      · simpa using hs
/-! ### stretches -/
def stch {α : Type} (t : α → Int) (L : List α) : Int → List Int → List (List α)
  | low, [] => [L.filter fun p => decide (low ≤ t p)]
  | low, c :: cs => (L.filter fun p => decide (low ≤ t p) && decide (t p < c)) :: stch t L c cs
theorem stch_len {α : Type} (t : α → Int) (L : List α) : ∀ (cs : List Int) (low : Int), (stch t L low cs).length = cs.length + 1
  | [], _ => rfl
  | c :: cs, low => by unfold stch; rw [List.length_cons, stch_len t L cs c, List.length_cons]
theorem stch_ge {α : Type} (t : α → Int) (L : List α) : ∀ (cs : List Int) (low : Int), (low :: cs).Pairwise (· ≤ ·) → ∀ s ∈ stch t L low cs, ∀ p ∈ s, p ∈ L ∧ low ≤ t p
  | [], low, _, s, hs, p, hp => by
    unfold stch at hs
    simp only [List.mem_cons, List.not_mem_nil, or_false] at hs
    subst hs
    simpa using hp
  | c :: cs, low, hw, s, hs, p, hp => by
    unfold stch at hs
    have hw' := List.pairwise_cons.mp hw
    rcases List.mem_cons.mp hs with rfl | hs
    · simp only [List.mem_filter, Bool.and_eq_true, decide_eq_true_eq] at hp
      exact ⟨hp.1, hp.2.1⟩
    · obtain ⟨g1, g2⟩ := stch_ge t L cs c hw'.2 s hs p hp
      exact ⟨g1, Int.le_trans (hw'.1 c (by simp)) g2⟩
/-- earlier stretches lie ahead of later ones -/
theorem stch_pw {α : Type} (t : α → Int) (L : List α) : ∀ (cs : List Int) (low : Int), (low :: cs).Pairwise (· ≤ ·) → (stch t L low cs).Pairwise fun a b => ∀ p ∈ a, ∀ q ∈ b, t p < t q
  | [], low, _ => by unfold stch; simp
  | c :: cs, low, hw => by
    have hw' := List.pairwise_cons.mp hw
    unfold stch
    refine List.pairwise_cons.mpr ⟨fun b hb p hp q hq => ?_, stch_pw t L cs c hw'.2⟩
    simp only [List.mem_filter, Bool.and_eq_true, decide_eq_true_eq] at hp
    exact Int.lt_of_lt_of_le hp.2.2 (stch_ge t L cs c hw'.2 b hb q hq).2
theorem stch_perm {α : Type} (t : α → Int) (L : List α) : ∀ (cs : List Int) (low : Int), (low :: cs).Pairwise (· ≤ ·) → (stch t L low cs).flatten.Perm (L.filter fun p => decide (low ≤ t p))
  | [], low, _ => by unfold stch; simp
  | c :: cs, low, hw => by
    have hw' := List.pairwise_cons.mp hw
    have hlc := hw'.1 c (by simp)
    unfold stch
    rw [List.flatten_cons]
    have ih := stch_perm t L cs c hw'.2
    have e1 : (L.filter fun p => decide (low ≤ t p) && decide (t p < c)) = (L.filter fun p => decide (low ≤ t p)).filter fun p => decide (t p < c) := by
      rw [List.filter_filter]
      congr 1
      funext p
      exact Bool.and_comm _ _
    have e2 : (L.filter fun p => decide (c ≤ t p)) = (L.filter fun p => decide (low ≤ t p)).filter fun p => !decide (t p < c) := by
      rw [List.filter_filter]
      congr 1
      funext p
      by_cases q : c ≤ t p
      · have : low ≤ t p := Int.le_trans hlc q
        simp [q, this]
      · have : t p < c := by omega
        simp [q, this]
    rw [e2] at ih
    rw [e1]
    exact (ih.append_left _).trans (List.filter_append_perm _ _)
theorem stch_bf (L : List Tr) (hL : L.Pairwise bf) : ∀ (cs : List Int) (low : Int), (low :: cs).Pairwise (· ≤ ·) → (stch (·.1) L low cs).flatten.Pairwise bf
  | [], low, _ => by unfold stch; simpa using hL.filter _
  | c :: cs, low, hw => by
    have hw' := List.pairwise_cons.mp hw
    unfold stch
    rw [List.flatten_cons]
    refine List.pairwise_append.mpr ⟨hL.filter _, stch_bf L hL cs c hw'.2, fun a ha x hx => ?_⟩
    simp only [List.mem_filter, Bool.and_eq_true, decide_eq_true_eq] at ha
    obtain ⟨s, hs, hx⟩ := List.mem_flatten.mp hx
    have := (stch_ge (·.1) L cs c hw'.2 s hs x hx).2
    intro e
    omega
/-- the fold of all stretches is the fold of all -/
theorem stch_fold (L : List Tr) (hL : L.Pairwise bf) {cs : List Int} (hw : (0 :: cs).Pairwise (· ≤ ·)) (h0 : ∀ p ∈ L, 0 ≤ p.1) : foldO ((stch (·.1) L 0 cs).flatten.map tp2) = foldO (L.map tp2) := by
  refine foldO_perm ?_ (stch_bf L hL cs 0 hw) hL
  refine (stch_perm _ L cs 0 hw).trans ?_
  rw [List.filter_eq_self.mpr fun p hp => by simpa using h0 p hp]
theorem bef_bf {L : List Tr} (h : L.Pairwise bef) : L.Pairwise bf := h.imp fun {b x} z e => by
  rcases z with z | z
  · exact z
  · omega
theorem stch_map {α β : Type} (t : β → Int) (f : α → β) (L : List α) : ∀ (cs : List Int) (low : Int), stch t (L.map f) low cs = (stch (fun x => t (f x)) L low cs).map (List.map f)
  | [], low => by unfold stch; rw [List.filter_map]; rfl
  | c :: cs, low => by
    unfold stch
    rw [List.filter_map, stch_map t f L cs c]; rfl
/-- a row's stretches -/
abbrev rst (r : List (Int × Int)) (cs : List Int) : List (List (Int × Int)) := stch (fun p : Int × Int => p.1) r 0 cs
theorem row_fold {r : List (Int × Int)} {cs : List Int} (ha : ascB r = true) (hw : (0 :: cs).Pairwise (· ≤ ·)) (h0 : ∀ p ∈ r, 0 ≤ p.1) : foldO (rst r cs).flatten = foldO r := by
  have hb : (tr1 0 r).Pairwise bf := by
    unfold tr1
    rw [List.pairwise_map]
    exact (asc_pw r ha).imp fun {p q} z e => by simp only at e; omega
  have := stch_fold (tr1 0 r) hb hw (fun p hp => by
    unfold tr1 at hp
    obtain ⟨q, hq, rfl⟩ := List.mem_map.mp hp
    exact h0 q hq)
  unfold tr1 at this
  rw [stch_map (fun p : Tr => p.1) (fun p : Int × Int => ((p.1, 0, p.2) : Tr)) r] at this
  rw [← List.map_flatten, List.map_map, List.map_map] at this
  have e : (tp2 ∘ fun p : Int × Int => ((p.1, 0, p.2) : Tr)) = id := rfl
  rw [e, List.map_id, List.map_id] at this
  exact this
def colK (rows : List (List (Int × Int))) (cs : List Int) (low : Int) (k : Nat) : List (Int × Int) := (rows.map fun r => (stch (fun p : Int × Int => p.1) r low cs).getD k []).flatten
theorem trs_filter (f : Int → Bool) : ∀ (rows : List (List (Int × Int))) (j : Nat), ((trs j rows).filter fun p => f p.1).map tp2 = (rows.map fun r => r.filter fun p => f p.1).flatten
  | [], _ => rfl
  | r :: rows, j => by
    unfold trs
    rw [List.filter_append, List.map_append, trs_filter f rows (j + 1), List.map_cons, List.flatten_cons]
    congr 1
    unfold tr1
    rw [List.filter_map, List.map_map]
    exact List.map_id' _
theorem col_at (rows : List (List (Int × Int))) : ∀ (cs : List Int) (low : Int), (stch (fun p : Tr => p.1) (trs 0 rows) low cs).map (List.map tp2) = (List.range (cs.length + 1)).map (colK rows cs low)
  | [], low => by
    unfold stch
    have := trs_filter (fun t => decide (low ≤ t)) rows 0
    simp only [List.map_cons, List.map_nil, List.length_nil, Nat.zero_add, List.range_one]
    rw [this]
    simp [colK, stch]
  | c :: cs, low => by
    have ih := col_at rows cs c
    unfold stch
    have := trs_filter (fun t => decide (low ≤ t) && decide (t < c)) rows 0
    rw [List.map_cons, this, ih, List.length_cons, show List.range (cs.length + 1 + 1) = 0 :: (List.range (cs.length + 1)).map Nat.succ from List.range_succ_eq_map, List.map_cons, List.map_map]
    rfl
theorem cols_fold {rows : List (List (Int × Int))} {cs : List Int} (ha : ∀ r ∈ rows, ascB r = true) (hw : (0 :: cs).Pairwise (· ≤ ·)) (h0 : ∀ r ∈ rows, ∀ p ∈ r, 0 ≤ p.1) : foldO ((List.range (cs.length + 1)).map (colK rows cs 0)).flatten = foldO rows.flatten := by
  have := stch_fold (trs 0 rows) (bef_bf (trs_pw rows 0 ha)) hw (fun p hp => by
    have : tp2 p ∈ rows.flatten := by rw [← trs_pts rows 0]; exact List.mem_map_of_mem hp
    obtain ⟨r, hr, hq⟩ := List.mem_flatten.mp this
    exact h0 r hr _ hq)
  rw [trs_pts, List.map_flatten, col_at] at this
  exact this
theorem cols_pw {rows : List (List (Int × Int))} {cs : List Int} (hw : (0 :: cs).Pairwise (· ≤ ·)) : ((List.range (cs.length + 1)).map (colK rows cs 0)).Pairwise fun a b => ∀ p ∈ a, ∀ q ∈ b, p.1 < q.1 := by
  rw [← col_at, List.pairwise_map]
  refine (stch_pw (fun p : Tr => p.1) (trs 0 rows) cs 0 hw).imp fun {a b} h p hp q hq => ?_
  obtain ⟨x, hx, rfl⟩ := List.mem_map.mp hp
  obtain ⟨y, hy, rfl⟩ := List.mem_map.mp hq
  exact h x hx y hy
end Lw
end

section
namespace Lw
open Mi
open PySem (PyData)
theorem V.six {S : List Nat} {h : MH} {x : Mi.MV} {ds : List PyData} (a : V S h x (.tuple ds)) (e : ds.length = 6) : ∃ x0 x1 x2 x3 x4 x5 d0 d1 d2 d3 d4 d5, x = .tup [x0, x1, x2, x3, x4, x5] ∧ ds = [d0, d1, d2, d3, d4, d5] ∧ V S h x0 d0 ∧ V S h x1 d1 ∧ V S h x2 d2 ∧ V S h x3 d3 ∧ V S h x4 d4 ∧ V S h x5 d5 := by
  cases a with
  | tup r =>
    match ds, e with
    | [d0, d1, d2, d3, d4, d5], _ =>
      cases r with | cons a0 r =>
      cases r with | cons a1 r =>
      cases r with | cons a2 r =>
      cases r with | cons a3 r =>
      cases r with | cons a4 r =>
      cases r with | cons a5 r =>
      cases r
      exact ⟨_, _, _, _, _, _, _, _, _, _, _, _, rfl, rfl, a0, a1, a2, a3, a4, a5⟩
def partsB (d : PyData) : Bool := match foldDo d with
  | some (some _) => true
  | _ => false
theorem parts_six {d0 d1 d2 d3 d4 d5 : PyData} : partsB (.tuple [d0, d1, d2, d3, d4, d5]) = (dcnt d0 && !decide (dvi d0 = 0) && (isId d1 && isId d2 && isId d3) && ((ptD d4).isSome && (ptD d5).isSome)) := by
  unfold partsB
  cases d0 with
  | int n =>
    cases d1 with
    | int s =>
      cases d2 with
      | int lo =>
        cases d3 with
        | int hi =>
          show (match (match ptD d4, ptD d5 with
            | some f, some l => if 1 ≤ n then some (some (⟨n, s, lo, hi, f, l⟩ : St)) else none
            | _, _ => none) with
            | some (some _) => true
            | _ => false) = (decide (0 ≤ n) && !decide (n = 0) && true && _)
          cases ptD d4 <;> cases ptD d5 <;> simp
          by_cases q : 1 ≤ n
          · have : 0 ≤ n ∧ ¬ n = 0 := by omega
            simp [q, this]
          · have : ¬ (0 ≤ n ∧ ¬ n = 0) := by omega
            simp [q]
            omega
        | _ => simp [isId, foldDo]
      | _ => simp [isId, foldDo]
    | _ => simp [isId, foldDo]
  | _ => simp [dcnt, foldDo]
theorem parts_not {ds : List PyData} (e : ¬ ds.length = 6) : partsB (.tuple ds) = false := by
  unfold partsB
  have : foldDo (.tuple ds) = none := by
    unfold foldDo
    split
    · rename_i z; cases z
    · rename_i z; cases z; simp at e
    · rfl
  rw [this]
theorem cut14 {a b c d e f : Mi.MV} : Mi.cut [a, b, c, d, e, f] (some 1) (some 4) = [b, c, d] := by simp [Mi.cut, HT.sIx]
theorem cut24 {a b c d e f : Mi.MV} : Mi.cut [a, b, c, d, e, f] (some 2) (some 4) = [c, d] := by simp [Mi.cut, HT.sIx]
section
variable {S : List Nat} {n : Nat} {h : MH} {v : Mi.MV} {d : PyData}
theorem sub_t3 {a b c d : Mi.MV} {xs : List Mi.MV} : subM (.tup (a :: b :: c :: d :: xs)) (.int 3) h = .ok d h := by
  refine sub_ix rfl ?_
  rw [idx_ok (by decide) (by simp <;> omega)]; rfl
theorem sub_t4 {a b c d e : Mi.MV} {xs : List Mi.MV} : subM (.tup (a :: b :: c :: d :: e :: xs)) (.int 4) h = .ok e h := by
  refine sub_ix rfl ?_
  rw [idx_ok (by decide) (by simp <;> omega)]; rfl
theorem sub_t5 {a b c d e f : Mi.MV} {xs : List Mi.MV} : subM (.tup (a :: b :: c :: d :: e :: f :: xs)) (.int 5) h = .ok f h := by
  refine sub_ix rfl ?_
  rw [idx_ok (by decide) (by simp <;> omega)]; rfl
theorem parts_sp (a : V S h v d) : Sp (Mi.run τ.tab (n+4) f_has_parts [v] h) (fun r h' => r = .bl (partsB d) ∧ Fr [] h h') := by
  have e1 := isi_tuple (T := τ.tab) a
  refine Sp_for fun Q E hQ => ?_
  refine run_w { sl := [some v, none], ex := none } body_has_parts rfl rfl rfl ?_
  unfold body_has_parts
  cases d with
  | tuple ds =>
    (try simp only [XN, Mi.Env.set, Nat.reduceAdd, Nat.reduceLeDiff, x_ct, x_cf, e1, isTd, Bool.not_true, a.lenq (ds := ds) rfl])
    refine cnd_dn (fun hz => ?_) (fun hz => ?_)
    · (try simp only [XN, Mi.Env.set, Nat.reduceAdd, Nat.reduceLeDiff, x_ct, x_cf])
      exact hQ _ _ ⟨by rw [parts_not (by omega)], Fr.refl⟩
    · obtain ⟨x0, x1, x2, x3, x4, x5, d0, d1, d2, d3, d4, d5, rfl, rfl, a0, a1, a2, a3, a4, a5⟩ := a.six (by omega)
      rw [parts_six] at hQ
      (try simp only [XN, Mi.Env.set, Nat.reduceAdd, Nat.reduceLeDiff, x_ct, x_cf, k_is_count, e_count (n := n+1) a0])
      cases hc : dcnt d0 with
      | false =>
        (try simp only [XN, Mi.Env.set, Nat.reduceAdd, Nat.reduceLeDiff, x_ct, x_cf, Bool.not_false])
        refine hQ _ _ ⟨by simp [hc], Fr.refl⟩
      | true =>
        obtain ⟨m, rfl⟩ : ∃ m, d0 = .int m := by cases d0 <;> first | exact ⟨_, rfl⟩ | cases hc
        cases a0
        (try simp only [XN, Mi.Env.set, Nat.reduceAdd, Nat.reduceLeDiff, x_ct, x_cf, Bool.not_true])
        refine cnd_d (fun hm => ?_) (fun hm => ?_)
        · (try simp only [XN, Mi.Env.set, Nat.reduceAdd, Nat.reduceLeDiff, x_ct, x_cf])
          exact hQ _ _ ⟨by simp [dvi, hm], Fr.refl⟩
        have ev : evE τ.tab (Mi.run τ.tab (n+3)) { sl := [some (.tup [.int m, x1, x2, x3, x4, x5]), none], ex := none } (.slc (.var 0) (.yes (.int 1)) (.yes (.int 4))) h = .ok (.tup [x1, x2, x3]) h := by
          (try simp only [XN, Mi.Env.set, Nat.reduceAdd, Nat.reduceLeDiff, x_ct, x_cf, q_mb, q_b1, slc_t, cut14])
        have av : V S h (.tup [x1, x2, x3]) (.tuple [d1, d2, d3]) := .tup (.cons a1 (.cons a2 (.cons a3 .nil)))
        (try simp only [XN, Mi.Env.set, Nat.reduceAdd, Nat.reduceLeDiff, x_ct, x_cf])
        refine Wr_of (comp_v (fun dx => some (.bl (isId dx))) rfl ev av rfl (by simp) fun x dx h1 hm F1 ax => ?_) ?_
        · refine Sp_for fun Q E hQ => ?_
          refine stepG_w (me' := { sl := [some (.tup [.int m, x1, x2, x3, x4, x5]), some x], ex := none }) rfl ?_
          (try simp only [XN, Mi.Env.set, Nat.reduceAdd, Nat.reduceLeDiff, x_ct, x_cf, k_is_value, e_value (n := n+1) ax])
          exact hQ _ _ ⟨rfl, Fr.refl⟩
        rintro _ h1 ⟨l, rfl, _, A1, F1⟩
        have A1' : At h1 l (.lst ([isId d1, isId d2, isId d3].map Mi.MV.bl)) := A1
        have hall : ([isId d1, isId d2, isId d3].all id) = (isId d1 && isId d2 && isId d3) := by simp [Bool.and_assoc]
        have hd0 : (dcnt (.int m) && !decide (dvi (.int m) = 0)) = true := by
          rw [hc]; simp [dvi, hm]
        rw [hd0, Bool.true_and] at hQ
        (try simp only [XN, Mi.Env.set, Nat.reduceAdd, Nat.reduceLeDiff, x_ct, x_cf, b_all A1', hall])
        cases hi : (isId d1 && isId d2 && isId d3) with
        | false =>
          (try simp only [XN, Mi.Env.set, Nat.reduceAdd, Nat.reduceLeDiff, x_ct, x_cf])
          exact hQ _ _ ⟨by simp [hi], F1⟩
        | true =>
          rw [hi, Bool.true_and] at hQ
          (try simp only [XN, Mi.Env.set, Nat.reduceAdd, Nat.reduceLeDiff, x_ct, x_cf, sub_t4, sub_t5, k_is_point, e_point (n := n) (a4.fr0 F1), e_point (n := n) (a5.fr0 F1)])
          cases hp : (ptD d4).isSome with
          | false =>
            (try simp only [XN, Mi.Env.set, Nat.reduceAdd, Nat.reduceLeDiff, x_ct, x_cf])
            exact hQ _ _ ⟨by simp [hp], F1⟩
          | true =>
            (try simp only [XN, Mi.Env.set, Nat.reduceAdd, Nat.reduceLeDiff, x_ct, x_cf, sub_t4, sub_t5, k_is_point, e_point (n := n) (a5.fr0 F1)])
            exact hQ _ _ ⟨by simp [hp], F1⟩
  | _ =>
    (try simp only [XN, Mi.Env.set, Nat.reduceAdd, Nat.reduceLeDiff, x_ct, x_cf, e1, isTd, Bool.not_false])
    exact hQ _ _ ⟨rfl, Fr.refl⟩
end
end Lw
end

section
namespace Lw
open Mi
open PySem (PyData)
theorem parts_inv {S : List Nat} {h : MH} {v : Mi.MV} {d : PyData} (a : V S h v d) (e : partsB d = true) : ∃ s : St, foldDo d = some (some s) ∧ d = stD s ∧ v = .tup (stV s) ∧ 1 ≤ s.n ∧ 0 ≤ s.f.1 ∧ 0 ≤ s.l.1 := by
  unfold partsB at e
  split at e
  · rename_i s hs
    have hs' := hs
    unfold foldDo at hs
    split at hs
    · cases hs
    · rename_i n s' lo hi p q
      split at hs
      · rename_i f l hf hl
        split at hs
        · rename_i hn
          cases hs
          obtain ⟨rfl, f0⟩ := ptD_inv hf
          obtain ⟨rfl, l0⟩ := ptD_inv hl
          refine ⟨_, hs', rfl, ?_, hn, f0, l0⟩
          obtain ⟨x0, x1, x2, x3, x4, x5, d0, d1, d2, d3, d4, d5, rfl, e2, a0, a1, a2, a3, a4, a5⟩ := a.six rfl
          cases e2
          cases a0; cases a1; cases a2; cases a3
          rw [a4.pt, a5.pt]; rfl
        · cases hs
      · cases hs
    · cases hs
  · cases e
theorem foldDo_nn {d : PyData} (hd : foldDo d = some none) : d = .none := by
  unfold foldDo at hd
  split at hd
  · rfl
  · split at hd
    · split at hd <;> cases hd
    · cases hd
  · cases hd
theorem isFd_ne {d : PyData} (hd : d ≠ .none) : isFd d = (partsB d && (match foldDo d with | some (some a) => decide (a.f.1 ≤ a.l.1) && canS a | _ => false)) := by
  unfold isFd partsB
  cases hf : foldDo d with
  | none => rfl
  | some o =>
    cases o with
    | none => exact absurd (foldDo_nn hf) hd
    | some a => rfl
theorem c_eqP {p q : Int × Int} {h : MH} : cmpM .eq (pV p) (pV q) h = .ok (.bl (decide (p = q))) h := by
  have e1 : ∀ p : Int × Int, toD h dpt (pV p) = some (pD p) := fun p => (V.tup (S := []) (.cons (.int _) (.cons (.int _) .nil))).toD (by simp [fz, fzs]; unfold dpt; omega)
  have hs : ∀ p : Int × Int, PySem.SeqAt.shaped (pD p) = true := fun p => by
    unfold PySem.SeqAt.shaped pD
    simp [PyData.canLay0, PyData.canLayAll0, PyData.depth, PyData.depthAll]
  show M.bind (fun h => match toD h dpt (pV p), toD h dpt (pV q) with
    | some d, some e => if PySem.SeqAt.shaped d = true ∧ PySem.SeqAt.shaped e = true then .ok (PyData.eqv d e) h else .stuck
    | _, _ => .stuck) (fun b => M.pure (Mi.MV.bl b)) h = _
  rw [q_mb, e1, e1]
  simp only
  rw [if_pos ⟨hs p, hs q⟩, q_b1]
  have : PyData.eqv (pD p) (pD q) = decide (p = q) := by
    obtain ⟨p1, p2⟩ := p
    obtain ⟨q1, q2⟩ := q
    simp [pD, PyData.eqv, PyData.eqvAll]
    rfl
  rw [this]; rfl
/-- small enough to be multiplied -/
structure sm (a : St) : Prop where
  n : a.n.natAbs < 2 ^ 60
  lo : a.lo.natAbs < 2 ^ 60
  hi : a.hi.natAbs < 2 ^ 60
section
variable {S : List Nat} {n : Nat} {h : MH} {v : Mi.MV} {d : PyData} {s : St}
theorem lacking_sp : Sp (Mi.run τ.tab (n+1) f_lacking [.tup (stV s)] h) (fun r h' => ∃ m, r = .ref m ∧ At h' m (.lst ((lack s).map .int)) ∧ Fr [] h h') := by
  refine Sp_for fun Q E hQ => ?_
  have two : (2 : Nat) ≤ PySem.sizeLine := by rw [PySem.sizeLine_eq]; decide
  refine run_w { sl := [some (.tup (stV s)), none, none], ex := none } body_lacking rfl rfl rfl ?_
  unfold body_lacking stV pV
  (try simp only [XN, Mi.Env.set, Nat.reduceAdd, Nat.reduceLeDiff, x_ct, x_cf, sub_t4, sub_t5, two, if_true])
  refine comp_lw (fun x : Mi.MV => match x with | .int i => if i ∈ [s.f.2, s.l.2] then none else some (Mi.MV.int i) | _ => none) rfl ?_
  have sl : ([.int s.lo, .int s.hi] : List Mi.MV) = [s.lo, s.hi].map .int := rfl
  (try simp only [XN, Mi.Env.set, Nat.reduceAdd, Nat.reduceLeDiff, x_ct, x_cf, q_sst, slc_t, cut24])
  rw [sl, sst_ok (by simp)]
  refine newL_r (S := []) (ds := (sds [s.lo, s.hi]).map .int) ?_ (by simp) ?_ fun h1 _ A1 F1 _ => ?_
  · generalize sds [s.lo, s.hi] = L
    induction L with
    | nil => exact .nil
    | cons x L ih => exact .cons (.int x) ih
  · rw [List.length_map]
    have : (sds [s.lo, s.hi]).length ≤ 2 := by
      simp only [sds, insU]
      (repeat' split) <;> simp
    omega
  refine ⟨_, _, rfl, A1, ?_, fun x h2 hx F2 => ?_, fun m h2 hm A2 F2 => ?_⟩
  · rw [List.length_map]
    have : (sds [s.lo, s.hi]).length ≤ 2 := by
      simp only [sds, insU]
      (repeat' split) <;> simp
    omega
  · obtain ⟨i, _, rfl⟩ := List.mem_map.mp hx
    refine Sp_for fun Q E hQ => ?_
    refine stepG_w (me' := { sl := [some (.tup (stV s)), some (.tup [.int s.f.2, .int s.l.2]), some (.int i)], ex := none }) rfl ?_
    have ni : ∀ {h : MH}, cmpM .niS (.int i) (.tup [.int s.f.2, .int s.l.2]) h = .ok (.bl (!decide (i ∈ [s.f.2, s.l.2]))) h := c_niS (ns := [s.f.2, s.l.2])
    (try simp only [XN, Mi.Env.set, Nat.reduceAdd, Nat.reduceLeDiff, x_ct, x_cf, ni])
    refine cnd_dn (fun q => ?_) (fun q => ?_)
    · exact hQ _ _ ⟨by simp only [if_neg q], Fr.refl⟩
    · exact hQ _ _ ⟨by simp only [if_pos q], Fr.refl⟩
  · refine hQ _ _ ⟨m, rfl, ?_, F1.trans F2⟩
    have e : ((sds [s.lo, s.hi]).map Mi.MV.int).filterMap (fun x : Mi.MV => match x with | .int i => if i ∈ [s.f.2, s.l.2] then none else some (Mi.MV.int i) | _ => none) = (lack s).map Mi.MV.int := by
      unfold lack
      generalize sds [s.lo, s.hi] = L
      induction L with
      | nil => rfl
      | cons x L ih =>
        rw [List.map_cons, List.filterMap_cons, List.filter_cons, ih]
        by_cases q : x ∈ [s.f.2, s.l.2] <;> simp [q]
    rw [e] at A2
    exact A2
theorem tpt6 {me : Mi.Env} {h : MH} {i j k l m n : Nat} {a b c d e f : Mi.MV} : setTL me (.tup [a, b, c, d, e, f]) [i, j, k, l, m, n] h = .ok ((((((me.set i a).set j b).set k c).set l d).set m e).set n f) h := (rfl)
theorem can_sp (g : sm s) : Sp (Mi.run τ.tab (n+2) f_can_sum [.tup (stV s)] h) (fun r h' => r = .bl (canS s) ∧ Fr [] h h') := by
  refine Sp_for fun Q E hQ => ?_
  refine run_w { sl := [some (.tup (stV s)), none, none, none, none, none, none, none, none, none], ex := none } body_can_sum rfl rfl rfl ?_
  unfold body_can_sum
  have p1 : ∀ (p : Int × Int) {h : MH}, subM (pV p) (.int 1) h = .ok (.int p.2) h := fun p => sub_t1
  have two : (2 : Nat) ≤ PySem.sizeLine := by rw [PySem.sizeLine_eq]; decide
  unfold canS at hQ
  rw [show stV s = [.int s.n, .int s.s, .int s.lo, .int s.hi, pV s.f, pV s.l] from rfl]
  (try simp only [XN, Mi.Env.set, Nat.reduceAdd, Nat.reduceLeDiff, x_ct, x_cf, tpt6, p1])
  generalize (if s.l.2 < s.f.2 then s.l.2 else s.f.2) = mi at hQ ⊢
  refine cnd_d (fun q => ?_) (fun q => ?_)
  · (try simp only [XN, Mi.Env.set, Nat.reduceAdd, Nat.reduceLeDiff, x_ct, x_cf])
    exact hQ _ _ ⟨by simp [q], Fr.refl⟩
  (try simp only [XN, Mi.Env.set, Nat.reduceAdd, Nat.reduceLeDiff, x_ct, x_cf, p1])
  refine cnd_d (fun q2 => ?_) (fun q2 => ?_)
  · (try simp only [XN, Mi.Env.set, Nat.reduceAdd, Nat.reduceLeDiff, x_ct, x_cf])
    exact hQ _ _ ⟨by simp [q, q2], Fr.refl⟩
  simp only [q, q2, decide_false, Bool.or_false, Bool.not_false, Bool.true_and] at hQ
  (try simp only [XN, Mi.Env.set, Nat.reduceAdd, Nat.reduceLeDiff, x_ct, x_cf])
  refine cnd_d (fun q3 => ?_) (fun q3 => ?_)
  · rw [if_pos q3] at hQ
    (try simp only [XN, Mi.Env.set, Nat.reduceAdd, Nat.reduceLeDiff, x_ct, x_cf, c_eqP])
    refine cnd_d (fun q4 => ?_) (fun q4 => ?_)
    · (try simp only [XN, Mi.Env.set, Nat.reduceAdd, Nat.reduceLeDiff, x_ct, x_cf, z_chain3, p1])
      refine cnd_d (fun q5 => ?_) (fun q5 => ?_)
      · (try simp only [XN, Mi.Env.set, Nat.reduceAdd, Nat.reduceLeDiff, x_ct, x_cf])
        refine cnd_d (fun q6 => ?_) (fun q6 => ?_)
        · (try simp only [XN, Mi.Env.set, Nat.reduceAdd, Nat.reduceLeDiff, x_ct, x_cf, p1])
          exact hQ _ _ ⟨by simp [q4, q5, q6], Fr.refl⟩
        · exact hQ _ _ ⟨by simp [q6], Fr.refl⟩
      · exact hQ _ _ ⟨by simp [q5], Fr.refl⟩
    · exact hQ _ _ ⟨by simp [q4], Fr.refl⟩
  · rw [if_neg q3] at hQ
    (try simp only [XN, Mi.Env.set, Nat.reduceAdd, Nat.reduceLeDiff, x_ct, x_cf, k_lacking])
    refine Wr_of (lacking_sp (n := n)) ?_
    rintro _ h1 ⟨m, rfl, A1, F1⟩
    (try simp only [XN, Mi.Env.set, Nat.reduceAdd, Nat.reduceLeDiff, x_ct, x_cf, b_lenl A1, b_sumL A1, two, if_true, p1])
    rw [List.length_map]
    refine cnd_d (fun q4 => ?_) (fun q4 => ?_)
    · have s1 : small s.lo := by have := g.lo; unfold small; omega
      have s2 : small s.hi := by have := g.hi; unfold small; omega
      (try simp only [XN, Mi.Env.set, Nat.reduceAdd, Nat.reduceLeDiff, x_ct, x_cf, s1, s2, or_true])
      refine cnd_d (fun q5 => ?_) (fun q5 => ?_)
      · (try simp only [XN, Mi.Env.set, Nat.reduceAdd, Nat.reduceLeDiff, x_ct, x_cf, s1, s2, or_true])
        exact hQ _ _ ⟨by rw [decide_eq_true q4, decide_eq_true q5]; simp, F1⟩
      · exact hQ _ _ ⟨by rw [decide_eq_true q4, decide_eq_false q5]; rfl, F1⟩
    · exact hQ _ _ ⟨by rw [decide_eq_false q4]; rfl, F1⟩
/-- is_fold -/
def smD (d : PyData) : Prop := ∀ s, foldDo d = some (some s) → sm s
theorem is_fold_sp (a : V S h v d) (g : smD d) : Sp (Mi.run τ.tab (n+5) f_is_fold [v] h) (fun r h' => r = .bl (isFd d) ∧ Fr [] h h') := by
  refine Sp_for fun Q E hQ => ?_
  refine run_w { sl := [some v], ex := none } body_is_fold rfl rfl rfl ?_
  unfold body_is_fold
  have p0 : ∀ (p : Int × Int) {h : MH}, subM (pV p) (.int 0) h = .ok (.int p.1) h := fun p => sub_t0
  by_cases hd : d = .none
  · subst hd
    cases a
    (try simp only [XN, Mi.Env.set, Nat.reduceAdd, Nat.reduceLeDiff, x_ct, x_cf])
    exact hQ _ _ ⟨rfl, Fr.refl⟩
  · have hn : isNon v = false := by cases a <;> first | rfl | exact absurd rfl hd
    rw [isFd_ne hd] at hQ
    (try simp only [XN, Mi.Env.set, Nat.reduceAdd, Nat.reduceLeDiff, x_ct, x_cf, hn, k_has_parts])
    refine Wr_of (parts_sp (n := n) a) ?_
    rintro _ h1 ⟨rfl, F1⟩
    cases hp : partsB d with
    | false =>
      (try simp only [XN, Mi.Env.set, Nat.reduceAdd, Nat.reduceLeDiff, x_ct, x_cf])
      exact hQ _ _ ⟨by simp [hp], F1⟩
    | true =>
      obtain ⟨s, e1, rfl, rfl, _, _, _⟩ := parts_inv a hp
      rw [hp, e1] at hQ
      have s4 : ∀ {h : MH}, subM (.tup (stV s)) (.int 4) h = .ok (pV s.f) h := sub_t4
      have s5 : ∀ {h : MH}, subM (.tup (stV s)) (.int 5) h = .ok (pV s.l) h := sub_t5
      (try simp only [XN, Mi.Env.set, Nat.reduceAdd, Nat.reduceLeDiff, x_ct, x_cf, s4, s5, p0])
      refine cnd_d (fun q => ?_) (fun q => ?_)
      · (try simp only [XN, Mi.Env.set, Nat.reduceAdd, Nat.reduceLeDiff, x_ct, x_cf, k_can_sum])
        refine Wr_of (can_sp (n := n+2) (g s e1)) ?_
        rintro _ h2 ⟨rfl, F2⟩
        exact hQ _ _ ⟨by simp [q], F1.trans F2⟩
      · exact hQ _ _ ⟨by simp [q], F1⟩
end
end Lw
end

section
namespace Lw
open Mi
open PySem (PyData)
/-! ### fractions in lowest terms -/
def gI (n d : Int) : Nat := Nat.gcd n.natAbs d.natAbs
def low (n d : Int) : Int × Int := if 0 < d then (n / (gI n d : Int), d / (gI n d : Int)) else (-n / (gI n d : Int), -d / (gI n d : Int))
structure red (p : Int × Int) : Prop where
  pos : 0 < p.2
  cop : Nat.gcd p.1.natAbs p.2.natAbs = 1
theorem gI_pos {n d : Int} (hd : d ≠ 0) : 0 < gI n d := Nat.gcd_pos_of_pos_right _ (by omega)
theorem gI_neg (n d : Int) : gI (-n) (-d) = gI n d := by unfold gI; rw [Int.natAbs_neg, Int.natAbs_neg]
theorem low1 {n d : Int} (hd : 0 < d) : red (n / (gI n d : Int), d / (gI n d : Int)) ∧ (n / (gI n d : Int)) * d = n * (d / (gI n d : Int)) := by
  have hg := gI_pos (n := n) (d := d) (by omega)
  have d1 : (gI n d : Int) ∣ n := Int.natAbs_dvd_natAbs.mp (by rw [Int.natAbs_natCast]; exact Nat.gcd_dvd_left _ _)
  have d2 : (gI n d : Int) ∣ d := Int.natAbs_dvd_natAbs.mp (by rw [Int.natAbs_natCast]; exact Nat.gcd_dvd_right _ _)
  have hg' : (0 : Int) < (gI n d : Int) := by omega
  obtain ⟨x, hx⟩ := d1
  obtain ⟨y, hy⟩ := d2
  have ex : n / (gI n d : Int) = x := by rw [Int.ediv_eq_of_eq_mul_right (by omega) hx]
  have ey : d / (gI n d : Int) = y := by rw [Int.ediv_eq_of_eq_mul_right (by omega) hy]
  rw [ex, ey]
  refine ⟨⟨?_, ?_⟩, ?_⟩
  · by_cases z : 0 < y
    · exact z
    · have : (gI n d : Int) * y ≤ 0 := Int.mul_nonpos_of_nonneg_of_nonpos (by omega) (by omega)
      omega
  · have e : gI n d = gI n d * Nat.gcd x.natAbs y.natAbs := by
      have e1 : n.natAbs = gI n d * x.natAbs := by
        have := congrArg Int.natAbs hx
        rw [Int.natAbs_mul, Int.natAbs_natCast] at this
        exact this
      have e2 : d.natAbs = gI n d * y.natAbs := by
        have := congrArg Int.natAbs hy
        rw [Int.natAbs_mul, Int.natAbs_natCast] at this
        exact this
      have e3 : Nat.gcd n.natAbs d.natAbs = Nat.gcd (gI n d * x.natAbs) (gI n d * y.natAbs) := by rw [← e1, ← e2]
      rw [Nat.gcd_mul_left] at e3
      exact e3
    show Nat.gcd x.natAbs y.natAbs = 1
    have : gI n d * 1 = gI n d * Nat.gcd x.natAbs y.natAbs := by omega
    exact (Nat.eq_of_mul_eq_mul_left hg this).symm
  · calc x * d = x * ((gI n d : Int) * y) := by rw [← hy]
      _ = ((gI n d : Int) * x) * y := by rw [← Int.mul_assoc, Int.mul_comm x]
      _ = n * y := by rw [← hx]
theorem low_ok {n d : Int} (hd : d ≠ 0) : red (low n d) ∧ (low n d).1 * d = n * (low n d).2 := by
  unfold low
  by_cases h : 0 < d
  · rw [if_pos h]; exact low1 h
  · rw [if_neg h]
    have := low1 (n := -n) (d := -d) (by omega)
    rw [gI_neg] at this
    obtain ⟨h1, h2⟩ := this
    refine ⟨h1, ?_⟩
    simp only
    rw [Int.mul_neg, Int.neg_mul] at h2
    omega
theorem red_uq {p q : Int × Int} (hp : red p) (hq : red q) (e : p.1 * q.2 = q.1 * p.2) : p = q := by
  have en : p.1.natAbs * q.2.natAbs = q.1.natAbs * p.2.natAbs := by rw [← Int.natAbs_mul, ← Int.natAbs_mul, e]
  have c1 : Nat.Coprime p.2.natAbs p.1.natAbs := by unfold Nat.Coprime; rw [Nat.gcd_comm]; exact hp.cop
  have c2 : Nat.Coprime q.2.natAbs q.1.natAbs := by unfold Nat.Coprime; rw [Nat.gcd_comm]; exact hq.cop
  have d1 : p.2.natAbs ∣ q.2.natAbs := c1.dvd_of_dvd_mul_left (by rw [en]; exact Nat.dvd_mul_left _ _)
  have d2 : q.2.natAbs ∣ p.2.natAbs := c2.dvd_of_dvd_mul_left (by rw [← en]; exact Nat.dvd_mul_left _ _)
  have e2 := Nat.dvd_antisymm d1 d2
  have h1 := hp.pos
  have h2 := hq.pos
  have e3 : p.2 = q.2 := by omega
  rw [← e3] at e
  have e4 : p.1 = q.1 := Int.eq_of_mul_eq_mul_right (by omega) e
  exact Prod.ext e4 e3
theorem low_uq {p : Int × Int} {n d : Int} (r : red p) (hd : d ≠ 0) (e : p.1 * d = n * p.2) : low n d = p := by
  obtain ⟨r1, e1⟩ := low_ok (n := n) hd
  refine red_uq r1 r (Int.eq_of_mul_eq_mul_right hd ?_)
  calc (low n d).1 * p.2 * d = (low n d).1 * d * p.2 := by rw [Int.mul_assoc, Int.mul_comm p.2, ← Int.mul_assoc]
    _ = n * (low n d).2 * p.2 := by rw [e1]
    _ = n * p.2 * (low n d).2 := by rw [Int.mul_assoc, Int.mul_comm (low n d).2, ← Int.mul_assoc]
    _ = p.1 * d * (low n d).2 := by rw [e]
    _ = p.1 * (low n d).2 * d := by rw [Int.mul_assoc, Int.mul_comm d, ← Int.mul_assoc]
theorem ediv_le {n : Int} {g : Nat} (hg : 0 < g) (h : (g : Int) ∣ n) : (n / (g : Int)).natAbs ≤ n.natAbs := by
  rw [Int.natAbs_ediv_of_dvd h]
  exact Nat.div_le_self _ _
theorem low_bd {n d : Int} (hd : d ≠ 0) : (low n d).1.natAbs ≤ n.natAbs ∧ (low n d).2.natAbs ≤ d.natAbs := by
  have hg := gI_pos (n := n) hd
  have d1 : (gI n d : Int) ∣ n := Int.natAbs_dvd_natAbs.mp (by rw [Int.natAbs_natCast]; exact Nat.gcd_dvd_left _ _)
  have d2 : (gI n d : Int) ∣ d := Int.natAbs_dvd_natAbs.mp (by rw [Int.natAbs_natCast]; exact Nat.gcd_dvd_right _ _)
  unfold low
  split
  · exact ⟨ediv_le hg d1, ediv_le hg d2⟩
  · have h1 := ediv_le hg (Int.dvd_neg.mpr d1)
    have h2 := ediv_le hg (Int.dvd_neg.mpr d2)
    rw [Int.natAbs_neg] at h1 h2
    exact ⟨h1, h2⟩
/-! ### by rests -/
def gl : Nat → Nat → Nat → Nat
  | 0, a, _ => a
  | k + 1, a, b => if b = 0 then a else gl k b (a % b)
theorem gl_step {k a b : Nat} (h : b ≠ 0) : gl (k + 1) a b = gl k b (a % b) := by rw [gl, if_neg h]
theorem gl_zero {k a : Nat} : gl k a 0 = a := by cases k <;> simp [gl]
theorem mod_half {b r : Nat} (h : r < b) (hr : 0 < r) : 2 * (b % r) < b := by
  by_cases q : 2 * r ≤ b
  · have := Nat.mod_lt b hr
    omega
  · have : b % r = b - r := by
      rw [Nat.mod_eq_sub_mod (by omega), Nat.mod_eq_of_lt (by omega)]
    omega
theorem gl_gcd : ∀ (k a b : Nat), b < 2 ^ k → gl (2 * k + 1) a b = Nat.gcd a b
  | 0, a, b, h => by
    have : b = 0 := by simpa using h
    subst this
    rw [gl_zero, Nat.gcd_zero_right]
  | k + 1, a, b, h => by
    by_cases hb : b = 0
    · subst hb; rw [gl_zero, Nat.gcd_zero_right]
    · rw [show 2 * (k + 1) + 1 = (2 * k + 2) + 1 by omega, gl_step hb]
      have e1 : Nat.gcd a b = Nat.gcd b (a % b) := by rw [Nat.gcd_comm a b, Nat.gcd_rec b a, Nat.gcd_comm]
      rw [e1]
      by_cases hr : a % b = 0
      · rw [hr, gl_zero, Nat.gcd_zero_right]
      · rw [gl_step hr]
        have hlt : a % b < b := Nat.mod_lt a (by omega)
        have hh := mod_half hlt (by omega)
        rw [gl_gcd k (a % b) (b % (a % b)) (by rw [Nat.pow_succ] at h; omega)]
        rw [Nat.gcd_comm b (a % b), Nat.gcd_rec (a % b) b, Nat.gcd_comm]
theorem gl_ge : ∀ (j k a b : Nat), b < 2 ^ k → gl (2 * k + 1 + j) a b = Nat.gcd a b
  | 0 => gl_gcd
  | j + 1 => fun k a b h => by
    by_cases hb : b = 0
    · subst hb; rw [gl_zero, Nat.gcd_zero_right]
    · rw [show 2 * k + 1 + (j + 1) = (2 * k + 1 + j) + 1 by omega, gl_step hb]
      have e1 : Nat.gcd a b = Nat.gcd b (a % b) := by rw [Nat.gcd_comm a b, Nat.gcd_rec b a, Nat.gcd_comm]
      rw [e1]
      exact gl_ge j k b (a % b) (Nat.lt_trans (Nat.mod_lt a (by omega)) h)
theorem gl_400 {a b : Nat} (h : b < 2 ^ 199) : gl 400 a b = Nat.gcd a b := gl_ge 1 199 a b h
end Lw
end

section
namespace Lw
open Mi
open PySem (PyData)
theorem q_gcd {T : Tab} {C : CallF} {me : Mi.Env} {h : MH} (f : PySem.Str) (es : MEs) (e : me.ex = none) : evE T C me (.gcd f es) h = M.bind (evEs T C me es) (fun vs => gcdM vs) h := by simp [evE, e]
theorem gcd_ok {h : MH} (i j : Int) : gcdM [.int i, .int j] h = .ok (.int (gI i j)) h := (rfl)
theorem tpt2 {me : Mi.Env} {h : MH} {i j : Nat} {a b : Mi.MV} : setTL me (.tup [a, b]) [i, j] h = .ok ((me.set i a).set j b) h := (rfl)
theorem log_lt {x : Int} {k : Nat} (h : x.natAbs < 2 ^ (k + 1)) : x.natAbs.log2 < k + 1 := by
  by_cases z : x.natAbs = 0
  · rw [z]; simp
  · exact (Nat.log2_lt z).mpr h
theorem o_mulB {h : MH} {i j : Int} (hi : i.natAbs < 2 ^ 250) (hj : j.natAbs < 2 ^ 250) : binM .mul (.int i) (.int j) h = .ok (.int (i * j)) h := by
  have h1 : i.natAbs.log2 < 250 := log_lt (k := 249) hi
  have h2 : j.natAbs.log2 < 250 := log_lt (k := 249) hj
  show (if small i ∨ small j ∨ i.natAbs.log2 + j.natAbs.log2 < 1000000 then M.pure (.int (i * j)) else M.stuck : M Mi.MV) h = _
  rw [if_pos (.inr (.inr (by omega)))]; rfl
theorem o_divB {h : MH} {i : Int} {g : Nat} (hg : 0 < g) (h2 : g < 2 ^ 250) : binM .fdiv (.int i) (.int (g : Int)) h = .ok (.int (i / (g : Int))) h :=
  o_fdiv _ _ (by omega) (Nat.lt_trans (log_lt (x := (g : Int)) (k := 249) (by rw [Int.natAbs_natCast]; exact h2)) (by decide))
theorem gI_le {n d : Int} (hd : d ≠ 0) : gI n d ≤ d.natAbs := Nat.le_of_dvd (by omega) (Nat.gcd_dvd_right _ _)
def isFr : PyData → Bool
  | .tuple [.int n, .int d] => decide (0 < d) && decide (gI n d = 1)
  | _ => false
section
variable {S : List Nat} {n : Nat} {h : MH} {v w : Mi.MV} {d d1 d2 : PyData}
theorem isFr_two : isFr (.tuple [d1, d2]) = (isId d1 && (isId d2 && (match d1, d2 with | .int a, .int b => decide (0 < b) && decide (gI a b = 1) | _, _ => false))) := by
  cases d1 <;> cases d2 <;> simp [isFr, isId]
theorem isFr_not {ds : List PyData} (e : ¬ ds.length = 2) : isFr (.tuple ds) = false := by
  unfold isFr
  split
  · rename_i z; cases z; simp at e
  · rfl
theorem isFr_inv (a : V S h v d) (e : isFr d = true) : ∃ p : Int × Int, d = pD p ∧ v = pV p ∧ red p := by
  unfold isFr at e
  split at e
  · rename_i x y
    simp only [Bool.and_eq_true, decide_eq_true_eq] at e
    obtain ⟨u, w, d1, d2, rfl, e1, a1, a2⟩ := a.two rfl
    cases e1
    cases a1
    cases a2
    exact ⟨(x, y), rfl, rfl, e.1, e.2⟩
  · cases e
theorem isFr_red {p : Int × Int} (r : red p) : isFr (pD p) = true := by
  show (decide (0 < p.2) && decide (gI p.1 p.2 = 1)) = true
  rw [decide_eq_true r.pos, decide_eq_true (show gI p.1 p.2 = 1 from r.cop)]; rfl
theorem e_isfr (a : V S h v d) : Mi.run τ.tab (n+3) f_is_fraction [v] h = .ok (.bl (isFr d)) h := by
  have e1 := isi_tuple (T := τ.tab) a
  refine eq_of_wr ?_
  refine run_w { sl := [some v, none, none], ex := none } body_is_fraction rfl rfl rfl ?_
  unfold body_is_fraction
  cases d with
  | tuple ds =>
    (try simp only [XN, Mi.Env.set, Nat.reduceAdd, Nat.reduceLeDiff, x_ct, x_cf, e1, isTd, a.lenq (ds := ds) rfl, Bool.not_true, Bool.not_false])
    refine cnd_dn (fun hz => ?_) (fun hz => ?_)
    · (try simp only [XN, Mi.Env.set, Nat.reduceAdd, Nat.reduceLeDiff, x_ct, x_cf])
      exact ⟨by rw [isFr_not (by omega)], by trivial⟩
    · obtain ⟨u, w, d1, d2, rfl, rfl, a1, a2⟩ := a.two (by omega)
      rw [isFr_two]
      (try simp only [XN, Mi.Env.set, Nat.reduceAdd, Nat.reduceLeDiff, x_ct, x_cf, tpt2, k_is_value, e_value (n := n) a1])
      cases q1 : isId d1 with
      | false => (try simp only [XN, Mi.Env.set, Nat.reduceAdd, Nat.reduceLeDiff, x_ct, x_cf]); simp
      | true =>
      (try simp only [XN, Mi.Env.set, Nat.reduceAdd, Nat.reduceLeDiff, x_ct, x_cf, k_is_value, e_value (n := n) a2])
      cases q2 : isId d2 with
      | false => (try simp only [XN, Mi.Env.set, Nat.reduceAdd, Nat.reduceLeDiff, x_ct, x_cf]); simp
      | true =>
      obtain ⟨x, rfl⟩ : ∃ x, d1 = .int x := by cases d1 <;> first | exact ⟨_, rfl⟩ | cases q1
      obtain ⟨y, rfl⟩ : ∃ y, d2 = .int y := by cases d2 <;> first | exact ⟨_, rfl⟩ | cases q2
      cases a1
      cases a2
      (try simp only [XN, Mi.Env.set, Nat.reduceAdd, Nat.reduceLeDiff, x_ct, x_cf, Bool.true_and])
      refine cnd_d (fun q => ?_) (fun q => ?_)
      · (try simp only [XN, Mi.Env.set, Nat.reduceAdd, Nat.reduceLeDiff, x_ct, x_cf, q_gcd, gcd_ok])
        refine ⟨?_, trivial⟩
        rw [decide_eq_true q]
        congr 1
        by_cases z : gI x y = 1
        · rw [decide_eq_true z, decide_eq_true (show ((gI x y : Nat) : Int) = 1 by omega)]; rfl
        · rw [decide_eq_false z, decide_eq_false (show ¬ ((gI x y : Nat) : Int) = 1 by omega)]; rfl
      · exact ⟨by rw [decide_eq_false q]; rfl, rfl⟩
  | _ => (try simp only [XN, Mi.Env.set, Nat.reduceAdd, Nat.reduceLeDiff, x_ct, x_cf, e1, isTd, Bool.not_true, Bool.not_false]); first | exact ⟨rfl, rfl⟩ | simp [isFr]
theorem frac_ok {x y : Int} (hd : y ≠ 0) (hb : y.natAbs < 2 ^ 250) : Mi.run τ.tab (n+3) f_fraction [.int x, .int y] h = .ok (pV (low x y)) h := by
  have two : (2 : Nat) ≤ PySem.sizeLine := by rw [PySem.sizeLine_eq]; decide
  have hg := gI_pos (n := x) hd
  have hg2 : gI x y < 2 ^ 250 := Nat.lt_of_le_of_lt (gI_le hd) hb
  refine eq_of_wr ?_
  refine run_w { sl := [some (.int x), some (.int y), none], ex := none } body_fraction rfl rfl rfl ?_
  unfold body_fraction
  have i1 := e_value (n := n) (V.int (S := []) (h := h) x)
  have i2 := e_value (n := n) (V.int (S := []) (h := h) y)
  (try simp only [XN, Mi.Env.set, Nat.reduceAdd, Nat.reduceLeDiff, x_ct, x_cf, k_is_value, i1, i2, isId, Bool.not_true])
  refine cnd_d (fun q => absurd q hd) (fun q => ?_)
  (try simp only [XN, Mi.Env.set, Nat.reduceAdd, Nat.reduceLeDiff, x_ct, x_cf, q_gcd, gcd_ok])
  have ev : low x y = if 0 < y then (x / (gI x y : Int), y / (gI x y : Int)) else (-x / (gI x y : Int), -y / (gI x y : Int)) := rfl
  refine cnd_d (fun q2 => ?_) (fun q2 => ?_)
  · rw [if_pos q2] at ev
    (try simp only [XN, Mi.Env.set, Nat.reduceAdd, Nat.reduceLeDiff, x_ct, x_cf, o_divB hg hg2, two, if_true])
    exact ⟨by rw [ev]; rfl, trivial⟩
  · rw [if_neg q2] at ev
    (try simp only [XN, Mi.Env.set, Nat.reduceAdd, Nat.reduceLeDiff, x_ct, x_cf, q_neg, o_divB hg hg2, two, if_true])
    exact ⟨by rw [ev]; rfl, trivial⟩
/-- what a fraction may be made of -/
def numB (d1 d2 : PyData) : Bool := isId d1 && (isId d2 && (match d2 with | .int y => !decide (y = 0) | _ => true))
theorem z_rFr {P : Po} {C : CallF} {me : Mi.Env} {h : MH} (es : MEs) (e : me.ex = none) : Wt P (exS τ.tab C (.raise "InvalidFraction" es) me h) = Wr (fun vs h => 1 = vs.length ∧ P.ex "InvalidFraction" h.next me (h.new (.exc "InvalidFraction" ((["given"] : List PySem.Str).zip vs).reverse))) (fun c n h => P.ex c n me h) (evEs τ.tab C me es h) := z_raise "InvalidFraction" es ["given"] e txf_InvalidFraction (by simp)
theorem z_rFo {P : Po} {C : CallF} {me : Mi.Env} {h : MH} (es : MEs) (e : me.ex = none) : Wt P (exS τ.tab C (.raise "InvalidFold" es) me h) = Wr (fun vs h => 1 = vs.length ∧ P.ex "InvalidFold" h.next me (h.new (.exc "InvalidFold" ((["given"] : List PySem.Str).zip vs).reverse))) (fun c n h => P.ex c n me h) (evEs τ.tab C me es h) := z_raise "InvalidFold" es ["given"] e txf_InvalidFold (by simp)
theorem frac_no {Q : Mi.MV → MH → Prop} {E : PySem.Str → Nat → MH → Prop} (a1 : V S h v d1) (a2 : V S h w d2) (hn : numB d1 d2 = false) (no : ∀ k h', h.next ≤ k → At h' k (.exc "InvalidFraction" [("given", .tup [v, w])]) → Fr [] h h' → E "InvalidFraction" k h') : Wr Q E (Mi.run τ.tab (n+3) f_fraction [v, w] h) := by
  have two : (2 : Nat) ≤ PySem.sizeLine := by rw [PySem.sizeLine_eq]; decide
  refine run_w { sl := [some v, some w, none], ex := none } body_fraction rfl rfl rfl ?_
  unfold body_fraction
  have fin : True ∧ E "InvalidFraction" h.next (h.new (.exc "InvalidFraction" ((["given"] : List PySem.Str).zip [.tup [v, w]]).reverse)) := ⟨trivial, no _ _ (Nat.le_refl _) At.new Fr.new⟩
  (try simp only [XN, Mi.Env.set, Nat.reduceAdd, Nat.reduceLeDiff, x_ct, x_cf, k_is_value, e_value (n := n) a1, e_value (n := n) a2])
  cases q1 : isId d1 with
  | false => (try simp only [XN, Mi.Env.set, Nat.reduceAdd, Nat.reduceLeDiff, x_ct, x_cf, Bool.not_false, z_rFr, two, if_true]); exact fin
  | true =>
    cases q2 : isId d2 with
    | false => (try simp only [XN, Mi.Env.set, Nat.reduceAdd, Nat.reduceLeDiff, x_ct, x_cf, Bool.not_true, Bool.not_false, k_is_value, e_value (n := n) a2, q2, z_rFr, two, if_true]); exact fin
    | true =>
      obtain ⟨y, rfl⟩ : ∃ y, d2 = .int y := by cases d2 <;> first | exact ⟨_, rfl⟩ | cases q2
      cases a2
      have hy : y = 0 := by
        unfold numB at hn
        rw [q1, q2, Bool.true_and, Bool.true_and] at hn
        simpa using hn
      have i2 := e_value (n := n) (V.int (S := []) (h := h) y)
      (try simp only [XN, Mi.Env.set, Nat.reduceAdd, Nat.reduceLeDiff, x_ct, x_cf, Bool.not_true, k_is_value, i2, q2, decide_eq_true hy, z_rFr, two, if_true])
      exact fin
theorem fors_t2 {P : Po} {C : CallF} {me : Mi.Env} {h : MH} {i : Nat} {b : MSs} {x y : Mi.MV} (H : Wt (P.wl fun me1 h1 => Wt (P.wl fun me2 h2 => P.nx me2 h2) (exB τ.tab C b (me1.set i y) h1)) (exB τ.tab C b (me.set i x) h)) : Wt P (forL (stepF τ.tab C (.nm i) b) (.tup [x, y]) 2 0 me h) := by
  have f2 : ∀ me2 h2, P.nx me2 h2 → Wt P (forL (stepF τ.tab C (.nm i) b) (.tup [x, y]) 0 2 me2 h2) := fun me2 h2 z => by rw [forL_0 rfl]; exact z
  have f1 : ∀ me1 h1, Wt (P.wl fun me2 h2 => P.nx me2 h2) (exB τ.tab C b (me1.set i y) h1) → Wt P (forL (stepF τ.tab C (.nm i) b) (.tup [x, y]) 1 1 me1 h1) := fun me1 h1 z => by
    refine forL_1 (v := y) rfl ?_
    rw [stepF_nm]
    exact Wt_mono z (fun me2 h2 z2 => f2 me2 h2 z2) (fun _ _ => id) (fun _ _ => id) (fun me2 h2 z2 => f2 me2 h2 z2) (fun _ _ _ _ => id)
  refine forL_1 (v := x) rfl ?_
  rw [stepF_nm]
  exact Wt_mono H (fun me1 h1 z => f1 me1 h1 z) (fun _ _ => id) (fun _ _ => id) (fun me1 h1 z => f1 me1 h1 z) (fun _ _ _ _ => id)
theorem chk_w {Q : Mi.MV → MH → Prop} {E : PySem.Str → Nat → MH → Prop} (a1 : V S h v d1) (a2 : V S h w d2) (ok : isFr d1 = true → isFr d2 = true → Q .non h)
    (no : ∀ x, (isFr d1 = false ∧ x = v ∨ isFr d1 = true ∧ isFr d2 = false ∧ x = w) → ∀ k h', h.next ≤ k → At h' k (.exc "InvalidFraction" [("given", x)]) → Fr [] h h' → E "InvalidFraction" k h') : Wr Q E (Mi.run τ.tab (n+4) f_check_fractions [v, w] h) := by
  have two : (2 : Nat) ≤ PySem.sizeLine := by rw [PySem.sizeLine_eq]; decide
  refine run_w { sl := [some v, some w, none], ex := none } body_check_fractions rfl rfl rfl ?_
  unfold body_check_fractions
  (try simp only [XN, Mi.Env.set, Nat.reduceAdd, Nat.reduceLeDiff, x_ct, x_cf, two, if_true])
  refine fors_t2 ?_
  (try simp only [XN, Mi.Env.set, Nat.reduceAdd, Nat.reduceLeDiff, x_ct, x_cf, k_is_fraction, e_isfr (n := n) a1])
  cases q1 : isFr d1 with
  | false =>
    (try simp only [XN, Mi.Env.set, Nat.reduceAdd, Nat.reduceLeDiff, x_ct, x_cf, Bool.not_false, z_rFr])
    exact ⟨trivial, no v (.inl ⟨q1, rfl⟩) _ _ (Nat.le_refl _) At.new Fr.new⟩
  | true =>
    (try simp only [XN, Mi.Env.set, Nat.reduceAdd, Nat.reduceLeDiff, x_ct, x_cf, Bool.not_true, k_is_fraction, e_isfr (n := n) a2])
    cases q2 : isFr d2 with
    | false =>
      (try simp only [XN, Mi.Env.set, Nat.reduceAdd, Nat.reduceLeDiff, x_ct, x_cf, Bool.not_false, z_rFr])
      exact ⟨trivial, no w (.inr ⟨q1, q2, rfl⟩) _ _ (Nat.le_refl _) At.new Fr.new⟩
    | true =>
      (try simp only [XN, Mi.Env.set, Nat.reduceAdd, Nat.reduceLeDiff, x_ct, x_cf, Bool.not_true])
      exact ok q1 q2
end
end Lw
end

section
namespace Lw
open Mi
open PySem (PyData)
structure sz (k : Nat) (p : Int × Int) : Prop where
  a : p.1.natAbs < 2 ^ k
  b : p.2.natAbs < 2 ^ k
def opP (p q : Int × Int) : Int × Int := low (p.1 * q.2 + q.1 * p.2) (p.2 * q.2)
def opM (p q : Int × Int) : Int × Int := low (p.1 * q.2 - q.1 * p.2) (p.2 * q.2)
def opT (p q : Int × Int) : Int × Int := low (p.1 * q.1) (p.2 * q.2)
def opB (p q : Int × Int) : Int × Int := low (p.1 * q.2) (p.2 * q.1)
def opC (p q : Int × Int) : Int := if q.1 * p.2 < p.1 * q.2 then 1 else if p.1 * q.2 < q.1 * p.2 then -1 else 0
def dueM (w : Int) (p q : Int × Int) : Mi.MV := if w = 0 then pV (opP p q) else if w = 1 then pV (opM p q) else if w = 2 then pV (opT p q) else if w = 3 then (if q.1 = 0 then .non else pV (opB p q)) else .int (opC p q)
def dueD (w : Int) (p q : Int × Int) : PyData := if w = 0 then pD (opP p q) else if w = 1 then pD (opM p q) else if w = 2 then pD (opT p q) else if w = 3 then (if q.1 = 0 then .none else pD (opB p q)) else .int (opC p q)
theorem pV_v {S : List Nat} {h : MH} (p : Int × Int) : V S h (pV p) (pD p) := .tup (.cons (.int _) (.cons (.int _) .nil))
theorem due_v {S : List Nat} {h : MH} (w : Int) (p q : Int × Int) : V S h (dueM w p q) (dueD w p q) := by
  unfold dueM dueD
  (repeat' split) <;> first | exact pV_v _ | exact .non | exact .int _
theorem mul_le {x y : Int} {a b : Nat} (hx : x.natAbs < a) (hy : y.natAbs < b) : (x * y).natAbs < a * b := by
  rw [Int.natAbs_mul]
  exact Nat.mul_lt_mul'' hx hy
theorem mul_pos {x y : Int} (h : 0 < x) (k : 0 < y) : x * y ≠ 0 := by
  have := Int.mul_pos h k
  omega
section
variable {S : List Nat} {n : Nat} {h : MH} {v w : Mi.MV} {d d1 d2 : PyData} {p q : Int × Int}
theorem p0 {p : Int × Int} {h : MH} : subM (pV p) (.int 0) h = .ok (.int p.1) h := sub_t0
theorem p1 {p : Int × Int} {h : MH} : subM (pV p) (.int 1) h = .ok (.int p.2) h := sub_t1
theorem m250 {x y : Int} (hx : x.natAbs < 2 ^ 170) (hy : y.natAbs < 2 ^ 80) : (x * y).natAbs < 2 ^ 250 := Nat.lt_of_lt_of_le (mul_le hx hy) (by decide)
theorem up250 {x : Int} (h : x.natAbs < 2 ^ 170) : x.natAbs < 2 ^ 250 := Nat.lt_trans h (by decide)
theorem up251 {x : Int} (h : x.natAbs < 2 ^ 80) : x.natAbs < 2 ^ 250 := Nat.lt_trans h (by decide)
theorem chk_ok (rp : red p) (rq : red q) : Mi.run τ.tab (n+4) f_check_fractions [pV p, pV q] h = .ok .non h := by
  refine eq_of_wr2 ?_
  refine chk_w (n := n) (pV_v (S := []) p) (pV_v (S := []) q) (fun _ _ => rfl) (fun x hx => ?_)
  rcases hx with ⟨z, _⟩ | ⟨_, z, _⟩
  · rw [isFr_red rp] at z; cases z
  · rw [isFr_red rq] at z; cases z
theorem plus_ok (rp : red p) (rq : red q) (sp : sz 170 p) (sq : sz 80 q) : Mi.run τ.tab (n+5) f_plus [pV p, pV q] h = .ok (pV (opP p q)) h := by
  have u1 := up250 sp.a
  have u2 := up250 sp.b
  have u3 := up251 sq.a
  have u4 := up251 sq.b
  refine eq_of_wr ?_
  refine run_w { sl := [some (pV p), some (pV q)], ex := none } body_plus rfl rfl rfl ?_
  unfold body_plus
  (try simp only [XN, Mi.Env.set, Nat.reduceAdd, Nat.reduceLeDiff, x_ct, x_cf, k_check_fractions, chk_ok (n := n) rp rq, p0, p1, o_mulB u1 u4, o_mulB u3 u2, o_mulB u2 u4, o_mulB u1 u3, k_fraction, frac_ok (n := n+1) (x := p.1 * q.2 + q.1 * p.2) (y := p.2 * q.2) (mul_pos rp.pos rq.pos) (m250 sp.b sq.b)])
  exact ⟨rfl, trivial⟩
theorem minus_ok (rp : red p) (rq : red q) (sp : sz 170 p) (sq : sz 80 q) : Mi.run τ.tab (n+5) f_minus [pV p, pV q] h = .ok (pV (opM p q)) h := by
  have u1 := up250 sp.a
  have u2 := up250 sp.b
  have u3 := up251 sq.a
  have u4 := up251 sq.b
  refine eq_of_wr ?_
  refine run_w { sl := [some (pV p), some (pV q)], ex := none } body_minus rfl rfl rfl ?_
  unfold body_minus
  (try simp only [XN, Mi.Env.set, Nat.reduceAdd, Nat.reduceLeDiff, x_ct, x_cf, k_check_fractions, chk_ok (n := n) rp rq, p0, p1, o_mulB u1 u4, o_mulB u3 u2, o_mulB u2 u4, o_mulB u1 u3, k_fraction, frac_ok (n := n+1) (x := p.1 * q.2 - q.1 * p.2) (y := p.2 * q.2) (mul_pos rp.pos rq.pos) (m250 sp.b sq.b)])
  exact ⟨rfl, trivial⟩
theorem times_ok (rp : red p) (rq : red q) (sp : sz 170 p) (sq : sz 80 q) : Mi.run τ.tab (n+5) f_times [pV p, pV q] h = .ok (pV (opT p q)) h := by
  have u1 := up250 sp.a
  have u2 := up250 sp.b
  have u3 := up251 sq.a
  have u4 := up251 sq.b
  refine eq_of_wr ?_
  refine run_w { sl := [some (pV p), some (pV q)], ex := none } body_times rfl rfl rfl ?_
  unfold body_times
  (try simp only [XN, Mi.Env.set, Nat.reduceAdd, Nat.reduceLeDiff, x_ct, x_cf, k_check_fractions, chk_ok (n := n) rp rq, p0, p1, o_mulB u1 u4, o_mulB u3 u2, o_mulB u2 u4, o_mulB u1 u3, k_fraction, frac_ok (n := n+1) (x := p.1 * q.1) (y := p.2 * q.2) (mul_pos rp.pos rq.pos) (m250 sp.b sq.b)])
  exact ⟨rfl, trivial⟩
theorem by_ok (rp : red p) (rq : red q) (sp : sz 170 p) (sq : sz 80 q) : Mi.run τ.tab (n+5) f_by [pV p, pV q] h = .ok (if q.1 = 0 then .non else pV (opB p q)) h := by
  have u1 := up250 sp.a
  have u2 := up250 sp.b
  have u3 := up251 sq.a
  have u4 := up251 sq.b
  refine eq_of_wr ?_
  refine run_w { sl := [some (pV p), some (pV q)], ex := none } body_by rfl rfl rfl ?_
  unfold body_by
  (try simp only [XN, Mi.Env.set, Nat.reduceAdd, Nat.reduceLeDiff, x_ct, x_cf, k_check_fractions, chk_ok (n := n) rp rq, p0, p1])
  refine cnd_d (fun z => ?_) (fun z => ?_)
  · rw [if_pos z]
    (try simp only [XN, Mi.Env.set, Nat.reduceAdd, Nat.reduceLeDiff, x_ct, x_cf])
    exact ⟨trivial, trivial⟩
  · rw [if_neg z]
    have hne : p.2 * q.1 ≠ 0 := fun e => by
      rcases Int.mul_eq_zero.mp e with e | e
      · have := rp.pos; omega
      · exact z e
    (try simp only [XN, Mi.Env.set, Nat.reduceAdd, Nat.reduceLeDiff, x_ct, x_cf, p0, p1, o_mulB u1 u4, o_mulB u2 u3, k_fraction, frac_ok (n := n+1) (x := p.1 * q.2) (y := p.2 * q.1) hne (m250 sp.b sq.a)])
    exact ⟨rfl, trivial⟩
theorem compared_ok (rp : red p) (rq : red q) (sp : sz 170 p) (sq : sz 80 q) : Mi.run τ.tab (n+5) f_compared [pV p, pV q] h = .ok (.int (opC p q)) h := by
  have u1 := up250 sp.a
  have u2 := up250 sp.b
  have u3 := up251 sq.a
  have u4 := up251 sq.b
  have two : (2 : Nat) ≤ PySem.sizeLine := by rw [PySem.sizeLine_eq]; decide
  refine eq_of_wr ?_
  refine run_w { sl := [some (pV p), some (pV q), none, none], ex := none } body_compared rfl rfl rfl ?_
  unfold body_compared
  have e : (if decide (q.1 * p.2 < p.1 * q.2) = true then (1 : Int) else 0) - (if decide (p.1 * q.2 < q.1 * p.2) = true then (1 : Int) else 0) = opC p q := by
    unfold opC
    by_cases z1 : q.1 * p.2 < p.1 * q.2
    · have z2 : ¬ p.1 * q.2 < q.1 * p.2 := by omega
      simp [z1, z2]
    · by_cases z2 : p.1 * q.2 < q.1 * p.2 <;> simp [z1, z2]
  (try simp only [XN, Mi.Env.set, Nat.reduceAdd, Nat.reduceLeDiff, x_ct, x_cf, k_check_fractions, chk_ok (n := n) rp rq, p0, p1, o_mulB u1 u4, o_mulB u3 u2, two, if_true, sw2])
  rw [e]
  exact ⟨rfl, trivial⟩
/-! ### the law's own -/
theorem shared_ok {x y : Int} (hb : y.natAbs < 2 ^ 199) : Mi.run τ.tab (n+1) f_law_shared [.int x, .int y] h = .ok (.int (gI x y : Int)) h := by
  have two : (2 : Nat) ≤ PySem.sizeLine := by rw [PySem.sizeLine_eq]; decide
  refine eq_of_wr ?_
  refine run_w { sl := [some (.int x), some (.int y), none, none, none, none], ex := none } body_law_shared rfl rfl rfl ?_
  unfold body_law_shared
  have ea : ∀ z : Int, (if z < 0 then -z else z) = ((z.natAbs : Nat) : Int) := fun z => by split <;> omega
  have r400 : rngOk 400 := by unfold rngOk; omega
  (try simp only [XN, Mi.Env.set, Nat.reduceAdd, Nat.reduceLeDiff, x_ct, x_cf, two, if_true, sw2, ea, q_rng1, r400])
  have hg := gl_400 (a := x.natAbs) hb
  refine for_rg (fun i me1 h1 => ∃ (a b : Nat) (o4 o5 : Option Mi.MV), me1 = { sl := [some (.int x), some (.int y), some (.int (a : Int)), some (.int (b : Int)), o4, o5], ex := none } ∧ gl (400 - i) a b = gI x y ∧ h1 = h) ⟨_, _, _, _, rfl, hg, rfl⟩ ?_ ?_
  · rintro i me1 h1 hi ⟨a, b, o4, o5, rfl, g, rfl⟩
    have hi' : i < 400 := hi
    rw [stepF_nm]
    (try simp only [XN, Mi.Env.set, Nat.reduceAdd, Nat.reduceLeDiff, x_ct, x_cf])
    refine cnd_d (fun z => ?_) (fun z => ?_)
    · have hb0 : b = 0 := by omega
      subst hb0
      rw [gl_zero] at g
      (try simp only [XN, Mi.Env.set, Nat.reduceAdd, Nat.reduceLeDiff, x_ct, x_cf])
      exact ⟨by rw [g], trivial⟩
    · have hb0 : b ≠ 0 := by omega
      rw [show 400 - i = (400 - (i + 1)) + 1 by omega, gl_step hb0] at g
      (try simp only [XN, Mi.Env.set, Nat.reduceAdd, Nat.reduceLeDiff, x_ct, x_cf, o_mod (a : Int) (b : Int) (by omega)])
      exact ⟨b, a % b, some (.int (0 + (i : Int))), some (.int (b : Int)), by rw [Int.natCast_emod], g, trivial⟩
  · rintro me1 h1 ⟨a, b, o4, o5, rfl, g, rfl⟩
    (try simp only [XN, Mi.Env.set, Nat.reduceAdd, Nat.reduceLeDiff, x_ct, x_cf])
    rw [show 400 - (400 : Int).toNat = 0 from rfl] at g
    exact ⟨by rw [← g]; rfl, trivial⟩
theorem lowest_ok {x y : Int} (hy : y ≠ 0) (hb : y.natAbs < 2 ^ 199) : Mi.run τ.tab (n+2) f_law_lowest [.int x, .int y] h = .ok (pV (low x y)) h := by
  have two : (2 : Nat) ≤ PySem.sizeLine := by rw [PySem.sizeLine_eq]; decide
  have hg := gI_pos (n := x) hy
  have hg2 : gI x y < 2 ^ 250 := Nat.lt_of_le_of_lt (gI_le hy) (Nat.lt_trans hb (by decide))
  refine eq_of_wr ?_
  refine run_w { sl := [some (.int x), some (.int y), none, none], ex := none } body_law_lowest rfl rfl rfl ?_
  unfold body_law_lowest
  have ev : low x y = if 0 < y then (x / (gI x y : Int), y / (gI x y : Int)) else (-x / (gI x y : Int), -y / (gI x y : Int)) := rfl
  have s1 : small 1 := by unfold small; omega
  have s2 : small (-1) := by unfold small; omega
  (try simp only [XN, Mi.Env.set, Nat.reduceAdd, Nat.reduceLeDiff, x_ct, x_cf, k_law_shared, shared_ok (n := n) hb])
  refine cnd_d (fun q2 => ?_) (fun q2 => ?_)
  · rw [if_neg (show ¬ 0 < y by omega)] at ev
    (try simp only [XN, Mi.Env.set, Nat.reduceAdd, Nat.reduceLeDiff, x_ct, x_cf, q_neg, s2, true_or, o_divB hg hg2, two, if_true, Int.neg_mul, Int.one_mul])
    exact ⟨by rw [ev]; rfl, trivial⟩
  · rw [if_pos (show 0 < y by omega)] at ev
    (try simp only [XN, Mi.Env.set, Nat.reduceAdd, Nat.reduceLeDiff, x_ct, x_cf, s1, true_or, o_divB hg hg2, two, if_true, Int.one_mul])
    exact ⟨by rw [ev]; rfl, trivial⟩
end
end Lw
end

section
namespace Lw
open Mi
open PySem (PyData)
theorem back1 {p q : Int × Int} (rp : red p) (rq : red q) : opM (opP p q) q = p ∧ red (opP p q) := by
  have hne := mul_pos rp.pos rq.pos
  obtain ⟨r, e⟩ := low_ok (n := p.1 * q.2 + q.1 * p.2) hne
  refine ⟨low_uq rp (mul_pos r.pos rq.pos) ?_, r⟩
  show p.1 * ((opP p q).2 * q.2) = ((opP p q).1 * q.2 - q.1 * (opP p q).2) * p.2
  have e' : (opP p q).1 * (p.2 * q.2) = (p.1 * q.2 + q.1 * p.2) * (opP p q).2 := e
  generalize opP p q = x at e'
  grind
theorem back2 {p q : Int × Int} (rp : red p) (rq : red q) : opP (opM p q) q = p ∧ red (opM p q) := by
  have hne := mul_pos rp.pos rq.pos
  obtain ⟨r, e⟩ := low_ok (n := p.1 * q.2 - q.1 * p.2) hne
  refine ⟨low_uq rp (mul_pos r.pos rq.pos) ?_, r⟩
  show p.1 * ((opM p q).2 * q.2) = ((opM p q).1 * q.2 + q.1 * (opM p q).2) * p.2
  have e' : (opM p q).1 * (p.2 * q.2) = (p.1 * q.2 - q.1 * p.2) * (opM p q).2 := e
  generalize opM p q = x at e'
  grind
theorem ne_mul {a b : Int} (h : 0 < a) (k : b ≠ 0) : a * b ≠ 0 := fun e => by
  rcases Int.mul_eq_zero.mp e with e | e
  · omega
  · exact k e
theorem back3 {p q : Int × Int} (rp : red p) (rq : red q) (hq : q.1 ≠ 0) : opB (opT p q) q = p ∧ red (opT p q) := by
  have hne := mul_pos rp.pos rq.pos
  obtain ⟨r, e⟩ := low_ok (n := p.1 * q.1) hne
  refine ⟨low_uq rp (ne_mul r.pos hq) ?_, r⟩
  show p.1 * ((opT p q).2 * q.1) = ((opT p q).1 * q.2) * p.2
  have e' : (opT p q).1 * (p.2 * q.2) = (p.1 * q.1) * (opT p q).2 := e
  generalize opT p q = x at e'
  grind
theorem back4 {p q : Int × Int} (rp : red p) (rq : red q) (hq : q.1 ≠ 0) : opT (opB p q) q = p ∧ red (opB p q) := by
  have hne := ne_mul rp.pos hq
  obtain ⟨r, e⟩ := low_ok (n := p.1 * q.2) hne
  refine ⟨low_uq rp (mul_pos r.pos rq.pos) ?_, r⟩
  show p.1 * ((opB p q).2 * q.2) = ((opB p q).1 * q.1) * p.2
  have e' : (opB p q).1 * (p.2 * q.1) = (p.1 * q.2) * (opB p q).2 := e
  generalize opB p q = x at e'
  grind
theorem tpt4 {me : Mi.Env} {h : MH} {i j k l : Nat} {a b c d : Mi.MV} : setTL me (.tup [a, b, c, d]) [i, j, k, l] h = .ok ((((me.set i a).set j b).set k c).set l d) h := (rfl)
section
variable {S : List Nat} {n : Nat} {h : MH} {v w : Mi.MV} {d d1 d2 : PyData} {p q : Int × Int} {Q : Mi.MV → MH → Prop} {E : PySem.Str → Nat → MH → Prop}
/-- the first of two that is no fraction -/
def bad (d1 d2 : PyData) (v w x : Mi.MV) : Prop := isFr d1 = false ∧ x = v ∨ isFr d1 = true ∧ isFr d2 = false ∧ x = w
theorem due_ok (rp : red p) (rq : red q) (sp : sz 170 p) (sq : sz 80 q) (m1 : (p.2 * q.2).natAbs < 2 ^ 199) (m2 : (p.2 * q.1).natAbs < 2 ^ 199) {i : Int} : Mi.run τ.tab (n+3) f_law_due [pV p, pV q, .int i] h = .ok (dueM i p q) h := by
  have u1 := up250 sp.a
  have u2 := up250 sp.b
  have u3 := up251 sq.a
  have u4 := up251 sq.b
  have four : (4 : Nat) ≤ PySem.sizeLine := by rw [PySem.sizeLine_eq]; decide
  have hne := mul_pos rp.pos rq.pos
  refine eq_of_wr ?_
  refine run_w { sl := [some (pV p), some (pV q), some (.int i), none, none, none, none], ex := none } body_law_due rfl rfl rfl ?_
  unfold body_law_due
  (try simp only [XN, Mi.Env.set, Nat.reduceAdd, Nat.reduceLeDiff, x_ct, x_cf, p0, p1, four, if_true, tpt4])
  unfold dueM
  refine cnd_d (fun z => ?_) (fun z => ?_)
  · rw [if_pos z]
    (try simp only [XN, Mi.Env.set, Nat.reduceAdd, Nat.reduceLeDiff, x_ct, x_cf, o_mulB u1 u4, o_mulB u3 u2, o_mulB u2 u4, k_law_lowest, lowest_ok (n := n) hne m1])
    exact ⟨rfl, trivial⟩
  rw [if_neg z]
  (try simp only [XN, Mi.Env.set, Nat.reduceAdd, Nat.reduceLeDiff, x_ct, x_cf])
  refine cnd_d (fun z => ?_) (fun z => ?_)
  · rw [if_pos z]
    (try simp only [XN, Mi.Env.set, Nat.reduceAdd, Nat.reduceLeDiff, x_ct, x_cf, o_mulB u1 u4, o_mulB u3 u2, o_mulB u2 u4, k_law_lowest, lowest_ok (n := n) hne m1])
    exact ⟨rfl, trivial⟩
  rw [if_neg z]
  (try simp only [XN, Mi.Env.set, Nat.reduceAdd, Nat.reduceLeDiff, x_ct, x_cf])
  refine cnd_d (fun z => ?_) (fun z => ?_)
  · rw [if_pos z]
    (try simp only [XN, Mi.Env.set, Nat.reduceAdd, Nat.reduceLeDiff, x_ct, x_cf, o_mulB u1 u3, o_mulB u2 u4, k_law_lowest, lowest_ok (n := n) hne m1])
    exact ⟨rfl, trivial⟩
  rw [if_neg z]
  (try simp only [XN, Mi.Env.set, Nat.reduceAdd, Nat.reduceLeDiff, x_ct, x_cf])
  refine cnd_d (fun z => ?_) (fun z => ?_)
  · rw [if_pos z]
    (try simp only [XN, Mi.Env.set, Nat.reduceAdd, Nat.reduceLeDiff, x_ct, x_cf])
    refine cnd_d (fun z2 => ?_) (fun z2 => ?_)
    · rw [if_pos z2]
      (try simp only [XN, Mi.Env.set, Nat.reduceAdd, Nat.reduceLeDiff, x_ct, x_cf])
      exact ⟨trivial, trivial⟩
    · rw [if_neg z2]
      (try simp only [XN, Mi.Env.set, Nat.reduceAdd, Nat.reduceLeDiff, x_ct, x_cf, o_mulB u1 u4, o_mulB u2 u3, k_law_lowest, lowest_ok (n := n) (ne_mul rp.pos z2) m2])
      exact ⟨rfl, trivial⟩
  rw [if_neg z]
  unfold opC
  (try simp only [XN, Mi.Env.set, Nat.reduceAdd, Nat.reduceLeDiff, x_ct, x_cf, o_mulB u1 u4, o_mulB u3 u2])
  refine cnd_d (fun z2 => ?_) (fun z2 => ?_)
  · rw [if_pos z2]
    (try simp only [XN, Mi.Env.set, Nat.reduceAdd, Nat.reduceLeDiff, x_ct, x_cf])
    exact ⟨trivial, trivial⟩
  rw [if_neg z2]
  (try simp only [XN, Mi.Env.set, Nat.reduceAdd, Nat.reduceLeDiff, x_ct, x_cf, o_mulB u1 u4, o_mulB u3 u2])
  refine cnd_d (fun z2 => ?_) (fun z2 => ?_)
  · rw [if_pos z2]
    (try simp only [XN, Mi.Env.set, Nat.reduceAdd, Nat.reduceLeDiff, x_ct, x_cf, q_neg])
    exact ⟨trivial, trivial⟩
  rw [if_neg z2]
  (try simp only [XN, Mi.Env.set, Nat.reduceAdd, Nat.reduceLeDiff, x_ct, x_cf])
  exact ⟨trivial, trivial⟩
theorem plus_w (a1 : V S h v d1) (a2 : V S h w d2) (z1 : ∀ p, d1 = pD p → sz 170 p) (z2 : ∀ p, d2 = pD p → sz 80 p) (ok : ∀ p q, d1 = pD p → d2 = pD q → v = pV p → w = pV q → red p → red q → Q (pV (opP p q)) h) (no : ∀ x, bad d1 d2 v w x → ∀ k h', h.next ≤ k → At h' k (.exc "InvalidFraction" [("given", x)]) → Fr [] h h' → E "InvalidFraction" k h') : Wr Q E (Mi.run τ.tab (n+5) f_plus [v, w] h) := by
  by_cases hc : isFr d1 = true ∧ isFr d2 = true
  · obtain ⟨p, rfl, rfl, rp⟩ := isFr_inv a1 hc.1
    obtain ⟨q, rfl, rfl, rq⟩ := isFr_inv a2 hc.2
    rw [plus_ok (n := n) rp rq (z1 p rfl) (z2 q rfl)]
    exact ok p q rfl rfl rfl rfl rp rq
  · refine run_w { sl := [some v, some w], ex := none } body_plus rfl rfl rfl ?_
    unfold body_plus
    (try simp only [XN, Mi.Env.set, Nat.reduceAdd, Nat.reduceLeDiff, x_ct, x_cf, k_check_fractions])
    exact chk_w (n := n) a1 a2 (fun e1 e2 => absurd ⟨e1, e2⟩ hc) no
theorem minus_w (a1 : V S h v d1) (a2 : V S h w d2) (z1 : ∀ p, d1 = pD p → sz 170 p) (z2 : ∀ p, d2 = pD p → sz 80 p) (ok : ∀ p q, d1 = pD p → d2 = pD q → v = pV p → w = pV q → red p → red q → Q (pV (opM p q)) h) (no : ∀ x, bad d1 d2 v w x → ∀ k h', h.next ≤ k → At h' k (.exc "InvalidFraction" [("given", x)]) → Fr [] h h' → E "InvalidFraction" k h') : Wr Q E (Mi.run τ.tab (n+5) f_minus [v, w] h) := by
  by_cases hc : isFr d1 = true ∧ isFr d2 = true
  · obtain ⟨p, rfl, rfl, rp⟩ := isFr_inv a1 hc.1
    obtain ⟨q, rfl, rfl, rq⟩ := isFr_inv a2 hc.2
    rw [minus_ok (n := n) rp rq (z1 p rfl) (z2 q rfl)]
    exact ok p q rfl rfl rfl rfl rp rq
  · refine run_w { sl := [some v, some w], ex := none } body_minus rfl rfl rfl ?_
    unfold body_minus
    (try simp only [XN, Mi.Env.set, Nat.reduceAdd, Nat.reduceLeDiff, x_ct, x_cf, k_check_fractions])
    exact chk_w (n := n) a1 a2 (fun e1 e2 => absurd ⟨e1, e2⟩ hc) no
theorem times_w (a1 : V S h v d1) (a2 : V S h w d2) (z1 : ∀ p, d1 = pD p → sz 170 p) (z2 : ∀ p, d2 = pD p → sz 80 p) (ok : ∀ p q, d1 = pD p → d2 = pD q → v = pV p → w = pV q → red p → red q → Q (pV (opT p q)) h) (no : ∀ x, bad d1 d2 v w x → ∀ k h', h.next ≤ k → At h' k (.exc "InvalidFraction" [("given", x)]) → Fr [] h h' → E "InvalidFraction" k h') : Wr Q E (Mi.run τ.tab (n+5) f_times [v, w] h) := by
  by_cases hc : isFr d1 = true ∧ isFr d2 = true
  · obtain ⟨p, rfl, rfl, rp⟩ := isFr_inv a1 hc.1
    obtain ⟨q, rfl, rfl, rq⟩ := isFr_inv a2 hc.2
    rw [times_ok (n := n) rp rq (z1 p rfl) (z2 q rfl)]
    exact ok p q rfl rfl rfl rfl rp rq
  · refine run_w { sl := [some v, some w], ex := none } body_times rfl rfl rfl ?_
    unfold body_times
    (try simp only [XN, Mi.Env.set, Nat.reduceAdd, Nat.reduceLeDiff, x_ct, x_cf, k_check_fractions])
    exact chk_w (n := n) a1 a2 (fun e1 e2 => absurd ⟨e1, e2⟩ hc) no
theorem by_w (a1 : V S h v d1) (a2 : V S h w d2) (z1 : ∀ p, d1 = pD p → sz 170 p) (z2 : ∀ p, d2 = pD p → sz 80 p) (ok : ∀ p q, d1 = pD p → d2 = pD q → v = pV p → w = pV q → red p → red q → Q ((if q.1 = 0 then .non else pV (opB p q))) h) (no : ∀ x, bad d1 d2 v w x → ∀ k h', h.next ≤ k → At h' k (.exc "InvalidFraction" [("given", x)]) → Fr [] h h' → E "InvalidFraction" k h') : Wr Q E (Mi.run τ.tab (n+5) f_by [v, w] h) := by
  by_cases hc : isFr d1 = true ∧ isFr d2 = true
  · obtain ⟨p, rfl, rfl, rp⟩ := isFr_inv a1 hc.1
    obtain ⟨q, rfl, rfl, rq⟩ := isFr_inv a2 hc.2
    rw [by_ok (n := n) rp rq (z1 p rfl) (z2 q rfl)]
    exact ok p q rfl rfl rfl rfl rp rq
  · refine run_w { sl := [some v, some w], ex := none } body_by rfl rfl rfl ?_
    unfold body_by
    (try simp only [XN, Mi.Env.set, Nat.reduceAdd, Nat.reduceLeDiff, x_ct, x_cf, k_check_fractions])
    exact chk_w (n := n) a1 a2 (fun e1 e2 => absurd ⟨e1, e2⟩ hc) no
theorem compared_w (a1 : V S h v d1) (a2 : V S h w d2) (z1 : ∀ p, d1 = pD p → sz 170 p) (z2 : ∀ p, d2 = pD p → sz 80 p) (ok : ∀ p q, d1 = pD p → d2 = pD q → v = pV p → w = pV q → red p → red q → Q ((.int (opC p q))) h) (no : ∀ x, bad d1 d2 v w x → ∀ k h', h.next ≤ k → At h' k (.exc "InvalidFraction" [("given", x)]) → Fr [] h h' → E "InvalidFraction" k h') : Wr Q E (Mi.run τ.tab (n+5) f_compared [v, w] h) := by
  by_cases hc : isFr d1 = true ∧ isFr d2 = true
  · obtain ⟨p, rfl, rfl, rp⟩ := isFr_inv a1 hc.1
    obtain ⟨q, rfl, rfl, rq⟩ := isFr_inv a2 hc.2
    rw [compared_ok (n := n) rp rq (z1 p rfl) (z2 q rfl)]
    exact ok p q rfl rfl rfl rfl rp rq
  · refine run_w { sl := [some v, some w, none, none], ex := none } body_compared rfl rfl rfl ?_
    unfold body_compared
    (try simp only [XN, Mi.Env.set, Nat.reduceAdd, Nat.reduceLeDiff, x_ct, x_cf, k_check_fractions])
    exact chk_w (n := n) a1 a2 (fun e1 e2 => absurd ⟨e1, e2⟩ hc) no
theorem told_w {i : Int} {nm : Bool} (a1 : V S h v d1) (a2 : V S h w d2) (z1 : ∀ p, d1 = pD p → sz 170 p) (z2 : ∀ p, d2 = pD p → sz 80 p) (ok : ∀ p q, d1 = pD p → d2 = pD q → v = pV p → w = pV q → red p → red q → Q (dueM i p q) h) (no : ∀ x, bad d1 d2 v w x → ∀ k h', h.next ≤ k → At h' k (.exc "InvalidFraction" [("given", x)]) → Fr [] h h' → E "InvalidFraction" k h') : Wr Q E (Mi.run τ.tab (n+6) f_law_told [v, w, .int i, .bl nm] h) := by
  refine run_w { sl := [some v, some w, some (.int i), some (.bl nm)], ex := none } body_law_told rfl rfl rfl ?_
  unfold body_law_told
  unfold dueM at ok
  (try simp only [XN, Mi.Env.set, Nat.reduceAdd, Nat.reduceLeDiff, x_ct, x_cf])
  refine cnd_d (fun z => ?_) (fun z => ?_)
  · simp only [if_pos z] at ok
    cases nm
    · (try simp only [XN, Mi.Env.set, Nat.reduceAdd, Nat.reduceLeDiff, x_ct, x_cf, k_plus, k_plus_1])
      exact plus_w (n := n) a1 a2 z1 z2 ok no
    · (try simp only [XN, Mi.Env.set, Nat.reduceAdd, Nat.reduceLeDiff, x_ct, x_cf, k_plus, k_plus_1])
      exact plus_w (n := n) a1 a2 z1 z2 ok no
  simp only [if_neg z] at ok
  (try simp only [XN, Mi.Env.set, Nat.reduceAdd, Nat.reduceLeDiff, x_ct, x_cf])
  refine cnd_d (fun z => ?_) (fun z => ?_)
  · simp only [if_pos z] at ok
    cases nm
    · (try simp only [XN, Mi.Env.set, Nat.reduceAdd, Nat.reduceLeDiff, x_ct, x_cf, k_minus, k_minus_1])
      exact minus_w (n := n) a1 a2 z1 z2 ok no
    · (try simp only [XN, Mi.Env.set, Nat.reduceAdd, Nat.reduceLeDiff, x_ct, x_cf, k_minus, k_minus_1])
      exact minus_w (n := n) a1 a2 z1 z2 ok no
  simp only [if_neg z] at ok
  (try simp only [XN, Mi.Env.set, Nat.reduceAdd, Nat.reduceLeDiff, x_ct, x_cf])
  refine cnd_d (fun z => ?_) (fun z => ?_)
  · simp only [if_pos z] at ok
    cases nm
    · (try simp only [XN, Mi.Env.set, Nat.reduceAdd, Nat.reduceLeDiff, x_ct, x_cf, k_times, k_times_1])
      exact times_w (n := n) a1 a2 z1 z2 ok no
    · (try simp only [XN, Mi.Env.set, Nat.reduceAdd, Nat.reduceLeDiff, x_ct, x_cf, k_times, k_times_1])
      exact times_w (n := n) a1 a2 z1 z2 ok no
  simp only [if_neg z] at ok
  (try simp only [XN, Mi.Env.set, Nat.reduceAdd, Nat.reduceLeDiff, x_ct, x_cf])
  refine cnd_d (fun z => ?_) (fun z => ?_)
  · simp only [if_pos z] at ok
    cases nm
    · (try simp only [XN, Mi.Env.set, Nat.reduceAdd, Nat.reduceLeDiff, x_ct, x_cf, k_by, k_by_1])
      exact by_w (n := n) a1 a2 z1 z2 ok no
    · (try simp only [XN, Mi.Env.set, Nat.reduceAdd, Nat.reduceLeDiff, x_ct, x_cf, k_by, k_by_1])
      exact by_w (n := n) a1 a2 z1 z2 ok no
  simp only [if_neg z] at ok
  cases nm
  · (try simp only [XN, Mi.Env.set, Nat.reduceAdd, Nat.reduceLeDiff, x_ct, x_cf, k_compared, k_compared_1])
    exact compared_w (n := n) a1 a2 z1 z2 ok no
  · (try simp only [XN, Mi.Env.set, Nat.reduceAdd, Nat.reduceLeDiff, x_ct, x_cf, k_compared, k_compared_1])
    exact compared_w (n := n) a1 a2 z1 z2 ok no
def hs12 : MHs := .cons "InvalidFraction" 4 (.cons (.ret (.lst (.cons (.str "fraction") (.cons (.efld 4 "given") .nil)))) .nil) .nil
theorem hdl_4 {P : Po} {k : Nat} {h0 : MH} {x y z t g : Mi.MV} (A : At h k (.exc "InvalidFraction" [("given", g)])) (F : Fr [] h0 h) (H : ∀ m h', h0.next ≤ m → At h' m (.lst [.str "fraction", g]) → Fr [] h0 h' → P.rt (.ref m) h') : Wt P (exH τ.tab hs12 "InvalidFraction" k { sl := [some x, some y, some z, some t, none], ex := none } h) := by
  unfold hs12
  refine z_h1 tsub_InvalidFraction_InvalidFraction (by rw [txf_InvalidFraction]; rfl) (by simp) ?_
  have e1 := q_efld (T := τ.tab) (C := τ.tab.hc) (me := { sl := [some x, some y, some z, some t, none], ex := some (4, k) }) (f := "given") (i := 4) rfl (by simp) txa_given A.get (v := g) (by simp [List.lookup_cons])
  (try simp only [XN, Mi.Env.set, Nat.reduceAdd, Nat.reduceLeDiff, x_ct, x_cf, x_newL, e1])
  show P.rt _ _
  exact H _ _ F.nx At.new (F.trans Fr.new)
theorem asked_w {i : Int} {nm : Bool} (a1 : V S h v d1) (a2 : V S h w d2) (z1 : ∀ p, d1 = pD p → sz 170 p) (z2 : ∀ p, d2 = pD p → sz 80 p)
    (ok : ∀ p q, d1 = pD p → d2 = pD q → red p → red q → ∀ u h', V [] h' u (.list [.str "told", dueD i p q]) → Fr [] h h' → Q u h')
    (no : ∀ x, bad d1 d2 v w x → ∀ m h', h.next ≤ m → At h' m (.lst [.str "fraction", x]) → Fr [] h h' → Q (.ref m) h') : Wr Q E (Mi.run τ.tab (n+7) f_law_asked [v, w, .int i, .bl nm] h) := by
  refine run_w { sl := [some v, some w, some (.int i), some (.bl nm), none], ex := none } body_law_asked rfl rfl rfl ?_
  unfold body_law_asked
  (try simp only [XN, Mi.Env.set, Nat.reduceAdd, Nat.reduceLeDiff, x_ct, x_cf, k_law_told])
  refine told_w (n := n) a1 a2 z1 z2 (fun p q e1 e2 _ _ rp rq => ?_) (fun x hx k h1 hk A F => ?_)
  · (try simp only [XN, Mi.Env.set, Nat.reduceAdd, Nat.reduceLeDiff, x_ct, x_cf])
    exact newL_v (S := []) (.cons (.str "told") (.cons (due_v i p q) .nil)) (by simp) (by simp) fun u h1 a F => ok p q e1 e2 rp rq u h1 a F
  · exact hdl_4 A F fun m h' hm A' F' => no x hx m h' hm A' F'
end
end Lw
end

section
namespace Lw
open Mi
open PySem (PyData)
/-- data that can be shown, with longer ints -/
structure Sb (d : PyData) (w z f : Nat) : Prop where
  sh : d.showable = true
  ls : d.leavesShort 100 = true
  wt : d.weight ≤ w
  dp : d.depth ≤ z
  fz : fz d ≤ f
structure Sbs (ds : List PyData) (w z f : Nat) : Prop where
  sh : PyData.showableAll ds = true
  ls : PyData.leavesShortAll 100 ds = true
  wt : PyData.weightAll ds ≤ w
  dp : PyData.depthAll ds ≤ z
  fz : fzs ds ≤ f
theorem Sb.up {d : PyData} {w z f w' z' f' : Nat} (a : Sb d w z f) (hw : w ≤ w') (hz : z ≤ z') (hf : f ≤ f') : Sb d w' z' f' := ⟨a.sh, a.ls, Nat.le_trans a.wt hw, Nat.le_trans a.dp hz, Nat.le_trans a.fz hf⟩
theorem sb_non : Sb .none 0 0 1 := ⟨rfl, rfl, Nat.le_refl _, Nat.le_refl _, Nat.le_refl _⟩
theorem sb_bl (b : Bool) : Sb (.bool b) 0 0 1 := ⟨rfl, rfl, Nat.le_refl _, Nat.le_refl _, Nat.le_refl _⟩
theorem sb_int {i : Int} (hi : i.natAbs < 2 ^ 250) : Sb (.int i) 260 0 1 := by
  have hlog : i.natAbs.log2 < 250 := log_lt (k := 249) hi
  refine ⟨?_, ?_, ?_, Nat.le_refl _, by simp [Lw.fz]⟩
  · simp only [PyData.showable, decide_eq_true_eq]; omega
  · have e := PySem.int_text_length_le10 (k := 98) (by decide) (Nat.lt_trans hi (by decide : 2 ^ 250 < 10 ^ 98))
    simp only [PyData.leavesShort, decide_eq_true_eq]
    show (PySem.Str.ofString (toString i)).length ≤ 100
    rw [PySem.ofString_length]
    omega
  · simp only [PyData.weight]; split <;> omega
theorem sb_str {x : PySem.Str} {w : Nat} (e : (x.cps.toList.all (fun c => decide (c < 16 ^ 8)) && decide (x.cps.size ≤ w)) = true) : Sb (.str x) w 0 1 := by
  have : (∀ c ∈ x.cps.toList, c < 16 ^ 8) ∧ x.cps.size ≤ w := by
    simp only [Bool.and_eq_true, List.all_eq_true, decide_eq_true_eq] at e
    exact e
  exact ⟨rfl, by simpa only [PyData.leavesShort, List.all_eq_true, decide_eq_true_eq] using this.1, this.2, Nat.le_refl _, by simp [Lw.fz]⟩
theorem sbs_nil {z : Nat} : Sbs [] 0 z 0 := ⟨rfl, rfl, Nat.le_refl _, Nat.zero_le _, Nat.le_refl _⟩
theorem sbs_cons {d : PyData} {ds : List PyData} {w w' z f f' : Nat} (a : Sb d w z f) (b : Sbs ds w' z f') : Sbs (d :: ds) (w + 1 + w') z (max f f' + 1) := by
  refine ⟨by simp only [PyData.showableAll, a.sh, b.sh, Bool.and_self], by simp only [PyData.leavesShortAll, a.ls, b.ls, Bool.and_self], ?_, ?_, ?_⟩
  · simp only [PyData.weightAll]; have := a.wt; have := b.wt; omega
  · simp only [PyData.depthAll]; have := a.dp; have := b.dp; omega
  · simp only [fzs]; have := a.fz; have := b.fz; omega
theorem sb_lst {ds : List PyData} {w z f : Nat} (a : Sbs ds w z f) : Sb (.list ds) w (z + 1) (f + 1) :=
  ⟨by simp only [PyData.showable, a.sh], by simp only [PyData.leavesShort, a.ls], by simp only [PyData.weight]; exact a.wt, by simp only [PyData.depth]; have := a.dp; omega, by simp only [Lw.fz]; have := a.fz; omega⟩
theorem sb_tup {ds : List PyData} {w z f : Nat} (a : Sbs ds w z f) : Sb (.tuple ds) w (z + 1) (f + 1) :=
  ⟨by simp only [PyData.showable, a.sh], by simp only [PyData.leavesShort, a.ls], by simp only [PyData.weight]; exact a.wt, by simp only [PyData.depth]; have := a.dp; omega, by simp only [Lw.fz]; have := a.fz; omega⟩
theorem V.repB {S : List Nat} {h : MH} {T : Tab} {v : Mi.MV} {d : PyData} {w z f : Nat} (a : V S h v d) (s : Sb d w z f) (hf : f ≤ 4000) (hw : w ≤ 100000) (hz : z ≤ 1000) : biM T .repr [v] h = .ok (.str d.shown) h := by
  have e := a.toD (k := dpt) (by have := s.fz; unfold dpt; omega)
  have hl := PyData.shown_le 100 (by decide) d s.ls
  have h1 := s.wt
  have h2 := s.dp
  have hx : d.shown.length ≤ PySem.sizeLine := by
    rw [PySem.sizeLine_eq]
    have : (100 + 2) * d.weight ≤ 102 * 100000 := Nat.mul_le_mul_left 102 (by omega)
    omega
  show (match Mi.toD h dpt v with
    | some d => if d.showable = true ∧ d.shown.length ≤ PySem.sizeLine ∧ d.depth ≤ 1000 then Res.ok (Mi.MV.str d.shown) h else Res.stuck
    | none => Res.stuck) = _
  rw [e]
  simp only [s.sh, hx, show d.depth ≤ 1000 by omega, and_self, if_true]
theorem sb_told : Sb (.str "told") 10 0 1 := sb_str (by decide +kernel)
theorem sb_p {p : Int × Int} (h : p.1.natAbs < 2 ^ 250 ∧ p.2.natAbs < 2 ^ 250) : Sb (pD p) 530 1 10 := (sb_tup (sbs_cons (sb_int h.1) (sbs_cons (sb_int h.2) sbs_nil))).up (by omega) (by omega) (by omega)
theorem low_lt {x y : Int} {k : Nat} (hy : y ≠ 0) (h1 : x.natAbs < k) (h2 : y.natAbs < k) : (low x y).1.natAbs < k ∧ (low x y).2.natAbs < k := by
  have := low_bd (n := x) hy
  omega
theorem add_lt {x y : Int} (h1 : x.natAbs < 2 ^ 249) (h2 : y.natAbs < 2 ^ 249) : (x + y).natAbs < 2 ^ 250 ∧ (x - y).natAbs < 2 ^ 250 := by omega
theorem m249 {x y : Int} (hx : x.natAbs < 2 ^ 169) (hy : y.natAbs < 2 ^ 80) : (x * y).natAbs < 2 ^ 249 := Nat.lt_of_lt_of_le (mul_le hx hy) (by decide)
theorem due_sb {i : Int} {p q : Int × Int} (rp : red p) (rq : red q) (sp : sz 169 p) (sq : sz 80 q) : Sb (dueD i p q) 530 1 10 := by
  have hne := mul_pos rp.pos rq.pos
  have a1 := m249 sp.a sq.b
  have a2 : (q.1 * p.2).natAbs < 2 ^ 249 := by rw [Int.mul_comm]; exact m249 sp.b sq.a
  have a3 := m249 sp.b sq.b
  have a4 := m249 sp.a sq.a
  have a5 := m249 sp.b sq.a
  unfold dueD
  split
  · exact sb_p (low_lt hne (add_lt a1 a2).1 (by omega))
  split
  · exact sb_p (low_lt hne (add_lt a1 a2).2 (by omega))
  split
  · exact sb_p (low_lt hne (by omega) (by omega))
  split
  · split
    · exact sb_non.up (by omega) (by omega) (by omega)
    · rename_i z
      exact sb_p (low_lt (ne_mul rp.pos z) (by omega) (by omega))
  · refine (sb_int ?_).up (by omega) (by omega) (by omega)
    unfold opC
    (repeat' split) <;> decide
theorem told_sb {d : PyData} (s : Sb d 530 1 10) : Sb (.list [.str "told", d]) 600 2 20 := (sb_lst (sbs_cons (sb_told.up (Nat.le_refl _) (Nat.zero_le 1) (Nat.le_refl _)) (sbs_cons s sbs_nil))).up (by omega) (by omega) (by omega)
theorem tt_shown : (PyData.list [.bool true, .bool true]).shown = ("[True, True]" : PySem.Str) := by decide +kernel
section
variable {S : List Nat} {n : Nat} {h : MH} {b : Nat} {N : Int}
theorem isB.nb {h : MH} {b : Nat} {N : Int} (B : isB h b N) : h.next ∉ [b] := by
  have := B.lt
  simp
  exact fun z => by rw [z] at this; exact Nat.lt_irrefl _ this
theorem ints_vm {h : MH} {S : List Nat} : ∀ L : List Int, Vs S h (L.map .int) (L.map PyData.int)
  | [] => .nil
  | k :: L => .cons (.int _) (ints_vm L)
/-- a draw among ints -/
theorem pickN {Q : Mi.MV → MH → Prop} {E : PySem.Str → Nat → MH → Prop} {me : Mi.Env} {m : Int} {ns : List Int} (hv : me.sl[0]?.getD none = some (.ref b)) (B : isB h b N) (hN : N < 2 ^ 31) (hm : m = ns.length) (h0 : 0 < m) (h1 : m < 1000) (H : ∀ t ∈ ns, ∀ h', isB h' b (N + 1) → Fr [b] h h' → Q (.int t) h') :
    Wr (fun x h => Wr Q E (M.bind (evE τ.tab (Mi.run τ.tab (n+1)) me (.call "_law_take" (.cons (.var 0) (.cons (.int m) .nil)) [] .nil [])) (fun y => subM x y) h)) E (newL (ns.map .int) h) := by
  refine newL_r (S := []) (h := h) (ints_vm ns) (by simp) (by rw [List.length_map]; omega) fun h1 _ A1 F1 _ => ?_
  have B1 := B.fr0 F1
  have hb : h.next ≠ b := fun z => by have := B.lt; omega
  (try simp only [XN, Mi.Env.set, Nat.reduceAdd, Nat.reduceLeDiff, x_ct, x_cf, q_callA, hv, k_law_take])
  refine Wr_of (take_sp (n := n) B1 (by omega) (by omega) (by omega)) ?_
  rintro _ h2 ⟨i, rfl, i0, i1, B2, F2⟩
  obtain ⟨x, ⟨t, ht, rfl⟩, s2⟩ := pick_mem (P := fun x => ∃ t ∈ ns, x = Mi.MV.int t) (A1.fr F2 (by simpa using hb)) i0 (by rw [List.length_map]; omega) (by
    intro x hx
    obtain ⟨t, ht, rfl⟩ := List.mem_map.mp hx
    exact ⟨t, ht, rfl⟩)
  rw [s2]
  exact H t ht h2 B2 (F1.up.trans F2)
/-- a draw among values -/
theorem pickV {Q : Mi.MV → MH → Prop} {E : PySem.Str → Nat → MH → Prop} {me : Mi.Env} {m : Int} {xs : List Mi.MV} {ds : List PyData} (hv : me.sl[0]?.getD none = some (.ref b)) (hbS : b ∈ S) (r : Vs S h xs ds) (hS : h.next ∉ S) (B : isB h b N) (hN : N < 2 ^ 31) (hm : m = ds.length) (h0 : 0 < m) (h1 : m < 1000) (H : ∀ u d h', d ∈ ds → V S h' u d → isB h' b (N + 1) → Fr [b] h h' → Q u h') :
    Wr (fun x h => Wr Q E (M.bind (evE τ.tab (Mi.run τ.tab (n+1)) me (.call "_law_take" (.cons (.var 0) (.cons (.int m) .nil)) [] .nil [])) (fun y => subM x y) h)) E (newL xs h) := by
  refine newL_v (S := S) r hS (by rw [r.len]; omega) fun v h1 a1 F1 => ?_
  have B1 := B.fr0 F1
  (try simp only [XN, Mi.Env.set, Nat.reduceAdd, Nat.reduceLeDiff, x_ct, x_cf, q_callA, hv, k_law_take])
  refine Wr_of (take_sp (n := n) B1 (by omega) (by omega) (by omega)) ?_
  rintro _ h2 ⟨i, rfl, i0, i1, B2, F2⟩
  have a2 := a1.fr (h' := h2) (F2.mono fun k hk => .inl (by simp at hk; subst hk; exact hbS))
  obtain ⟨x, y, q1, q2, w⟩ := a2.subq rfl i0 (by omega)
  rw [q1]
  exact H x y h2 (List.mem_of_getElem? q2) w B2 (F1.up.trans F2)
theorem number_sp (B : isB h b N) (hN : N < 2 ^ 30) : Sp (Mi.run τ.tab (n+2) f_law_number [.ref b] h) (fun v h' => ∃ i : Int, v = .int i ∧ i.natAbs ≤ 10 ^ 12 ∧ isB h' b (N + 4) ∧ Fr [b] h h') := by
  refine Sp_for fun Q E hQ => ?_
  refine run_w { sl := [some (.ref b), none], ex := none } body_law_number rfl rfl rfl ?_
  unfold body_law_number
  (try simp only [XN, Mi.Env.set, Nat.reduceAdd, Nat.reduceLeDiff, x_ct, x_cf, k_law_take])
  refine Wr_of (take_sp (n := n) B (by omega) (by omega) (by omega)) ?_
  rintro _ h1 ⟨way, rfl, w0, w1, B1, F1⟩
  (try simp only [XN, Mi.Env.set, Nat.reduceAdd, Nat.reduceLeDiff, x_ct, x_cf])
  refine cnd_d (fun _ => ?_) (fun _ => ?_)
  · (try simp only [XN, Mi.Env.set, Nat.reduceAdd, Nat.reduceLeDiff, x_ct, x_cf, q_neg])
    refine pickN (n := n) (ns := [0, 1, -1]) rfl B1 (by omega) rfl (by omega) (by omega) fun t ht h2 B2 F2 => ?_
    refine hQ _ _ ⟨t, rfl, ?_, B2.up (by omega), F1.trans F2⟩
    simp only [List.mem_cons, List.not_mem_nil, or_false] at ht
    rcases ht with rfl | rfl | rfl <;> decide
  (try simp only [XN, Mi.Env.set, Nat.reduceAdd, Nat.reduceLeDiff, x_ct, x_cf])
  refine cnd_d (fun _ => ?_) (fun _ => ?_)
  · (try simp only [XN, Mi.Env.set, Nat.reduceAdd, Nat.reduceLeDiff, x_ct, x_cf, q_neg])
    refine pickN (n := n) (ns := [2, -3]) rfl B1 (by omega) rfl (by omega) (by omega) fun t ht h2 B2 F2 => ?_
    have ht' : t = 2 ∨ t = -3 := by simpa using ht
    have st : small t := by unfold small; omega
    (try simp only [XN, Mi.Env.set, Nat.reduceAdd, Nat.reduceLeDiff, x_ct, x_cf, o_pow 10 11 (by decide) (by decide), k_law_take])
    refine Wr_of (take_sp (n := n) B2 (by omega) (by omega) (by omega)) ?_
    rintro _ h3 ⟨d, rfl, d0, d1, B3, F3⟩
    (try simp only [XN, Mi.Env.set, Nat.reduceAdd, Nat.reduceLeDiff, x_ct, x_cf, st, true_or])
    refine hQ _ _ ⟨_, rfl, ?_, B3.up (by omega), (F1.trans F2).trans F3⟩
    have e : (10 : Int) ^ (11 : Int).toNat = 100000000000 := by decide
    rw [e]
    rcases ht' with rfl | rfl <;> omega
  (try simp only [XN, Mi.Env.set, Nat.reduceAdd, Nat.reduceLeDiff, x_ct, x_cf])
  refine cnd_d (fun _ => ?_) (fun _ => ?_)
  · (try simp only [XN, Mi.Env.set, Nat.reduceAdd, Nat.reduceLeDiff, x_ct, x_cf, q_neg])
    refine pickN (n := n) (ns := [12, 60, -30, 36, 999999999999, 7]) rfl B1 (by omega) rfl (by omega) (by omega) fun t ht h2 B2 F2 => ?_
    refine hQ _ _ ⟨t, rfl, ?_, B2.up (by omega), F1.trans F2⟩
    simp only [List.mem_cons, List.not_mem_nil, or_false] at ht
    rcases ht with rfl | rfl | rfl | rfl | rfl | rfl <;> decide
  (try simp only [XN, Mi.Env.set, Nat.reduceAdd, Nat.reduceLeDiff, x_ct, x_cf, k_law_take])
  refine Wr_of (take_sp (n := n) B1 (by omega) (by omega) (by omega)) ?_
  rintro _ h3 ⟨d, rfl, d0, d1, B3, F3⟩
  (try simp only [XN, Mi.Env.set, Nat.reduceAdd, Nat.reduceLeDiff, x_ct, x_cf])
  exact hQ _ _ ⟨_, rfl, by omega, B3.up (by omega), F1.trans F3⟩
theorem fraction_sp (B : isB h b N) (hN : N < 2 ^ 29) : Sp (Mi.run τ.tab (n+3) f_law_fraction [.ref b] h) (fun v h' => ∃ p, v = pV p ∧ red p ∧ p.1.natAbs ≤ 10 ^ 12 ∧ p.2.natAbs ≤ 10 ^ 12 ∧ isB h' b (N + 8) ∧ Fr [b] h h') := by
  refine Sp_for fun Q E hQ => ?_
  refine run_w { sl := [some (.ref b), none], ex := none } body_law_fraction rfl rfl rfl ?_
  unfold body_law_fraction
  (try simp only [XN, Mi.Env.set, Nat.reduceAdd, Nat.reduceLeDiff, x_ct, x_cf, k_law_number])
  refine Wr_of (number_sp (n := n) B (by omega)) ?_
  rintro _ h1 ⟨d, rfl, d0, B1, F1⟩
  (try simp only [XN, Mi.Env.set, Nat.reduceAdd, Nat.reduceLeDiff, x_ct, x_cf, k_law_number])
  refine Wr_of (number_sp (n := n) B1 (by omega)) ?_
  rintro _ h2 ⟨x, rfl, x0, B2, F2⟩
  have fin : ∀ y : Int, y ≠ 0 → y.natAbs ≤ 10 ^ 12 → Wr Q E (Mi.run τ.tab (n+2) f_law_lowest [.int x, .int y] h2) := fun y hy hb => by
    rw [lowest_ok (n := n) hy (Nat.lt_of_le_of_lt hb (by decide))]
    have hb2 := low_bd (n := x) hy
    exact hQ _ _ ⟨_, rfl, (low_ok hy).1, by omega, by omega, B2.up (by omega), F1.trans F2⟩
  (try simp only [XN, Mi.Env.set, Nat.reduceAdd, Nat.reduceLeDiff, x_ct, x_cf, k_law_lowest])
  refine cnd_dn (fun q => ?_) (fun q => ?_)
  · (try simp only [XN, Mi.Env.set, Nat.reduceAdd, Nat.reduceLeDiff, x_ct, x_cf, k_law_lowest])
    exact fin d q d0
  · (try simp only [XN, Mi.Env.set, Nat.reduceAdd, Nat.reduceLeDiff, x_ct, x_cf, k_law_lowest])
    exact fin 9 (by decide) (by decide)
end
end Lw
end

section
namespace Lw
open Mi
open PySem (PyData)
theorem sbs_all {w z f : Nat} : ∀ ds : List PyData, (∀ x ∈ ds, Sb x w z f) → Sbs ds ((w + 1) * ds.length) z (f + ds.length)
  | [], _ => by simpa using (⟨rfl, rfl, by simp [PyData.weightAll], by simp [PyData.depthAll], by simp [fzs]⟩ : Sbs [] 0 z f)
  | d :: ds, H => by
    have a := H d (by simp)
    have b := sbs_all ds fun x hx => H x (by simp [hx])
    have c := sbs_cons a b
    refine ⟨c.sh, c.ls, ?_, c.dp, ?_⟩
    · have := c.wt; rw [List.length_cons, Nat.mul_add]; omega
    · have := c.fz; rw [List.length_cons]; omega
section
variable {S : List Nat} {n : Nat} {h : MH} {v w : Mi.MV} {d d1 d2 : PyData} {p q : Int × Int} {Q : Mi.MV → MH → Prop} {E : PySem.Str → Nat → MH → Prop}
theorem pD_inj {p q : Int × Int} (e : pD p = pD q) : p = q := by
  unfold pD at e
  simp only [PyData.tuple.injEq, List.cons.injEq, PyData.int.injEq, and_true] at e
  exact Prod.ext e.1 e.2
theorem asked_ok {i : Int} {nm : Bool} (rp : red p) (rq : red q) (sp : sz 170 p) (sq : sz 80 q) : Sp (Mi.run τ.tab (n+7) f_law_asked [pV p, pV q, .int i, .bl nm] h) (fun u h' => V [] h' u (.list [.str "told", dueD i p q]) ∧ Fr [] h h') := by
  refine Sp_for fun Q E hQ => ?_
  refine asked_w (n := n) (pV_v (S := []) p) (pV_v (S := []) q) (fun x e => pD_inj e ▸ sp) (fun x e => pD_inj e ▸ sq) (fun x y e1 e2 _ _ u h' a F => ?_) (fun x hx => ?_)
  · have := pD_inj e1; subst this
    have := pD_inj e2; subst this
    exact hQ _ _ ⟨a, F⟩
  · rcases hx with ⟨z, _⟩ | ⟨_, z, _⟩
    · rw [isFr_red rp] at z; cases z
    · rw [isFr_red rq] at z; cases z
structure big (p : Int × Int) : Prop where
  a : p.1.natAbs ≤ 2 * 10 ^ 36
  b : p.2.natAbs ≤ 2 * 10 ^ 36
structure sml (p : Int × Int) : Prop where
  a : p.1.natAbs ≤ 10 ^ 12
  b : p.2.natAbs ≤ 10 ^ 12
theorem big.sz {k : Nat} (b : big p) (hk : 2 * 10 ^ 36 < 2 ^ k) : sz k p := ⟨Nat.lt_of_le_of_lt b.a hk, Nat.lt_of_le_of_lt b.b hk⟩
theorem sml.sz {k : Nat} (b : sml p) (hk : 10 ^ 12 < 2 ^ k) : sz k p := ⟨Nat.lt_of_le_of_lt b.a hk, Nat.lt_of_le_of_lt b.b hk⟩
theorem mul_le2 {x y : Int} {a c : Nat} (hx : x.natAbs ≤ a) (hy : y.natAbs ≤ c) : (x * y).natAbs ≤ a * c := by
  rw [Int.natAbs_mul]
  exact Nat.mul_le_mul hx hy
theorem low_sz {x y : Int} (hy : y ≠ 0) (h1 : x.natAbs ≤ 8 * 10 ^ 48) (h2 : y.natAbs ≤ 8 * 10 ^ 48) : sz 169 (low x y) := by
  have := low_bd (n := x) hy
  exact ⟨Nat.lt_of_le_of_lt (Nat.le_trans this.1 h1) (by decide), Nat.lt_of_le_of_lt (Nat.le_trans this.2 h2) (by decide)⟩
theorem sz.up {k l : Nat} (s : sz k p) (h : 2 ^ k ≤ 2 ^ l) : sz l p := ⟨Nat.lt_of_lt_of_le s.a h, Nat.lt_of_lt_of_le s.b h⟩
theorem pair_right_sp (rp : red p) (rq : red q) (bp : big p) (bq : sml q) : Sp (Mi.run τ.tab (n+8) f_law_pair_right [pV p, pV q] h) (fun r h' => r = .bl true ∧ Fr [] h h') := by
  refine Sp_for fun Q E hQ => ?_
  have sp := bp.sz (k := 170) (by decide)
  have sp9 := bp.sz (k := 169) (by decide)
  have sq := bq.sz (k := 80) (by decide)
  have c1 := mul_le2 bp.a bq.b
  have c2 : (q.1 * p.2).natAbs ≤ 2 * 10 ^ 36 * 10 ^ 12 := by rw [Int.mul_comm]; exact mul_le2 bp.b bq.a
  have c3 := mul_le2 bp.b bq.b
  have c4 := mul_le2 bp.a bq.a
  have c5 := mul_le2 bp.b bq.a
  have m1 : (p.2 * q.2).natAbs < 2 ^ 199 := Nat.lt_of_le_of_lt c3 (by decide)
  have m2 : (p.2 * q.1).natAbs < 2 ^ 199 := Nat.lt_of_le_of_lt c5 (by decide)
  have hne := mul_pos rp.pos rq.pos
  have r5 : rngOk 5 := by unfold rngOk; omega
  refine run_w { sl := [some (pV p), some (pV q), none, none, none, none, none], ex := none } body_law_pair_right rfl rfl rfl ?_
  unfold body_law_pair_right
  (try simp only [XN, Mi.Env.set, Nat.reduceAdd, Nat.reduceLeDiff, x_ct, x_cf])
  refine newL_r (S := []) (.cons (.bl false) (.cons (.bl true) .nil)) (by simp) (by simp) fun h1 a1 A1 F1 _ => ?_
  (try simp only [XN, Mi.Env.set, Nat.reduceAdd, Nat.reduceLeDiff, x_ct, x_cf, it_lst A1, sz_lst A1])
  refine for_v (S := []) (ds := [.bool false, .bool true]) (fun j me1 h' => ∃ (o2 o3 o4 : Option Mi.MV), me1 = { sl := [some (pV p), some (pV q), o2, o3, o4, none, none], ex := none }) A1 (.cons (.bl false) (.cons (.bl true) .nil)) (by simp) ⟨_, _, _, rfl⟩ ?_ ?_
  · rintro j x dx me1 h2 hj hdx F2 ax ⟨o2, o3, o4, rfl⟩
    obtain ⟨nm, rfl⟩ : ∃ nm, dx = .bool nm := by
      have := List.mem_of_getElem? hdx
      simp only [List.mem_cons, List.not_mem_nil, or_false] at this
      rcases this with rfl | rfl <;> exact ⟨_, rfl⟩
    cases ax
    rw [stepF_nm]
    (try simp only [XN, Mi.Env.set, Nat.reduceAdd, Nat.reduceLeDiff, x_ct, x_cf, q_rng1, r5, if_true])
    refine for_rg (fun i me1 h' => ∃ (o3 o4 : Option Mi.MV), me1 = { sl := [some (pV p), some (pV q), some (.bl nm), o3, o4, none, none], ex := none } ∧ Fr [] h2 h') ⟨_, _, rfl, Fr.refl⟩ ?_ ?_
    · rintro i me1 h3 hi ⟨o3, o4, rfl, F3⟩
      rw [stepF_nm]
      generalize (0 + (i : Int)) = iw
      have sd := told_sb (due_sb (i := iw) rp rq sp9 sq)
      (try simp only [XN, Mi.Env.set, Nat.reduceAdd, Nat.reduceLeDiff, x_ct, x_cf, k_law_due, due_ok (n := n+4) (i := iw) rp rq sp sq m1 m2])
      refine newL_v (S := []) (.cons (.str "told") (.cons (due_v iw p q) .nil)) (by simp) (by simp) fun v4 h4 a4 F4 => ?_
      (try simp only [XN, Mi.Env.set, Nat.reduceAdd, Nat.reduceLeDiff, x_ct, x_cf, a4.repB (T := τ.tab) sd (by omega) (by omega) (by omega), k_law_asked])
      refine Wr_of (asked_ok (n := n) (nm := nm) (i := iw) rp rq sp sq) ?_
      rintro u5 h5 ⟨a5, F5⟩
      (try simp only [XN, Mi.Env.set, Nat.reduceAdd, Nat.reduceLeDiff, x_ct, x_cf, a5.repB (T := τ.tab) sd (by omega) (by omega) (by omega), decide_true, eq_self, Bool.not_true, k_law_asked])
      refine Wr_of (asked_ok (n := n) (nm := !nm) (i := iw) rp rq sp sq) ?_
      rintro u6 h6 ⟨a6, F6⟩
      (try simp only [XN, Mi.Env.set, Nat.reduceAdd, Nat.reduceLeDiff, x_ct, x_cf, a6.repB (T := τ.tab) sd (by omega) (by omega) (by omega), decide_true, eq_self, Bool.not_true])
      exact ⟨_, _, rfl, ((F3.trans F4).trans F5).trans F6⟩
    · rintro me1 h3 ⟨o3, o4, rfl, F3⟩
      exact ⟨⟨_, _, _, rfl⟩, F3⟩
  · rintro me1 h2 F2 ⟨o2, o3, o4, rfl⟩
    obtain ⟨b1, x1⟩ := back1 rp rq
    obtain ⟨b2, x2⟩ := back2 rp rq
    have z1 : sz 170 (opP p q) := (low_sz hne (by omega) (by omega)).up (by decide)
    have z2 : sz 170 (opM p q) := (low_sz hne (by omega) (by omega)).up (by decide)
    have last : ∀ (k : Nat) (v5 : Mi.MV) (h5 : MH), (k = 2 ∨ k = 4) → V [] h5 v5 (.list (List.replicate k (pD p))) → Fr [] h h5 → Wt (Po.fn Q E) (exB τ.tab (Mi.run τ.tab (n+7)) (.cons (.asg (.nm 6) (.lst (.cons (.call "is_fraction" (.cons (.var 0) .nil) [] .nil []) (.cons (.call "is_fraction" .nil ["value"] (.cons (.var 1) .nil) [0]) .nil)))) (.cons (.ret (.and (.cmp .eq (.bi .repr (.cons (.var 5) .nil)) (.bi .repr (.cons (.bin .mul (.lst (.cons (.var 0) .nil)) (.bi .len (.cons (.var 5) .nil))) .nil))) (.cmp .eq (.bi .repr (.cons (.var 6) .nil)) (.str "[True, True]")))) .nil)) { sl := [some (pV p), some (pV q), o2, o3, o4, some v5, none], ex := none } h5) := by
      intro k v5 h5 hk a5 F5
      have i1 := e_isfr (n := n+4) (pV_v (S := []) (h := h5) p)
      have i2 := e_isfr (n := n+4) (pV_v (S := []) (h := h5) q)
      rw [isFr_red rp] at i1
      rw [isFr_red rq] at i2
      (try simp only [XN, Mi.Env.set, Nat.reduceAdd, Nat.reduceLeDiff, x_ct, x_cf, k_is_fraction, k_is_fraction_1, i1, i2])
      refine newL_v (S := []) (ds := [.bool true, .bool true]) (.cons (.bl true) (.cons (.bl true) .nil)) (by simp) (by simp) fun v6 h6 a6 F6 => ?_
      have sl : Sb (.list (List.replicate k (pD p))) 3000 3 50 := by
        have := sbs_all (w := 530) (z := 1) (f := 10) (List.replicate k (pD p)) fun x hx => by
          rw [List.eq_of_mem_replicate hx]
          exact sb_p ⟨Nat.lt_trans sp.a (by decide), Nat.lt_trans sp.b (by decide)⟩
        rw [List.length_replicate] at this
        refine (sb_lst this).up ?_ (by omega) ?_ <;> rcases hk with rfl | rfl <;> omega
      have a56 := a5.fr0 F6
      (try simp only [XN, Mi.Env.set, Nat.reduceAdd, Nat.reduceLeDiff, x_ct, x_cf, a56.repB (T := τ.tab) sl (by omega) (by omega) (by omega)])
      refine newL_v (S := []) (ds := [pD p]) (.cons (pV_v p) .nil) (by simp) (by simp) fun v7 h7 a7 F7 => ?_
      have bl := (a56.fr0 F7).lenq (T := τ.tab) (ds := List.replicate k (pD p)) rfl
      rw [List.length_replicate] at bl
      (try simp only [XN, Mi.Env.set, Nat.reduceAdd, Nat.reduceLeDiff, x_ct, x_cf, bl])
      refine mul_v a7 (by omega) (by omega) (by simp) (by simp) fun v8 h8 a8 F8 => ?_
      have a8' : V [] h8 v8 (.list (List.replicate k (pD p))) := by
        rw [Int.toNat_natCast] at a8
        have : (List.replicate k [pD p]).flatten = List.replicate k (pD p) := by
          rcases hk with rfl | rfl <;> rfl
        rw [this] at a8
        exact a8
      have s6 : Sb (.list [.bool true, .bool true]) 10 1 10 := (sb_lst (sbs_cons (sb_bl true) (sbs_cons (sb_bl true) sbs_nil))).up (by omega) (by omega) (by omega)
      have r6 := ((a6.fr0 F7).fr0 F8).repB (T := τ.tab) s6 (by omega) (by omega) (by omega)
      (try simp only [XN, Mi.Env.set, Nat.reduceAdd, Nat.reduceLeDiff, x_ct, x_cf, a8'.repB (T := τ.tab) sl (by omega) (by omega) (by omega), decide_true, eq_self, r6, tt_shown])
      exact hQ _ _ ⟨rfl, ((F5.trans F6).trans F7).trans F8⟩
    (try simp only [XN, Mi.Env.set, Nat.reduceAdd, Nat.reduceLeDiff, x_ct, x_cf, k_plus, plus_ok (n := n+2) rp rq sp sq, k_minus, minus_ok (n := n+2) x1 rq z1 sq, minus_ok (n := n+2) rp rq sp sq, plus_ok (n := n+2) x2 rq z2 sq, b1, b2])
    refine newL_v (S := []) (ds := [pD p, pD p]) (.cons (pV_v p) (.cons (pV_v p) .nil)) (by simp) (by simp) fun v5 h5 a5 F5 => ?_
    have F05 := (F1.trans F2).trans F5
    (try simp only [XN, Mi.Env.set, Nat.reduceAdd, Nat.reduceLeDiff, x_ct, x_cf, p0])
    refine cnd_dn (fun z => ?_) (fun z => ?_)
    · obtain ⟨b3, x3⟩ := back3 rp rq z
      obtain ⟨b4, x4⟩ := back4 rp rq z
      have z3 : sz 170 (opT p q) := (low_sz hne (by omega) (by omega)).up (by decide)
      have z4 : sz 170 (opB p q) := (low_sz (ne_mul rp.pos z) (by omega) (by omega)).up (by decide)
      have e3 : ∀ {h : MH}, Mi.run τ.tab (n+2+5) f_by [pV (opT p q), pV q] h = .ok (pV p) h := fun {h} => by
        rw [by_ok (n := n+2) x3 rq z3 sq, if_neg z, b3]
      have e4 : ∀ {h : MH}, Mi.run τ.tab (n+2+5) f_by [pV p, pV q] h = .ok (pV (opB p q)) h := fun {h} => by
        rw [by_ok (n := n+2) rp rq sp sq, if_neg z]
      (try simp only [XN, Mi.Env.set, Nat.reduceAdd, Nat.reduceLeDiff, x_ct, x_cf, k_times, times_ok (n := n+2) rp rq sp sq, k_by, e3, e4, times_ok (n := n+2) x4 rq z4 sq, b4])
      refine newL_v (S := []) (ds := [pD p, pD p]) (.cons (pV_v p) (.cons (pV_v p) .nil)) (by simp) (by simp) fun v6 h6 a6 F6 => ?_
      refine add_v (a5.fr0 F6) a6 (by simp) (by simp) fun v7 h7 a7 F7 => ?_
      have r := last 4 v7 h7 (.inr rfl) a7 ((F05.trans F6).trans F7)
      revert r
      (try simp only [XN, Mi.Env.set, Nat.reduceAdd, Nat.reduceLeDiff, x_ct, x_cf])
      exact id
    · have r := last 2 v5 h5 (.inl rfl) a5 F05
      revert r
      (try simp only [XN, Mi.Env.set, Nat.reduceAdd, Nat.reduceLeDiff, x_ct, x_cf])
      exact id
end
end Lw
end

section
namespace Lw
open Mi
open PySem (PyData)
/-! ### a value's data; a list's parts are apart from it -/
section
variable {S S' : List Nat} {h : MH}
mutual
theorem V.fn : ∀ {v : Mi.MV} {d d' : PyData}, V S h v d → V S' h v d' → d = d'
  | _, _, _, .non, .non => rfl
  | _, _, _, .bl b, .bl _ => rfl
  | _, _, _, .int i, .int _ => rfl
  | _, _, _, .str x, .str _ => rfl
  | _, _, _, .tup r, .tup r' => by rw [Vs.fn r r']
  | _, _, _, .lst l s e r, .lst l' s' e' r' => by
    rw [e] at e'
    cases e'
    rw [Vs.fn r r']
  | _, _, _, .lst l s e r, .dct l' s' e' r' => by rw [e] at e'; cases e'
  | _, _, _, .dct l s e r, .lst l' s' e' r' => by rw [e] at e'; cases e'
  | _, _, _, .dct l s e r, .dct l' s' e' r' => by
    rw [e] at e'
    cases e'
    rw [Vs.fn r r']
theorem Vs.fn : ∀ {v : List Mi.MV} {d d' : List PyData}, Vs S h v d → Vs S' h v d' → d = d'
  | _, _, _, .nil, .nil => rfl
  | _, _, _, .cons r t, .cons r' t' => by rw [V.fn r r', Vs.fn t t']
end
theorem zip_size : ∀ {ks ds : List PyData}, ks.length = ds.length → sizeOf ds ≤ sizeOf (ks.zip ds)
  | [], [], _ => by simp
  | k :: ks, d :: ds, e => by
    have := zip_size (ks := ks) (ds := ds) (by simpa using e)
    simp only [List.zip_cons_cons, List.cons.sizeOf_spec, Prod.mk.sizeOf_spec]
    omega
  | [], _ :: _, e => by cases e
  | _ :: _, [], e => by cases e
mutual
theorem V.ap {l : Nat} {ds : List PyData} (a : V S h (.ref l) (.list ds)) : ∀ {v : Mi.MV} {d : PyData}, V S h v d → sizeOf d < sizeOf (PyData.list ds) → V (l :: S) h v d
  | _, _, .non, _ => .non
  | _, _, .bl b, _ => .bl b
  | _, _, .int i, _ => .int i
  | _, _, .str x, _ => .str x
  | _, _, .tup r, q => .tup (Vs.ap a r (by simp only [PyData.tuple.sizeOf_spec] at q; omega))
  | _, _, @V.lst _ _ n xs es l' s e r, q => by
    refine .lst l' ?_ e (Vs.ap a r (by simp only [PyData.list.sizeOf_spec] at q ⊢; omega))
    intro z
    rcases List.mem_cons.mp z with z | z
    · subst z
      have := V.fn a (.lst l' s e r)
      cases this
      omega
    · exact s z
  | _, _, @V.dct _ _ n kvs es l' s e r, q => by
    have hl := r.len
    refine .dct l' ?_ e (Vs.ap a r ?_)
    · intro z
      rcases List.mem_cons.mp z with z | z
      · subst z
        have := V.fn a (.dct l' s e r)
        cases this
      · exact s z
    · simp only [PyData.dict.sizeOf_spec] at q
      have := zip_size (ks := kvs.map fun p => kD p.1) (ds := es) (by rw [List.length_map] at hl ⊢; exact hl)
      omega
theorem Vs.ap {l : Nat} {ds : List PyData} (a : V S h (.ref l) (.list ds)) : ∀ {v : List Mi.MV} {d : List PyData}, Vs S h v d → sizeOf d < sizeOf (PyData.list ds) → Vs (l :: S) h v d
  | _, _, .nil, _ => .nil
  | _, _, .cons r t, q => .cons (V.ap a r (by simp only [List.cons.sizeOf_spec] at q; omega)) (Vs.ap a t (by simp only [List.cons.sizeOf_spec] at q; omega))
end
theorem V.self {l : Nat} {ds : List PyData} {xs : List Mi.MV} (a : V S h (.ref l) (.list ds)) (A : At h l (.lst xs)) : Vs (l :: S) h xs ds := by
  obtain ⟨n, ys, e, _, B, r⟩ := a.at_
  cases e
  have := A.get
  rw [B.get] at this
  cases this
  exact Vs.ap a r (by simp only [PyData.list.sizeOf_spec]; omega)
end
section
variable {S : List Nat} {n : Nat} {h : MH} {v w : Mi.MV} {d d1 d2 : PyData} {Q : Mi.MV → MH → Prop} {E : PySem.Str → Nat → MH → Prop}
theorem l_int (a : V S h v d) : Mi.run τ.tab (n+1) f_law_is_int [v] h = .ok (.bl (isId d)) h := by
  have e1 := isi_int (T := τ.tab) a
  have e2 := isi_bool (T := τ.tab) a
  refine eq_of_wr ?_
  refine run_w { sl := [some v], ex := none } body_law_is_int rfl rfl rfl ?_
  unfold body_law_is_int
  cases d <;> (try simp only [XN, Mi.Env.set, Nat.reduceAdd, Nat.reduceLeDiff, x_ct, x_cf, e1, e2, isNd, isBd, isId, Bool.not_true, Bool.not_false]) <;> first | exact ⟨rfl, rfl⟩ | simp
def hs12b : MHs := .cons "InvalidFraction" 3 (.cons (.ret (.lst (.cons (.str "fraction") (.cons (.efld 3 "given") .nil)))) .nil) .nil
theorem hdl_3 {P : Po} {k : Nat} {h0 : MH} {x y z g : Mi.MV} (A : At h k (.exc "InvalidFraction" [("given", g)])) (F : Fr [] h0 h) (H : ∀ m h', h0.next ≤ m → At h' m (.lst [.str "fraction", g]) → Fr [] h0 h' → P.rt (.ref m) h') : Wt P (exH τ.tab hs12b "InvalidFraction" k { sl := [some x, some y, some z, none], ex := none } h) := by
  unfold hs12b
  refine z_h1 tsub_InvalidFraction_InvalidFraction (by rw [txf_InvalidFraction]; rfl) (by simp) ?_
  have e1 := q_efld (T := τ.tab) (C := τ.tab.hc) (me := { sl := [some x, some y, some z, none], ex := some (3, k) }) (f := "given") (i := 3) rfl (by simp) txa_given A.get (v := g) (by simp [List.lookup_cons])
  (try simp only [XN, Mi.Env.set, Nat.reduceAdd, Nat.reduceLeDiff, x_ct, x_cf, x_newL, e1])
  show P.rt _ _
  exact H _ _ F.nx At.new (F.trans Fr.new)
def dueN (d1 d2 : PyData) : PyData := match d1, d2 with
  | .int x, .int y => if y = 0 then .list [.str "fraction", .tuple [d1, d2]] else .list [.str "told", pD (low x y)]
  | _, _ => .list [.str "fraction", .tuple [d1, d2]]
theorem dueN_no (hn : numB d1 d2 = false) : dueN d1 d2 = .list [.str "fraction", .tuple [d1, d2]] := by
  unfold dueN
  split
  · rename_i x y
    have : y = 0 := by unfold numB isId at hn; simpa using hn
    rw [if_pos this]
  · rfl
theorem dueN_ok {x y : Int} (hy : y ≠ 0) : dueN (.int x) (.int y) = .list [.str "told", pD (low x y)] := by
  show (if y = 0 then PyData.list [.str "fraction", .tuple [.int x, .int y]] else .list [.str "told", pD (low x y)]) = _
  rw [if_neg hy]
theorem numB_inv (hn : numB d1 d2 = true) : ∃ x y, d1 = .int x ∧ d2 = .int y ∧ y ≠ 0 := by
  unfold numB at hn
  cases d1 <;> simp [isId] at hn
  cases d2 <;> simp [isId] at hn
  exact ⟨_, _, rfl, rfl, hn⟩
theorem made_sp {nm : Bool} (a1 : V [] h v d1) (a2 : V [] h w d2) (hb : ∀ y, d2 = .int y → y.natAbs < 2 ^ 199) : Sp (Mi.run τ.tab (n+4) f_law_made [v, w, .bl nm] h) (fun u h' => V [] h' u (dueN d1 d2) ∧ Fr [] h h') := by
  refine Sp_for fun Q E hQ => ?_
  refine run_w { sl := [some v, some w, some (.bl nm), none], ex := none } body_law_made rfl rfl rfl ?_
  unfold body_law_made
  cases hn : numB d1 d2 with
  | true =>
    obtain ⟨x, y, rfl, rfl, hy⟩ := numB_inv hn
    cases a1
    cases a2
    have e : dueN (.int x) (.int y) = .list [.str "told", pD (low x y)] := dueN_ok hy
    rw [e] at hQ
    have fk := fun {h : MH} => frac_ok (n := n) (h := h) (x := x) hy (Nat.lt_trans (hb y rfl) (by decide))
    cases nm
    · (try simp only [XN, Mi.Env.set, Nat.reduceAdd, Nat.reduceLeDiff, x_ct, x_cf, k_fraction, k_fraction_1, fk])
      exact newL_v (S := []) (.cons (.str "told") (.cons (pV_v _) .nil)) (by simp) (by simp) fun u h1 a F => hQ _ _ ⟨a, F⟩
    · (try simp only [XN, Mi.Env.set, Nat.reduceAdd, Nat.reduceLeDiff, x_ct, x_cf, k_fraction, k_fraction_1, fk])
      exact newL_v (S := []) (.cons (.str "told") (.cons (pV_v _) .nil)) (by simp) (by simp) fun u h1 a F => hQ _ _ ⟨a, F⟩
  | false =>
    rw [dueN_no hn] at hQ
    have fin : ∀ m h', h.next ≤ m → At h' m (.lst [.str "fraction", .tup [v, w]]) → Fr [] h h' → Q (.ref m) h' := fun m h' _ A F => hQ _ _ ⟨.lst A.lt (by simp) A.get (.cons (.str "fraction") (.cons (.tup (.cons (a1.fr0 F) (.cons (a2.fr0 F) .nil))) .nil)), F⟩
    cases nm
    · (try simp only [XN, Mi.Env.set, Nat.reduceAdd, Nat.reduceLeDiff, x_ct, x_cf, k_fraction, k_fraction_1])
      exact frac_no (n := n) a1 a2 hn fun k h' hk A F => hdl_3 A F fin
    · (try simp only [XN, Mi.Env.set, Nat.reduceAdd, Nat.reduceLeDiff, x_ct, x_cf, k_fraction, k_fraction_1])
      exact frac_no (n := n) a1 a2 hn fun k h' hk A F => hdl_3 A F fin
theorem numbers_sp (a1 : V [] h v d1) (a2 : V [] h w d2) (hb1 : ∀ y, d1 = .int y → y.natAbs < 2 ^ 199) (hb : ∀ y, d2 = .int y → y.natAbs < 2 ^ 199) (s1 : Sb d1 600 3 20) (s2 : Sb d2 600 3 20) : Sp (Mi.run τ.tab (n+5) f_law_numbers_right [v, w] h) (fun r h' => r = .bl true ∧ Fr [] h h') := by
  refine Sp_for fun Q E hQ => ?_
  have two : (2 : Nat) ≤ PySem.sizeLine := by rw [PySem.sizeLine_eq]; decide
  refine run_w { sl := [some v, some w, none], ex := none } body_law_numbers_right rfl rfl rfl ?_
  unfold body_law_numbers_right
  have sD : Sb (dueN d1 d2) 1500 5 50 := by
    have sf : Sb (.list [.str "fraction", .tuple [d1, d2]]) 1500 5 50 := (sb_lst (sbs_cons ((sb_str (x := "fraction") (w := 10) (by decide +kernel)).up (Nat.le_refl _) (Nat.zero_le 4) (Nat.le_refl _)) (sbs_cons (sb_tup (sbs_cons s1 (sbs_cons s2 sbs_nil))) sbs_nil))).up (by omega) (by omega) (by omega)
    cases hn : numB d1 d2 with
    | false => rw [dueN_no hn]; exact sf
    | true =>
      obtain ⟨x, y, rfl, rfl, hy⟩ := numB_inv hn
      have e : dueN (.int x) (.int y) = .list [.str "told", pD (low x y)] := dueN_ok hy
      rw [e]
      have := low_lt (k := 2 ^ 250) hy (Nat.lt_trans (hb1 x rfl) (by decide)) (Nat.lt_trans (hb y rfl) (by decide))
      exact (told_sb (sb_p this)).up (by omega) (by omega) (by omega)
  have rest : ∀ (v2 : Mi.MV) (h2 : MH), V [] h2 v2 (dueN d1 d2) → Fr [] h h2 → Wt (Po.fn Q E) (exB τ.tab (Mi.run τ.tab (n+4)) (.cons (.ret (.cmp .eq (.bi .repr (.cons (.lst (.cons (.call "_law_made" (.cons (.var 0) (.cons (.var 1) (.cons (.bl false) .nil))) [] .nil []) (.cons (.call "_law_made" (.cons (.var 0) (.cons (.var 1) (.cons (.bl true) .nil))) [] .nil []) .nil))) .nil)) (.bi .repr (.cons (.lst (.cons (.var 2) (.cons (.var 2) .nil))) .nil)))) .nil) { sl := [some v, some w, some v2], ex := none } h2) := by
    intro v2 h2 b2 F2
    (try simp only [XN, Mi.Env.set, Nat.reduceAdd, Nat.reduceLeDiff, x_ct, x_cf, k_law_made])
    refine Wr_of (made_sp (n := n) (nm := false) (a1.fr0 F2) (a2.fr0 F2) hb) ?_
    rintro u3 h3 ⟨a3, F3⟩
    (try simp only [XN, Mi.Env.set, Nat.reduceAdd, Nat.reduceLeDiff, x_ct, x_cf, k_law_made])
    refine Wr_of (made_sp (n := n) (nm := true) ((a1.fr0 F2).fr0 F3) ((a2.fr0 F2).fr0 F3) hb) ?_
    rintro u4 h4 ⟨a4, F4⟩
    have sL : Sb (.list [dueN d1 d2, dueN d1 d2]) 4000 6 100 := (sb_lst (sbs_cons sD (sbs_cons sD sbs_nil))).up (by omega) (by omega) (by omega)
    (try simp only [XN, Mi.Env.set, Nat.reduceAdd, Nat.reduceLeDiff, x_ct, x_cf])
    refine newL_v (S := []) (.cons (a3.fr0 F4) (.cons a4 .nil)) (by simp) (by simp) fun v5 h5 a5 F5 => ?_
    have b5 := ((b2.fr0 F3).fr0 F4).fr0 F5
    (try simp only [XN, Mi.Env.set, Nat.reduceAdd, Nat.reduceLeDiff, x_ct, x_cf, a5.repB (T := τ.tab) sL (by omega) (by omega) (by omega)])
    refine newL_v (S := []) (.cons b5 (.cons b5 .nil)) (by simp) (by simp) fun v6 h6 a6 F6 => ?_
    (try simp only [XN, Mi.Env.set, Nat.reduceAdd, Nat.reduceLeDiff, x_ct, x_cf, a6.repB (T := τ.tab) sL (by omega) (by omega) (by omega), decide_true, eq_self])
    exact hQ _ _ ⟨rfl, (((F2.trans F3).trans F4).trans F5).trans F6⟩
  (try simp only [XN, Mi.Env.set, Nat.reduceAdd, Nat.reduceLeDiff, x_ct, x_cf, two, if_true])
  refine newL_v (S := []) (.cons (.str "fraction") (.cons (.tup (.cons a1 (.cons a2 .nil))) .nil)) (by simp) (by simp) fun v1 h1 b1 F1 => ?_
  have i1 := l_int (n := n+3) (a1.fr0 F1)
  have i2 := l_int (n := n+3) (a2.fr0 F1)
  cases hn : numB d1 d2 with
  | false =>
    have r := rest v1 h1 (by rw [dueN_no hn]; exact b1) F1
    (try simp only [XN, Mi.Env.set, Nat.reduceAdd, Nat.reduceLeDiff, x_ct, x_cf, k_law_is_int, i1])
    cases q1 : isId d1 with
    | false => revert r; (try simp only [XN, Mi.Env.set, Nat.reduceAdd, Nat.reduceLeDiff, x_ct, x_cf]); exact id
    | true =>
      (try simp only [XN, Mi.Env.set, Nat.reduceAdd, Nat.reduceLeDiff, x_ct, x_cf, k_law_is_int, i2])
      cases q2 : isId d2 with
      | false => revert r; (try simp only [XN, Mi.Env.set, Nat.reduceAdd, Nat.reduceLeDiff, x_ct, x_cf]); exact id
      | true =>
        obtain ⟨y, rfl⟩ : ∃ y, d2 = .int y := by cases d2 <;> first | exact ⟨_, rfl⟩ | cases q2
        cases a2
        have hy : y = 0 := by
          unfold numB at hn
          rw [q1, q2, Bool.true_and, Bool.true_and] at hn
          simpa using hn
        revert r
        (try simp only [XN, Mi.Env.set, Nat.reduceAdd, Nat.reduceLeDiff, x_ct, x_cf, decide_eq_true hy, Bool.not_true])
        exact id
  | true =>
    obtain ⟨x, y, rfl, rfl, hy⟩ := numB_inv hn
    have e : dueN (.int x) (.int y) = .list [.str "told", pD (low x y)] := dueN_ok hy
    cases a1
    cases a2
    have lk := fun {h : MH} => lowest_ok (n := n+2) (h := h) (x := x) hy (hb y rfl)
    (try simp only [XN, Mi.Env.set, Nat.reduceAdd, Nat.reduceLeDiff, x_ct, x_cf, k_law_is_int, i1, i2, isId, decide_eq_false hy, Bool.not_false, k_law_lowest, lk])
    refine newL_v (S := []) (.cons (.str "told") (.cons (pV_v _) .nil)) (by simp) (by simp) fun v2 h2 b2 F2 => ?_
    have r := rest v2 h2 (by rw [e]; exact b2) (F1.trans F2)
    revert r
    (try simp only [XN, Mi.Env.set, Nat.reduceAdd, Nat.reduceLeDiff, x_ct, x_cf])
    exact id
end
end Lw
end

section
namespace Lw
open Mi
open PySem (PyData)
structure od (d : PyData) : Prop where
  sb : Sb (grown d) 3000 10 100
  sb0 : Sb d 3000 10 100
  sz : ∀ p, d = pD p → p.1.natAbs ≤ 10 ^ 24 ∧ p.2.natAbs ≤ 10 ^ 24
  le : ∀ ds, d = .list ds → ds.length ≤ 1000000
structure pt (x : PyData) : Prop where
  sb : Sb x 600 2 15
  it : ∀ i, x = .int i → i.natAbs ≤ 10 ^ 24
theorem pt_int {i : Int} (h : i.natAbs ≤ 10 ^ 24) : pt (.int i) := ⟨(sb_int (Nat.lt_of_le_of_lt h (by decide))).up (by omega) (by omega) (by omega), fun j e => by cases e; exact h⟩
theorem pt_bl (b : Bool) : pt (.bool b) := ⟨(sb_bl b).up (by omega) (by omega) (by omega), fun j e => by cases e⟩
theorem pt_non : pt .none := ⟨sb_non.up (by omega) (by omega) (by omega), fun j e => by cases e⟩
theorem sbs_pt : ∀ {ds : List PyData}, ds.length ≤ 4 → (∀ x ∈ ds, pt x) → Sbs ds 2500 2 40 := fun {ds} hl h => by
  have := sbs_all (w := 600) (z := 2) (f := 15) ds fun x hx => (h x hx).sb
  have h2 : (600 + 1) * ds.length ≤ (600 + 1) * 4 := Nat.mul_le_mul_left _ hl
  exact ⟨this.sh, this.ls, Nat.le_trans this.wt (by omega), this.dp, Nat.le_trans this.fz (by omega)⟩
theorem sb_more : Sb (.str "more") 10 0 1 := sb_str (by decide +kernel)
theorem od_tup {ds : List PyData} (hl : ds.length ≤ 3) (h : ∀ x ∈ ds, pt x) : od (.tuple ds) := by
  have s := (sb_tup (sbs_pt (by omega) h)).up (w' := 3000) (z' := 10) (f' := 100) (by omega) (by omega) (by omega)
  refine ⟨s, s, fun p e => ?_, fun ds e => by cases e⟩
  unfold pD at e
  cases e
  exact ⟨(h _ (by simp)).it _ rfl, (h _ (by simp)).it _ rfl⟩
theorem od_lst {ds : List PyData} (hl : ds.length ≤ 3) (h : ∀ x ∈ ds, pt x) : od (.list ds) := by
  have s := (sb_lst (sbs_pt (by omega) h)).up (w' := 3000) (z' := 10) (f' := 100) (by omega) (by omega) (by omega)
  have s2 := (sb_lst (sbs_pt (ds := ds ++ [.str "more"]) (by simp; omega) (fun x hx => by
    rcases List.mem_append.mp hx with z | z
    · exact h x z
    · simp at z; subst z; exact ⟨sb_more.up (by omega) (by omega) (by omega), fun i e => by cases e⟩))).up (w' := 3000) (z' := 10) (f' := 100) (by omega) (by omega) (by omega)
  exact ⟨s2, s, fun p e => (by cases e), fun ds e => by cases e; omega⟩
def odB (d : PyData) : Bool := (grown d).showable && (grown d).leavesShort 100 && decide ((grown d).weight ≤ 3000) && decide ((grown d).depth ≤ 10) && decide (fz (grown d) ≤ 100) && d.showable && d.leavesShort 100 && decide (d.weight ≤ 3000) && decide (d.depth ≤ 10) && decide (fz d ≤ 100) && (match d with | .list ds => decide (ds.length ≤ 10) | .tuple _ => false | _ => true)
theorem odB_od {d : PyData} (e : odB d = true) : od d := by
  unfold odB at e
  simp only [Bool.and_eq_true, decide_eq_true_eq] at e
  obtain ⟨⟨⟨⟨⟨⟨⟨⟨⟨⟨e1, e2⟩, e3⟩, e4⟩, e5⟩, e6⟩, e7⟩, e8⟩, e9⟩, e10⟩, e11⟩ := e
  refine ⟨⟨e1, e2, e3, e4, e5⟩, ⟨e6, e7, e8, e9, e10⟩, fun p z => ?_, fun ds z => ?_⟩
  · subst z; cases e11
  · subst z; simp at e11; omega
def oddV : List PyData := [.none, .int 3, .str "", .str "1/2", .list [], .dict [], .bool true]
theorem oddV_od : ∀ d ∈ oddV, od d := fun d h => odB_od (List.all_eq_true.mp (by decide +kernel : oddV.all odB = true) d h)
theorem od_pD {p : Int × Int} (h : p.1.natAbs ≤ 10 ^ 24 ∧ p.2.natAbs ≤ 10 ^ 24) : od (pD p) := od_tup (by simp) fun x hx => by
  simp only [List.mem_cons, List.not_mem_nil, or_false] at hx
  rcases hx with rfl | rfl
  · exact pt_int h.1
  · exact pt_int h.2
theorem str2 : pt (.str "2") := ⟨(sb_str (w := 10) (by decide +kernel)).up (by omega) (by omega) (by omega), fun j e => by cases e⟩
theorem pt11 : pt (.tuple [.int 1, .int 1]) := ⟨(sb_tup (sbs_cons (sb_int (i := 1) (by decide)) (sbs_cons (sb_int (i := 1) (by decide)) sbs_nil))).up (by omega) (by omega) (by omega), fun j e => by cases e⟩
theorem tup2 {x y : PyData} (hx : pt x) (hy : pt y) : od (.tuple [x, y]) := od_tup (by simp) fun z hz => by
  simp only [List.mem_cons, List.not_mem_nil, or_false] at hz
  rcases hz with rfl | rfl
  · exact hx
  · exact hy
section
variable {S : List Nat} {n : Nat} {h : MH} {v w : Mi.MV} {d d1 d2 : PyData} {Q : Mi.MV → MH → Prop} {E : PySem.Str → Nat → MH → Prop} {b : Nat} {N : Int}
theorem odd_sp (B : isB h b N) (hN : N < 2 ^ 29) : Sp (Mi.run τ.tab (n+3) f_law_odd [.ref b] h) (fun u h' => ∃ d, V [b] h' u d ∧ od d ∧ isB h' b (N + 10) ∧ Fr [b] h h') := by
  refine Sp_for fun Q E hQ => ?_
  have zero : (0 : Nat) ≤ PySem.sizeLine := Nat.zero_le _
  have one : (1 : Nat) ≤ PySem.sizeLine := by rw [PySem.sizeLine_eq]; decide
  have two : (2 : Nat) ≤ PySem.sizeLine := by rw [PySem.sizeLine_eq]; decide
  have three : (3 : Nat) ≤ PySem.sizeLine := by rw [PySem.sizeLine_eq]; decide
  refine run_w { sl := [some (.ref b), none, none, none], ex := none } body_law_odd rfl rfl rfl ?_
  unfold body_law_odd
  (try simp only [XN, Mi.Env.set, Nat.reduceAdd, Nat.reduceLeDiff, x_ct, x_cf, k_law_number])
  refine Wr_of (number_sp (n := n) B (by omega)) ?_
  rintro _ h1 ⟨x, rfl, x0, B1, F1⟩
  (try simp only [XN, Mi.Env.set, Nat.reduceAdd, Nat.reduceLeDiff, x_ct, x_cf, k_law_number])
  refine Wr_of (number_sp (n := n) B1 (by omega)) ?_
  rintro _ h2 ⟨y, rfl, y0, B2, F2⟩
  (try simp only [XN, Mi.Env.set, Nat.reduceAdd, Nat.reduceLeDiff, x_ct, x_cf, k_law_take])
  refine Wr_of (take_sp (n := n+1) B2 (by omega) (by omega) (by omega)) ?_
  rintro _ h3 ⟨way, rfl, w0, w1, B3, F3⟩
  have F03 := (F1.trans F2).trans F3
  (try simp only [XN, Mi.Env.set, Nat.reduceAdd, Nat.reduceLeDiff, x_ct, x_cf, three, if_true, sw3])
  have hx : pt (.int x) := pt_int (by omega)
  have hy : pt (.int y) := pt_int (by omega)
  have h1' : pt (.int 1) := pt_int (by decide)
  have sx : small x := by unfold small; omega
  have s2 : small 2 := by unfold small; omega
  have hxy := mul_le2 x0 y0
  refine cnd_d (fun q => ?_) (fun q => ?_)
  · (try simp only [XN, Mi.Env.set, Nat.reduceAdd, Nat.reduceLeDiff, x_ct, x_cf, two, if_true, s2, sx, true_or])
    refine newL_v (S := [b]) (ds := [pD (x, y), pD (2 * x, 2 * y), pD (x, (if y < 0 then -y else y) + 1), pD (x * y, y)]) (.cons (pV_v (x, y)) (.cons (pV_v (2 * x, 2 * y)) (.cons (pV_v (x, (if y < 0 then -y else y) + 1)) (.cons (pV_v (x * y, y)) .nil)))) B3.nb (by simp) fun v4 h4 a4 F4 => ?_
    obtain ⟨u, d, q1, q2, w⟩ := a4.subq rfl w0 (by simpa using q)
    (try simp only [XN, Mi.Env.set, Nat.reduceAdd, Nat.reduceLeDiff, x_ct, x_cf, q1])
    refine hQ _ _ ⟨d, w, ?_, (B3.fr0 F4).up (by omega), F03.trans F4.up⟩
    have := List.mem_of_getElem? q2
    simp only [List.mem_cons, List.not_mem_nil, or_false] at this
    rcases this with rfl | rfl | rfl | rfl
    · exact od_pD ⟨by simp only; omega, by simp only; omega⟩
    · exact od_pD ⟨by simp only; omega, by simp only; omega⟩
    · exact od_pD ⟨by simp only; omega, by simp only; split <;> omega⟩
    · exact od_pD ⟨by simp only; omega, by simp only; omega⟩
  (try simp only [XN, Mi.Env.set, Nat.reduceAdd, Nat.reduceLeDiff, x_ct, x_cf])
  refine cnd_d (fun _ => ?_) (fun _ => ?_)
  · (try simp only [XN, Mi.Env.set, Nat.reduceAdd, Nat.reduceLeDiff, x_ct, x_cf])
    refine newL_v (S := [b]) (.cons (.int x) (.cons (.int 1) .nil)) B3.nb (by simp) fun v4 h4 a4 F4 => ?_
    exact hQ _ _ ⟨_, a4, od_lst (by simp) (fun z hz => by
      simp only [List.mem_cons, List.not_mem_nil, or_false] at hz
      rcases hz with rfl | rfl
      · exact hx
      · exact h1'), (B3.fr0 F4).up (by omega), F03.trans F4.up⟩
  (try simp only [XN, Mi.Env.set, Nat.reduceAdd, Nat.reduceLeDiff, x_ct, x_cf])
  refine cnd_d (fun _ => ?_) (fun _ => ?_)
  · (try simp only [XN, Mi.Env.set, Nat.reduceAdd, Nat.reduceLeDiff, x_ct, x_cf])
    refine newL_v (S := [b]) .nil B3.nb (by simp) fun v4 h4 a4 F4 => ?_
    have B4 := B3.fr0 F4
    (try simp only [XN, Mi.Env.set, Nat.reduceAdd, Nat.reduceLeDiff, x_ct, x_cf, q_dc])
    refine newD_v (S := [b]) (kvs := []) B4.nb fun v5 h5 a5 F5 => ?_
    have B5 := B4.fr0 F5
    (try simp only [XN, Mi.Env.set, Nat.reduceAdd, Nat.reduceLeDiff, x_ct, x_cf])
    refine pickV (n := n+1) (S := [b]) (ds := oddV) rfl (by simp) (.cons .non (.cons (.int 3) (.cons (.str "") (.cons (.str "1/2") (.cons (a4.fr0 F5) (.cons a5 (.cons (.bl true) .nil))))))) B5.nb B5 (by omega) rfl (by omega) (by omega) fun u d h6 hd a6 B6 F6 => ?_
    exact hQ _ _ ⟨d, a6, oddV_od d hd, B6.up (by omega), F03.trans ((F4.trans F5).up.trans F6)⟩
  (try simp only [XN, Mi.Env.set, Nat.reduceAdd, Nat.reduceLeDiff, x_ct, x_cf])
  refine cnd_d (fun _ => ?_) (fun _ => ?_)
  · (try simp only [XN, Mi.Env.set, Nat.reduceAdd, Nat.reduceLeDiff, x_ct, x_cf, one, three, zero, if_true])
    refine pickV (n := n+1) (S := [b]) (ds := [.tuple [.int x], .tuple [.int x, .int 1, .int 1], .tuple []]) rfl (by simp) (.cons (.tup (.cons (.int x) .nil)) (.cons (.tup (.cons (.int x) (.cons (.int 1) (.cons (.int 1) .nil)))) (.cons (.tup .nil) .nil))) B3.nb B3 (by omega) rfl (by omega) (by omega) fun u d h6 hd a6 B6 F6 => ?_
    refine hQ _ _ ⟨d, a6, ?_, B6.up (by omega), F03.trans F6⟩
    simp only [List.mem_cons, List.not_mem_nil, or_false] at hd
    rcases hd with rfl | rfl | rfl
    · exact od_tup (by simp) fun z hz => by simp at hz; subst hz; exact hx
    · exact od_tup (by simp) fun z hz => by
        simp only [List.mem_cons, List.not_mem_nil, or_false] at hz
        rcases hz with rfl | rfl | rfl
        · exact hx
        · exact h1'
        · exact h1'
    · exact od_tup (by simp) fun z hz => by cases hz
  (try simp only [XN, Mi.Env.set, Nat.reduceAdd, Nat.reduceLeDiff, x_ct, x_cf, two, if_true])
  refine pickV (n := n+1) (S := [b]) (ds := [.tuple [.bool true, .int 2], .tuple [.int x, .bool true], .tuple [.none, .int 1], .tuple [.int 1, .str "2"], .tuple [.int x, .none], .tuple [.int 1, .tuple [.int 1, .int 1]]]) rfl (by simp) (.cons (.tup (.cons (.bl true) (.cons (.int 2) .nil))) (.cons (.tup (.cons (.int x) (.cons (.bl true) .nil))) (.cons (.tup (.cons .non (.cons (.int 1) .nil))) (.cons (.tup (.cons (.int 1) (.cons (.str "2") .nil))) (.cons (.tup (.cons (.int x) (.cons .non .nil))) (.cons (.tup (.cons (.int 1) (.cons (.tup (.cons (.int 1) (.cons (.int 1) .nil))) .nil))) .nil)))))) B3.nb B3 (by omega) rfl (by omega) (by omega) fun u d h6 hd a6 B6 F6 => ?_
  refine hQ _ _ ⟨d, a6, ?_, B6.up (by omega), F03.trans F6⟩
  simp only [List.mem_cons, List.not_mem_nil, or_false] at hd
  rcases hd with rfl | rfl | rfl | rfl | rfl | rfl
  · exact tup2 (pt_bl _) (pt_int (by decide))
  · exact tup2 hx (pt_bl _)
  · exact tup2 pt_non h1'
  · exact tup2 h1' str2
  · exact tup2 hx pt_non
  · exact tup2 h1' pt11
theorem l_isfr (a : V S h v d) (g : od d) : Mi.run τ.tab (n+2) f_law_is_fraction [v] h = .ok (.bl (isFr d)) h := by
  have e1 := isi_tuple (T := τ.tab) a
  refine eq_of_wr ?_
  refine run_w { sl := [some v], ex := none } body_law_is_fraction rfl rfl rfl ?_
  unfold body_law_is_fraction
  cases d with
  | tuple ds =>
    (try simp only [XN, Mi.Env.set, Nat.reduceAdd, Nat.reduceLeDiff, x_ct, x_cf, e1, isTd, a.lenq (ds := ds) rfl, Bool.not_true, Bool.not_false])
    refine cnd_dn (fun hz => ?_) (fun hz => ?_)
    · (try simp only [XN, Mi.Env.set, Nat.reduceAdd, Nat.reduceLeDiff, x_ct, x_cf])
      exact ⟨by rw [isFr_not (by omega)], by trivial⟩
    · obtain ⟨u, w, d1, d2, rfl, rfl, a1, a2⟩ := a.two (by omega)
      rw [isFr_two]
      (try simp only [XN, Mi.Env.set, Nat.reduceAdd, Nat.reduceLeDiff, x_ct, x_cf, k_law_is_int, l_int (n := n) a1])
      cases q1 : isId d1 with
      | false => (try simp only [XN, Mi.Env.set, Nat.reduceAdd, Nat.reduceLeDiff, x_ct, x_cf, Bool.not_false]); simp
      | true =>
      (try simp only [XN, Mi.Env.set, Nat.reduceAdd, Nat.reduceLeDiff, x_ct, x_cf, Bool.not_true, k_law_is_int, l_int (n := n) a2])
      cases q2 : isId d2 with
      | false => (try simp only [XN, Mi.Env.set, Nat.reduceAdd, Nat.reduceLeDiff, x_ct, x_cf, Bool.not_false]); simp
      | true =>
      obtain ⟨x, rfl⟩ : ∃ x, d1 = .int x := by cases d1 <;> first | exact ⟨_, rfl⟩ | cases q1
      obtain ⟨y, rfl⟩ : ∃ y, d2 = .int y := by cases d2 <;> first | exact ⟨_, rfl⟩ | cases q2
      cases a1
      cases a2
      have gz := (g.sz (x, y) rfl).2
      (try simp only [XN, Mi.Env.set, Nat.reduceAdd, Nat.reduceLeDiff, x_ct, x_cf, Bool.not_true])
      refine cnd_d (fun q => ?_) (fun q => ?_)
      · (try simp only [XN, Mi.Env.set, Nat.reduceAdd, Nat.reduceLeDiff, x_ct, x_cf, k_law_shared, shared_ok (n := n) (x := x) (y := y) (Nat.lt_of_le_of_lt gz (by decide))])
        refine ⟨?_, trivial⟩
        rw [decide_eq_true q]
        congr 1
        by_cases z : gI x y = 1
        · rw [decide_eq_true z, decide_eq_true (show ((gI x y : Nat) : Int) = 1 by omega)]; rfl
        · rw [decide_eq_false z, decide_eq_false (show ¬ ((gI x y : Nat) : Int) = 1 by omega)]; rfl
      · exact ⟨by rw [decide_eq_false q]; rfl, rfl⟩
  | _ => (try simp only [XN, Mi.Env.set, Nat.reduceAdd, Nat.reduceLeDiff, x_ct, x_cf, e1, isTd, Bool.not_true, Bool.not_false]); first | exact ⟨rfl, rfl⟩ | simp [isFr]
end
end Lw
end

section
namespace Lw
open Mi
open PySem (PyData)
theorem od_170 {p : Int × Int} (g : od (pD p)) : sz 170 p := by
  have := g.sz p rfl
  exact ⟨Nat.lt_of_le_of_lt this.1 (by decide), Nat.lt_of_le_of_lt this.2 (by decide)⟩
theorem od_80 {p : Int × Int} (g : od (pD p)) : sz 80 p := by
  have := g.sz p rfl
  exact ⟨Nat.lt_of_le_of_lt this.1 (by decide), Nat.lt_of_le_of_lt this.2 (by decide)⟩
theorem shaped_nil : PySem.SeqAt.shaped (.list []) = true := by decide
theorem ints_lay : ∀ L : List Int, PyData.canLayAll0 (L.map PyData.int) = true
  | [] => rfl
  | k :: L => by simp only [List.map_cons, PyData.canLayAll0, PyData.canLay0, ints_lay L]; rfl
theorem ints_dp : ∀ L : List Int, PyData.depthAll (L.map PyData.int) = 0
  | [] => rfl
  | k :: L => by simp only [List.map_cons, PyData.depthAll, PyData.depth, ints_dp L]; rfl
theorem ints_shaped (L : List Int) : PySem.SeqAt.shaped (.list (L.map PyData.int)) = true := by
  unfold PySem.SeqAt.shaped
  simp only [PyData.canLay0, ints_lay L, PyData.depth, ints_dp L]
  rfl
/-! ### comprehensions that make new objects; each value is as K says -/
theorem compL_dK {K : Mi.MV → Prop} {step : Mi.MV → M (Option Mi.MV)} {it : Mi.It} {r N : Nat} {h0 : MH} {outs : Nat → PyData} (hit : ∀ h i, Fr [r] h0 h → r < h.next → i < N → ∃ v, it.at h i = some (some v) ∧ Sp (step v h) (fun o h' => ∃ w, o = some w ∧ V [r] h' w (outs i) ∧ K w ∧ Fr [] h h')) (hend : ∀ h, Fr [r] h0 h → it.at h N = some none) :
    ∀ (k i : Nat) (h : MH) (acc : List Mi.MV) (D : List PyData), Fr [r] h0 h → At h r (.lst acc) → Vs [r] h acc D → (∀ x ∈ acc, K x) → i + k = N → acc.length + k ≤ 16777216 → Sp (Mi.compL step it r k i h) (fun _ h' => ∃ acc', At h' r (.lst acc') ∧ Vs [r] h' acc' (D ++ (List.range k).map fun j => outs (i + j)) ∧ (∀ x ∈ acc', K x) ∧ Fr [r] h h')
  | 0, i, h, acc, D, f, a, va, ka, hk, _ => by
    refine Sp_for fun Q E hQ => ?_
    rw [compL_0 (by rw [show i = N by omega]; exact hend h f)]
    exact hQ _ _ ⟨acc, a, by simpa using va, ka, Fr.refl⟩
  | k + 1, i, h, acc, D, f, a, va, ka, hk, hz => by
    obtain ⟨v, e, s⟩ := hit h i f a.lt (by omega)
    refine Sp_for fun Q E hQ => ?_
    refine compL_1 e ?_
    refine Wr_of s ?_
    rintro _ h1 ⟨w, rfl, vw, kw, f1⟩
    have a1 := a.fr0 f1
    have va1 := va.fr0 f1
    simp only
    refine ⟨acc, a1.get, by omega, ?_⟩
    have P : Fr [r] h1 (h1.put r (.lst (acc ++ [w]))) := Fr.put (by simp)
    refine Wr_of (compL_dK (K := K) hit hend k (i + 1) (h1.put r (.lst (acc ++ [w]))) (acc ++ [w]) (D ++ [outs i]) ((f.trans f1.up).trans P) (At.put a1.lt) ((va1.app (.cons vw .nil)).fr P) (fun x hx => by
      rcases List.mem_append.mp hx with z | z
      · exact ka x z
      · simp at z; subst z; exact kw) (by omega) (by simp; omega)) ?_
    rintro _ h2 ⟨acc', a2, v2, k2, f2⟩
    refine hQ _ _ ⟨acc', a2, ?_, k2, (f1.up.trans P).trans f2⟩
    rw [List.range_succ_eq_map, List.map_cons, List.map_map]
    have e : ((fun j => outs (i + j)) ∘ Nat.succ) = fun j => outs (i + 1 + j) := by
      funext j
      show outs (i + (j + 1)) = _
      congr 1
      omega
    rw [e]
    simpa using v2
theorem comp_dvK {T : Tab} {C : CallF} {me : Mi.Env} {h : MH} {Q : Mi.MV → MH → Prop} {E : PySem.Str → Nat → MH → Prop} {vs : List Nat} {t : CT} {e0 c e : ME} (K : Mi.MV → Prop) (g : PyData → PyData) (hx : me.ex = none)
    (H : Wr (fun v h1 => ∃ d ds, V [] h1 v d ∧ seqD d = some ds ∧ ds.length ≤ 16777216 ∧ (∀ r x dx h2, r < h2.next → dx ∈ ds → Fr [] h1 h2 → V [r] h2 x dx → Sp (stepG T C me vs t c e x h2) (fun o h3 => ∃ w, o = some w ∧ V [r] h3 w (g dx) ∧ K w ∧ Fr [] h2 h3)) ∧ ∀ m h2 xs, At h2 m (.lst xs) → Vs [m] h2 xs (ds.map g) → (∀ x ∈ xs, K x) → h1.next ≤ m → Fr [] h1 h2 → Q (.ref m) h2) E (evE T C me e0 h)) :
    Wr Q E (evE T C me (.comp vs t (.of e0) c e) h) := by
  refine comp_w hx ?_
  rw [q_iof, y_bind]
  revert H
  cases evE T C me e0 h with
  | ok v h1 =>
    intro H
    simp only [y_ok] at H ⊢
    obtain ⟨d, ds, a, hd, hz, st, fin⟩ := H
    have b := a.weak (S' := [h1.next]) (fun m hm => .inr (by simp at hm; subst hm; exact Nat.le_refl _))
    obtain ⟨it, e1, e2, e3⟩ := b.itq hd
    rw [e1, y_ok, e2]
    have F0 : Fr [h1.next] h1 (h1.new (.lst [])) := Fr.new
    refine Wr_of (compL_dK (K := K) (N := ds.length) (h0 := h1.new (.lst [])) (outs := fun i => g (ds.getD i .none)) (fun h2 i f1 hr hi => ?_) (fun h2 f1 => ((e3 h2 (F0.trans f1)).2)) ds.length 0 (h1.new (.lst [])) [] [] Fr.refl At.new .nil (by simp) (by omega) (by simpa using hz)) ?_
    · obtain ⟨x, y, q1, q2, w⟩ := (e3 h2 (F0.trans f1)).1 i hi
      refine ⟨x, q1, ?_⟩
      have := st h1.next x y h2 hr (List.mem_of_getElem? q2) ((F0.trans f1).mono fun m hm => .inr (by simp at hm; subst hm; exact Nat.le_refl _)) w
      have ey : ds.getD i .none = y := by simp [List.getD, q2]
      rw [ey]
      exact this
    · rintro _ h2 ⟨acc', A2, v2, k2, f2⟩
      simp only [Nat.zero_add, List.nil_append] at v2
      rw [range_mapD] at v2
      exact fin h1.next h2 acc' A2 v2 k2 (Nat.le_refl _) ((F0.trans f2).mono fun m hm => .inr (by simp at hm; subst hm; exact Nat.le_refl _))
  | exc => exact id
  | stuck => exact id
section
variable {S : List Nat} {n : Nat} {h : MH} {v w : Mi.MV} {d d1 d2 : PyData} {Q : Mi.MV → MH → Prop} {E : PySem.Str → Nat → MH → Prop} {b : Nat} {N : Int}
theorem asked_no {i : Int} {nm : Bool} (a1 : V S h v d1) (a2 : V S h w d2) (g1 : od d1) (g2 : od d2) (hb : isFr d1 = false ∨ isFr d2 = false) : Sp (Mi.run τ.tab (n+7) f_law_asked [v, w, .int i, .bl nm] h) (fun u h' => ∃ m, u = .ref m ∧ h.next ≤ m ∧ At h' m (.lst [.str "fraction", if isFr d1 = true then w else v]) ∧ Fr [] h h') := by
  refine Sp_for fun Q E hQ => ?_
  refine asked_w (n := n) a1 a2 (fun p e => by subst e; exact od_170 g1) (fun p e => by subst e; exact od_80 g2) (fun p q e1 e2 rp rq => ?_) (fun x hx m h' hm A F => ?_)
  · subst e1 e2
    rw [isFr_red rp, isFr_red rq] at hb
    rcases hb with z | z <;> cases z
  · refine hQ _ _ ⟨m, rfl, hm, ?_, F⟩
    rcases hx with ⟨z, rfl⟩ | ⟨z, _, rfl⟩
    · rw [z]; exact A
    · rw [z]; exact A
theorem asked_yes {i : Int} {nm : Bool} {p q : Int × Int} (rp : red p) (rq : red q) (g1 : od (pD p)) (g2 : od (pD q)) : Sp (Mi.run τ.tab (n+7) f_law_asked [pV p, pV q, .int i, .bl nm] h) (fun u h' => V [] h' u (.list [.str "told", dueD i p q]) ∧ Fr [] h h') := asked_ok (n := n) rp rq (od_170 g1) (od_80 g2)
theorem refused_sp {i k : Int} (a1 : V [] h v d1) (a2 : V [] h w d2) (g1 : od d1) (g2 : od d2) (hk : (k = 0 ∧ isFr d1 = false) ∨ (k = 1 ∧ isFr d1 = true ∧ isFr d2 = false)) : Sp (Mi.run τ.tab (n+8) f_law_refused [v, w, .int i, .int k] h) (fun r h' => r = .bl true ∧ Fr [] h h') := by
  refine Sp_for fun Q E hQ => ?_
  refine run_w { sl := [some v, some w, some (.int i), some (.int k), none, none, none], ex := none } body_law_refused rfl rfl rfl ?_
  unfold body_law_refused
  (try simp only [XN, Mi.Env.set, Nat.reduceAdd, Nat.reduceLeDiff, x_ct, x_cf])
  refine comp_dvK (fun w => ∀ l, w = .ref l → h.next ≤ l ∨ ∃ kvs, h.get l = some (.dct kvs) ∧ l < h.next) id rfl ?_
  (try simp only [XN, Mi.Env.set, Nat.reduceAdd, Nat.reduceLeDiff, x_ct, x_cf])
  refine newL_v (S := []) (.cons a1 (.cons a2 .nil)) (by simp) (by simp) fun v1 h1 b1 F1 => ?_
  refine ⟨_, _, b1, rfl, by simp, fun r x dx h2 hr hdx F2 ax => ?_, fun pm h2 xs Ap sp kp hpm F2 => ?_⟩
  · have gx : od dx := by
      simp only [List.mem_cons, List.not_mem_nil, or_false] at hdx
      rcases hdx with rfl | rfl
      · exact g1
      · exact g2
    refine Sp_for fun Q E hQ => ?_
    refine stepG_w (me' := { sl := [some v, some w, some (.int i), some (.int k), none, none, some x], ex := none }) rfl ?_
    have s1 := isi_list (T := τ.tab) ax
    (try simp only [XN, Mi.Env.set, Nat.reduceAdd, Nat.reduceLeDiff, x_ct, x_cf, s1])
    cases hl : isLd dx with
    | false =>
      (try simp only [XN, Mi.Env.set, Nat.reduceAdd, Nat.reduceLeDiff, x_ct, x_cf])
      refine hQ _ _ ⟨x, rfl, ax, fun l hx => ?_, Fr.refl⟩
      subst hx
      by_cases hh : h.next ≤ l
      · exact .inl hh
      · refine .inr ?_
        cases ax with
        | lst => cases hl
        | dct l' s e r =>
          have := (F1.trans F2).st l (by omega) (by simp)
          exact ⟨_, this.symm.trans e, by omega⟩
    | true =>
      obtain ⟨ds, rfl⟩ : ∃ ds, dx = .list ds := by cases dx <;> first | exact ⟨_, rfl⟩ | cases hl
      obtain ⟨l, xs, rfl, _, Al, rl⟩ := ax.at_
      have hd := gx.le ds rfl
      have hlen := rl.len
      (try simp only [XN, Mi.Env.set, Nat.reduceAdd, Nat.reduceLeDiff, x_ct, x_cf, b_list (T := τ.tab) (asL Al)])
      refine newL_r (S := [r]) rl (by simp; omega) (by omega) fun h3 b3 A3 F3 _ => ?_
      exact hQ _ _ ⟨_, rfl, b3, fun l e => (by cases e; exact .inl (F1.trans F2).nx), F3⟩
  replace sp : Vs [pm] h2 xs [d1, d2] := sp
  cases sp with | cons c0 sp =>
  cases sp with | cons c1 sp =>
  cases sp
  rename_i x0 x1
  have e0 : subM (.ref pm) (.int 0) h2 = .ok x0 h2 := sl_at (j := 0) Ap rfl (by simp) rfl
  have e1 : subM (.ref pm) (.int 1) h2 = .ok x1 h2 := sl_at (j := 1) Ap rfl (by simp) rfl
  have c0' := c0.weak (S' := []) (by simp)
  have c1' := c1.weak (S' := []) (by simp)
  have F02 := F1.trans F2
  (try simp only [XN, Mi.Env.set, Nat.reduceAdd, Nat.reduceLeDiff, x_ct, x_cf, e0, e1, k_law_asked])
  have hb : isFr d1 = false ∨ isFr d2 = false := by
    rcases hk with ⟨_, z⟩ | ⟨_, _, z⟩
    · exact .inl z
    · exact .inr z
  refine Wr_of (asked_no (n := n) c0' c1' g1 g2 hb) ?_
  rintro _ h3 ⟨m, rfl, hm, A3, F3⟩
  obtain ⟨x, dx, ex, cx, gx, ek⟩ : ∃ x dx, (if isFr d1 = true then x1 else x0) = x ∧ V [pm] h2 x dx ∧ od dx ∧ ∀ {h : MH}, At h pm (.lst [x0, x1]) → subM (.ref pm) (.int k) h = .ok x h := by
    rcases hk with ⟨rfl, z⟩ | ⟨rfl, z, _⟩
    · exact ⟨x0, d1, by rw [z]; rfl, c0, g1, fun A => sl_at (j := 0) A rfl (by simp) rfl⟩
    · exact ⟨x1, d2, by rw [z]; rfl, c1, g2, fun A => sl_at (j := 1) A rfl (by simp) rfl⟩
  rw [ex] at A3
  have Ap3 := Ap.fr0 F3
  have cx3 := (cx.fr0 F3)
  have s1 := isi_list (T := τ.tab) cx3
  have t0 : ∀ {h : MH}, At h m (.lst [.str "fraction", x]) → subM (.ref m) (.int 0) h = .ok (.str "fraction") h := fun A => sl_at (j := 0) A rfl (by simp) rfl
  have t1 : ∀ {h : MH}, At h m (.lst [.str "fraction", x]) → subM (.ref m) (.int 1) h = .ok x h := fun A => sl_at (j := 1) A rfl (by simp) rfl
  (try simp only [XN, Mi.Env.set, Nat.reduceAdd, Nat.reduceLeDiff, x_ct, x_cf, ek Ap3, s1])
  cases hl : isLd dx with
  | false =>
    have eg : grown dx = dx := by cases dx <;> first | rfl | cases hl
    have r1 := (cx3.weak (S' := []) (by simp)).repB (T := τ.tab) gx.sb0 (by omega) (by omega) (by omega)
    (try simp only [XN, Mi.Env.set, Nat.reduceAdd, Nat.reduceLeDiff, x_ct, x_cf, t0 A3, t1 A3, r1, ek Ap3, decide_true, eq_self])
    exact hQ _ _ ⟨rfl, F02.trans F3⟩
  | true =>
    obtain ⟨ds, rfl⟩ : ∃ ds, dx = .list ds := by cases dx <;> first | exact ⟨_, rfl⟩ | cases hl
    obtain ⟨l, xs, rfl, hlp, Al, rl⟩ := cx3.at_
    have hlp' : l ≠ pm := by simpa using hlp
    have hd := gx.le ds rfl
    have rs := (cx3.weak (S' := []) (by simp)).self Al
    have hlen := rs.len
    have hlm : l < h2.next := by
      obtain ⟨l', _, e, _, A', _⟩ := cx.at_
      cases e
      exact A'.lt
    (try simp only [XN, Mi.Env.set, Nat.reduceAdd, Nat.reduceLeDiff, x_ct, x_cf, ek Ap3, isl_at Al, app_at Al (v := .str "more") (by omega)])
    have FP : Fr [l] h3 (h3.put l (.lst (xs ++ [.str "more"]))) := Fr.put (by simp)
    have AP : At (h3.put l (.lst (xs ++ [.str "more"]))) l _ := At.put Al.lt
    have aP : V [] (h3.put l (.lst (xs ++ [.str "more"]))) (.ref l) (grown (.list ds)) := .lst AP.lt (by simp) AP.get (((rs.app (.cons (.str "more") .nil)).fr FP).weak (by simp))
    have Ap4 := Ap3.fr FP (by simpa using fun z => hlp' z.symm)
    have A4 := A3.fr FP (by simp; omega)
    have hh : h.next ≤ l := by
      have kx : ∀ l', (.ref l : Mi.MV) = .ref l' → h.next ≤ l' ∨ ∃ kvs, h.get l' = some (.dct kvs) ∧ l' < h.next := by
        rcases hk with ⟨_, z⟩ | ⟨_, z, _⟩
        · rw [z] at ex
          exact kp _ (by rw [← ex]; simp)
        · rw [z] at ex
          exact kp _ (by rw [← ex]; simp)
      rcases kx l rfl with z | ⟨kvs, z, zl⟩
      · exact z
      · have e1 := (F02.trans F3).st l zl (by simp)
        rw [Al.get, z] at e1
        cases e1
    generalize h3.put l (.lst (xs ++ [.str "more"])) = h4 at FP aP Ap4 A4 ⊢
    have r1 := aP.repB (T := τ.tab) gx.sb (by omega) (by omega) (by omega)
    (try simp only [XN, Mi.Env.set, Nat.reduceAdd, Nat.reduceLeDiff, x_ct, x_cf, t0 A4, t1 A4, r1, ek Ap4, decide_true, eq_self])
    exact hQ _ _ ⟨rfl, (F02.trans F3).comp FP (fun y hy => .inr (by simp at hy; subst hy; exact hh))⟩
theorem odd_right_sp {g0 : Int × Int} (a1 : V [] h v d1) (a2 : V [] h w d2) (g1 : od d1) (g2 : od d2) (rg : red g0) (sg : sml g0) : Sp (Mi.run τ.tab (n+9) f_law_odd_right [v, w, pV g0] h) (fun r h' => r = .bl true ∧ Fr [] h h') := by
  refine Sp_for fun Q E hQ => ?_
  have r5 : rngOk 5 := by unfold rngOk; omega
  have r2 : rngOk 2 := by unfold rngOk; omega
  have gg : od (pD g0) := od_pD ⟨by have := sg.a; omega, by have := sg.b; omega⟩
  refine run_w { sl := [some v, some w, some (pV g0), none, none, none, none, none], ex := none } body_law_odd_right rfl rfl rfl ?_
  unfold body_law_odd_right
  have i1 := e_isfr (n := n+5) a1
  have i2 := e_isfr (n := n+5) a2
  have sbb : ∀ p q : Bool, Sb (.list [.bool p, .bool q]) 10 1 10 := fun p q => (sb_lst (sbs_cons (sb_bl p) (sbs_cons (sb_bl q) sbs_nil))).up (by omega) (by omega) (by omega)
  (try simp only [XN, Mi.Env.set, Nat.reduceAdd, Nat.reduceLeDiff, x_ct, x_cf, k_is_fraction, k_is_fraction_1, i1, i2])
  refine newL_v (S := []) (.cons (.bl (isFr d1)) (.cons (.bl (isFr d2)) .nil)) (by simp) (by simp) fun v5 h5 a5 F5 => ?_
  have l1 := l_isfr (n := n+6) (a1.fr0 F5) g1
  have l2 := l_isfr (n := n+6) (a2.fr0 F5) g2
  (try simp only [XN, Mi.Env.set, Nat.reduceAdd, Nat.reduceLeDiff, x_ct, x_cf, a5.repB (T := τ.tab) (sbb _ _) (by omega) (by omega) (by omega), k_law_is_fraction, l1, l2])
  refine newL_v (S := []) (.cons (.bl (isFr d1)) (.cons (.bl (isFr d2)) .nil)) (by simp) (by simp) fun v6 h6 a6 F6 => ?_
  (try simp only [XN, Mi.Env.set, Nat.reduceAdd, Nat.reduceLeDiff, x_ct, x_cf, a6.repB (T := τ.tab) (sbb _ _) (by omega) (by omega) (by omega), decide_true, eq_self, Bool.not_true, q_rng1, r5, if_true])
  refine for_rg (fun i me1 h' => ∃ (o3 o4 o5 o6 : Option Mi.MV), me1 = { sl := [some v, some w, some (pV g0), o3, o4, o5, o6, none], ex := none } ∧ Fr [] h h') ⟨_, _, _, _, rfl, F5.trans F6⟩ ?_ ?_
  · rintro i me1 h7 hi ⟨o3, o4, o5, o6, rfl, F7⟩
    rw [stepF_nm]
    generalize (0 + (i : Int)) = iw
    have b1 := a1.fr0 F7
    have b2 := a2.fr0 F7
    (try simp only [XN, Mi.Env.set, Nat.reduceAdd, Nat.reduceLeDiff, x_ct, x_cf])
    refine newL_v (S := []) (.cons b1 (.cons (pV_v g0) .nil)) (by simp) (by simp) fun v8 h8 a8 F8 => ?_
    (try simp only [XN, Mi.Env.set, Nat.reduceAdd, Nat.reduceLeDiff, x_ct, x_cf])
    refine newL_v (S := []) (.cons (pV_v g0) (.cons (b1.fr0 F8) .nil)) (by simp) (by simp) fun v9 h9 a9 F9 => ?_
    (try simp only [XN, Mi.Env.set, Nat.reduceAdd, Nat.reduceLeDiff, x_ct, x_cf])
    refine newL_v (S := []) (.cons ((b1.fr0 F8).fr0 F9) (.cons ((b2.fr0 F8).fr0 F9) .nil)) (by simp) (by simp) fun v10 h10 a10 F10 => ?_
    (try simp only [XN, Mi.Env.set, Nat.reduceAdd, Nat.reduceLeDiff, x_ct, x_cf])
    refine newL_v (S := []) (.cons (((b1.fr0 F8).fr0 F9).fr0 F10) (.cons (((b1.fr0 F8).fr0 F9).fr0 F10) .nil)) (by simp) (by simp) fun v11 h11 a11 F11 => ?_
    (try simp only [XN, Mi.Env.set, Nat.reduceAdd, Nat.reduceLeDiff, x_ct, x_cf])
    refine newL_r (S := []) (ds := [.list [d1, pD g0], .list [pD g0, d1], .list [d1, d2], .list [d1, d1]]) (.cons (((a8.fr0 F9).fr0 F10).fr0 F11) (.cons ((a9.fr0 F10).fr0 F11) (.cons (a10.fr0 F11) (.cons a11 .nil)))) (by simp) (by simp) fun h12 a12 A12 F12 _ => ?_
    have r12 := a12.self A12
    have F712 := (((F8.trans F9).trans F10).trans F11).trans F12
    (try simp only [XN, Mi.Env.set, Nat.reduceAdd, Nat.reduceLeDiff, x_ct, x_cf, it_lst A12, sz_lst A12])
    refine for_v (S := []) (fun j me1 h' => ∃ (o4 o5 o6 : Option Mi.MV), me1 = { sl := [some v, some w, some (pV g0), some (.int iw), o4, o5, o6, none], ex := none }) A12 (r12.weak (S' := []) (by simp)) (by simp) ⟨_, _, _, rfl⟩ ?_ ?_
    · rintro j x dx me2 h13 hj hdx F13 ax ⟨o4, o5, o6, rfl⟩
      obtain ⟨e1, e2, rfl, q1, q2⟩ : ∃ e1 e2, dx = .list [e1, e2] ∧ od e1 ∧ od e2 := by
        have := List.mem_of_getElem? hdx
        simp only [List.mem_cons, List.not_mem_nil, or_false] at this
        rcases this with rfl | rfl | rfl | rfl
        · exact ⟨_, _, rfl, g1, gg⟩
        · exact ⟨_, _, rfl, gg, g1⟩
        · exact ⟨_, _, rfl, g1, g2⟩
        · exact ⟨_, _, rfl, g1, g1⟩
      obtain ⟨pm, xs, rfl, _, Ap, rp⟩ := ax.at_
      cases rp with | cons c0 rp =>
      cases rp with | cons c1 rp =>
      cases rp
      rename_i x0 x1
      have s0 : ∀ {h : MH}, At h pm (.lst [x0, x1]) → subM (.ref pm) (.int 0) h = .ok x0 h := fun A => sl_at (j := 0) A rfl (by simp) rfl
      have s1 : ∀ {h : MH}, At h pm (.lst [x0, x1]) → subM (.ref pm) (.int 1) h = .ok x1 h := fun A => sl_at (j := 1) A rfl (by simp) rfl
      rw [stepF_nm]
      (try simp only [XN, Mi.Env.set, Nat.reduceAdd, Nat.reduceLeDiff, x_ct, x_cf])
      refine Wr_of (comp_i (J := .rng 0 2) (N := 2) (fun k : Nat => if (if k = 0 then isFr e1 else isFr e2) = true then none else some (.int (k : Int))) rfl (by rw [q_rng1]; (try simp only [XN, Mi.Env.set, Nat.reduceAdd, Nat.reduceLeDiff, x_ct, x_cf, q_mb, q_b1, r2, if_true]); rfl) rfl (by omega) (fun k h14 hk F14 => ⟨_, at_rng hk, ?_⟩) (fun h14 _ => at_rnge)) ?_
      · refine Sp_for fun Q E hQ => ?_
        refine stepG_w (me' := { sl := [some v, some w, some (pV g0), some (.int iw), some (.ref pm), o5, o6, some (.int (0 + (k : Int)))], ex := none }) rfl ?_
        have A14 := Ap.fr0 F14
        rw [Int.zero_add]
        have hk2 : k = 0 ∨ k = 1 := by omega
        rcases hk2 with rfl | rfl
        · have l3 := l_isfr (n := n+6) (c0.fr0 F14) q1
          (try simp only [XN, Mi.Env.set, Nat.reduceAdd, Nat.reduceLeDiff, x_ct, x_cf, show ((0 : Nat) : Int) = 0 from rfl, s0 A14, k_law_is_fraction, l3])
          cases q : isFr e1 <;> (try simp only [XN, Mi.Env.set, Nat.reduceAdd, Nat.reduceLeDiff, x_ct, x_cf, Bool.not_true, Bool.not_false])
          · exact hQ _ _ ⟨by simp [q], Fr.refl⟩
          · exact hQ _ _ ⟨by simp [q], Fr.refl⟩
        · have l3 := l_isfr (n := n+6) (c1.fr0 F14) q2
          (try simp only [XN, Mi.Env.set, Nat.reduceAdd, Nat.reduceLeDiff, x_ct, x_cf, show ((1 : Nat) : Int) = 1 from rfl, s1 A14, k_law_is_fraction, l3])
          cases q : isFr e2 <;> (try simp only [XN, Mi.Env.set, Nat.reduceAdd, Nat.reduceLeDiff, x_ct, x_cf, Bool.not_true, Bool.not_false])
          · exact hQ _ _ ⟨by simp [q], Fr.refl⟩
          · exact hQ _ _ ⟨by simp [q], Fr.refl⟩
      rintro _ h14 ⟨m, rfl, _, A14, F14⟩
      obtain ⟨W, eW, hW⟩ : ∃ W : List Int, (List.range 2).filterMap (fun k : Nat => if (if k = 0 then isFr e1 else isFr e2) = true then none else some (Mi.MV.int (k : Int))) = W.map .int ∧ ((W = [] ∧ isFr e1 = true ∧ isFr e2 = true) ∨ ∃ k W', W = k :: W' ∧ W'.length ≤ 1 ∧ ((k = 0 ∧ isFr e1 = false) ∨ (k = 1 ∧ isFr e1 = true ∧ isFr e2 = false))) := by
        cases q1 : isFr e1 <;> cases q2 : isFr e2
        · exact ⟨[0, 1], rfl, .inr ⟨0, [1], rfl, by simp, .inl ⟨rfl, rfl⟩⟩⟩
        · exact ⟨[0], rfl, .inr ⟨0, [], rfl, by simp, .inl ⟨rfl, rfl⟩⟩⟩
        · exact ⟨[1], rfl, .inr ⟨1, [], rfl, by simp, .inr ⟨rfl, rfl, rfl⟩⟩⟩
        · exact ⟨[], rfl, .inl ⟨rfl, rfl, rfl⟩⟩
      rw [eW] at A14
      have aW : V [] h14 (.ref m) (.list (W.map PyData.int)) := .lst A14.lt (by simp) A14.get (ints_vm W)
      (try simp only [XN, Mi.Env.set, Nat.reduceAdd, Nat.reduceLeDiff, x_ct, x_cf])
      refine newL_r (S := []) .nil (by simp) (by simp) fun h15 _ A15 F15 _ => ?_
      have F1315 := F14.trans F15
      have Ap15 := Ap.fr0 F1315
      have hfz : fzs (W.map PyData.int) ≤ 4000 := by
        rcases hW with ⟨rfl, _⟩ | ⟨k, W', rfl, hl, _⟩
        · simp [fzs]
        · have := fzs_all (w := 1) ((k :: W').map PyData.int) fun x hx => by
            obtain ⟨p, _, rfl⟩ := List.mem_map.mp hx
            simp [fz]
          rw [List.length_map, List.length_cons] at this
          omega
      have ee := c_eqE (S' := []) (aW.fr0 F15) A15 hfz (ints_shaped W)
      rcases hW with ⟨rfl, t1, t2⟩ | ⟨k, W', rfl, hl, hk⟩
      · obtain ⟨p, rfl, rfl, rp⟩ := isFr_inv c0 t1
        obtain ⟨q, rfl, rfl, rq⟩ := isFr_inv c1 t2
        have z1 := q1.sz p rfl
        have z2 := q2.sz q rfl
        have m1 := mul_le2 z1.2 z2.2
        have m2 := mul_le2 z1.2 z2.1
        have dk := fun {h : MH} => due_ok (n := n+5) (h := h) (i := iw) rp rq (od_170 q1) (od_80 q2) (Nat.lt_of_le_of_lt m1 (by decide)) (Nat.lt_of_le_of_lt m2 (by decide))
        have sd := told_sb (due_sb (i := iw) rp rq ⟨Nat.lt_of_le_of_lt z1.1 (by decide), Nat.lt_of_le_of_lt z1.2 (by decide)⟩ (od_80 q2))
        rw [List.map_nil, List.isEmpty_nil] at ee
        (try simp only [XN, Mi.Env.set, Nat.reduceAdd, Nat.reduceLeDiff, x_ct, x_cf, ee, s0 Ap15, s1 Ap15, k_law_due, dk])
        refine newL_v (S := []) (.cons (.str "told") (.cons (due_v iw p q) .nil)) (by simp) (by simp) fun v16 h16 a16 F16 => ?_
        have Ap16 := Ap15.fr0 F16
        (try simp only [XN, Mi.Env.set, Nat.reduceAdd, Nat.reduceLeDiff, x_ct, x_cf, a16.repB (T := τ.tab) sd (by omega) (by omega) (by omega), s0 Ap16, s1 Ap16, k_law_asked])
        refine Wr_of (asked_yes (n := n+1) (nm := false) (i := iw) rp rq q1 q2) ?_
        rintro u17 h17 ⟨a17, F17⟩
        (try simp only [XN, Mi.Env.set, Nat.reduceAdd, Nat.reduceLeDiff, x_ct, x_cf, a17.repB (T := τ.tab) sd (by omega) (by omega) (by omega), decide_true, eq_self, Bool.not_true])
        exact ⟨⟨_, _, _, rfl⟩, (F1315.trans F16).trans F17⟩
      · rw [List.map_cons, List.isEmpty_cons] at ee
        have sk : subM (.ref m) (.int 0) h15 = .ok (.int k) h15 := sl_at (j := 0) (A14.fr0 F15) rfl (by simp) (by simp)
        (try simp only [XN, Mi.Env.set, Nat.reduceAdd, Nat.reduceLeDiff, x_ct, x_cf, ee, s0 Ap15, s1 Ap15, sk, k_law_refused])
        refine Wr_of (refused_sp (n := n) (c0.fr0 F1315) (c1.fr0 F1315) q1 q2 hk) ?_
        rintro _ h16 ⟨rfl, F16⟩
        (try simp only [XN, Mi.Env.set, Nat.reduceAdd, Nat.reduceLeDiff, x_ct, x_cf, Bool.not_true])
        exact ⟨⟨_, _, _, rfl⟩, F1315.trans F16⟩
    · rintro me2 h13 F13 ⟨o4, o5, o6, rfl⟩
      exact ⟨_, _, _, _, rfl, (F7.trans F712).trans F13⟩
  · rintro me1 h7 ⟨o3, o4, o5, o6, rfl, F7⟩
    (try simp only [XN, Mi.Env.set, Nat.reduceAdd, Nat.reduceLeDiff, x_ct, x_cf])
    exact hQ _ _ ⟨rfl, F7⟩
end
end Lw
end

section
namespace Lw
open Mi
open PySem (PyData)
/-! ### folds -/
theorem stD_do {a s : St} (e : foldDo (stD a) = some (some s)) : s = a ∧ 1 ≤ a.n := by
  have e' : (match ptD (pD a.f), ptD (pD a.l) with
    | some f, some l => if 1 ≤ a.n then some (some (⟨a.n, a.s, a.lo, a.hi, f, l⟩ : St)) else none
    | _, _ => none) = some (some s) := e
  cases h1 : ptD (pD a.f) with
  | none => rw [h1] at e'; cases e'
  | some f =>
    cases h2 : ptD (pD a.l) with
    | none => rw [h1, h2] at e'; cases e'
    | some l =>
      rw [h1, h2] at e'
      simp only at e'
      obtain ⟨q1, _⟩ := ptD_inv h1
      obtain ⟨q2, _⟩ := ptD_inv h2
      unfold pD at q1 q2
      simp only [PyData.tuple.injEq, List.cons.injEq, PyData.int.injEq, and_true] at q1 q2
      split at e'
      · cases e'
        exact ⟨st_eq rfl rfl rfl rfl (Prod.ext q1.1.symm q1.2.symm) (Prod.ext q2.1.symm q2.2.symm), by assumption⟩
      · cases e'
theorem isFd_st {a : St} (h : isFd (stD a) = true) : 1 ≤ a.n ∧ a.f.1 ≤ a.l.1 ∧ canS a = true := by
  unfold isFd at h
  cases hd : foldDo (stD a) with
  | none => rw [hd] at h; cases h
  | some o =>
    cases o with
    | none => exact absurd (foldDo_nn hd) (by intro z; cases z)
    | some s =>
      rw [hd] at h
      obtain ⟨rfl, hn⟩ := stD_do hd
      simp at h
      exact ⟨hn, h.1, h.2⟩
theorem canS_bd {a : St} (h : canS a = true) : a.lo ≤ a.f.2 ∧ a.lo ≤ a.l.2 ∧ a.f.2 ≤ a.hi ∧ a.l.2 ≤ a.hi := by
  unfold canS at h
  rw [Bool.and_eq_true] at h
  have h1 := h.1
  simp at h1
  obtain ⟨p, q⟩ := h1
  split at p <;> split at q <;> omega
theorem lack_bd {a : St} (h : canS a = true) : ((lack a).length : Int) * a.lo ≤ (lack a).sum ∧ (lack a).sum ≤ ((lack a).length : Int) * a.hi := by
  have b := canS_bd h
  refine sum_bd _ fun x hx => ?_
  rcases (lack_mem.mp hx).1 with rfl | rfl <;> omega
theorem canS_sum {a : St} (h : canS a = true) : a.n * a.lo ≤ a.s ∧ a.s ≤ a.n * a.hi := by
  have b := canS_bd h
  have k := lack_bd h
  unfold canS at h
  rw [Bool.and_eq_true] at h
  have h2 := h.2
  by_cases q : a.n = 1
  · rw [if_pos q] at h2
    simp at h2
    rw [q]
    omega
  · rw [if_neg q] at h2
    rw [Bool.and_eq_true, Bool.and_eq_true, decide_eq_true_eq, decide_eq_true_eq, decide_eq_true_eq] at h2
    obtain ⟨_, h3, h4⟩ := h2
    have e1 : (a.n - 2 - ((lack a).length : Int)) * a.lo = a.n * a.lo - 2 * a.lo - ((lack a).length : Int) * a.lo := by rw [Int.sub_mul, Int.sub_mul]
    have e2 : (a.n - 2 - ((lack a).length : Int)) * a.hi = a.n * a.hi - 2 * a.hi - ((lack a).length : Int) * a.hi := by rw [Int.sub_mul, Int.sub_mul]
    rw [e1] at h3
    rw [e2] at h4
    omega

/-- the fold of points, by place -/
def plF (f : Int × Int) (r : List (Int × Int)) : St := ⟨((f :: r).length : Int), ((f :: r).map (·.2)).sum, minI f.2 (r.map (·.2)), maxI f.2 (r.map (·.2)), f, (f :: r).getLast (by simp)⟩
theorem plF_fo {f : Int × Int} {r : List (Int × Int)} (pw : (f :: r).Pairwise fun p q => p.1 ≤ q.1) : Fo (f :: r) (plF f r) := by
  have hl : (f :: r).getLast (by simp) ∈ f :: r := List.getLast_mem _
  have hlast : ∀ p ∈ f :: r, p.1 ≤ ((f :: r).getLast (by simp)).1 := fun p hp => by
    have e := List.dropLast_concat_getLast (l := f :: r) (by simp)
    rw [← e] at hp pw
    rcases List.mem_append.mp hp with z | z
    · exact (List.pairwise_append.mp pw).2.2 p z _ (by simp)
    · simp only [List.mem_cons, List.not_mem_nil, or_false] at z
      rw [z]
      exact Int.le_refl _
  have hfirst : ∀ p ∈ f :: r, f.1 ≤ p.1 := fun p hp => by
    rcases List.mem_cons.mp hp with rfl | z
    · exact Int.le_refl _
    · exact (List.pairwise_cons.mp pw).1 p z
  refine ⟨rfl, rfl, minI_mem _ _, fun p hp => minI_le _ _ _ (List.mem_map_of_mem hp), maxI_mem _ _, fun p hp => maxI_ge _ _ _ (List.mem_map_of_mem hp), hfirst _ hl, hfirst, hlast, ?_⟩
  cases r with
  | nil => exact .inl ⟨rfl, rfl⟩
  | cons q r =>
    refine .inr ⟨(q :: r).dropLast, ?_⟩
    show (f :: q :: r).Perm (f :: (f :: q :: r).getLast (by simp) :: (q :: r).dropLast)
    have e1 : (f :: q :: r).getLast (by simp) = (q :: r).getLast (by simp) := List.getLast_cons (by simp)
    rw [e1]
    refine List.Perm.cons f ?_
    have e := List.dropLast_concat_getLast (l := q :: r) (by simp)
    conv => lhs; rw [← e]
    exact List.perm_append_comm (l₁ := (q :: r).dropLast) (l₂ := [(q :: r).getLast (by simp)])
/-- points as drawn -/
structure dr (ps : List (Int × Int)) : Prop where
  pw : ps.Pairwise fun p q => p.1 ≤ q.1
  t0 : ∀ p ∈ ps, 0 ≤ p.1 ∧ p.1 ≤ 10 ^ 12
  v0 : ∀ p ∈ ps, p.2.natAbs ≤ 10 ^ 12
/-- a fold as drawn -/
structure fS (s : St) : Prop where
  n : 1 ≤ s.n ∧ s.n ≤ 10
  sum : s.s.natAbs ≤ 10 ^ 13
  lo : s.lo.natAbs ≤ 10 ^ 12
  hi : s.hi.natAbs ≤ 10 ^ 12
  ft : 0 ≤ s.f.1 ∧ s.f.1 ≤ 10 ^ 12
  fv : s.f.2.natAbs ≤ 10 ^ 12
  lt : 0 ≤ s.l.1 ∧ s.l.1 ≤ 10 ^ 12
  lv : s.l.2.natAbs ≤ 10 ^ 12
  ord : s.f.1 ≤ s.l.1
  can : canS s = true
theorem plF_fS {f : Int × Int} {r : List (Int × Int)} (g : dr (f :: r)) (hl : (f :: r).length ≤ 10) : fS (plF f r) := by
  have fo := plF_fo g.pw
  have hlast : (f :: r).getLast (by simp) ∈ f :: r := List.getLast_mem _
  have hv : ∀ x ∈ (f :: r).map (·.2), x.natAbs ≤ 10 ^ 12 := fun x hx => by
    obtain ⟨p, hp, rfl⟩ := List.mem_map.mp hx
    exact g.v0 p hp
  have hs := sum_le (10 ^ 12) ((f :: r).map (·.2)) hv
  rw [List.length_map] at hs
  refine ⟨?_, ?_, hv _ (minI_mem _ _), hv _ (maxI_mem _ _), g.t0 f (by simp), g.v0 f (by simp), g.t0 _ hlast, g.v0 _ hlast, fo.fl, fo.can⟩
  · show 1 ≤ (((f :: r).length : Nat) : Int) ∧ (((f :: r).length : Nat) : Int) ≤ 10
    rw [List.length_cons] at hl ⊢
    omega
  · show (((f :: r).map fun p : Int × Int => p.2).sum).natAbs ≤ _
    omega
theorem foldDo_st {s : St} (n1 : 1 ≤ s.n) (f0 : 0 ≤ s.f.1) (l0 : 0 ≤ s.l.1) : foldDo (stD s) = some (some s) := by
  have e : foldDo (stD s) = (match ptD (pD s.f), ptD (pD s.l) with
    | some f, some l => if 1 ≤ s.n then some (some (⟨s.n, s.s, s.lo, s.hi, f, l⟩ : St)) else none
    | _, _ => none) := rfl
  have p : ∀ p : Int × Int, 0 ≤ p.1 → ptD (pD p) = some p := fun p h => by
    show (if 0 ≤ p.1 then some (p.1, p.2) else none) = _
    rw [if_pos h]
  rw [e, p _ f0, p _ l0]
  simp only
  rw [if_pos n1]
theorem fS.is {s : St} (g : fS s) : isFd (stD s) = true := by
  unfold isFd
  rw [foldDo_st g.n.1 g.ft.1 g.lt.1]
  simp [g.ord, g.can]
theorem fS.sm {s : St} (g : fS s) : smD (stD s) := fun s' e => by
  rw [foldDo_st g.n.1 g.ft.1 g.lt.1] at e
  cases e
  have h1 := g.n
  have h2 := g.lo
  have h3 := g.hi
  exact ⟨by omega, by omega, by omega⟩
theorem isFd_non : isFd .none = true := rfl
theorem smD_no {d : PyData} (h : foldDo d = none) : smD d := fun s e => by rw [h] at e; cases e
/-- what mean, rate, delta tell -/
def mrd (w : Int) : PyData → PyData
  | .tuple [.int n, .int s, _, _, .tuple [.int a, .int b], .tuple [.int c, .int d]] => if w = 0 then pD (low s n) else if w = 1 then (if a = c then .none else pD (low (d - b) (c - a))) else .int (d - b)
  | _ => .none
theorem mrd_st {w : Int} {s : St} : mrd w (stD s) = if w = 0 then pD (low s.s s.n) else if w = 1 then (if s.f.1 = s.l.1 then .none else pD (low (s.l.2 - s.f.2) (s.l.1 - s.f.1))) else .int (s.l.2 - s.f.2) := rfl
section
variable {S : List Nat} {n : Nat} {h : MH} {v w : Mi.MV} {d d1 d2 : PyData} {Q : Mi.MV → MH → Prop} {E : PySem.Str → Nat → MH → Prop} {b : Nat} {N : Int}
theorem s0 {s : St} {h : MH} : subM (.tup (stV s)) (.int 0) h = .ok (.int s.n) h := sub_t0
theorem s1 {s : St} {h : MH} : subM (.tup (stV s)) (.int 1) h = .ok (.int s.s) h := sub_t1
theorem s4 {s : St} {h : MH} : subM (.tup (stV s)) (.int 4) h = .ok (pV s.f) h := sub_t4
theorem s5 {s : St} {h : MH} : subM (.tup (stV s)) (.int 5) h = .ok (pV s.l) h := sub_t5
theorem isNon_t {xs : List Mi.MV} : isNon (.tup xs) = false := (rfl)
theorem check_w (a : V S h v d) (g : smD d) (ok : isFd d = true → ∀ h', Fr [] h h' → Q .non h') (no : isFd d = false → ∀ k h', h.next ≤ k → At h' k (.exc "InvalidFold" [("given", v)]) → Fr [] h h' → E "InvalidFold" k h') : Wr Q E (Mi.run τ.tab (n+6) f_check_fold [v] h) := by
  refine run_w { sl := [some v], ex := none } body_check_fold rfl rfl rfl ?_
  unfold body_check_fold
  (try simp only [XN, Mi.Env.set, Nat.reduceAdd, Nat.reduceLeDiff, x_ct, x_cf, k_is_fold])
  refine Wr_of (is_fold_sp (n := n) a g) ?_
  rintro _ h1 ⟨rfl, F1⟩
  cases hf : isFd d with
  | false =>
    (try simp only [XN, Mi.Env.set, Nat.reduceAdd, Nat.reduceLeDiff, x_ct, x_cf, Bool.not_false, z_rFo])
    exact ⟨trivial, no hf _ _ F1.nx At.new (F1.trans Fr.new)⟩
  | true =>
    (try simp only [XN, Mi.Env.set, Nat.reduceAdd, Nat.reduceLeDiff, x_ct, x_cf, Bool.not_true])
    exact ok hf h1 F1
/-- a fold or none -/
def okF (d : PyData) : Prop := d = .none ∨ ∃ s, d = stD s ∧ fS s
theorem st_of {s : St} (a : V S h v (stD s)) : v = .tup (stV s) := by
  obtain ⟨x0, x1, x2, x3, x4, x5, d0, d1, d2, d3, d4, d5, rfl, e, a0, a1, a2, a3, a4, a5⟩ := V.six (ds := [.int s.n, .int s.s, .int s.lo, .int s.hi, pD s.f, pD s.l]) a rfl
  cases e
  cases a0
  cases a1
  cases a2
  cases a3
  rw [a4.pt, a5.pt]
  rfl
theorem div1 {y : Int} (hy : y ≠ 0) (hb : y.natAbs ≤ 10 ^ 13) : y.natAbs < 2 ^ 250 := Nat.lt_of_le_of_lt hb (by decide)
theorem mean_w {S0 : List Nat} (a : V S h v d) (g : smD d) (hd : isFd d = true → okF d) (ok : isFd d = true → ∀ u h', V S0 h' u (mrd 0 d) → Fr [] h h' → Q u h') (no : isFd d = false → ∀ k h', h.next ≤ k → At h' k (.exc "InvalidFold" [("given", v)]) → Fr [] h h' → E "InvalidFold" k h') : Wr Q E (Mi.run τ.tab (n+7) f_mean [v] h) := by
  refine run_w { sl := [some v], ex := none } body_mean rfl rfl rfl ?_
  unfold body_mean
  (try simp only [XN, Mi.Env.set, Nat.reduceAdd, Nat.reduceLeDiff, x_ct, x_cf, k_check_fold])
  refine check_w (n := n) a g (fun hf h1 F1 => ?_) no
  have okf := ok hf
  rcases hd hf with rfl | ⟨s, rfl, gs⟩
  · cases a
    (try simp only [XN, Mi.Env.set, Nat.reduceAdd, Nat.reduceLeDiff, x_ct, x_cf])
    exact okf _ _ .non F1
  · rw [mrd_st] at okf
    have ev := st_of a
    subst ev
    have g1 := gs.n
    have g2 := gs.ft
    have g3 := gs.lt
    have g4 := gs.ord
    (try simp only [XN, Mi.Env.set, Nat.reduceAdd, Nat.reduceLeDiff, x_ct, x_cf, isNon_t, s0, s1, k_fraction, frac_ok (n := n+3) (x := s.s) (y := s.n) (by omega) (div1 (by omega) (by omega))])
    exact okf _ _ (pV_v _) F1
theorem delta_w {S0 : List Nat} (a : V S h v d) (g : smD d) (hd : isFd d = true → okF d) (ok : isFd d = true → ∀ u h', V S0 h' u (mrd 2 d) → Fr [] h h' → Q u h') (no : isFd d = false → ∀ k h', h.next ≤ k → At h' k (.exc "InvalidFold" [("given", v)]) → Fr [] h h' → E "InvalidFold" k h') : Wr Q E (Mi.run τ.tab (n+7) f_delta [v] h) := by
  refine run_w { sl := [some v], ex := none } body_delta rfl rfl rfl ?_
  unfold body_delta
  (try simp only [XN, Mi.Env.set, Nat.reduceAdd, Nat.reduceLeDiff, x_ct, x_cf, k_check_fold])
  refine check_w (n := n) a g (fun hf h1 F1 => ?_) no
  have okf := ok hf
  rcases hd hf with rfl | ⟨s, rfl, gs⟩
  · cases a
    (try simp only [XN, Mi.Env.set, Nat.reduceAdd, Nat.reduceLeDiff, x_ct, x_cf])
    exact okf _ _ .non F1
  · rw [mrd_st] at okf
    have ev := st_of a
    subst ev
    have g1 := gs.n
    have g2 := gs.ft
    have g3 := gs.lt
    have g4 := gs.ord
    (try simp only [XN, Mi.Env.set, Nat.reduceAdd, Nat.reduceLeDiff, x_ct, x_cf, isNon_t, s4, s5, p1])
    exact okf _ _ (.int _) F1
theorem rate_w {S0 : List Nat} (a : V S h v d) (g : smD d) (hd : isFd d = true → okF d) (ok : isFd d = true → ∀ u h', V S0 h' u (mrd 1 d) → Fr [] h h' → Q u h') (no : isFd d = false → ∀ k h', h.next ≤ k → At h' k (.exc "InvalidFold" [("given", v)]) → Fr [] h h' → E "InvalidFold" k h') : Wr Q E (Mi.run τ.tab (n+7) f_rate [v] h) := by
  refine run_w { sl := [some v], ex := none } body_rate rfl rfl rfl ?_
  unfold body_rate
  (try simp only [XN, Mi.Env.set, Nat.reduceAdd, Nat.reduceLeDiff, x_ct, x_cf, k_check_fold])
  refine check_w (n := n) a g (fun hf h1 F1 => ?_) no
  have okf := ok hf
  rcases hd hf with rfl | ⟨s, rfl, gs⟩
  · cases a
    (try simp only [XN, Mi.Env.set, Nat.reduceAdd, Nat.reduceLeDiff, x_ct, x_cf])
    exact okf _ _ .non F1
  · rw [mrd_st] at okf
    have ev := st_of a
    subst ev
    have g1 := gs.n
    have g2 := gs.ft
    have g3 := gs.lt
    have g4 := gs.ord
    simp only [if_neg (show ¬ (1 : Int) = 0 by decide), if_pos (show (1 : Int) = 1 by rfl)] at okf
    (try simp only [XN, Mi.Env.set, Nat.reduceAdd, Nat.reduceLeDiff, x_ct, x_cf, isNon_t, s4, s5, p0])
    refine cnd_d (fun z => ?_) (fun z => ?_)
    · rw [if_pos z] at okf
      (try simp only [XN, Mi.Env.set, Nat.reduceAdd, Nat.reduceLeDiff, x_ct, x_cf])
      exact okf _ _ .non F1
    · rw [if_neg z] at okf
      (try simp only [XN, Mi.Env.set, Nat.reduceAdd, Nat.reduceLeDiff, x_ct, x_cf, s4, s5, p0, p1, k_fraction, frac_ok (n := n+3) (x := s.l.2 - s.f.2) (y := s.l.1 - s.f.1) (by omega) (div1 (by omega) (by omega))])
      exact okf _ _ (pV_v _) F1
def hs12f : MHs := .cons "InvalidFold" 2 (.cons (.ret (.lst (.cons (.str "fold") (.cons (.efld 2 "given") .nil)))) .nil) .nil
theorem hdl_2 {P : Po} {k : Nat} {h0 : MH} {x y g : Mi.MV} (A : At h k (.exc "InvalidFold" [("given", g)])) (F : Fr [] h0 h) (H : ∀ m h', h0.next ≤ m → At h' m (.lst [.str "fold", g]) → Fr [] h0 h' → P.rt (.ref m) h') : Wt P (exH τ.tab hs12f "InvalidFold" k { sl := [some x, some y, none], ex := none } h) := by
  unfold hs12f
  refine z_h1 tsub_InvalidFold_InvalidFold (by rw [txf_InvalidFold]; rfl) (by simp) ?_
  have e1 := q_efld (T := τ.tab) (C := τ.tab.hc) (me := { sl := [some x, some y, none], ex := some (2, k) }) (f := "given") (i := 2) rfl (by simp) txa_given A.get (v := g) (by simp [List.lookup_cons])
  (try simp only [XN, Mi.Env.set, Nat.reduceAdd, Nat.reduceLeDiff, x_ct, x_cf, x_newL, e1])
  show P.rt _ _
  exact H _ _ F.nx At.new (F.trans Fr.new)
theorem one_w {S0 : List Nat} {i : Int} (hS : ∀ x ∈ S0, x < h.next) (hi : i = 0 ∨ i = 1 ∨ i = 2) (a : V S h v d) (g : smD d) (hd : isFd d = true → okF d)
    (ok : isFd d = true → ∀ u h', V S0 h' u (.list [.str "told", mrd i d]) → Fr [] h h' → Q u h')
    (no : isFd d = false → ∀ m h', h.next ≤ m → At h' m (.lst [.str "fold", v]) → Fr [] h h' → Q (.ref m) h') : Wr Q E (Mi.run τ.tab (n+8) f_law_one_asked [v, .int i] h) := by
  refine run_w { sl := [some v, some (.int i), none], ex := none } body_law_one_asked rfl rfl rfl ?_
  unfold body_law_one_asked
  rcases hi with rfl | rfl | rfl
  · (try simp only [XN, Mi.Env.set, Nat.reduceAdd, Nat.reduceLeDiff, x_ct, x_cf, decide_true, eq_self, k_mean])
    refine mean_w (n := n) (S0 := S0) a g hd (fun hf u h1 a1 F1 => ?_) (fun hf k h1 hk A F => hdl_2 A F fun m h' hm A' F' => no hf m h' hm A' F')
    (try simp only [XN, Mi.Env.set, Nat.reduceAdd, Nat.reduceLeDiff, x_ct, x_cf])
    exact newL_v (S := S0) (.cons (.str "told") (.cons a1 .nil)) (fun z => by have := hS _ z; have := F1.nx; omega) (by simp) fun u2 h2 a2 F2 => ok hf u2 h2 a2 (F1.trans F2)
  · (try simp only [XN, Mi.Env.set, Nat.reduceAdd, Nat.reduceLeDiff, x_ct, x_cf, show decide ((1 : Int) = 0) = false from rfl, decide_true, eq_self, k_rate, k_rate_1])
    refine rate_w (n := n) (S0 := S0) a g hd (fun hf u h1 a1 F1 => ?_) (fun hf k h1 hk A F => hdl_2 A F fun m h' hm A' F' => no hf m h' hm A' F')
    (try simp only [XN, Mi.Env.set, Nat.reduceAdd, Nat.reduceLeDiff, x_ct, x_cf])
    exact newL_v (S := S0) (.cons (.str "told") (.cons a1 .nil)) (fun z => by have := hS _ z; have := F1.nx; omega) (by simp) fun u2 h2 a2 F2 => ok hf u2 h2 a2 (F1.trans F2)
  · (try simp only [XN, Mi.Env.set, Nat.reduceAdd, Nat.reduceLeDiff, x_ct, x_cf, show decide ((2 : Int) = 0) = false from rfl, show decide ((2 : Int) = 1) = false from rfl, k_delta])
    refine delta_w (n := n) (S0 := S0) a g hd (fun hf u h1 a1 F1 => ?_) (fun hf k h1 hk A F => hdl_2 A F fun m h' hm A' F' => no hf m h' hm A' F')
    (try simp only [XN, Mi.Env.set, Nat.reduceAdd, Nat.reduceLeDiff, x_ct, x_cf])
    exact newL_v (S := S0) (.cons (.str "told") (.cons a1 .nil)) (fun z => by have := hS _ z; have := F1.nx; omega) (by simp) fun u2 h2 a2 F2 => ok hf u2 h2 a2 (F1.trans F2)
theorem six_sp {s : St} (gs : fS s) {i : Int} (i0 : 0 ≤ i) (i6 : i < 6) : Sp (Mi.run τ.tab (n+8) f_law_fold_asked [.tup (stV s), .int i] h) (fun u h' => V [] h' u (.list [.str "told", mrd (i % 3) (stD s)]) ∧ Fr [] h h') := by
  refine Sp_for fun Q E hQ => ?_
  refine run_w { sl := [some (.tup (stV s)), some (.int i), none], ex := none } body_law_fold_asked rfl rfl rfl ?_
  unfold body_law_fold_asked
  have a : ∀ {h : MH}, V [] h (.tup (stV s)) (stD s) := stV_v s
  have okf : isFd (stD s) = true → okF (stD s) := fun _ => .inr ⟨s, rfl, gs⟩
  have nof : ∀ {P : Prop}, isFd (stD s) = false → P := fun z => by rw [gs.is] at z; cases z
  (try simp only [XN, Mi.Env.set, Nat.reduceAdd, Nat.reduceLeDiff, x_ct, x_cf, k_mean])
  refine mean_w (n := n) (S0 := []) a gs.sm okf (fun _ u1 h1 a1 F1 => ?_) (fun z => nof z)
  (try simp only [XN, Mi.Env.set, Nat.reduceAdd, Nat.reduceLeDiff, x_ct, x_cf, k_rate])
  refine rate_w (n := n) (S0 := []) a gs.sm okf (fun _ u2 h2 a2 F2 => ?_) (fun z => nof z)
  (try simp only [XN, Mi.Env.set, Nat.reduceAdd, Nat.reduceLeDiff, x_ct, x_cf, k_delta])
  refine delta_w (n := n) (S0 := []) a gs.sm okf (fun _ u3 h3 a3 F3 => ?_) (fun z => nof z)
  (try simp only [XN, Mi.Env.set, Nat.reduceAdd, Nat.reduceLeDiff, x_ct, x_cf, k_mean, k_mean_1])
  refine mean_w (n := n) (S0 := []) a gs.sm okf (fun _ u4 h4 a4 F4 => ?_) (fun z => nof z)
  (try simp only [XN, Mi.Env.set, Nat.reduceAdd, Nat.reduceLeDiff, x_ct, x_cf, k_rate, k_rate_1])
  refine rate_w (n := n) (S0 := []) a gs.sm okf (fun _ u5 h5 a5 F5 => ?_) (fun z => nof z)
  (try simp only [XN, Mi.Env.set, Nat.reduceAdd, Nat.reduceLeDiff, x_ct, x_cf, k_delta, k_delta_1])
  refine delta_w (n := n) (S0 := []) a gs.sm okf (fun _ u6 h6 a6 F6 => ?_) (fun z => nof z)
  (try simp only [XN, Mi.Env.set, Nat.reduceAdd, Nat.reduceLeDiff, x_ct, x_cf])
  have F16 := (((F2.trans F3).trans F4).trans F5).trans F6
  refine newL_v (S := []) (.cons (a1.fr0 F16) (.cons (a2.fr0 (((F3.trans F4).trans F5).trans F6)) (.cons (a3.fr0 ((F4.trans F5).trans F6)) (.cons (a4.fr0 (F5.trans F6)) (.cons (a5.fr0 F6) (.cons a6 .nil)))))) (by simp) (by simp) fun u7 h7 a7 F7 => ?_
  obtain ⟨x, y, q1, q2, w⟩ := a7.subq (i := i) rfl i0 (by simpa using i6)
  have ey : y = mrd (i % 3) (stD s) := by
    have hi : i = 0 ∨ i = 1 ∨ i = 2 ∨ i = 3 ∨ i = 4 ∨ i = 5 := by omega
    rcases hi with rfl | rfl | rfl | rfl | rfl | rfl <;> (cases q2; rfl)
  subst ey
  (try simp only [XN, Mi.Env.set, Nat.reduceAdd, Nat.reduceLeDiff, x_ct, x_cf, q1])
  exact newL_v (S := []) (.cons (.str "told") (.cons w .nil)) (by simp) (by simp) fun u8 h8 a8 F8 => hQ _ _ ⟨a8, ((F1.trans F16).trans F7).trans F8⟩
end
end Lw
end

section
namespace Lw
open Mi
open PySem (PyData)
structure ob (d : PyData) : Prop where
  no : isFd d = false
  sm : smD d
  sb : Sb (grown d) 6000 10 100
  sb0 : Sb d 6000 10 100
  le : ∀ ds, d = .list ds → ds.length ≤ 1000000
def sL (a : St) : List PyData := [.int a.n, .int a.s, .int a.lo, .int a.hi, pD a.f, pD a.l]
structure bS (a : St) : Prop where
  n : a.n.natAbs ≤ 10 ^ 15
  s : a.s.natAbs ≤ 10 ^ 15
  lo : a.lo.natAbs ≤ 10 ^ 15
  hi : a.hi.natAbs ≤ 10 ^ 15
  f1 : a.f.1.natAbs ≤ 10 ^ 15
  f2 : a.f.2.natAbs ≤ 10 ^ 15
  l1 : a.l.1.natAbs ≤ 10 ^ 15
  l2 : a.l.2.natAbs ≤ 10 ^ 15
theorem lt250 {x : Int} (h : x.natAbs ≤ 10 ^ 15) : x.natAbs < 2 ^ 250 := Nat.lt_of_le_of_lt h (by decide)
theorem bS.all {a : St} (g : bS a) : ∀ x ∈ sL a, Sb x 530 1 10 := fun x hx => by
  simp only [sL, List.mem_cons, List.not_mem_nil, or_false] at hx
  rcases hx with rfl | rfl | rfl | rfl | rfl | rfl
  · exact (sb_int (lt250 g.n)).up (by omega) (by omega) (by omega)
  · exact (sb_int (lt250 g.s)).up (by omega) (by omega) (by omega)
  · exact (sb_int (lt250 g.lo)).up (by omega) (by omega) (by omega)
  · exact (sb_int (lt250 g.hi)).up (by omega) (by omega) (by omega)
  · exact sb_p ⟨lt250 g.f1, lt250 g.f2⟩
  · exact sb_p ⟨lt250 g.l1, lt250 g.l2⟩
theorem sbs9 {ds : List PyData} (hl : ds.length ≤ 8) (h : ∀ x ∈ ds, Sb x 530 1 10) : Sbs ds 5000 1 40 := by
  have := sbs_all (w := 530) (z := 1) (f := 10) ds h
  have h2 : (530 + 1) * ds.length ≤ (530 + 1) * 8 := Nat.mul_le_mul_left _ hl
  exact ⟨this.sh, this.ls, Nat.le_trans this.wt (by omega), this.dp, Nat.le_trans this.fz (by omega)⟩
theorem tup9 {ds : List PyData} (hl : ds.length ≤ 8) (h : ∀ x ∈ ds, Sb x 530 1 10) : Sb (.tuple ds) 6000 10 100 := (sb_tup (sbs9 hl h)).up (by omega) (by omega) (by omega)
theorem lst9 {ds : List PyData} (hl : ds.length ≤ 8) (h : ∀ x ∈ ds, Sb x 530 1 10) : Sb (.list ds) 6000 10 100 := (sb_lst (sbs9 hl h)).up (by omega) (by omega) (by omega)
theorem bS.sb {a : St} (g : bS a) : Sb (stD a) 6000 10 100 := tup9 (ds := sL a) (by simp [sL]) g.all
theorem ob_st {a : St} (g : bS a) (h : isFd (stD a) = true → False) : ob (stD a) := by
  refine ⟨?_, fun s e => ?_, g.sb, g.sb, fun ds z => by cases z⟩
  · cases q : isFd (stD a) with
    | false => rfl
    | true => exact (h q).elim
  · obtain ⟨rfl, _⟩ := stD_do e
    have h1 := g.n
    have h2 := g.lo
    have h3 := g.hi
    exact ⟨by omega, by omega, by omega⟩
theorem ob_none {d : PyData} (h : foldDo d = none) (s : Sb (grown d) 6000 10 100) (s0 : Sb d 6000 10 100) (l : ∀ ds, d = .list ds → ds.length ≤ 1000000) : ob d := ⟨by unfold isFd; rw [h], smD_no h, s, s0, l⟩
theorem mrd_sb {w : Int} {s : St} (g : fS s) : Sb (mrd w (stD s)) 530 1 10 := by
  rw [mrd_st]
  have h1 := g.n
  have h2 := g.sum
  have h3 := g.fv
  have h4 := g.lv
  have h5 := g.ft
  have h6 := g.lt
  have lo : ∀ {x y : Int}, y ≠ 0 → x.natAbs ≤ 10 ^ 15 → y.natAbs ≤ 10 ^ 15 → Sb (pD (low x y)) 530 1 10 := fun {x y} hy hx hy2 => by
    have := low_bd (n := x) hy
    exact sb_p ⟨lt250 (by omega), lt250 (by omega)⟩
  split
  · exact lo (by omega) (by omega) (by omega)
  split
  · split
    · exact sb_non.up (by omega) (by omega) (by omega)
    · exact lo (by omega) (by omega) (by omega)
  · exact (sb_int (lt250 (by omega))).up (by omega) (by omega) (by omega)
section
variable {S : List Nat} {n : Nat} {h : MH} {v w : Mi.MV} {d d1 d2 : PyData} {Q : Mi.MV → MH → Prop} {E : PySem.Str → Nat → MH → Prop} {b : Nat} {N : Int}
theorem points_sp (B : isB h b N) (hN : N < 2 ^ 28) : Sp (Mi.run τ.tab (n+3) f_law_points [.ref b] h) (fun v h' => ∃ m f r, v = .ref m ∧ h.next ≤ m ∧ At h' m (.lst ((f :: r).map pV)) ∧ (f :: r).length ≤ 10 ∧ dr (f :: r) ∧ isB h' b (N + 60) ∧ Fr [b] h h') := by
  refine Sp_for fun Q E hQ => ?_
  refine run_w { sl := [some (.ref b), none, none, none, none, none], ex := none } body_law_points rfl rfl rfl ?_
  unfold body_law_points
  have two : (2 : Nat) ≤ PySem.sizeLine := by rw [PySem.sizeLine_eq]; decide
  (try simp only [XN, Mi.Env.set, Nat.reduceAdd, Nat.reduceLeDiff, x_ct, x_cf, k_law_take])
  refine Wr_of (take_sp (n := n+1) B (by omega) (by omega) (by omega)) ?_
  rintro _ h1 ⟨way, rfl, w0, w1, B1, F1⟩
  (try simp only [XN, Mi.Env.set, Nat.reduceAdd, Nat.reduceLeDiff, x_ct, x_cf, k_law_take])
  refine Wr_of (take_sp (n := n+1) B1 (by omega) (by omega) (by omega)) ?_
  rintro _ h2 ⟨c, rfl, c0, c1, B2, F2⟩
  (try simp only [XN, Mi.Env.set, Nat.reduceAdd, Nat.reduceLeDiff, x_ct, x_cf, two, if_true, sw2, o_pow 10 11 (by decide) (by decide)])
  refine pickN (n := n+1) (ns := [0, 2, 10 ^ (11 : Int).toNat, 7]) rfl B2 (by omega) rfl (by omega) (by omega) fun t ht h3 B3 F3 => ?_
  have ht' : 0 ≤ t ∧ t ≤ 100000000000 := by
    have e : (10 : Int) ^ (11 : Int).toNat = 100000000000 := by decide
    rw [e] at ht
    simp only [List.mem_cons, List.not_mem_nil, or_false] at ht
    rcases ht with rfl | rfl | rfl | rfl <;> omega
  (try simp only [XN, Mi.Env.set, Nat.reduceAdd, Nat.reduceLeDiff, x_ct, x_cf])
  refine newL_r (S := []) .nil (by simp) (by simp) fun h5 _ A6 F5 _ => ?_
  have B6 := B3.fr0 F5
  have F06 : Fr [b] h h5 := ((F1.trans F2).trans F3).trans F5.up
  have hm : h.next ≤ h3.next := ((F1.trans F2).trans F3).nx
  have hb5 : h3.next ≠ b := fun z => by have := B3.lt; omega
  have rc : rngOk (1 + c) := by unfold rngOk; omega
  (try simp only [XN, Mi.Env.set, Nat.reduceAdd, Nat.reduceLeDiff, x_ct, x_cf, two, if_true, sw2, q_rng1, rc])
  refine for_rg (fun i me1 h1 => ∃ t' o5 ps, me1 = { sl := [some (.ref b), some (.int way), some (.int (1 + c)), some (.int t'), some (.ref h3.next), o5], ex := none } ∧ At h1 h3.next (.lst (ps.map pV)) ∧ ps.length = i ∧ ps.Pairwise (fun p q => p.1 ≤ q.1) ∧ (∀ p ∈ ps, 0 ≤ p.1 ∧ p.1 ≤ t' ∧ p.2.natAbs ≤ 10 ^ 12) ∧ 0 ≤ t' ∧ t' ≤ 100000000000 + 41 * i ∧ isB h1 b (N + 4 + 5 * i) ∧ Fr [b] h h1) ⟨t, none, [], rfl, A6, rfl, List.Pairwise.nil, by simp, ht'.1, by omega, B6.up (by omega), F06⟩ ?_ ?_
  · rintro i me1 h1 hi ⟨t', o5, ps, rfl, A, hl, pw, hts, t0', t1', B', F⟩
    rw [stepF_nm]
    (try simp only [XN, Mi.Env.set, Nat.reduceAdd, Nat.reduceLeDiff, x_ct, x_cf, k_law_number, isl_at A])
    refine Wr_of (number_sp (n := n) B' (by omega)) ?_
    rintro _ h7 ⟨v, rfl, v0, B7, F7⟩
    have A7 := A.fr F7 (by simpa using hb5)
    (try simp only [XN, Mi.Env.set, Nat.reduceAdd, Nat.reduceLeDiff, x_ct, x_cf, two, if_true])
    rw [show Mi.MV.tup [.int t', .int v] = pV (t', v) from rfl]
    (try simp only [XN, Mi.Env.set, Nat.reduceAdd, Nat.reduceLeDiff, x_ct, x_cf, app_at A7 (v := pV (t', v)) (by rw [List.length_map]; omega)])
    have FP : Fr [h3.next] h7 (h7.put h3.next (.lst (ps.map pV ++ [pV (t', v)]))) := Fr.put (by simp)
    have AP : At (h7.put h3.next (.lst (ps.map pV ++ [pV (t', v)]))) h3.next _ := At.put A7.lt
    have BP := B7.put (o := .lst (ps.map pV ++ [pV (t', v)])) hb5.symm
    generalize h7.put h3.next (.lst (ps.map pV ++ [pV (t', v)])) = h8 at FP AP BP ⊢
    have F8 : Fr [b] h h8 := (F.trans F7).comp FP (fun k hk => .inr (by simp at hk; subst hk; exact hm))
    have pw' : (ps ++ [(t', v)]).Pairwise (fun p q => p.1 ≤ q.1) := List.pairwise_append.mpr ⟨pw, by simp, fun a ha c hc => by
      simp at hc; subst hc
      exact (hts a ha).2.1⟩
    have hts' : ∀ t2, t' ≤ t2 → ∀ p ∈ ps ++ [(t', v)], 0 ≤ p.1 ∧ p.1 ≤ t2 ∧ p.2.natAbs ≤ 10 ^ 12 := fun t2 ht p hp => by
      rcases List.mem_append.mp hp with q | q
      · have := hts p q; omega
      · simp at q; subst q; exact ⟨t0', ht, v0⟩
    refine cnd_d (fun _ => ?_) (fun _ => ?_)
    · (try simp only [XN, Mi.Env.set, Nat.reduceAdd, Nat.reduceLeDiff, x_ct, x_cf])
      exact ⟨_, _, ps ++ [(t', v)], rfl, by simpa using AP, by simp [hl], pw', hts' _ (by omega), by omega, by omega, BP.up (by omega), F8⟩
    · (try simp only [XN, Mi.Env.set, Nat.reduceAdd, Nat.reduceLeDiff, x_ct, x_cf, k_law_take])
      refine Wr_of (take_sp (n := n+1) BP (by omega) (by omega) (by omega)) ?_
      rintro _ h9 ⟨d, rfl, d0, d1, B9, F9⟩
      (try simp only [XN, Mi.Env.set, Nat.reduceAdd, Nat.reduceLeDiff, x_ct, x_cf])
      exact ⟨_, _, ps ++ [(t', v)], rfl, by simpa using AP.fr F9 (by simpa using hb5), by simp [hl], pw', hts' _ (by omega), by omega, by omega, B9.up (by omega), F8.trans F9⟩
  · rintro me1 h1 ⟨t', o5, ps, rfl, A, hl, pw, hts, t0', t1', B', F⟩
    (try simp only [XN, Mi.Env.set, Nat.reduceAdd, Nat.reduceLeDiff, x_ct, x_cf])
    obtain ⟨f, r, rfl⟩ : ∃ f r, ps = f :: r := by
      match ps, hl with
      | [], hl => simp at hl; omega
      | f :: r, _ => exact ⟨f, r, rfl⟩
    refine hQ _ _ ⟨_, f, r, rfl, hm, A, by omega, ⟨pw, fun p hp => ?_, fun p hp => (hts p hp).2.2⟩, B'.up (by omega), F⟩
    have := hts p hp
    omega
theorem sub_last {h : MH} {k : Nat} {xs : List Mi.MV} {x : Mi.MV} (A : At h k (.lst (xs ++ [x]))) : subM (.ref k) (.int (-1)) h = .ok x h := by
  refine sub_ix (asL A) ?_
  have : Mi.idx (xs ++ [x]).length (-1) = some xs.length := by
    unfold Mi.idx L2.ixN
    simp
    omega
  rw [this]
  simp
/-- what is refused: told with the very value, which may grow -/
theorem bad_turn {odd : Mi.MV} {i : Int} (hi : i = 0 ∨ i = 1 ∨ i = 2) (a : V [] h odd d) (g : ob d) {P : Po} {o0 o1 o2 o3 o4 o5 o6 o8 o9 o10 o11 o13 o14 o15 : Option Mi.MV}
    (H : ∀ o13 o14 h', Fr [] h h' → P.nx { sl := [o0, o1, o2, o3, o4, o5, o6, some (.int i), o8, o9, o10, o11, some odd, o13, o14, o15], ex := none } h') : Wt P (exB τ.tab (Mi.run τ.tab (n+8)) (.cons (.asg (.nm 13) (.ife (.bi .isi (.cons (.var 12) (.cons (.ty "list") .nil))) (.bi .list1 (.cons (.var 12) .nil)) (.var 12))) (.cons (.asg (.nm 14) (.call "_law_one_asked" (.cons (.var 13) (.cons (.var 7) .nil)) [] .nil [])) (.cons (.ifs (.bi .isi (.cons (.var 13) (.cons (.ty "list") .nil))) (.cons (.expr (.app (.var 13) (.str "more"))) .nil) .nil) (.cons (.ifs (.or (.cmp .ne (.sub (.var 14) (.int 0)) (.str "fold")) (.cmp .ne (.bi .repr (.cons (.sub (.var 14) (.int 1)) .nil)) (.bi .repr (.cons (.var 13) .nil)))) (.cons (.ret (.bl false)) .nil) .nil) .nil)))) { sl := [o0, o1, o2, o3, o4, o5, o6, some (.int i), o8, o9, o10, o11, some odd, o13, o14, o15], ex := none } h) := by
  have z1 : ∀ {m : Nat} {x : Mi.MV} {h : MH}, At h m (.lst [.str "fold", x]) → subM (.ref m) (.int 0) h = .ok (.str "fold") h := fun A => sl_at (j := 0) A rfl (by simp) rfl
  have z2 : ∀ {m : Nat} {x : Mi.MV} {h : MH}, At h m (.lst [.str "fold", x]) → subM (.ref m) (.int 1) h = .ok x h := fun A => sl_at (j := 1) A rfl (by simp) rfl
  have nof : ∀ {P : Prop}, isFd d = true → P := fun z => by rw [g.no] at z; cases z
  have s1 := isi_list (T := τ.tab) a
  (try simp only [XN, Mi.Env.set, Nat.reduceAdd, Nat.reduceLeDiff, x_ct, x_cf, s1])
  cases hl : isLd d with
  | false =>
    (try simp only [XN, Mi.Env.set, Nat.reduceAdd, Nat.reduceLeDiff, x_ct, x_cf, k_law_one_asked])
    refine one_w (S0 := []) (n := n) (by simp) hi a g.sm (fun z => nof z) (fun z => nof z) (fun _ m h1 hm A F => ?_)
    have a1 := a.fr0 F
    have s2 := isi_list (T := τ.tab) a1
    rw [hl] at s2
    have r := a1.repB (T := τ.tab) g.sb0 (by omega) (by omega) (by omega)
    (try simp only [XN, Mi.Env.set, Nat.reduceAdd, Nat.reduceLeDiff, x_ct, x_cf, s2, z1 A, z2 A, r, decide_true, eq_self, Bool.not_true])
    exact H _ _ _ F
  | true =>
    obtain ⟨ds, rfl⟩ : ∃ ds, d = .list ds := by cases d <;> first | exact ⟨_, rfl⟩ | cases hl
    obtain ⟨l, xs, rfl, _, Al, rl⟩ := a.at_
    have hlen := rl.len
    have hd := g.le ds rfl
    (try simp only [XN, Mi.Env.set, Nat.reduceAdd, Nat.reduceLeDiff, x_ct, x_cf, b_list (T := τ.tab) (asL Al)])
    refine newL_r (S := []) rl (by simp) (by omega) fun h1 a1 A1 F1 _ => ?_
    have rs := a1.self A1
    have hh : h.next ≤ h.next := Nat.le_refl _
    generalize hm : h.next = m at a1 A1 rs ⊢
    (try simp only [XN, Mi.Env.set, Nat.reduceAdd, Nat.reduceLeDiff, x_ct, x_cf, k_law_one_asked])
    refine one_w (S0 := []) (n := n) (by simp) hi a1 g.sm (fun z => nof z) (fun z => nof z) (fun _ m2 h2 hm2 A F2 => ?_)
    have a2 := a1.fr0 F2
    have s2 := isi_list (T := τ.tab) a2
    rw [hl] at s2
    have A2 := A1.fr0 F2
    (try simp only [XN, Mi.Env.set, Nat.reduceAdd, Nat.reduceLeDiff, x_ct, x_cf, s2, isl_at A2, app_at A2 (v := .str "more") (by omega)])
    have FP : Fr [m] h2 (h2.put m (.lst (xs ++ [.str "more"]))) := Fr.put (by simp)
    have AP : At (h2.put m (.lst (xs ++ [.str "more"]))) m _ := At.put A2.lt
    have aP : V [] (h2.put m (.lst (xs ++ [.str "more"]))) (.ref m) (grown (.list ds)) := .lst AP.lt (by simp) AP.get ((((rs.fr0 F2).app (.cons (.str "more") .nil)).fr FP).weak (by simp))
    have hmm : m2 ≠ m := fun z => by have := A1.lt; omega
    have A4 := A.fr FP (by simpa using hmm)
    have F04 : Fr [] h (h2.put m (.lst (xs ++ [.str "more"]))) := (F1.trans F2).comp FP (fun y hy => .inr (by simp at hy; omega))
    generalize h2.put m (.lst (xs ++ [.str "more"])) = h4 at FP aP A4 F04 ⊢
    have r := aP.repB (T := τ.tab) g.sb (by omega) (by omega) (by omega)
    (try simp only [XN, Mi.Env.set, Nat.reduceAdd, Nat.reduceLeDiff, x_ct, x_cf, z1 A4, z2 A4, r, decide_true, eq_self, Bool.not_true])
    exact H _ _ _ F04
end
end Lw
end

section
namespace Lw
open Mi
open PySem (PyData)
theorem comp_di {T : Tab} {C : CallF} {me : Mi.Env} {h : MH} {vs : List Nat} {t : CT} {it : MI} {c e : ME} {J : Mi.It} {N : Nat} (outs : Nat → PyData) (hx : me.ex = none) (hI : evI T C me it h = .ok J h) (hN : J.size h = N) (hz : N ≤ 16777216)
    (st : ∀ i h1 r, i < N → Fr [] h h1 → h.next ≤ r → r < h1.next → ∃ x, J.at h1 i = some (some x) ∧ Sp (stepG T C me vs t c e x h1) (fun o h2 => ∃ w, o = some w ∧ V [r] h2 w (outs i) ∧ Fr [] h1 h2)) (hend : ∀ h1, Fr [] h h1 → J.at h1 N = some none) :
    Sp (evE T C me (.comp vs t it c e) h) (fun u h' => V [] h' u (.list ((List.range N).map outs)) ∧ Fr [] h h') := by
  refine Sp_for fun Q E hQ => ?_
  refine comp_w hx ?_
  rw [hI, y_ok, hN]
  have F0 : Fr [] h (h.new (.lst [])) := Fr.new
  have fr : ∀ h1, Fr [h.next] (h.new (.lst [])) h1 → Fr [] h h1 := fun h1 f => F0.comp f (by simp)
  refine Wr_of (compL_d (N := N) (h0 := h.new (.lst [])) (outs := outs) (fun h1 i f1 hr hi => st i h1 h.next hi (fr h1 f1) (Nat.le_refl _) hr) (fun h1 f1 => hend h1 (fr h1 f1)) N 0 (h.new (.lst [])) [] [] Fr.refl At.new .nil (by omega) (by simpa using hz)) ?_
  rintro _ h2 ⟨acc', A2, v2, f2⟩
  simp only [Nat.zero_add, List.nil_append] at v2
  exact hQ _ _ ⟨.lst A2.lt (by simp) A2.get (v2.weak (by simp)), fr h2 f2⟩
theorem cut5 {a b c d e f : Mi.MV} : Mi.cut [a, b, c, d, e, f] none (some 5) = [a, b, c, d, e] := by simp [Mi.cut, HT.sIx]
theorem stL_v {S : List Nat} {h : MH} (s : St) : Vs S h (stV s) (sL s) := .cons (.int _) (.cons (.int _) (.cons (.int _) (.cons (.int _) (.cons (.tup (.cons (.int _) (.cons (.int _) .nil))) (.cons (.tup (.cons (.int _) (.cons (.int _) .nil))) .nil)))))
section
variable {S : List Nat} {n : Nat} {h : MH} {v w : Mi.MV} {d d1 d2 : PyData} {Q : Mi.MV → MH → Prop} {E : PySem.Str → Nat → MH → Prop} {b : Nat} {N : Int}
theorem means_sp (B : isB h b N) (hN : N < 2 ^ 28) : Sp (Mi.run τ.tab (n+9) f_law_means_right [.ref b] h) (fun r h' => r = .bl true ∧ isB h' b (N + 60) ∧ Fr [b] h h') := by
  refine Sp_for fun Q E hQ => ?_
  have two : (2 : Nat) ≤ PySem.sizeLine := by rw [PySem.sizeLine_eq]; decide
  have three : (3 : Nat) ≤ PySem.sizeLine := by rw [PySem.sizeLine_eq]; decide
  have six : (6 : Nat) ≤ PySem.sizeLine := by rw [PySem.sizeLine_eq]; decide
  have r3 : rngOk 3 := by unfold rngOk; omega
  have r6 : rngOk 6 := by unfold rngOk; omega
  refine run_w { sl := [some (.ref b), none, none, none, none, none, none, none, none, none, none, none, none, none, none, none], ex := none } body_law_means_right rfl rfl rfl ?_
  unfold body_law_means_right
  (try simp only [XN, Mi.Env.set, Nat.reduceAdd, Nat.reduceLeDiff, x_ct, x_cf, k_law_points])
  refine Wr_of (points_sp (n := n+5) B (by omega)) ?_
  rintro _ h1 ⟨m, f, r, rfl, hm, A1, hl, gd, B1, F1⟩
  have gs := plF_fS gd hl
  have e1 : (plF f r).n = ((f :: r).length : Int) := rfl
  have e2 : (plF f r).s = ((f :: r).map (·.2)).sum := rfl
  have e3 : (plF f r).lo = minI f.2 (r.map (·.2)) := rfl
  have e4 : (plF f r).hi = maxI f.2 (r.map (·.2)) := rfl
  have e5 : (plF f r).f = f := rfl
  have e6 : (plF f r).l = (f :: r).getLast (by simp) := rfl
  generalize hs : plF f r = s at gs e1 e2 e3 e4 e5 e6
  (try simp only [XN, Mi.Env.set, Nat.reduceAdd, Nat.reduceLeDiff, x_ct, x_cf])
  refine comp_lw (fun x : Mi.MV => match x with | .tup [_, y] => some y | _ => none) rfl ?_
  (try simp only [XN, Mi.Env.set, Nat.reduceAdd, Nat.reduceLeDiff, x_ct, x_cf])
  refine ⟨_, _, rfl, A1, by rw [List.length_map]; omega, fun x h3 hx F3 => ?_, fun m2 h2 hm2 A2 F2 => ?_⟩
  · obtain ⟨p, _, rfl⟩ := List.mem_map.mp hx
    refine Sp_for fun Q E hQ => ?_
    refine stepG_w (me' := { sl := [some (.ref b), some (.ref m), none, none, none, none, none, none, none, none, none, none, none, none, none, some (pV p)], ex := none }) rfl ?_
    (try simp only [XN, Mi.Env.set, Nat.reduceAdd, Nat.reduceLeDiff, x_ct, x_cf, p1])
    exact hQ _ _ ⟨rfl, Fr.refl⟩
  have ef : ((f :: r).map pV).filterMap (fun x : Mi.MV => match x with | .tup [_, y] => some y | _ => none) = (f.2 :: r.map (·.2)).map Mi.MV.int := by
    rw [← List.map_cons (f := fun p : Int × Int => p.2)]
    generalize f :: r = L
    induction L with
    | nil => rfl
    | cons x L ih => rw [List.map_cons, List.filterMap_cons, ih]; rfl
  rw [ef] at A2
  have A1' := A1.fr0 F2
  have B2 := B1.fr0 F2
  obtain ⟨L, el⟩ : ∃ L, (f :: r).map pV = L ++ [pV ((f :: r).getLast (by simp))] := ⟨((f :: r).dropLast).map pV, by
    conv => lhs; rw [← List.dropLast_concat_getLast (l := f :: r) (by simp)]
    rw [List.map_append]; rfl⟩
  have g0 : subM (.ref m) (.int 0) h2 = .ok (pV s.f) h2 := by rw [e5]; exact sl_at (j := 0) A1' rfl (by simp) (by simp)
  have g1 : subM (.ref m) (.int (-1)) h2 = .ok (pV s.l) h2 := by rw [e6]; exact sub_last (el ▸ A1')
  have bl : ∀ {h : MH}, At h m (.lst ((f :: r).map pV)) → biM τ.tab .len [.ref m] h = .ok (.int s.n) h := fun A => by
    have := b_lenl (T := τ.tab) A
    rw [List.length_map, ← e1] at this
    exact this
  have bl2 : ∀ {h : MH}, At h m2 (.lst ((f.2 :: r.map (·.2)).map .int)) → biM τ.tab .len [.ref m2] h = .ok (.int s.n) h := fun A => by
    have := b_lenl (T := τ.tab) A
    rw [List.length_map, List.length_cons, List.length_map, ← List.length_cons (a := f), ← e1] at this
    exact this
  have bs : ∀ {h : MH}, At h m2 (.lst ((f.2 :: r.map (·.2)).map .int)) → biM τ.tab .sum [.ref m2] h = .ok (.int s.s) h := fun A => by rw [e2]; exact b_sumL A
  have bmi : ∀ {h : MH}, At h m2 (.lst ((f.2 :: r.map (·.2)).map .int)) → biM τ.tab .min1 [.ref m2] h = .ok (.int s.lo) h := fun A => by rw [e3]; exact b_minL A
  have bma : ∀ {h : MH}, At h m2 (.lst ((f.2 :: r.map (·.2)).map .int)) → biM τ.tab .max1 [.ref m2] h = .ok (.int s.hi) h := fun A => by rw [e4]; exact b_maxL A
  have n1 := gs.n
  have sb := gs.sum
  have lob := gs.lo
  have hib := gs.hi
  have ftb := gs.ft
  have fvb := gs.fv
  have ltb := gs.lt
  have lvb := gs.lv
  have lk : ∀ {x y : Int} {h : MH}, y ≠ 0 → y.natAbs ≤ 10 ^ 13 → Mi.run τ.tab (n+6+2) f_law_lowest [.int x, .int y] h = .ok (pV (low x y)) h := fun hy hb => lowest_ok (n := n+6) hy (Nat.lt_of_le_of_lt hb (by decide))
  (try simp only [XN, Mi.Env.set, Nat.reduceAdd, Nat.reduceLeDiff, x_ct, x_cf, g0, q_neg, g1, two, if_true, sw2, bl A1', bs A2, bmi A2, bma A2, six])
  rw [show ([.int s.n, .int s.s, .int s.lo, .int s.hi, pV s.f, pV s.l] : List Mi.MV) = stV s from rfl]
  (try simp only [XN, Mi.Env.set, Nat.reduceAdd, Nat.reduceLeDiff, x_ct, x_cf, bs A2, bl2 A2, k_law_lowest, lk (x := s.s) (y := s.n) (by omega) (by omega), p1])
  refine newL_r (S := []) (.cons (pV_v (low s.s s.n)) (.cons .non (.cons (.int (s.l.2 - s.f.2)) .nil))) (by simp) (by simp) fun h3 a3 A3 F3 _ => ?_
  have hdm : h.next ≤ h2.next := by have := F1.nx; have := F2.nx; omega
  have hd2 : h2.next ≠ m2 := fun z => by have := A2.lt; omega
  have hd1 : h2.next ≠ m := fun z => by have := A1'.lt; omega
  have hdb : h2.next ≠ b := fun z => by have := B2.lt; omega
  have A1'' := A1'.fr0 F3
  have A2' := A2.fr0 F3
  have B3 := B2.fr0 F3
  have F03 : Fr [b] h h3 := (F1.trans F2.up).trans F3.up
  generalize h2.next = dm at A3 hdm hd2 hd1 hdb ⊢
  (try simp only [XN, Mi.Env.set, Nat.reduceAdd, Nat.reduceLeDiff, x_ct, x_cf, p0])
  refine join_dn (fun me1 h' => me1 = { sl := [some (.ref b), some (.ref m), some (.ref m2), some (pV s.f), some (pV s.l), some (.tup (stV s)), some (.ref dm), none, none, none, none, none, none, none, none, none], ex := none } ∧ V [] h' (.ref dm) (.list [mrd 0 (stD s), mrd 1 (stD s), mrd 2 (stD s)]) ∧ At h' m (.lst ((f :: r).map pV)) ∧ At h' m2 (.lst ((f.2 :: r.map (·.2)).map .int)) ∧ isB h' b (N + 60) ∧ Fr [b] h h') ?_ ?_ ?_
  · intro z
    have q1 : s.l.1 - s.f.1 ≠ 0 := by omega
    (try simp only [XN, Mi.Env.set, Nat.reduceAdd, Nat.reduceLeDiff, x_ct, x_cf, p0, p1, k_law_lowest, lk (x := s.l.2 - s.f.2) (y := s.l.1 - s.f.1) q1 (by omega), ss_at (j := 1) (i := 1) (ys := [pV (low s.s s.n), pV (low (s.l.2 - s.f.2) (s.l.1 - s.f.1)), .int (s.l.2 - s.f.2)]) A3 rfl (by simp) rfl])
    have FP : Fr [dm] h3 (h3.put dm (.lst [pV (low s.s s.n), pV (low (s.l.2 - s.f.2) (s.l.1 - s.f.1)), .int (s.l.2 - s.f.2)])) := Fr.put (by simp)
    have AP := At.put (o := .lst [pV (low s.s s.n), pV (low (s.l.2 - s.f.2) (s.l.1 - s.f.1)), .int (s.l.2 - s.f.2)]) A3.lt
    refine ⟨trivial, .lst AP.lt (by simp) AP.get (.cons (pV_v _) (.cons ?_ (.cons (.int _) .nil))), A1''.fr FP (by simpa using hd1.symm), A2'.fr FP (by simpa using hd2.symm), B3.fr FP (by simpa using hdb.symm), F03.comp FP (fun x hx => .inr (by simp at hx; subst hx; exact hdm))⟩
    rw [mrd_st, if_neg (by decide), if_pos rfl, if_neg (by omega)]
    exact pV_v _
  · intro z
    (try simp only [XN, Mi.Env.set, Nat.reduceAdd, Nat.reduceLeDiff, x_ct, x_cf])
    refine ⟨trivial, .lst A3.lt (by simp) A3.get (.cons (pV_v _) (.cons ?_ (.cons (.int _) .nil))), A1'', A2', B3, F03⟩
    rw [mrd_st, if_neg (by decide), if_pos rfl, if_pos z.symm]
    exact .non
  rintro _ h4 ⟨rfl, aD, Am, Am2, B4, F4⟩
  (try simp only [XN, Mi.Env.set, Nat.reduceAdd, Nat.reduceLeDiff, x_ct, x_cf, q_rng1, r6, if_true])
  refine for_rg (fun i me1 h' => ∃ o7, me1 = { sl := [some (.ref b), some (.ref m), some (.ref m2), some (pV s.f), some (pV s.l), some (.tup (stV s)), some (.ref dm), o7, none, none, none, none, none, none, none, none], ex := none } ∧ Fr [] h4 h') ⟨_, rfl, Fr.refl⟩ ?_ ?_
  · rintro i me1 h5 hi ⟨o7, rfl, F5⟩
    have hi6 : i < 6 := hi
    rw [stepF_nm]
    (try simp only [XN, Mi.Env.set, Nat.reduceAdd, Nat.reduceLeDiff, x_ct, x_cf, k_law_fold_asked])
    refine Wr_of (six_sp (n := n) gs (i := 0 + (i : Int)) (by omega) (by omega)) ?_
    rintro u6 h6 ⟨a6, F6⟩
    have sd := told_sb (mrd_sb (w := (0 + (i : Int)) % 3) gs)
    have m0 : 0 ≤ (0 + (i : Int)) % 3 := Int.emod_nonneg _ (by decide)
    have m3 : (0 + (i : Int)) % 3 < 3 := Int.emod_lt_of_pos _ (by decide)
    have aD6 := (aD.fr0 F5).fr0 F6
    obtain ⟨x, y, q1, q2, vx⟩ := aD6.subq rfl m0 (by simpa using m3)
    have ey : y = mrd ((0 + (i : Int)) % 3) (stD s) := by
      generalize (0 + (i : Int)) % 3 = j at m0 m3 q2
      have hj : j = 0 ∨ j = 1 ∨ j = 2 := by omega
      rcases hj with rfl | rfl | rfl <;> (cases q2; rfl)
    subst ey
    (try simp only [XN, Mi.Env.set, Nat.reduceAdd, Nat.reduceLeDiff, x_ct, x_cf, a6.repB (T := τ.tab) sd (by omega) (by omega) (by omega), show (0 : Int) < 3 by decide, q1])
    refine newL_v (S := []) (.cons (.str "told") (.cons vx .nil)) (by simp) (by simp) fun u7 h7 a7 F7 => ?_
    (try simp only [XN, Mi.Env.set, Nat.reduceAdd, Nat.reduceLeDiff, x_ct, x_cf, a7.repB (T := τ.tab) sd (by omega) (by omega) (by omega), decide_true, eq_self, Bool.not_true])
    exact ⟨_, rfl, (F5.trans F6).trans F7⟩
  rintro me1 h5 ⟨o7, rfl, F5⟩
  have Am5 := Am.fr0 F5
  have A25 := Am2.fr0 F5
  have F05 := F4.trans F5.up
  have sn : small s.n := by unfold small; omega
  have mh := mul_le2 (show s.n.natAbs ≤ 10 by omega) hib
  have bl6 : biM τ.tab .list1 [.tup (stV s)] h5 = newL (stV s) h5 := b_list rfl
  (try simp only [XN, Mi.Env.set, Nat.reduceAdd, Nat.reduceLeDiff, x_ct, x_cf, bl Am5, bmi A25, bma A25, three, if_true, sw3, sn, true_or, six, bl6])
  refine newL_v (S := []) (stL_v s) (by simp) (by simp [stV]) fun v6 h6 a6 F6 => ?_
  rw [show stV s = [.int s.n, .int s.s, .int s.lo, .int s.hi, pV s.f, pV s.l] from rfl]
  (try simp only [XN, Mi.Env.set, Nat.reduceAdd, Nat.reduceLeDiff, x_ct, x_cf, slc_t, cut5, q_dc])
  refine newD_v (S := []) (kvs := []) (by simp) fun v7 h7 a7 F7 => ?_
  have gB : bS s := ⟨by omega, by omega, by omega, by omega, by omega, by omega, by omega, by omega⟩
  have cb := canS_bd gs.can
  have csum := canS_sum gs.can
  have o1 : ob (stD ⟨s.n, s.n * s.hi + 1, s.lo, s.hi, s.f, s.l⟩) := ob_st ⟨by simp only; omega, by simp only; omega, by simp only; omega, by simp only; omega, by simp only; omega, by simp only; omega, by simp only; omega, by simp only; omega⟩ fun z => by
    have := canS_sum (isFd_st z).2.2
    simp only at this
    omega
  have o2 : ob (.list (sL s)) := ob_none rfl (lst9 (by simp [sL]) (fun x hx => by
    rcases List.mem_append.mp hx with z | z
    · exact gB.all x z
    · simp only [List.mem_cons, List.not_mem_nil, or_false] at z; subst z; exact sb_more.up (by omega) (by omega) (by omega))) (lst9 (by simp [sL]) gB.all) (fun ds e => by cases e; simp [sL])
  have o3 : ob (.tuple [.int s.n, .int s.s, .int s.lo, .int s.hi, pD s.f]) := by
    have hh : ∀ x ∈ [.int s.n, .int s.s, .int s.lo, .int s.hi, pD s.f], Sb x 530 1 10 := fun x hx => gB.all x (by
      simp only [sL, List.mem_cons, List.not_mem_nil, or_false] at hx ⊢
      rcases hx with h | h | h | h | h <;> simp [h])
    exact ob_none rfl (tup9 (by simp) hh) (tup9 (by simp) hh) (fun ds e => by cases e)
  have oA : ∀ d ∈ [PyData.int 0, .str "", .dict []], ob d := fun d hd => by
    simp only [List.mem_cons, List.not_mem_nil, or_false] at hd
    rcases hd with rfl | rfl | rfl
    · exact ob_none rfl ((sb_int (i := 0) (by decide)).up (by omega) (by omega) (by omega)) ((sb_int (i := 0) (by decide)).up (by omega) (by omega) (by omega)) (fun ds e => by cases e)
    · exact ob_none rfl ((sb_str (x := "") (w := 10) (by decide +kernel)).up (by omega) (by omega) (by omega)) ((sb_str (x := "") (w := 10) (by decide +kernel)).up (by omega) (by omega) (by omega)) (fun ds e => by cases e)
    · have sd : Sb (.dict []) 6000 10 100 := ⟨by decide, by decide, by decide, by decide, by decide⟩
      exact ob_none rfl sd sd (fun ds e => by cases e)
  have o7 : ob (stD ⟨s.n, s.s, s.hi + 1, s.hi, s.f, s.l⟩) := ob_st ⟨by simp only; omega, by simp only; omega, by simp only; omega, by simp only; omega, by simp only; omega, by simp only; omega, by simp only; omega, by simp only; omega⟩ fun z => by
    have := canS_bd (isFd_st z).2.2
    simp only at this
    omega
  have o8 : ob (stD ⟨s.n, s.s, s.lo, s.hi, (s.l.1 + 1, s.f.2), s.l⟩) := ob_st ⟨by simp only; omega, by simp only; omega, by simp only; omega, by simp only; omega, by simp only; omega, by simp only; omega, by simp only; omega, by simp only; omega⟩ fun z => by
    have := (isFd_st z).2.1
    simp only at this
    omega
  have o9 : ob (stD ⟨0, 0, 0, 0, s.f, s.l⟩) := ob_st ⟨by simp, by simp, by simp, by simp, by simp only; omega, by simp only; omega, by simp only; omega, by simp only; omega⟩ fun z => by
    have := (isFd_st z).1
    simp only at this
    omega
  (try simp only [XN, Mi.Env.set, Nat.reduceAdd, Nat.reduceLeDiff, x_ct, x_cf])
  refine newL_r (S := []) (ds := [stD ⟨s.n, s.n * s.hi + 1, s.lo, s.hi, s.f, s.l⟩, .list (sL s), .tuple [.int s.n, .int s.s, .int s.lo, .int s.hi, pD s.f], .int 0, .str "", .dict []]) (.cons (stV_v ⟨s.n, s.n * s.hi + 1, s.lo, s.hi, s.f, s.l⟩) (.cons (a6.fr0 F7) (.cons (.tup (.cons (.int _) (.cons (.int _) (.cons (.int _) (.cons (.int _) (.cons (pV_v _) .nil)))))) (.cons (.int 0) (.cons (.str "") (.cons a7 .nil)))))) (by simp) (by simp) fun h8 a8 A8 F8 _ => ?_
  have r8 := a8.self A8
  have hho : h5.next ≤ h7.next := (F6.trans F7).nx
  have A28 := ((A25.fr0 F6).fr0 F7).fr0 F8
  have ho2 : m2 ≠ h7.next := fun z => by have := ((A25.fr0 F6).fr0 F7).lt; omega
  have F58 := (F6.trans F7).trans F8
  generalize h7.next = om at A8 r8 hho ho2 ⊢
  (try simp only [XN, Mi.Env.set, Nat.reduceAdd, Nat.reduceLeDiff, x_ct, x_cf, isl_at A8, bs A28, six, if_true, app_at A8 (v := .tup (stV ⟨s.n, s.s, s.hi + 1, s.hi, s.f, s.l⟩)) (by simp)])
  rw [show ([.int s.n, .int s.s, .int (s.hi + 1), .int s.hi, pV s.f, pV s.l] : List Mi.MV) = stV ⟨s.n, s.s, s.hi + 1, s.hi, s.f, s.l⟩ from rfl]
  (try simp only [XN, Mi.Env.set, Nat.reduceAdd, Nat.reduceLeDiff, x_ct, x_cf, app_at A8 (v := .tup (stV ⟨s.n, s.s, s.hi + 1, s.hi, s.f, s.l⟩)) (by simp)])
  have hx8 := r8.len
  revert A8 r8 hx8
  generalize ([.tup [.int s.n, .int (s.n * s.hi + 1), .int s.lo, .int s.hi, pV s.f, pV s.l], v6, .tup [.int s.n, .int s.s, .int s.lo, .int s.hi, pV s.f], .int 0, .str "", v7] : List Mi.MV) = xs8
  intro A8 r8 hx8
  have FP1 : Fr [om] h8 (h8.put om (.lst (xs8 ++ [Mi.MV.tup (stV ⟨s.n, s.s, s.hi + 1, s.hi, s.f, s.l⟩)]))) := Fr.put (by simp)
  have A9 := At.put (o := .lst (xs8 ++ [Mi.MV.tup (stV ⟨s.n, s.s, s.hi + 1, s.hi, s.f, s.l⟩)])) A8.lt
  have r9 := (r8.app (.cons (stV_v ⟨s.n, s.s, s.hi + 1, s.hi, s.f, s.l⟩) .nil)).fr FP1
  have A29 := A28.fr FP1 (by simpa using ho2)
  have hx9 : (xs8 ++ [Mi.MV.tup (stV ⟨s.n, s.s, s.hi + 1, s.hi, s.f, s.l⟩)]).length ≤ 10 := by rw [r9.len]; simp
  generalize h8.put om (.lst (xs8 ++ [Mi.MV.tup (stV ⟨s.n, s.s, s.hi + 1, s.hi, s.f, s.l⟩)])) = h9 at FP1 A9 r9 A29 ⊢
  have e8 : ([.int s.n, .int s.s, .int s.lo, .int s.hi, .tup [.int (s.l.1 + 1), .int s.f.2], pV s.l] : List Mi.MV) = stV ⟨s.n, s.s, s.lo, s.hi, (s.l.1 + 1, s.f.2), s.l⟩ := rfl
  have ap9 := app_at A9 (v := .tup (stV ⟨s.n, s.s, s.lo, s.hi, (s.l.1 + 1, s.f.2), s.l⟩)) (by omega)
  have bs9 := bs A29
  have is9 := isl_at A9
  (try simp only [XN, Mi.Env.set, Nat.reduceAdd, Nat.reduceLeDiff, x_ct, x_cf, is9, bs9, six, two, if_true, p0, p1])
  rw [e8]
  (try simp only [XN, Mi.Env.set, Nat.reduceAdd, Nat.reduceLeDiff, x_ct, x_cf, ap9])
  have FP2 : Fr [om] h9 (h9.put om (.lst (xs8 ++ [Mi.MV.tup (stV ⟨s.n, s.s, s.hi + 1, s.hi, s.f, s.l⟩)] ++ [Mi.MV.tup (stV ⟨s.n, s.s, s.lo, s.hi, (s.l.1 + 1, s.f.2), s.l⟩)]))) := Fr.put (by simp)
  have A10 := At.put (o := .lst (xs8 ++ [Mi.MV.tup (stV ⟨s.n, s.s, s.hi + 1, s.hi, s.f, s.l⟩)] ++ [Mi.MV.tup (stV ⟨s.n, s.s, s.lo, s.hi, (s.l.1 + 1, s.f.2), s.l⟩)])) A9.lt
  have r10 := (r9.app (.cons (stV_v ⟨s.n, s.s, s.lo, s.hi, (s.l.1 + 1, s.f.2), s.l⟩) .nil)).fr FP2
  generalize xs8 ++ [Mi.MV.tup (stV ⟨s.n, s.s, s.hi + 1, s.hi, s.f, s.l⟩)] ++ [Mi.MV.tup (stV ⟨s.n, s.s, s.lo, s.hi, (s.l.1 + 1, s.f.2), s.l⟩)] = xs10 at FP2 A10 r10 ⊢
  have hx10 := r10.len
  generalize h9.put om (.lst xs10) = h10 at FP2 A10 r10 ⊢
  have e9 : ([.int 0, .int 0, .int 0, .int 0, pV s.f, pV s.l] : List Mi.MV) = stV ⟨0, 0, 0, 0, s.f, s.l⟩ := rfl
  have ap10 := app_at A10 (v := .tup (stV ⟨0, 0, 0, 0, s.f, s.l⟩)) (by rw [hx10]; simp)
  have is10 := isl_at A10
  (try simp only [XN, Mi.Env.set, Nat.reduceAdd, Nat.reduceLeDiff, x_ct, x_cf, is10, six, if_true])
  rw [e9]
  (try simp only [XN, Mi.Env.set, Nat.reduceAdd, Nat.reduceLeDiff, x_ct, x_cf, ap10])
  have FP3 : Fr [om] h10 (h10.put om (.lst (xs10 ++ [Mi.MV.tup (stV ⟨0, 0, 0, 0, s.f, s.l⟩)]))) := Fr.put (by simp)
  have A11 := At.put (o := .lst (xs10 ++ [Mi.MV.tup (stV ⟨0, 0, 0, 0, s.f, s.l⟩)])) A10.lt
  have r11 := ((r10.app (.cons (stV_v ⟨0, 0, 0, 0, s.f, s.l⟩) .nil)).fr FP3).weak (S' := []) (by simp)
  generalize xs10 ++ [Mi.MV.tup (stV ⟨0, 0, 0, 0, s.f, s.l⟩)] = xs11 at FP3 A11 r11 ⊢
  generalize h10.put om (.lst xs11) = h11 at FP3 A11 r11 ⊢
  have F511 : Fr [] h5 h11 := ((F58.comp FP1 (fun x hx => .inr (by simp at hx; omega))).comp FP2 (fun x hx => .inr (by simp at hx; omega))).comp FP3 (fun x hx => .inr (by simp at hx; omega))
  have obs : ∀ d ∈ [stD ⟨s.n, s.n * s.hi + 1, s.lo, s.hi, s.f, s.l⟩, .list (sL s), .tuple [.int s.n, .int s.s, .int s.lo, .int s.hi, pD s.f], .int 0, .str "", .dict []] ++ [stD ⟨s.n, s.s, s.hi + 1, s.hi, s.f, s.l⟩] ++ [stD ⟨s.n, s.s, s.lo, s.hi, (s.l.1 + 1, s.f.2), s.l⟩] ++ [stD ⟨0, 0, 0, 0, s.f, s.l⟩], ob d := fun d hd => by
    simp only [List.cons_append, List.nil_append, List.mem_cons, List.not_mem_nil, or_false] at hd
    rcases hd with rfl | rfl | rfl | h | h | h | rfl | rfl | rfl
    · exact o1
    · exact o2
    · exact o3
    · exact oA d (by simp [h])
    · exact oA d (by simp [h])
    · exact oA d (by simp [h])
    · exact o7
    · exact o8
    · exact o9
  have r11' : Vs [] h11 xs11 ([stD ⟨s.n, s.n * s.hi + 1, s.lo, s.hi, s.f, s.l⟩, .list (sL s), .tuple [.int s.n, .int s.s, .int s.lo, .int s.hi, pD s.f], .int 0, .str "", .dict []] ++ [stD ⟨s.n, s.s, s.hi + 1, s.hi, s.f, s.l⟩] ++ [stD ⟨s.n, s.s, s.lo, s.hi, (s.l.1 + 1, s.f.2), s.l⟩] ++ [stD ⟨0, 0, 0, 0, s.f, s.l⟩]) := r11
  clear r11 r10 r9 r8
  generalize [stD ⟨s.n, s.n * s.hi + 1, s.lo, s.hi, s.f, s.l⟩, .list (sL s), .tuple [.int s.n, .int s.s, .int s.lo, .int s.hi, pD s.f], .int 0, .str "", .dict []] ++ [stD ⟨s.n, s.s, s.hi + 1, s.hi, s.f, s.l⟩] ++ [stD ⟨s.n, s.s, s.lo, s.hi, (s.l.1 + 1, s.f.2), s.l⟩] ++ [stD ⟨0, 0, 0, 0, s.f, s.l⟩] = D at r11' obs
  (try simp only [XN, Mi.Env.set, Nat.reduceAdd, Nat.reduceLeDiff, x_ct, x_cf, it_lst A11, sz_lst A11])
  refine for_v (S := []) (fun j me1 h' => ∃ (o7 o12 o13 o14 : Option Mi.MV), me1 = { sl := [some (.ref b), some (.ref m), some (.ref m2), some (pV s.f), some (pV s.l), some (.tup [.int s.n, .int s.s, .int s.lo, .int s.hi, pV s.f, pV s.l]), some (.ref dm), o7, some (.int s.n), some (.int s.lo), some (.int s.hi), some (.ref om), o12, o13, o14, none], ex := none }) A11 r11' (by simp) ⟨_, _, _, _, rfl⟩ ?_ ?_
  · rintro j x dx me1 h12 hj hdx F12 ax ⟨o7, o12, o13, o14, rfl⟩
    have gx := obs dx (List.mem_of_getElem? hdx)
    rw [stepF_nm]
    (try simp only [XN, Mi.Env.set, Nat.reduceAdd, Nat.reduceLeDiff, x_ct, x_cf, q_rng1, r3, if_true])
    refine for_rg (fun i me1 h' => ∃ (o7 o13 o14 : Option Mi.MV), me1 = { sl := [some (.ref b), some (.ref m), some (.ref m2), some (pV s.f), some (pV s.l), some (.tup [.int s.n, .int s.s, .int s.lo, .int s.hi, pV s.f, pV s.l]), some (.ref dm), o7, some (.int s.n), some (.int s.lo), some (.int s.hi), some (.ref om), some x, o13, o14, none], ex := none } ∧ Fr [] h12 h') ⟨_, _, _, rfl, Fr.refl⟩ ?_ ?_
    · rintro i me1 h13 hi ⟨o7, o13, o14, rfl, F13⟩
      have hi3 : i < 3 := hi
      rw [stepF_nm]
      simp only [Mi.Env.set, List.set_cons_zero, List.set_cons_succ]
      exact bad_turn (n := n) (i := 0 + (i : Int)) (by omega) (ax.fr0 F13) gx fun o13 o14 h' F' => ⟨_, _, _, rfl, F13.trans F'⟩
    · rintro me1 h13 ⟨o7, o13, o14, rfl, F13⟩
      exact ⟨⟨_, _, _, _, rfl⟩, F13⟩
  · rintro me1 h12 F12 ⟨o7, o12, o13, o14, rfl⟩
    have F512 := F511.trans F12
    (try simp only [XN, Mi.Env.set, Nat.reduceAdd, Nat.reduceLeDiff, x_ct, x_cf])
    have tn : Sb (.list [.str "told", .none]) 600 2 20 := told_sb (sb_non.up (by omega) (by omega) (by omega))
    refine Wr_of (comp_di (J := .rng 0 3) (N := 3) (fun k : Nat => .list [.str "told", .none]) rfl (by rw [q_rng1]; (try simp only [XN, Mi.Env.set, Nat.reduceAdd, Nat.reduceLeDiff, x_ct, x_cf, q_mb, q_b1, r3, if_true]); rfl) rfl (by omega) (fun k h13 rr hk F13 hr1 hr2 => ⟨_, at_rng hk, ?_⟩) (fun h13 _ => at_rnge)) ?_
    · refine Sp_for fun Q E hQ => ?_
      refine stepG_w (me' := { sl := [some (.ref b), some (.ref m), some (.ref m2), some (pV s.f), some (pV s.l), some (.tup [.int s.n, .int s.s, .int s.lo, .int s.hi, pV s.f, pV s.l]), some (.ref dm), some (.int (0 + (k : Int))), some (.int s.n), some (.int s.lo), some (.int s.hi), some (.ref om), o12, o13, o14, none], ex := none }) rfl ?_
      (try simp only [XN, Mi.Env.set, Nat.reduceAdd, Nat.reduceLeDiff, x_ct, x_cf, k_law_one_asked])
      refine one_w (S := []) (S0 := [rr]) (n := n) (i := 0 + (k : Int)) (by simpa using hr2) (by omega) .non (fun s e => by cases e) (fun _ => .inl rfl) (fun _ u h14 a14 F14 => ?_) (fun z => by cases z)
      exact hQ _ _ ⟨u, rfl, a14, F14⟩
    rintro u13 h13 ⟨a13, F13⟩
    have a13' : V [] h13 u13 (.list [.list [.str "told", .none], .list [.str "told", .none], .list [.str "told", .none]]) := a13
    have s3 : Sb (.list [.list [.str "told", .none], .list [.str "told", .none], .list [.str "told", .none]]) 3000 5 50 := (sb_lst (sbs_cons tn (sbs_cons tn (sbs_cons tn sbs_nil)))).up (by omega) (by omega) (by omega)
    (try simp only [XN, Mi.Env.set, Nat.reduceAdd, Nat.reduceLeDiff, x_ct, x_cf, a13'.repB (T := τ.tab) s3 (by omega) (by omega) (by omega)])
    refine newL_v (S := []) (.cons (.str "told") (.cons .non .nil)) (by simp) (by simp) fun v14 h14 a14 F14 => ?_
    (try simp only [XN, Mi.Env.set, Nat.reduceAdd, Nat.reduceLeDiff, x_ct, x_cf])
    refine newL_v (S := []) (.cons a14 .nil) (by simp) (by simp) fun v15 h15 a15 F15 => ?_
    (try simp only [XN, Mi.Env.set, Nat.reduceAdd, Nat.reduceLeDiff, x_ct, x_cf])
    refine mul_v a15 (by omega) (by omega) (by simp) (by simp) fun v16 h16 a16 F16 => ?_
    have a16' : V [] h16 v16 (.list [.list [.str "told", .none], .list [.str "told", .none], .list [.str "told", .none]]) := a16
    (try simp only [XN, Mi.Env.set, Nat.reduceAdd, Nat.reduceLeDiff, x_ct, x_cf, a16'.repB (T := τ.tab) s3 (by omega) (by omega) (by omega), decide_true, eq_self])
    have Fe := ((((F512.trans F13).trans F14).trans F15).trans F16)
    exact hQ _ _ ⟨rfl, (B4.fr0 F5).fr0 Fe, F05.trans Fe.up⟩
end
end Lw
end

section
namespace Lw
open Mi
open PySem (PyData)
def prD (p : (Int × Int) × (Int × Int)) : PyData := .list [pD p.1, pD p.2]
theorem neg_red {p : Int × Int} (r : red p) : red (-p.1, p.2) := ⟨r.pos, by simp only [Int.natAbs_neg]; exact r.cop⟩
theorem sb_sc {d : PyData} (h : Sb d 300 2 15) : Sb d 600 3 20 := h.up (by omega) (by omega) (by omega)
def numP : List (PyData × PyData) := [(.int 1, .int 0), (.bool true, .int 2), (.int 1, .bool true), (.none, .int 1), (.int 2, .str "1"), (.list [.int 1], .int 2), (.int 0, .int 0), (.tuple [.int 1, .int 2], .int 3)]
def sbB (d : PyData) : Bool := d.showable && d.leavesShort 100 && decide (d.weight ≤ 600) && decide (d.depth ≤ 3) && decide (fz d ≤ 20) && (match d with | .int i => decide (i.natAbs ≤ 100) | _ => true)
theorem sbB_ok {d : PyData} (e : sbB d = true) : Sb d 600 3 20 ∧ ∀ y, d = .int y → y.natAbs < 2 ^ 199 := by
  unfold sbB at e
  simp only [Bool.and_eq_true, decide_eq_true_eq] at e
  obtain ⟨⟨⟨⟨⟨e1, e2⟩, e3⟩, e4⟩, e5⟩, e6⟩ := e
  refine ⟨⟨e1, e2, e3, e4, e5⟩, fun y z => ?_⟩
  subst z
  have : y.natAbs ≤ 100 := of_decide_eq_true e6
  exact Nat.lt_of_le_of_lt this (by decide)
theorem numP_ok : ∀ p ∈ numP, (Sb p.1 600 3 20 ∧ ∀ y, p.1 = .int y → y.natAbs < 2 ^ 199) ∧ (Sb p.2 600 3 20 ∧ ∀ y, p.2 = .int y → y.natAbs < 2 ^ 199) := fun p hp => by
  have := List.all_eq_true.mp (by decide +kernel : (numP.all fun p => sbB p.1 && sbB p.2) = true) p hp
  rw [Bool.and_eq_true] at this
  exact ⟨sbB_ok this.1, sbB_ok this.2⟩
theorem law_sp {n : Nat} {ns : List Int} {h : MH} (hs : At h 0 (.frz (ns.map .int))) : Sp (Mi.run τ.tab (n+10) f_law [.ref 0] h) (fun v h' => v = .bl true) := by
  refine Sp_for fun Q E hQ => ?_
  have two : (2 : Nat) ≤ PySem.sizeLine := by rw [PySem.sizeLine_eq]; decide
  have r3 : rngOk 3 := by unfold rngOk; omega
  refine run_w { sl := [some (.ref 0), none, none, none, none, none, none, none, none, none], ex := none } body_law rfl rfl rfl ?_
  unfold body_law
  (try simp only [XN, Mi.Env.set, Nat.reduceAdd, Nat.reduceLeDiff, x_ct, x_cf, b_lenf hs, q_rng1])
  generalize hN : (if (if (((ns.map Mi.MV.int).length : Nat) : Int) < 4 then (((ns.map Mi.MV.int).length : Nat) : Int) else 4) > 2 then (if (((ns.map Mi.MV.int).length : Nat) : Int) < 4 then (((ns.map Mi.MV.int).length : Nat) : Int) else 4) else 2) = N
  have hN6 : 0 ≤ N ∧ N ≤ 4 := by rw [← hN]; split <;> split <;> omega
  (try simp only [XN, Mi.Env.set, Nat.reduceAdd, Nat.reduceLeDiff, x_ct, x_cf, show rngOk N by unfold rngOk; omega, if_true])
  refine for_rg (fun i me h' => ∃ (o1 o2 o3 o4 o5 o6 o7 o8 o9 : Option Mi.MV), At h' 0 (.frz (ns.map .int)) ∧ me = { sl := [some (.ref 0), o1, o2, o3, o4, o5, o6, o7, o8, o9], ex := none }) ⟨_, _, _, _, _, _, _, _, _, hs, rfl⟩ ?_ ?_
  · rintro i _ h1 hi ⟨o1, o2, o3, o4, o5, o6, o7, o8, o9, hs, rfl⟩
    rw [stepF_nm]
    (try simp only [XN, Mi.Env.set, Nat.reduceAdd, Nat.reduceLeDiff, x_ct, x_cf, Int.zero_add, k_law_cell])
    refine Wr_of (cell_sp (n := n+8) (k := i) hs) ?_
    rintro _ h2 ⟨g, rfl, F2⟩
    have hs2 := hs.fr0 F2
    (try simp only [XN, Mi.Env.set, Nat.reduceAdd, Nat.reduceLeDiff, x_ct, x_cf, k_law_box])
    refine Wr_of (box_sp (n := n+8) g) ?_
    rintro _ h3 ⟨rfl, B3, F3⟩
    have hs3 := hs2.fr0 F3
    have hb0 : (0 : Nat) ≠ h2.next := fun z => by have := hs2.lt; omega
    generalize h2.next = b at B3 hb0 ⊢
    (try simp only [XN, Mi.Env.set, Nat.reduceAdd, Nat.reduceLeDiff, x_ct, x_cf, k_law_fraction])
    refine Wr_of (fraction_sp (n := n+6) B3 (by omega)) ?_
    rintro _ h4 ⟨p, rfl, rp, p1a, p2a, B4, F4⟩
    (try simp only [XN, Mi.Env.set, Nat.reduceAdd, Nat.reduceLeDiff, x_ct, x_cf, k_law_fraction])
    refine Wr_of (fraction_sp (n := n+6) B4 (by omega)) ?_
    rintro _ h5 ⟨q, rfl, rq, q1a, q2a, B5, F5⟩
    have sp : sml p := ⟨p1a, p2a⟩
    have sq : sml q := ⟨q1a, q2a⟩
    have c1 := mul_le2 p1a q2a
    have c2 : (q.1 * p.2).natAbs ≤ 10 ^ 12 * 10 ^ 12 := mul_le2 q1a p2a
    have c3 := mul_le2 p2a q2a
    have c4 := mul_le2 p2a q1a
    have d1 := due_ok (n := n+6) (h := h5) (i := 0) rp rq (sp.sz (by decide)) (sq.sz (by decide)) (Nat.lt_of_le_of_lt c3 (by decide)) (Nat.lt_of_le_of_lt c4 (by decide))
    have e0 : dueM 0 p q = pV (opP p q) := rfl
    rw [e0] at d1
    have hne := mul_pos rp.pos rq.pos
    obtain ⟨r0, _⟩ := low_ok (n := p.1 * q.2 + q.1 * p.2) hne
    have b0 := low_bd (n := p.1 * q.2 + q.1 * p.2) hne
    have r0' : red (opP p q) := r0
    have z1 : (opP p q).1.natAbs ≤ 2 * 10 ^ 24 := by have := b0.1; show (low _ _).1.natAbs ≤ _; omega
    have z2 : (opP p q).2.natAbs ≤ 10 ^ 24 := by have := b0.2; show (low _ _).2.natAbs ≤ _; omega
    (try simp only [XN, Mi.Env.set, Nat.reduceAdd, Nat.reduceLeDiff, x_ct, x_cf, two, if_true, sw2, k_law_due, d1, k_law_fraction])
    refine Wr_of (fraction_sp (n := n+6) B5 (by omega)) ?_
    rintro _ h6 ⟨t, rfl, rt, t1a, t2a, B6, F6⟩
    have st : sml t := ⟨t1a, t2a⟩
    generalize opP p q = u at r0' z1 z2 ⊢
    have w3 := mul_le2 z2 t2a
    have w4 := mul_le2 z2 t1a
    have w5 := mul_le2 z1 t1a
    have d2 := due_ok (n := n+6) (h := h6) (i := 2) r0' rt ⟨Nat.lt_of_le_of_lt z1 (by decide), Nat.lt_of_le_of_lt z2 (by decide)⟩ (st.sz (by decide)) (Nat.lt_of_le_of_lt w3 (by decide)) (Nat.lt_of_le_of_lt w4 (by decide))
    have e2 : dueM 2 u t = pV (opT u t) := rfl
    rw [e2] at d2
    have hne2 := mul_pos r0'.pos rt.pos
    have rl : red (opT u t) := (low_ok (n := u.1 * t.1) hne2).1
    have bl : big (opT u t) := by
      have := low_bd (n := u.1 * t.1) hne2
      exact ⟨by show (low _ _).1.natAbs ≤ _; omega, by show (low _ _).2.natAbs ≤ _; omega⟩
    generalize opT u t = l at d2 rl bl
    have F36 := (F4.trans F5).trans F6
    have bp : big p := ⟨Nat.le_trans p1a (by decide), Nat.le_trans p2a (by decide)⟩
    have bq : big q := ⟨Nat.le_trans q1a (by decide), Nat.le_trans q2a (by decide)⟩
    have bn : big (-p.1, p.2) := ⟨by show (-p.1).natAbs ≤ _; rw [Int.natAbs_neg]; exact bp.a, bp.b⟩
    have r01 : red (0, 1) := ⟨by decide, by decide⟩
    have s01 : sml (0, 1) := ⟨by decide, by decide⟩
    (try simp only [XN, Mi.Env.set, Nat.reduceAdd, Nat.reduceLeDiff, x_ct, x_cf, k_law_due, d2])
    refine newL_v (S := []) (.cons (pV_v p) (.cons (pV_v q) .nil)) (by simp) (by simp) fun v7 h7 a7 F7 => ?_
    (try simp only [XN, Mi.Env.set, Nat.reduceAdd, Nat.reduceLeDiff, x_ct, x_cf])
    refine newL_v (S := []) (.cons (pV_v q) (.cons (pV_v p) .nil)) (by simp) (by simp) fun v8 h8 a8 F8 => ?_
    (try simp only [XN, Mi.Env.set, Nat.reduceAdd, Nat.reduceLeDiff, x_ct, x_cf])
    refine newL_v (S := []) (.cons (pV_v p) (.cons (pV_v p) .nil)) (by simp) (by simp) fun v9 h9 a9 F9 => ?_
    (try simp only [XN, Mi.Env.set, Nat.reduceAdd, Nat.reduceLeDiff, x_ct, x_cf])
    refine newL_v (S := []) (.cons (pV_v l) (.cons (pV_v q) .nil)) (by simp) (by simp) fun v10 h10 a10 F10 => ?_
    (try simp only [XN, Mi.Env.set, Nat.reduceAdd, Nat.reduceLeDiff, x_ct, x_cf, two, if_true])
    refine newL_v (S := []) (.cons (pV_v p) (.cons (pV_v (0, 1)) .nil)) (by simp) (by simp) fun v11 h11 a11 F11 => ?_
    (try simp only [XN, Mi.Env.set, Nat.reduceAdd, Nat.reduceLeDiff, x_ct, x_cf, p0, p1, q_neg, two, if_true])
    refine newL_v (S := []) (.cons (pV_v (-p.1, p.2)) (.cons (pV_v p) .nil)) (by simp) (by simp) fun v12 h12 a12 F12 => ?_
    (try simp only [XN, Mi.Env.set, Nat.reduceAdd, Nat.reduceLeDiff, x_ct, x_cf])
    have G1 := (((F8.trans F9).trans F10).trans F11).trans F12
    have G2 := ((F9.trans F10).trans F11).trans F12
    have G3 := (F10.trans F11).trans F12
    have G4 := F11.trans F12
    refine newL_r (S := []) (ds := [(p, q), (q, p), (p, p), (l, q), (p, (0, 1)), ((-p.1, p.2), p)].map prD) (.cons (a7.fr0 G1) (.cons (a8.fr0 G2) (.cons (a9.fr0 G3) (.cons (a10.fr0 G4) (.cons (a11.fr0 F12) (.cons a12 .nil)))))) (by simp) (by simp) fun h13 a13 A13 F13 _ => ?_
    have G := (F7.trans G1).trans F13
    have B13 := B6.fr0 G
    have hs13 : At h13 0 (.frz (ns.map .int)) := (hs3.fr F36 (by simpa using hb0)).fr0 G
    have PR : ∀ x ∈ [(p, q), (q, p), (p, p), (l, q), (p, ((0, 1) : Int × Int)), ((-p.1, p.2), p)], (red x.1 ∧ big x.1) ∧ red x.2 ∧ sml x.2 := fun x hx => by
      simp only [List.mem_cons, List.not_mem_nil, or_false] at hx
      rcases hx with rfl | rfl | rfl | rfl | rfl | rfl
      · exact ⟨⟨rp, bp⟩, rq, sq⟩
      · exact ⟨⟨rq, bq⟩, rp, sp⟩
      · exact ⟨⟨rp, bp⟩, rp, sp⟩
      · exact ⟨⟨rl, bl⟩, rq, sq⟩
      · exact ⟨⟨rp, bp⟩, r01, s01⟩
      · exact ⟨⟨neg_red rp, bn⟩, rp, sp⟩
    (try simp only [XN, Mi.Env.set, Nat.reduceAdd, Nat.reduceLeDiff, x_ct, x_cf, it_lst A13, sz_lst A13])
    refine for_v (S := []) (fun j me1 h' => ∃ (o6 : Option Mi.MV), me1 = { sl := [some (.ref 0), some (.int (i : Int)), some (.ref b), some (pV p), some (pV q), some (pV l), o6, o7, o8, o9], ex := none }) A13 ((a13.self A13).weak (S' := []) (by simp)) (by simp) ⟨_, rfl⟩ ?_ ?_
    · rintro j x dx me1 h14 hj hdx F14 ax ⟨o6, rfl⟩
      obtain ⟨z, hz, rfl⟩ := List.mem_map.mp (List.mem_of_getElem? hdx)
      obtain ⟨⟨y1, y2⟩, y3, y4⟩ := PR z hz
      obtain ⟨pm, xs, rfl, _, Ap, rr⟩ := ax.at_
      cases rr with | cons c0 rr =>
      cases rr with | cons c1 rr =>
      cases rr
      have x0 := c0.pt
      have x1 := c1.pt
      subst x0 x1
      have q0 : subM (.ref pm) (.int 0) h14 = .ok (pV z.1) h14 := sl_at (j := 0) Ap rfl (by simp) rfl
      have q1 : subM (.ref pm) (.int 1) h14 = .ok (pV z.2) h14 := sl_at (j := 1) Ap rfl (by simp) rfl
      rw [stepF_nm]
      (try simp only [XN, Mi.Env.set, Nat.reduceAdd, Nat.reduceLeDiff, x_ct, x_cf, q0, q1, k_law_pair_right])
      refine Wr_of (pair_right_sp (n := n+1) y1 y3 y2 y4) ?_
      rintro _ h15 ⟨rfl, F15⟩
      (try simp only [XN, Mi.Env.set, Nat.reduceAdd, Nat.reduceLeDiff, x_ct, x_cf, Bool.not_true])
      exact ⟨⟨_, rfl⟩, F15⟩
    rintro me1 h14 F14 ⟨o6, rfl⟩
    have B14 := B13.fr0 F14
    have hs14 := hs13.fr0 F14
    (try simp only [XN, Mi.Env.set, Nat.reduceAdd, Nat.reduceLeDiff, x_ct, x_cf, q_rng1, r3, if_true])
    refine for_rg (fun j me1 h' => ∃ (o7 o8 o9 : Option Mi.MV), me1 = { sl := [some (.ref 0), some (.int (i : Int)), some (.ref b), some (pV p), some (pV q), some (pV l), o6, o7, o8, o9], ex := none } ∧ isB h' b (100 + 100 * j) ∧ At h' 0 (.frz (ns.map .int))) ⟨_, _, _, rfl, B14.up (by omega), hs14⟩ ?_ ?_
    · rintro j me1 h15 hj ⟨o7, o8, o9, rfl, B15, hs15⟩
      have hj3 : j < 3 := hj
      rw [stepF_nm]
      (try simp only [XN, Mi.Env.set, Nat.reduceAdd, Nat.reduceLeDiff, x_ct, x_cf, k_law_number])
      refine Wr_of (number_sp (n := n+7) B15 (by omega)) ?_
      rintro _ h16 ⟨x, rfl, x0, B16, F16⟩
      (try simp only [XN, Mi.Env.set, Nat.reduceAdd, Nat.reduceLeDiff, x_ct, x_cf, k_law_number])
      refine Wr_of (number_sp (n := n+7) B16 (by omega)) ?_
      rintro _ h17 ⟨y, rfl, y0, B17, F17⟩
      have ib : ∀ {z : Int}, z.natAbs ≤ 10 ^ 14 → (∀ y, PyData.int z = .int y → y.natAbs < 2 ^ 199) ∧ Sb (.int z) 600 3 20 := fun {z} hz => ⟨fun y e => by cases e; exact Nat.lt_of_le_of_lt hz (by decide), (sb_int (Nat.lt_of_le_of_lt hz (by decide))).up (by omega) (by omega) (by omega)⟩
      have i1 := ib (z := x) (by omega)
      have i2 := ib (z := y) (by omega)
      have i3 := ib (z := 6 * x) (by omega)
      have i4 := ib (z := 4 * y) (by omega)
      have i5 := ib (z := 0) (by decide)
      have sm6 : small 6 := by unfold small; omega
      have sm4 : small 4 := by unfold small; omega
      (try simp only [XN, Mi.Env.set, Nat.reduceAdd, Nat.reduceLeDiff, x_ct, x_cf, two, if_true, sw2, k_law_numbers_right])
      refine Wr_of (numbers_sp (n := n+4) (.int x) (.int y) i1.1 i2.1 i1.2 i2.2) ?_
      rintro _ h18 ⟨rfl, F18⟩
      (try simp only [XN, Mi.Env.set, Nat.reduceAdd, Nat.reduceLeDiff, x_ct, x_cf, Bool.not_true, sm6, sm4, true_or, k_law_numbers_right])
      refine Wr_of (numbers_sp (n := n+4) (.int (6 * x)) (.int (4 * y)) i3.1 i4.1 i3.2 i4.2) ?_
      rintro _ h19 ⟨rfl, F19⟩
      (try simp only [XN, Mi.Env.set, Nat.reduceAdd, Nat.reduceLeDiff, x_ct, x_cf, Bool.not_true, k_law_numbers_right])
      refine Wr_of (numbers_sp (n := n+4) (.int 0) (.int y) i5.1 i2.1 i5.2 i2.2) ?_
      rintro _ h20 ⟨rfl, F20⟩
      have B20 := ((B17.fr0 F18).fr0 F19).fr0 F20
      have hs20 := (((((hs15.fr F16 (by simpa using hb0)).fr F17 (by simpa using hb0)).fr0 F18).fr0 F19).fr0 F20)
      (try simp only [XN, Mi.Env.set, Nat.reduceAdd, Nat.reduceLeDiff, x_ct, x_cf, Bool.not_true, k_law_odd])
      refine Wr_of (odd_sp (n := n+6) B20 (by omega)) ?_
      rintro u1 h21 ⟨d1, a21, g1, B21, F21⟩
      (try simp only [XN, Mi.Env.set, Nat.reduceAdd, Nat.reduceLeDiff, x_ct, x_cf, k_law_odd])
      refine Wr_of (odd_sp (n := n+6) B21 (by omega)) ?_
      rintro u2 h22 ⟨d2, a22, g2, B22, F22⟩
      (try simp only [XN, Mi.Env.set, Nat.reduceAdd, Nat.reduceLeDiff, x_ct, x_cf, k_law_odd_right])
      refine Wr_of (odd_right_sp (n := n) ((a21.fr F22).weak (S' := []) (by simp)) (a22.weak (S' := []) (by simp)) g1 g2 rp sp) ?_
      rintro _ h23 ⟨rfl, F23⟩
      have B23 := B22.fr0 F23
      (try simp only [XN, Mi.Env.set, Nat.reduceAdd, Nat.reduceLeDiff, x_ct, x_cf, Bool.not_true, k_law_means_right])
      refine Wr_of (means_sp (n := n) B23 (by omega)) ?_
      rintro _ h24 ⟨rfl, B24, F24⟩
      (try simp only [XN, Mi.Env.set, Nat.reduceAdd, Nat.reduceLeDiff, x_ct, x_cf, Bool.not_true])
      exact ⟨_, _, _, rfl, B24.up (by omega), (((hs20.fr F21 (by simpa using hb0)).fr F22 (by simpa using hb0)).fr0 F23).fr F24 (by simpa using hb0)⟩
    · rintro me1 h15 ⟨o7, o8, o9, rfl, B15, hs15⟩
      (try simp only [XN, Mi.Env.set, Nat.reduceAdd, Nat.reduceLeDiff, x_ct, x_cf])
      refine newL_v (S := []) (.cons (.int 1) (.cons (.int 0) .nil)) (by simp) (by simp) fun v1 k1 a1 K1 => ?_
      (try simp only [XN, Mi.Env.set, Nat.reduceAdd, Nat.reduceLeDiff, x_ct, x_cf])
      refine newL_v (S := []) (.cons (.bl true) (.cons (.int 2) .nil)) (by simp) (by simp) fun v2 k2 a2 K2 => ?_
      (try simp only [XN, Mi.Env.set, Nat.reduceAdd, Nat.reduceLeDiff, x_ct, x_cf])
      refine newL_v (S := []) (.cons (.int 1) (.cons (.bl true) .nil)) (by simp) (by simp) fun v3 k3 a3 K3 => ?_
      (try simp only [XN, Mi.Env.set, Nat.reduceAdd, Nat.reduceLeDiff, x_ct, x_cf])
      refine newL_v (S := []) (.cons .non (.cons (.int 1) .nil)) (by simp) (by simp) fun v4 k4 a4 K4 => ?_
      (try simp only [XN, Mi.Env.set, Nat.reduceAdd, Nat.reduceLeDiff, x_ct, x_cf])
      refine newL_v (S := []) (.cons (.int 2) (.cons (.str "1") .nil)) (by simp) (by simp) fun v5 k5 a5 K5 => ?_
      (try simp only [XN, Mi.Env.set, Nat.reduceAdd, Nat.reduceLeDiff, x_ct, x_cf])
      refine newL_v (S := []) (.cons (.int 1) .nil) (by simp) (by simp) fun v6 k6 a6 K6 => ?_
      (try simp only [XN, Mi.Env.set, Nat.reduceAdd, Nat.reduceLeDiff, x_ct, x_cf])
      refine newL_v (S := []) (.cons a6 (.cons (.int 2) .nil)) (by simp) (by simp) fun v7 k7 a7 K7 => ?_
      (try simp only [XN, Mi.Env.set, Nat.reduceAdd, Nat.reduceLeDiff, x_ct, x_cf])
      refine newL_v (S := []) (.cons (.int 0) (.cons (.int 0) .nil)) (by simp) (by simp) fun v8 k8 a8 K8 => ?_
      (try simp only [XN, Mi.Env.set, Nat.reduceAdd, Nat.reduceLeDiff, x_ct, x_cf, two, if_true])
      refine newL_v (S := []) (.cons (.tup (.cons (.int 1) (.cons (.int 2) .nil))) (.cons (.int 3) .nil)) (by simp) (by simp) fun v9 k9 a9 K9 => ?_
      (try simp only [XN, Mi.Env.set, Nat.reduceAdd, Nat.reduceLeDiff, x_ct, x_cf])
      have L8 := K8.trans K9
      have L7 := K7.trans L8
      have L6 := K6.trans L7
      have L5 := K5.trans L6
      have L4 := K4.trans L5
      have L3 := K3.trans L4
      have L2 := K2.trans L3
      refine newL_r (S := []) (ds := numP.map fun p => .list [p.1, p.2]) (.cons (a1.fr0 L2) (.cons (a2.fr0 L3) (.cons (a3.fr0 L4) (.cons (a4.fr0 L5) (.cons (a5.fr0 L6) (.cons (a7.fr0 L8) (.cons (a8.fr0 K9) (.cons a9 .nil)))))))) (by simp) (by simp) fun k10 a10 A10 K10 _ => ?_
      (try simp only [XN, Mi.Env.set, Nat.reduceAdd, Nat.reduceLeDiff, x_ct, x_cf, it_lst A10, sz_lst A10])
      refine for_v (S := []) (fun j me1 h' => ∃ (o6 : Option Mi.MV), me1 = { sl := [some (.ref 0), some (.int (i : Int)), some (.ref b), some (pV p), some (pV q), some (pV l), o6, o7, o8, o9], ex := none }) A10 ((a10.self A10).weak (S' := []) (by simp)) (by simp) ⟨_, rfl⟩ ?_ ?_
      · rintro j x dx me1 h16 hj hdx F16 ax ⟨o6, rfl⟩
        obtain ⟨z, hz, rfl⟩ := List.mem_map.mp (List.mem_of_getElem? hdx)
        obtain ⟨⟨y1, y2⟩, y3, y4⟩ := numP_ok z hz
        obtain ⟨pm, xs, rfl, _, Ap, rr⟩ := ax.at_
        cases rr with | cons c0 rr =>
        cases rr with | cons c1 rr =>
        cases rr
        rename_i x0 x1
        have q0 : subM (.ref pm) (.int 0) h16 = .ok x0 h16 := sl_at (j := 0) Ap rfl (by simp) rfl
        have q1 : subM (.ref pm) (.int 1) h16 = .ok x1 h16 := sl_at (j := 1) Ap rfl (by simp) rfl
        rw [stepF_nm]
        (try simp only [XN, Mi.Env.set, Nat.reduceAdd, Nat.reduceLeDiff, x_ct, x_cf, q0, q1, k_law_numbers_right])
        refine Wr_of (numbers_sp (n := n+4) c0 c1 y2 y4 y1 y3) ?_
        rintro _ h17 ⟨rfl, F17⟩
        (try simp only [XN, Mi.Env.set, Nat.reduceAdd, Nat.reduceLeDiff, x_ct, x_cf, Bool.not_true])
        exact ⟨⟨_, rfl⟩, F17⟩
      · rintro me1 h16 F16 ⟨o6, rfl⟩
        exact ⟨_, _, _, _, _, _, _, _, _, hs15.fr0 (((K1.trans L2).trans K10).trans F16), rfl⟩
  · rintro _ h1 ⟨o1, o2, o3, o4, o5, o6, o7, o8, o9, hs, rfl⟩
    (try simp only [XN, Mi.Env.set, Nat.reduceAdd, Nat.reduceLeDiff, x_ct, x_cf])
    exact hQ _ _ rfl
theorem hrun (ns : List Int) : ∃ h', Mi.run τ.tab 10 f_law [.ref 0] (scr ns) = .ok (.bl true) h' := by
  obtain ⟨v, h', e, rfl⟩ := law_sp (n := 0) (scr_at ns)
  exact ⟨h', e⟩
end Lw
end

section
namespace Lw
open PySem PySem.Spec PyProof.Rows L2 Mi
-- CHECKS
theorem p_law : e_law.Pt f_law := by
  intro kV doc pm an cdv ct
  refine ⟨rfl, fun p hp us ws h1 h2 s => ?_⟩
  rcases List.mem_cons.mp hp with e | hp
  · subst e
    match us, ws, h1, h2 with | [u0], [], _, _ => exact .of_eq (by first | rfl | kernel_rfl)
  cases hp
theorem p_law_numbers_right : e_law_numbers_right.Pt f_law_numbers_right := by
  intro kV doc pm an cdv ct
  refine ⟨rfl, fun p hp us ws h1 h2 s => ?_⟩
  rcases List.mem_cons.mp hp with e | hp
  · subst e
    match us, ws, h1, h2 with | [u0, u1], [], _, _ => exact .of_eq (by first | rfl | kernel_rfl)
  cases hp
theorem p_law_made : e_law_made.Pt f_law_made := by
  intro kV doc pm an cdv ct
  refine ⟨rfl, fun p hp us ws h1 h2 s => ?_⟩
  rcases List.mem_cons.mp hp with e | hp
  · subst e
    match us, ws, h1, h2 with | [u0, u1, u2], [], _, _ => exact .of_eq (by first | rfl | kernel_rfl)
  cases hp
theorem p_fraction : e_fraction.Pt f_fraction := by
  intro kV doc pm an cdv ct
  refine ⟨rfl, fun p hp us ws h1 h2 s => ?_⟩
  rcases List.mem_cons.mp hp with e | hp
  · subst e
    match us, ws, h1, h2 with | [], [w0, w1], _, _ => exact .of_eq (by first | rfl | kernel_rfl)
  rcases List.mem_cons.mp hp with e | hp
  · subst e
    match us, ws, h1, h2 with | [u0, u1], [], _, _ => exact .of_eq (by first | rfl | kernel_rfl)
  cases hp
theorem p_is_value : e_is_value.Pt f_is_value := by
  intro kV doc pm an cdv ct
  refine ⟨rfl, fun p hp us ws h1 h2 s => ?_⟩
  rcases List.mem_cons.mp hp with e | hp
  · subst e
    match us, ws, h1, h2 with | [u0], [], _, _ => exact .of_eq (by first | rfl | kernel_rfl)
  cases hp
theorem p_is_integer : e_is_integer.Pt f_is_integer := by
  intro kV doc pm an cdv ct
  refine ⟨rfl, fun p hp us ws h1 h2 s => ?_⟩
  rcases List.mem_cons.mp hp with e | hp
  · subst e
    match us, ws, h1, h2 with | [u0], [], _, _ => exact .of_eq (by first | rfl | kernel_rfl)
  cases hp
theorem p_law_lowest : e_law_lowest.Pt f_law_lowest := by
  intro kV doc pm an cdv ct
  refine ⟨rfl, fun p hp us ws h1 h2 s => ?_⟩
  rcases List.mem_cons.mp hp with e | hp
  · subst e
    match us, ws, h1, h2 with | [u0, u1], [], _, _ => exact .of_eq (by first | rfl | kernel_rfl)
  cases hp
theorem p_law_shared : e_law_shared.Pt f_law_shared := by
  intro kV doc pm an cdv ct
  refine ⟨rfl, fun p hp us ws h1 h2 s => ?_⟩
  rcases List.mem_cons.mp hp with e | hp
  · subst e
    match us, ws, h1, h2 with | [u0, u1], [], _, _ => exact .of_eq (by first | rfl | kernel_rfl)
  cases hp
theorem p_law_is_int : e_law_is_int.Pt f_law_is_int := by
  intro kV doc pm an cdv ct
  refine ⟨rfl, fun p hp us ws h1 h2 s => ?_⟩
  rcases List.mem_cons.mp hp with e | hp
  · subst e
    match us, ws, h1, h2 with | [u0], [], _, _ => exact .of_eq (by first | rfl | kernel_rfl)
  cases hp
theorem p_law_means_right : e_law_means_right.Pt f_law_means_right := by
  intro kV doc pm an cdv ct
  refine ⟨rfl, fun p hp us ws h1 h2 s => ?_⟩
  rcases List.mem_cons.mp hp with e | hp
  · subst e
    match us, ws, h1, h2 with | [u0], [], _, _ => exact .of_eq (by first | rfl | kernel_rfl)
  cases hp
theorem p_law_one_asked : e_law_one_asked.Pt f_law_one_asked := by
  intro kV doc pm an cdv ct
  refine ⟨rfl, fun p hp us ws h1 h2 s => ?_⟩
  rcases List.mem_cons.mp hp with e | hp
  · subst e
    match us, ws, h1, h2 with | [u0, u1], [], _, _ => exact .of_eq (by first | rfl | kernel_rfl)
  cases hp
theorem p_delta : e_delta.Pt f_delta := by
  intro kV doc pm an cdv ct
  refine ⟨rfl, fun p hp us ws h1 h2 s => ?_⟩
  rcases List.mem_cons.mp hp with e | hp
  · subst e
    match us, ws, h1, h2 with | [], [w0], _, _ => exact .of_eq (by first | rfl | kernel_rfl)
  rcases List.mem_cons.mp hp with e | hp
  · subst e
    match us, ws, h1, h2 with | [u0], [], _, _ => exact .of_eq (by first | rfl | kernel_rfl)
  cases hp
theorem p_check_fold : e_check_fold.Pt f_check_fold := by
  intro kV doc pm an cdv ct
  refine ⟨rfl, fun p hp us ws h1 h2 s => ?_⟩
  rcases List.mem_cons.mp hp with e | hp
  · subst e
    match us, ws, h1, h2 with | [u0], [], _, _ => exact .of_eq (by first | rfl | kernel_rfl)
  cases hp
theorem p_is_fold : e_is_fold.Pt f_is_fold := by
  intro kV doc pm an cdv ct
  refine ⟨rfl, fun p hp us ws h1 h2 s => ?_⟩
  rcases List.mem_cons.mp hp with e | hp
  · subst e
    match us, ws, h1, h2 with | [u0], [], _, _ => exact .of_eq (by first | rfl | kernel_rfl)
  cases hp
theorem p_can_sum : e_can_sum.Pt f_can_sum := by
  intro kV doc pm an cdv ct
  refine ⟨rfl, fun p hp us ws h1 h2 s => ?_⟩
  rcases List.mem_cons.mp hp with e | hp
  · subst e
    match us, ws, h1, h2 with | [u0], [], _, _ => exact .of_eq (by first | rfl | kernel_rfl)
  cases hp
theorem p_lacking : e_lacking.Pt f_lacking := by
  intro kV doc pm an cdv ct
  refine ⟨rfl, fun p hp us ws h1 h2 s => ?_⟩
  rcases List.mem_cons.mp hp with e | hp
  · subst e
    match us, ws, h1, h2 with | [u0], [], _, _ => exact .of_eq (by first | rfl | kernel_rfl)
  cases hp
theorem p_has_parts : e_has_parts.Pt f_has_parts := by
  intro kV doc pm an cdv ct
  refine ⟨rfl, fun p hp us ws h1 h2 s => ?_⟩
  rcases List.mem_cons.mp hp with e | hp
  · subst e
    match us, ws, h1, h2 with | [u0], [], _, _ => exact .of_eq (by first | rfl | kernel_rfl)
  cases hp
theorem p_is_point : e_is_point.Pt f_is_point := by
  intro kV doc pm an cdv ct
  refine ⟨rfl, fun p hp us ws h1 h2 s => ?_⟩
  rcases List.mem_cons.mp hp with e | hp
  · subst e
    match us, ws, h1, h2 with | [u0], [], _, _ => exact .of_eq (by first | rfl | kernel_rfl)
  cases hp
theorem p_is_count : e_is_count.Pt f_is_count := by
  intro kV doc pm an cdv ct
  refine ⟨rfl, fun p hp us ws h1 h2 s => ?_⟩
  rcases List.mem_cons.mp hp with e | hp
  · subst e
    match us, ws, h1, h2 with | [u0], [], _, _ => exact .of_eq (by first | rfl | kernel_rfl)
  cases hp
theorem p_rate : e_rate.Pt f_rate := by
  intro kV doc pm an cdv ct
  refine ⟨rfl, fun p hp us ws h1 h2 s => ?_⟩
  rcases List.mem_cons.mp hp with e | hp
  · subst e
    match us, ws, h1, h2 with | [], [w0], _, _ => exact .of_eq (by first | rfl | kernel_rfl)
  rcases List.mem_cons.mp hp with e | hp
  · subst e
    match us, ws, h1, h2 with | [u0], [], _, _ => exact .of_eq (by first | rfl | kernel_rfl)
  cases hp
theorem p_mean : e_mean.Pt f_mean := by
  intro kV doc pm an cdv ct
  refine ⟨rfl, fun p hp us ws h1 h2 s => ?_⟩
  rcases List.mem_cons.mp hp with e | hp
  · subst e
    match us, ws, h1, h2 with | [], [w0], _, _ => exact .of_eq (by first | rfl | kernel_rfl)
  rcases List.mem_cons.mp hp with e | hp
  · subst e
    match us, ws, h1, h2 with | [u0], [], _, _ => exact .of_eq (by first | rfl | kernel_rfl)
  cases hp
theorem p_law_fold_asked : e_law_fold_asked.Pt f_law_fold_asked := by
  intro kV doc pm an cdv ct
  refine ⟨rfl, fun p hp us ws h1 h2 s => ?_⟩
  rcases List.mem_cons.mp hp with e | hp
  · subst e
    match us, ws, h1, h2 with | [u0, u1], [], _, _ => exact .of_eq (by first | rfl | kernel_rfl)
  cases hp
theorem p_law_points : e_law_points.Pt f_law_points := by
  intro kV doc pm an cdv ct
  refine ⟨rfl, fun p hp us ws h1 h2 s => ?_⟩
  rcases List.mem_cons.mp hp with e | hp
  · subst e
    match us, ws, h1, h2 with | [u0], [], _, _ => exact .of_eq (by first | rfl | kernel_rfl)
  cases hp
theorem p_law_take : e_law_take.Pt f_law_take := by
  intro kV doc pm an cdv ct
  refine ⟨rfl, fun p hp us ws h1 h2 s => ?_⟩
  rcases List.mem_cons.mp hp with e | hp
  · subst e
    match us, ws, h1, h2 with | [u0, u1], [], _, _ => exact .of_eq (by first | rfl | kernel_rfl)
  cases hp
theorem p_law_number : e_law_number.Pt f_law_number := by
  intro kV doc pm an cdv ct
  refine ⟨rfl, fun p hp us ws h1 h2 s => ?_⟩
  rcases List.mem_cons.mp hp with e | hp
  · subst e
    match us, ws, h1, h2 with | [u0], [], _, _ => exact .of_eq (by first | rfl | kernel_rfl)
  cases hp
theorem p_law_odd : e_law_odd.Pt f_law_odd := by
  intro kV doc pm an cdv ct
  refine ⟨rfl, fun p hp us ws h1 h2 s => ?_⟩
  rcases List.mem_cons.mp hp with e | hp
  · subst e
    match us, ws, h1, h2 with | [u0], [], _, _ => exact .of_eq (by first | rfl | kernel_rfl)
  cases hp
theorem p_law_odd_right : e_law_odd_right.Pt f_law_odd_right := by
  intro kV doc pm an cdv ct
  refine ⟨rfl, fun p hp us ws h1 h2 s => ?_⟩
  rcases List.mem_cons.mp hp with e | hp
  · subst e
    match us, ws, h1, h2 with | [u0, u1, u2], [], _, _ => exact .of_eq (by first | rfl | kernel_rfl)
  cases hp
theorem p_law_refused : e_law_refused.Pt f_law_refused := by
  intro kV doc pm an cdv ct
  refine ⟨rfl, fun p hp us ws h1 h2 s => ?_⟩
  rcases List.mem_cons.mp hp with e | hp
  · subst e
    match us, ws, h1, h2 with | [u0, u1, u2, u3], [], _, _ => exact .of_eq (by first | rfl | kernel_rfl)
  cases hp
theorem p_law_asked : e_law_asked.Pt f_law_asked := by
  intro kV doc pm an cdv ct
  refine ⟨rfl, fun p hp us ws h1 h2 s => ?_⟩
  rcases List.mem_cons.mp hp with e | hp
  · subst e
    match us, ws, h1, h2 with | [u0, u1, u2, u3], [], _, _ => exact .of_eq (by first | rfl | kernel_rfl)
  cases hp
theorem p_law_told : e_law_told.Pt f_law_told := by
  intro kV doc pm an cdv ct
  refine ⟨rfl, fun p hp us ws h1 h2 s => ?_⟩
  rcases List.mem_cons.mp hp with e | hp
  · subst e
    match us, ws, h1, h2 with | [u0, u1, u2, u3], [], _, _ => exact .of_eq (by first | rfl | kernel_rfl)
  cases hp
theorem p_compared : e_compared.Pt f_compared := by
  intro kV doc pm an cdv ct
  refine ⟨rfl, fun p hp us ws h1 h2 s => ?_⟩
  rcases List.mem_cons.mp hp with e | hp
  · subst e
    match us, ws, h1, h2 with | [], [w0, w1], _, _ => exact .of_eq (by first | rfl | kernel_rfl)
  rcases List.mem_cons.mp hp with e | hp
  · subst e
    match us, ws, h1, h2 with | [u0, u1], [], _, _ => exact .of_eq (by first | rfl | kernel_rfl)
  cases hp
theorem p_check_fractions : e_check_fractions.Pt f_check_fractions := by
  intro kV doc pm an cdv ct
  refine ⟨rfl, fun p hp us ws h1 h2 s => ?_⟩
  rcases List.mem_cons.mp hp with e | hp
  · subst e
    match us, ws, h1, h2 with | [u0, u1], [], _, _ => exact .of_eq (by first | rfl | kernel_rfl)
  cases hp
theorem p_is_fraction : e_is_fraction.Pt f_is_fraction := by
  intro kV doc pm an cdv ct
  refine ⟨rfl, fun p hp us ws h1 h2 s => ?_⟩
  rcases List.mem_cons.mp hp with e | hp
  · subst e
    match us, ws, h1, h2 with | [], [w0], _, _ => exact .of_eq (by first | rfl | kernel_rfl)
  rcases List.mem_cons.mp hp with e | hp
  · subst e
    match us, ws, h1, h2 with | [u0], [], _, _ => exact .of_eq (by first | rfl | kernel_rfl)
  cases hp
theorem p_by : e_by.Pt f_by := by
  intro kV doc pm an cdv ct
  refine ⟨rfl, fun p hp us ws h1 h2 s => ?_⟩
  rcases List.mem_cons.mp hp with e | hp
  · subst e
    match us, ws, h1, h2 with | [], [w0, w1], _, _ => exact .of_eq (by first | rfl | kernel_rfl)
  rcases List.mem_cons.mp hp with e | hp
  · subst e
    match us, ws, h1, h2 with | [u0, u1], [], _, _ => exact .of_eq (by first | rfl | kernel_rfl)
  cases hp
theorem p_times : e_times.Pt f_times := by
  intro kV doc pm an cdv ct
  refine ⟨rfl, fun p hp us ws h1 h2 s => ?_⟩
  rcases List.mem_cons.mp hp with e | hp
  · subst e
    match us, ws, h1, h2 with | [], [w0, w1], _, _ => exact .of_eq (by first | rfl | kernel_rfl)
  rcases List.mem_cons.mp hp with e | hp
  · subst e
    match us, ws, h1, h2 with | [u0, u1], [], _, _ => exact .of_eq (by first | rfl | kernel_rfl)
  cases hp
theorem p_minus : e_minus.Pt f_minus := by
  intro kV doc pm an cdv ct
  refine ⟨rfl, fun p hp us ws h1 h2 s => ?_⟩
  rcases List.mem_cons.mp hp with e | hp
  · subst e
    match us, ws, h1, h2 with | [], [w0, w1], _, _ => exact .of_eq (by first | rfl | kernel_rfl)
  rcases List.mem_cons.mp hp with e | hp
  · subst e
    match us, ws, h1, h2 with | [u0, u1], [], _, _ => exact .of_eq (by first | rfl | kernel_rfl)
  cases hp
theorem p_plus : e_plus.Pt f_plus := by
  intro kV doc pm an cdv ct
  refine ⟨rfl, fun p hp us ws h1 h2 s => ?_⟩
  rcases List.mem_cons.mp hp with e | hp
  · subst e
    match us, ws, h1, h2 with | [], [w0, w1], _, _ => exact .of_eq (by first | rfl | kernel_rfl)
  rcases List.mem_cons.mp hp with e | hp
  · subst e
    match us, ws, h1, h2 with | [u0, u1], [], _, _ => exact .of_eq (by first | rfl | kernel_rfl)
  cases hp
theorem p_law_due : e_law_due.Pt f_law_due := by
  intro kV doc pm an cdv ct
  refine ⟨rfl, fun p hp us ws h1 h2 s => ?_⟩
  rcases List.mem_cons.mp hp with e | hp
  · subst e
    match us, ws, h1, h2 with | [u0, u1, u2], [], _, _ => exact .of_eq (by first | rfl | kernel_rfl)
  cases hp
theorem p_law_is_fraction : e_law_is_fraction.Pt f_law_is_fraction := by
  intro kV doc pm an cdv ct
  refine ⟨rfl, fun p hp us ws h1 h2 s => ?_⟩
  rcases List.mem_cons.mp hp with e | hp
  · subst e
    match us, ws, h1, h2 with | [u0], [], _, _ => exact .of_eq (by first | rfl | kernel_rfl)
  cases hp
theorem p_law_pair_right : e_law_pair_right.Pt f_law_pair_right := by
  intro kV doc pm an cdv ct
  refine ⟨rfl, fun p hp us ws h1 h2 s => ?_⟩
  rcases List.mem_cons.mp hp with e | hp
  · subst e
    match us, ws, h1, h2 with | [u0, u1], [], _, _ => exact .of_eq (by first | rfl | kernel_rfl)
  cases hp
theorem p_law_fraction : e_law_fraction.Pt f_law_fraction := by
  intro kV doc pm an cdv ct
  refine ⟨rfl, fun p hp us ws h1 h2 s => ?_⟩
  rcases List.mem_cons.mp hp with e | hp
  · subst e
    match us, ws, h1, h2 with | [u0], [], _, _ => exact .of_eq (by first | rfl | kernel_rfl)
  cases hp
theorem p_law_cell : e_law_cell.Pt f_law_cell := by
  intro kV doc pm an cdv ct
  refine ⟨rfl, fun p hp us ws h1 h2 s => ?_⟩
  rcases List.mem_cons.mp hp with e | hp
  · subst e
    match us, ws, h1, h2 with | [u0, u1], [], _, _ => exact .of_eq (by first | rfl | kernel_rfl)
  cases hp
theorem p_law_box : e_law_box.Pt f_law_box := by
  intro kV doc pm an cdv ct
  refine ⟨rfl, fun p hp us ws h1 h2 s => ?_⟩
  rcases List.mem_cons.mp hp with e | hp
  · subst e
    match us, ws, h1, h2 with | [u0], [], _, _ => exact .of_eq (by first | rfl | kernel_rfl)
  cases hp
theorem p_InvalidFold_init : e_InvalidFold_init.Bn := by
  intro kV doc pm an cdv ct us hl
  match us, hl with | [u0, u1], _ => first | rfl | kernel_rfl
theorem p_InvalidFraction_init : e_InvalidFraction_init.Bn := by
  intro kV doc pm an cdv ct us hl
  match us, hl with | [u0, u1], _ => first | rfl | kernel_rfl
theorem b1 : ∀ f ∈ τ.fns, f.2.1.Pt f.2.2 := by
  intro x hx
  rcases List.mem_cons.mp hx with e | hx
  · subst e; exact p_law
  rcases List.mem_cons.mp hx with e | hx
  · subst e; exact p_law_numbers_right
  rcases List.mem_cons.mp hx with e | hx
  · subst e; exact p_law_made
  rcases List.mem_cons.mp hx with e | hx
  · subst e; exact p_fraction
  rcases List.mem_cons.mp hx with e | hx
  · subst e; exact p_is_value
  rcases List.mem_cons.mp hx with e | hx
  · subst e; exact p_is_integer
  rcases List.mem_cons.mp hx with e | hx
  · subst e; exact p_law_lowest
  rcases List.mem_cons.mp hx with e | hx
  · subst e; exact p_law_shared
  rcases List.mem_cons.mp hx with e | hx
  · subst e; exact p_law_is_int
  rcases List.mem_cons.mp hx with e | hx
  · subst e; exact p_law_means_right
  rcases List.mem_cons.mp hx with e | hx
  · subst e; exact p_law_one_asked
  rcases List.mem_cons.mp hx with e | hx
  · subst e; exact p_delta
  rcases List.mem_cons.mp hx with e | hx
  · subst e; exact p_check_fold
  rcases List.mem_cons.mp hx with e | hx
  · subst e; exact p_is_fold
  rcases List.mem_cons.mp hx with e | hx
  · subst e; exact p_can_sum
  rcases List.mem_cons.mp hx with e | hx
  · subst e; exact p_lacking
  rcases List.mem_cons.mp hx with e | hx
  · subst e; exact p_has_parts
  rcases List.mem_cons.mp hx with e | hx
  · subst e; exact p_is_point
  rcases List.mem_cons.mp hx with e | hx
  · subst e; exact p_is_count
  rcases List.mem_cons.mp hx with e | hx
  · subst e; exact p_rate
  rcases List.mem_cons.mp hx with e | hx
  · subst e; exact p_mean
  rcases List.mem_cons.mp hx with e | hx
  · subst e; exact p_law_fold_asked
  rcases List.mem_cons.mp hx with e | hx
  · subst e; exact p_law_points
  rcases List.mem_cons.mp hx with e | hx
  · subst e; exact p_law_take
  rcases List.mem_cons.mp hx with e | hx
  · subst e; exact p_law_number
  rcases List.mem_cons.mp hx with e | hx
  · subst e; exact p_law_odd
  rcases List.mem_cons.mp hx with e | hx
  · subst e; exact p_law_odd_right
  rcases List.mem_cons.mp hx with e | hx
  · subst e; exact p_law_refused
  rcases List.mem_cons.mp hx with e | hx
  · subst e; exact p_law_asked
  rcases List.mem_cons.mp hx with e | hx
  · subst e; exact p_law_told
  rcases List.mem_cons.mp hx with e | hx
  · subst e; exact p_compared
  rcases List.mem_cons.mp hx with e | hx
  · subst e; exact p_check_fractions
  rcases List.mem_cons.mp hx with e | hx
  · subst e; exact p_is_fraction
  rcases List.mem_cons.mp hx with e | hx
  · subst e; exact p_by
  rcases List.mem_cons.mp hx with e | hx
  · subst e; exact p_times
  rcases List.mem_cons.mp hx with e | hx
  · subst e; exact p_minus
  rcases List.mem_cons.mp hx with e | hx
  · subst e; exact p_plus
  rcases List.mem_cons.mp hx with e | hx
  · subst e; exact p_law_due
  rcases List.mem_cons.mp hx with e | hx
  · subst e; exact p_law_is_fraction
  rcases List.mem_cons.mp hx with e | hx
  · subst e; exact p_law_pair_right
  rcases List.mem_cons.mp hx with e | hx
  · subst e; exact p_law_fraction
  rcases List.mem_cons.mp hx with e | hx
  · subst e; exact p_law_cell
  rcases List.mem_cons.mp hx with e | hx
  · subst e; exact p_law_box
  cases hx
theorem b2 : ∀ f ∈ τ.mes, f.2.2.1.Pt f.2.2.2 := by
  intro x hx
  cases hx
theorem b3 : ∀ f ∈ τ.xs, f.e.Bn := by
  intro x hx
  rcases List.mem_cons.mp hx with e | hx
  · subst e; exact p_InvalidFold_init
  rcases List.mem_cons.mp hx with e | hx
  · subst e; exact p_InvalidFraction_init
  cases hx
theorem ckAll (c : CallF) : τ.ckAll c = true := by kernel_rfl
theorem stat : τ.stat = true := by kernel_rfl
def nm0 : List PySem.Str := ["gcd", "GrainError", "InvalidFold", "InvalidFraction", "is_integer", "is_value", "is_count", "is_fraction", "fraction", "check_fractions", "plus", "minus", "times", "by", "compared", "is_point", "has_parts", "lacking", "can_sum", "is_fold", "check_fold", "mean", "delta", "rate", "_law_cell", "_law_box", "_law_take", "_law_number", "_law_shared", "_law_lowest"]
def nm1 : List PySem.Str := ["_law_fraction", "_law_is_int", "_law_is_fraction", "_law_due", "_law_told", "_law_asked", "_law_made", "_law_pair_right", "_law_numbers_right", "_law_odd", "_law_refused", "_law_odd_right", "_law_points", "_law_fold_asked", "_law_one_asked", "_law_means_right"]
def names : List PySem.Str := nm0 ++ nm1
abbrev R : PySem.W.OpenRow := PySem.W.OpenLaw.row PySem.Challenge.rw_everygrain_k12_fractions_and_means
abbrev hk : PySem.W.Hook := hookM 4 τ
def hdob (s : PySem.W.SharedT) : He.AlD × Bool := seenB 4 τ (HandSHeadRun.getT s)
theorem hdob_eq (s : PySem.W.SharedT) : hdob s = hk.obs s.abs := seenB_eq (HandSHeadRun.getT_eq s)
theorem run (w : World) : HandSHeadRun.RunEqI R (PySem.W.view R.prog [0, 51]) hk hdob 8000 names w := by
  unfold HandSHeadRun.RunEqI
  kernel_rfl
def fLaw : FnI := f_law
theorem holds_of (nn : Nat) (hr : RM (lev nn) callerA) (hrun : ∀ ns : List Int, ns.length ≤ 63 → (∀ z ∈ ns, Builtin.Int.intBits z ≤ 1048576) → ∃ h', Mi.run τ.tab nn fLaw [.ref 0] (scr ns) = .ok (.bl true) h') : PySem.Challenge.rw_everygrain_k12_fractions_and_means.Holds := by
  w_on; o_law
  refine HandSHeadRun.head_imp (r := PySem.W.OpenLaw.row PySem.Challenge.rw_everygrain_k12_fractions_and_means) (q := PySem.W.view (PySem.W.OpenLaw.row PySem.Challenge.rw_everygrain_k12_fractions_and_means).prog [0, 51]) (H := hk) (ob := hdob) (M := 8000) (loose := names) (d := HandSHeadRun.topDef (PySem.W.OpenLaw.row PySem.Challenge.rw_everygrain_k12_fractions_and_means).prog 51) (kwd := []) hdob_eq
    run (by kernel_rfl) (by kernel_rfl) (by kernel_rfl) (by rfl) (by first | assumption | decide +kernel) (by decide +kernel) ⟨rfl, rfl, rfl, rfl, rfl, by decide +kernel⟩ ?hw ?hc
  case hw => w_witness2
  case hc =>
    refine walk_ofM (l := PySem.Challenge.rw_everygrain_k12_fractions_and_means) (n := 63) (nn := nn) (T := τ.tab) (fi := fLaw) rfl (by decide) (by kernel_rfl) hr (by decide +kernel) rfl ?_ hrun
    intro w mg fa h Y G hmg0
    obtain ⟨K, KX, c, cx⟩ := Y
    have hmg : mg ("law" : PySem.Str) = some (.ref fa) := by
      have e : (HandSHeadRun.topDef (PySem.W.OpenLaw.row PySem.Challenge.rw_everygrain_k12_fractions_and_means).prog 51).name = ("law" : PySem.Str) := by kernel_rfl
      rw [← e]
      exact hmg0
    have tx : ∀ base : Heap, K.In base → base.Ns mainGlobals mg → TextOk τ.tab (He.ga K) (PySem.Challenge.rw_everygrain_k12_fractions_and_means).prog w K mg base ∧ HotAll τ.tab (He.ga K) (PySem.Challenge.rw_everygrain_k12_fractions_and_means).prog w K mg base := fun base hK hG => ⟨text_ok c cx (ckAll _) stat ⟨b1, b2, b3⟩ hK hG, hot_all (T0 := τ.tab0) (text_ok c cx (ckAll _) stat ⟨b1, b2, b3⟩ hK hG) rfl rfl rfl rfl⟩
    obtain ⟨f, e1, _, D⟩ := (tx h KX G).1.fn "law" fLaw (by kernel_rfl)
    rw [hmg] at e1
    cases e1
    exact ⟨K, He.ga K, KX, D, tx⟩
end Lw
end

section
namespace Lw
open PySem PySem.Spec PyProof.Rows L2 Mi
theorem room : RM (lev 10) callerA := ⟨rfl, by decide, by decide, rfl⟩
theorem done : PySem.Challenge.rw_everygrain_k12_fractions_and_means.Holds := holds_of 10 room fun ns _ _ => hrun ns
end Lw
end

theorem PySem.Challenge.cw_everygrain_k12_fractions_and_means_holds : PySem.Challenge.rw_everygrain_k12_fractions_and_means.Holds := by
  exact Lw.done
