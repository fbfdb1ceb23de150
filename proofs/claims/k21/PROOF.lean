import PyProof.Rows.All
import Wide.All
import OpenK.AllK
import Wide.FinOn
import HandS.Comp
import HandS.Style
import HandS.Zip
import HandS.Iter
import HandS.Ends
import HandS.Words
import HandS.WordsList
import HandS.IsInst
import HandS.Wide
import HandS.Exc
import HandS.ExcInit
import HandS.ExcField
import HandS.TryMany
import HandS.ExcCtx
import HandS.Hot
import HandS.HotCalls
import PyProof.Rows.EqDataRows
import PyProof.ReprRoads
import PyProof.CallFns
import KE.GoesMore
import KE.GoesEnum
import HandS.NoneIn
import HandS.ExcSuper
import HandS.EndBits
import HandS.HeadEnd
import HandS.Head0
import HandS.Head1
import HandS.Head2
import HandS.HeadHook1
import HandS.HeadHook2
import HandS.HeadHook4
import HandS.Defaults
import PySem.Challenge.RW_everygrain_k21_pieces_of_windows
set_option Elab.async false
set_option linter.all false
set_option maxRecDepth 1000000
set_option maxHeartbeats 0
section
/-! Mini, part 1: values and objects of a small Python, how they lie over the hand layer's heap, results. -/
namespace Mi
open PySem L2

/-- a value: tuples are values, all that may change is an object of the small heap -/
inductive MV where
  | non | bl (b : Bool) | int (i : Int) | str (x : Str) | tup (xs : List MV) | ref (n : Nat) | ty (n : String) | cls (c : Str)
  deriving Inhabited

/-- an object: a list, the script, an instance, an exception's own dict -/
inductive MO where
  | lst (xs : List MV) | frz (xs : List MV) | ins (c : Str) (fs : List (Str × MV)) | exc (c : Str) (fs : List (Str × MV))

def MO.wr : MO → Bool
  | .frz _ => false
  | _ => true

structure MH where
  next : Nat
  get : Nat → Option MO

def MH.put (h : MH) (n : Nat) (o : MO) : MH := { next := h.next, get := fun m => if m = n then some o else h.get m }
def MH.new (h : MH) (o : MO) : MH := { next := h.next + 1, get := fun m => if m = h.next then some o else h.get m }
@[simp] theorem MH.put_same {h : MH} {n : Nat} {o : MO} : (h.put n o).get n = some o := if_pos rfl
theorem MH.put_ne {h : MH} {n m : Nat} {o : MO} (e : m ≠ n) : (h.put n o).get m = h.get m := if_neg e
@[simp] theorem MH.new_same {h : MH} {o : MO} : (h.new o).get h.next = some o := if_pos rfl
theorem MH.new_ne {h : MH} {m : Nat} {o : MO} (e : m ≠ h.next) : (h.new o).get m = h.get m := if_neg e

inductive Res (α : Type) where
  | ok (a : α) (h : MH) | exc (c : Str) (n : Nat) (h : MH) | stuck

abbrev M (α : Type) := MH → Res α
def M.bind {α β : Type} (x : M α) (f : α → M β) : M β := fun h => match x h with
  | .ok a h' => f a h'
  | .exc c n h' => .exc c n h'
  | .stuck => .stuck
def M.pure {α : Type} (a : α) : M α := fun h => .ok a h
def M.stuck {α : Type} : M α := fun _ => .stuck
instance : Monad M where
  pure := M.pure
  bind := M.bind

/-! ### the relation to the hand layer -/
abbrev Rho := Nat → Option Addr

mutual
inductive RV (CA : Str → Addr) (ρ : Rho) (H : Hp) : MV → V → Prop
  | non : RV CA ρ H .non .non
  | bl (b : Bool) : RV CA ρ H (.bl b) (.bl b)
  | int (i : Int) : RV CA ρ H (.int i) (.int i)
  | str (x : Str) : RV CA ρ H (.str x) (.str x)
  | ty (n : String) : RV CA ρ H (.ty n) (.ty n)
  | cls (c : Str) : RV CA ρ H (.cls c) (.ref (CA c))
  | ref {n : Nat} {a : Addr} (e : ρ n = some a) : RV CA ρ H (.ref n) (.ref a)
  | tup {xs : List MV} {a : Addr} {vs : List V} (e : H a = some (.tup vs)) (r : RVs CA ρ H xs vs) : RV CA ρ H (.tup xs) (.ref a)
inductive RVs (CA : Str → Addr) (ρ : Rho) (H : Hp) : List MV → List V → Prop
  | nil : RVs CA ρ H [] []
  | cons {x : MV} {v : V} {xs : List MV} {vs : List V} (r : RV CA ρ H x v) (t : RVs CA ρ H xs vs) : RVs CA ρ H (x :: xs) (v :: vs)
end
inductive RF (CA : Str → Addr) (ρ : Rho) (H : Hp) : List (Str × MV) → List (Str × V) → Prop
  | nil : RF CA ρ H [] []
  | cons {f : Str} {x : MV} {v : V} {xs : List (Str × MV)} {vs : List (Str × V)} (r : RV CA ρ H x v) (t : RF CA ρ H xs vs) : RF CA ρ H ((f, x) :: xs) ((f, v) :: vs)

/-- what only grows: the map, the tuples -/
structure Ext (ρ : Rho) (H : Hp) (ρ' : Rho) (H' : Hp) : Prop where
  map : ∀ n a, ρ n = some a → ρ' n = some a
  tups : ∀ p xs, H p = some (.tup xs) → H' p = some (.tup xs)

section
variable {CA : Str → Addr} {ρ ρ' ρ'' : Rho} {H H' H'' : Hp} {mh : MH} {K : PySem.W.Frag}
theorem Ext.refl : Ext ρ H ρ H := ⟨fun _ _ e => e, fun _ _ e => e⟩
theorem Ext.trans (a : Ext ρ H ρ' H') (b : Ext ρ' H' ρ'' H'') : Ext ρ H ρ'' H'' := ⟨fun n x e => b.map n x (a.map n x e), fun p xs e => b.tups p xs (a.tups p xs e)⟩

mutual
theorem RV.mono (e : Ext ρ H ρ' H') : ∀ {x : MV} {v : V}, RV CA ρ H x v → RV CA ρ' H' x v
  | _, _, .non => .non
  | _, _, .bl b => .bl b
  | _, _, .int i => .int i
  | _, _, .str x => .str x
  | _, _, .ty n => .ty n
  | _, _, .cls c => .cls c
  | _, _, .ref q => .ref (e.map _ _ q)
  | _, _, .tup q r => .tup (e.tups _ _ q) (RVs.mono e r)
theorem RVs.mono (e : Ext ρ H ρ' H') : ∀ {xs : List MV} {vs : List V}, RVs CA ρ H xs vs → RVs CA ρ' H' xs vs
  | _, _, .nil => .nil
  | _, _, .cons r t => .cons (RV.mono e r) (RVs.mono e t)
end
theorem RF.mono (e : Ext ρ H ρ' H') : ∀ {xs : List (Str × MV)} {vs : List (Str × V)}, RF CA ρ H xs vs → RF CA ρ' H' xs vs
  | _, _, .nil => .nil
  | _, _, .cons r t => .cons (r.mono e) (RF.mono e t)

theorem RVs.length : ∀ {xs : List MV} {vs : List V}, RVs CA ρ H xs vs → xs.length = vs.length
  | _, _, .nil => rfl
  | _, _, .cons _ t => by rw [List.length_cons, List.length_cons, RVs.length t]
theorem RVs.append : ∀ {xs ys : List MV} {vs ws : List V}, RVs CA ρ H xs vs → RVs CA ρ H ys ws → RVs CA ρ H (xs ++ ys) (vs ++ ws)
  | _, _, _, _, .nil, s => s
  | _, _, _, _, .cons r t, s => .cons r (RVs.append t s)
theorem RVs.take : ∀ {xs : List MV} {vs : List V} (n : Nat), RVs CA ρ H xs vs → RVs CA ρ H (xs.take n) (vs.take n)
  | _, _, 0, _ => .nil
  | _, _, _ + 1, .nil => .nil
  | _, _, n + 1, .cons r t => .cons r (RVs.take n t)
theorem RVs.drop : ∀ {xs : List MV} {vs : List V} (n : Nat), RVs CA ρ H xs vs → RVs CA ρ H (xs.drop n) (vs.drop n)
  | _, _, 0, r => r
  | _, _, _ + 1, .nil => .nil
  | _, _, n + 1, .cons _ t => RVs.drop n t
theorem RVs.set {x : MV} {v : V} (r : RV CA ρ H x v) : ∀ {xs : List MV} {vs : List V} (i : Nat), RVs CA ρ H xs vs → RVs CA ρ H (xs.set i x) (vs.set i v)
  | _, _, _, .nil => .nil
  | _, _, 0, .cons _ t => .cons r t
  | _, _, i + 1, .cons q t => .cons q (RVs.set r i t)
theorem RVs.get : ∀ {xs : List MV} {vs : List V} {i : Nat} {x : MV}, RVs CA ρ H xs vs → xs[i]? = some x → ∃ v, vs[i]? = some v ∧ RV CA ρ H x v
  | _, _, _, _, .nil, e => by simp at e
  | _, _, 0, _, .cons r _, e => by simp at e; subst e; exact ⟨_, rfl, r⟩
  | _, _, i + 1, x, .cons _ t, e => by
    obtain ⟨u, h1, h2⟩ := RVs.get (i := i) (x := x) t (by simpa using e)
    exact ⟨u, by simpa using h1, h2⟩
theorem RVs.get' : ∀ {xs : List MV} {vs : List V} {i : Nat} {v : V}, RVs CA ρ H xs vs → vs[i]? = some v → ∃ x, xs[i]? = some x ∧ RV CA ρ H x v
  | _, _, _, _, .nil, e => by simp at e
  | _, _, 0, _, .cons r _, e => by simp at e; subst e; exact ⟨_, rfl, r⟩
  | _, _, i + 1, x, .cons _ t, e => by
    obtain ⟨u, h1, h2⟩ := RVs.get' (i := i) (v := x) t (by simpa using e)
    exact ⟨u, by simpa using h1, h2⟩
theorem RVs.reverse : ∀ {xs : List MV} {vs : List V}, RVs CA ρ H xs vs → RVs CA ρ H xs.reverse vs.reverse
  | _, _, .nil => .nil
  | _, _, .cons r t => by
    rw [List.reverse_cons, List.reverse_cons]
    exact (RVs.reverse t).append (.cons r .nil)
theorem RF.lookup {f : Str} : ∀ {xs : List (Str × MV)} {vs : List (Str × V)} {x : MV}, RF CA ρ H xs vs → xs.lookup f = some x → ∃ v, vs.lookup f = some v ∧ RV CA ρ H x v
  | _, _, _, .nil, e => by simp at e
  | (g, y) :: _, (_, w) :: _, x, .cons r t, e => by
    rw [List.lookup_cons] at e ⊢
    cases q : f == g with
    | true => rw [q] at e; cases e; exact ⟨_, rfl, r⟩
    | false => rw [q] at e; exact RF.lookup t e
theorem RF.lookup_none {f : Str} : ∀ {xs : List (Str × MV)} {vs : List (Str × V)}, RF CA ρ H xs vs → xs.lookup f = none → vs.lookup f = none
  | _, _, .nil, e => rfl
  | (g, y) :: _, (_, w) :: _, .cons r t, e => by
    rw [List.lookup_cons] at e ⊢
    cases q : f == g with
    | true => rw [q] at e; cases e
    | false => rw [q] at e; exact RF.lookup_none t e
theorem RF.length : ∀ {xs : List (Str × MV)} {vs : List (Str × V)}, RF CA ρ H xs vs → xs.length = vs.length
  | _, _, .nil => rfl
  | _, _, .cons _ t => by rw [List.length_cons, List.length_cons, RF.length t]

/-- a list of the module's own top, never tracked -/
def SqK (K : PySem.W.Frag) (a : Addr) (vs : List V) : Prop :=
  ∃ (o : Obj) (its : Array Value) (n : Nat), K.lookup a = some o ∧ o.cls = .type "list" ∧ o.dict = none ∧ o.data = .seq its n ∧ its.size ≤ sizeLine ∧ Vals vs its.toList

/-- the object o lies at a -/
def RO (K : PySem.W.Frag) (CA : Str → Addr) (ρ : Rho) (H : Hp) : MO → Addr → Prop
  | .lst xs, a => ∃ vs, H a = some (.lst vs) ∧ RVs CA ρ H xs vs
  | .frz xs, a => ∃ vs, ((∃ o, H a = some (.frz o (.lst vs))) ∨ SqK K a vs) ∧ RVs CA ρ H xs vs
  | .ins c fs, a => ∃ dx gs, H a = some (.ins (CA c) dx gs) ∧ RF CA ρ H fs gs
  | .exc _ fs, a => ∃ gs, H a = some (.xd gs) ∧ RF CA ρ H fs gs
theorem RO.some {o : MO} {a : Addr} (w : o.wr = true) (r : RO K CA ρ H o a) : ∃ u, H a = some u ∧ (∀ xs, u ≠ .tup xs) ∧ (∀ ob xs, u ≠ .frz ob (.lst xs)) := by
  cases o with
  | lst xs => obtain ⟨vs, e, _⟩ := r; exact ⟨_, e, fun _ z => (nomatch z), fun _ _ z => (nomatch z)⟩
  | frz xs => cases w
  | ins c fs => obtain ⟨dx, gs, e, _⟩ := r; exact ⟨_, e, fun _ z => (nomatch z), fun _ _ z => (nomatch z)⟩
  | exc c fs => obtain ⟨gs, e, _⟩ := r; exact ⟨_, e, fun _ z => (nomatch z), fun _ _ z => (nomatch z)⟩
/-- an object stays while its own place does -/
theorem RO.stay {o : MO} {a : Addr} (r : RO K CA ρ H o a) (e : Ext ρ H ρ' H') (k : ∀ u, H a = Option.some u → (o.wr = true ∨ ∃ ob xs, u = .frz ob (.lst xs)) → H' a = Option.some u) : RO K CA ρ' H' o a := by
  cases o with
  | lst xs => obtain ⟨vs, q, rs⟩ := r; exact ⟨vs, k _ q (.inl rfl), rs.mono e⟩
  | frz xs =>
    obtain ⟨vs, q, rs⟩ := r
    refine ⟨vs, ?_, rs.mono e⟩
    rcases q with ⟨o, q⟩ | q
    · exact .inl ⟨o, k _ q (.inr ⟨_, _, rfl⟩)⟩
    · exact .inr q
  | ins c fs => obtain ⟨dx, gs, q, rs⟩ := r; exact ⟨dx, gs, k _ q (.inl rfl), rs.mono e⟩
  | exc c fs => obtain ⟨gs, q, rs⟩ := r; exact ⟨gs, k _ q (.inl rfl), rs.mono e⟩

/-- the small heap lies over H -/
structure RH (K : PySem.W.Frag) (CA : Str → Addr) (ρ : Rho) (mh : MH) (H : Hp) : Prop where
  obj : ∀ n o, mh.get n = some o → ∃ a, ρ n = some a ∧ RO K CA ρ H o a
  dom : ∀ n a, ρ n = some a → n < mh.next ∧ ∃ o, mh.get n = some o
  inj : ∀ n m a o o', ρ n = some a → ρ m = some a → mh.get n = some o → mh.get m = some o' → o.wr = true → o'.wr = true → n = m

theorem RH.at {n : Nat} {o : MO} {a : Addr} (r : RH K CA ρ mh H) (e : mh.get n = some o) (q : ρ n = some a) : RO K CA ρ H o a := by
  obtain ⟨b, h1, h2⟩ := r.obj n o e
  rw [q] at h1; cases h1; exact h2
/-- nothing tracked has changed -/
theorem RH.same (r : RH K CA ρ mh H) (k : ∀ a u, H a = some u → H' a = some u) : RH K CA ρ mh H' ∧ Ext ρ H ρ H' := by
  have e : Ext ρ H ρ H' := ⟨fun _ _ q => q, fun p xs q => k p _ q⟩
  refine ⟨⟨fun n o q => ?_, r.dom, r.inj⟩, e⟩
  obtain ⟨a, h1, h2⟩ := r.obj n o q
  exact ⟨a, h1, h2.stay e fun u z _ => k a u z⟩
def rput (ρ : Rho) (n : Nat) (p : Addr) : Rho := fun m => if m = n then some p else ρ m
theorem rput_same {n : Nat} {p : Addr} : rput ρ n p n = some p := if_pos rfl
theorem rput_ext {p : Addr} (r : RH K CA ρ mh H) (n : Nat) (a : Addr) (e : ρ n = some a) : rput ρ mh.next p n = some a := by
  have h := (r.dom n a e).1
  show (if n = mh.next then some p else ρ n) = some a
  rw [if_neg (by omega)]; exact e
/-- a new object -/
theorem RH.add {o : MO} {p : Addr} (r : RH K CA ρ mh H) (k : ∀ a u, H a = some u → H' a = some u) (hp : H p = none) (ro : ∀ ρ', Ext ρ H ρ' H' → RO K CA ρ' H' o p) :
    RH K CA (rput ρ mh.next p) (mh.new o) H' ∧ Ext ρ H (rput ρ mh.next p) H' ∧ rput ρ mh.next p mh.next = some p := by
  have e : Ext ρ H (rput ρ mh.next p) H' := ⟨fun n a q => rput_ext r n a q, fun q xs z => k q _ z⟩
  have no : ∀ n o', mh.get n = some o' → n ≠ mh.next := fun n o' q z => by
    obtain ⟨a, h1, _⟩ := r.obj n o' q
    have := (r.dom n a h1).1
    omega
  refine ⟨⟨fun n o' q => ?_, fun n a q => ?_, fun n m a o1 o2 h1 h2 h3 h4 w1 w2 => ?_⟩, e, rput_same⟩
  · by_cases hn : n = mh.next
    · subst hn
      rw [MH.new_same] at q; cases q
      exact ⟨p, rput_same, ro _ e⟩
    · rw [MH.new_ne hn] at q
      obtain ⟨a, h1, h2⟩ := r.obj n o' q
      exact ⟨a, e.map n a h1, h2.stay e fun u z _ => k a u z⟩
  · by_cases hn : n = mh.next
    · subst hn
      exact ⟨Nat.lt_succ_self _, o, MH.new_same⟩
    · have q' : ρ n = some a := by rw [← q]; exact (if_neg hn).symm
      obtain ⟨h1, o', h2⟩ := r.dom n a q'
      exact ⟨Nat.lt_succ_of_lt h1, o', by rw [MH.new_ne hn]; exact h2⟩
  · have free : ∀ l u o', l ≠ mh.next → rput ρ mh.next p l = some u → (mh.new o).get l = some o' → o'.wr = true → ρ l = some u ∧ mh.get l = some o' ∧ u ≠ p := fun l u o' hl q1 q2 w => by
      have q1' : ρ l = some u := by rw [← q1]; exact (if_neg hl).symm
      rw [MH.new_ne hl] at q2
      refine ⟨q1', q2, fun z => ?_⟩
      obtain ⟨b, hb, ro'⟩ := r.obj l o' q2
      rw [q1'] at hb; cases hb
      obtain ⟨u', hu, _⟩ := RO.some w ro'
      rw [z, hp] at hu; cases hu
    by_cases hn : n = mh.next
    · by_cases hm : m = mh.next
      · rw [hn, hm]
      · obtain ⟨_, _, ne⟩ := free m a o2 hm h2 h4 w2
        rw [hn, rput_same] at h1
        exact absurd (Option.some.inj h1).symm ne
    · obtain ⟨g1, g2, ne⟩ := free n a o1 hn h1 h3 w1
      by_cases hm : m = mh.next
      · rw [hm, rput_same] at h2
        exact absurd (Option.some.inj h2).symm ne
      · obtain ⟨g3, g4, _⟩ := free m a o2 hm h2 h4 w2
        exact r.inj n m a o1 o2 g1 g3 g2 g4 w1 w2
/-- an object is written -/
theorem RH.write {n : Nat} {a : Addr} {o o' : MO} {u : HO} (r : RH K CA ρ mh H) (e : mh.get n = some o) (q : ρ n = some a) (w : o.wr = true) (w' : o'.wr = true) (ro : ∀ H', H' = upd H a u → Ext ρ H ρ H' → RO K CA ρ H' o' a) :
    RH K CA ρ (mh.put n o') (upd H a u) ∧ Ext ρ H ρ (upd H a u) := by
  obtain ⟨u0, h0, nt, nf⟩ := RO.some w (r.at e q)
  have ex : Ext ρ H ρ (upd H a u) := ⟨fun _ _ z => z, fun p xs z => by
    rw [upd_ne (fun h => by rw [h, h0] at z; cases z; exact nt _ rfl)]; exact z⟩
  refine ⟨⟨fun m o2 z => ?_, fun m b z => ?_, fun m1 m2 b o1 o2 h1 h2 h3 h4 w1 w2 => ?_⟩, ex⟩
  · by_cases hm : m = n
    · subst hm
      rw [MH.put_same] at z; cases z
      exact ⟨a, q, ro _ rfl ex⟩
    · rw [MH.put_ne hm] at z
      obtain ⟨b, h1, h2⟩ := r.obj m o2 z
      refine ⟨b, h1, h2.stay ex fun u' y c => ?_⟩
      rw [upd_ne]; exact y
      intro hb
      subst hb
      rcases c with c | ⟨ob, xs, c⟩
      · exact hm (r.inj m n b o2 o h1 q z e c w)
      · rw [h0] at y
        cases y
        exact nf _ _ c
  · obtain ⟨h1, o2, h2⟩ := r.dom m b z
    refine ⟨h1, ?_⟩
    by_cases hm : m = n
    · exact ⟨o', by rw [hm, MH.put_same]⟩
    · exact ⟨o2, by rw [MH.put_ne hm]; exact h2⟩
  · have old : ∀ l ol, (mh.put n o').get l = some ol → ol.wr = true → ∃ o0, mh.get l = some o0 ∧ o0.wr = true := fun l ol z wl => by
      by_cases hl : l = n
      · exact ⟨o, by rw [hl]; exact e, w⟩
      · rw [MH.put_ne hl] at z
        exact ⟨ol, z, wl⟩
    obtain ⟨p1, g1, v1⟩ := old m1 o1 h3 w1
    obtain ⟨p2, g2, v2⟩ := old m2 o2 h4 w2
    exact r.inj m1 m2 b p1 p2 h1 h2 g1 g2 v1 v2
end

/-! ### what a result asks -/
/-- of a result r from (ρ, H) on: whatever map and heap bear it, Q; an exception: W -/
def Aft {α β : Type} (K : PySem.W.Frag) (CA : Str → Addr) (R : Rho → Hp → α → β → Prop) (W : Value → Option Addr → Hp → Prop) (ρ : Rho) (H : Hp) (r : Res α) (Q : β → Hp → Prop) : Prop :=
  match r with
  | .ok a mh => ∀ ρ' H' b, Ext ρ H ρ' H' → RH K CA ρ' mh H' → R ρ' H' a b → Q b H'
  | .exc c n mh => ∀ ρ' H' d, Ext ρ H ρ' H' → RH K CA ρ' mh H' → ρ' n = some d → (∃ fs, mh.get n = some (.exc c fs)) → W (.ref (CA c)) (some d) H'
  | .stuck => False
section
variable {α β γ δ : Type} {K : PySem.W.Frag} {CA : Str → Addr} {R : Rho → Hp → α → β → Prop} {R' : Rho → Hp → γ → δ → Prop} {W : Value → Option Addr → Hp → Prop} {ρ ρ' : Rho} {H H' : Hp} {Q : β → Hp → Prop} {mh : MH}
theorem Aft.ext {r : Res α} (h : Aft K CA R W ρ H r Q) (e : Ext ρ H ρ' H') : Aft K CA R W ρ' H' r Q := by
  cases r with
  | ok a m => exact fun ρ1 H1 b e1 => h ρ1 H1 b (e.trans e1)
  | exc c n m => exact fun ρ1 H1 d e1 => h ρ1 H1 d (e.trans e1)
  | stuck => exact h
/-- x, then f -/
theorem Aft.bnd {x : M γ} {f : γ → M α} (h : Aft K CA R W ρ H (M.bind x f mh) Q) :
    Aft K CA R' W ρ H (x mh) (fun b H1 => ∃ ρ1 mh1 a, Ext ρ H ρ1 H1 ∧ RH K CA ρ1 mh1 H1 ∧ R' ρ1 H1 a b ∧ Aft K CA R W ρ1 H1 (f a mh1) Q) := by
  unfold M.bind at h
  cases e : x mh with
  | ok a m =>
    rw [e] at h
    exact fun ρ1 H1 b e1 r1 q => ⟨ρ1, m, a, e1, r1, q, Aft.ext h e1⟩
  | exc c n m => rw [e] at h; exact h
  | stuck => rw [e] at h; exact h
theorem Aft.imp {r : Res α} {Q' : β → Hp → Prop} (h : Aft K CA R W ρ H r Q) (k : ∀ b H', Q b H' → Q' b H') : Aft K CA R W ρ H r Q' := by
  cases r with
  | ok a m => exact fun ρ1 H1 b e1 r1 q => k b H1 (h ρ1 H1 b e1 r1 q)
  | exc c n m => exact h
  | stuck => exact h
end
end Mi
end

section
/-! Mini, part 2: the small language and what its pieces compute. -/
namespace Mi
open PySem L2

inductive BOp where | add | sub | mul | fdiv | mod | pow
  deriving DecidableEq
inductive COp where | eq | ne | lt | le | gt | ge | isN | notN
  deriving DecidableEq
inductive BI where | len | abs | max2 | min2 | int1 | sum | list1 | tuple1 | repr | all | isi | max1 | min1
  deriving DecidableEq
/-- targets: a slot, slots of a tuple -/
inductive CT where
  | nm (i : Nat) | tp (is : List Nat)

mutual
inductive ME where
  | non | bl (b : Bool) | int (i : Int) | str (x : Str) | var (i : Nat)
  | ty (n : String) | cls (c : Str) | gint (x : Str) (i : Int)
  | bin (op : BOp) (a b : ME) | neg (a : ME) | notE (a : ME)
  | cmp (op : COp) (a b : ME) | chain (op op' : COp) (a b c : ME)
  | and (a b : ME) | or (a b : ME) | ife (c a b : ME)
  | sub (a i : ME) | slc (a : ME) (lo hi : MOp) | rev (a : ME) | lsi (a : ME)
  | tup (es : MEs) | lst (es : MEs)
  | call (f : Str) (es : MEs) (ks : List Str) (kes : MEs) (pm : List Nat)
  | mk (c : Str) (es : MEs)
  | meth (o : ME) (m : Str) (es : MEs) (ks : List Str) (kes : MEs) (pm : List Nat)
  | bi (b : BI) (es : MEs)
  | app (o e : ME)
  | fld (o : ME) (f : Str)
  | efld (i : Nat) (f : Str)
  | comp (vs : List Nat) (t : CT) (it : MI) (c e : ME)
inductive MOp where
  | no | yes (e : ME)
inductive MI where
  | of (e : ME) | rng1 (a : ME) | rng2 (a b : ME) | enum (e : ME)
inductive MEs where
  | nil | cons (e : ME) (es : MEs)
end

def MEs.len : MEs → Nat
  | .nil => 0
  | .cons _ r => r.len + 1
/-- targets of a statement -/
inductive MT where
  | nm (i : Nat) | tp (is : List Nat) | sw (is : List Nat) | sub (o i : ME) | fld (o : ME) (f : Str)

/-- what may not be stored to while an exception is handled -/
def MT.hot : MT → Bool
  | .tp _ => true
  | .sw _ => true
  | _ => false

mutual
inductive MS where
  | pass | ret (e : ME) | retN | expr (e : ME) | asg (t : MT) (e : ME)
  | ifs (c : ME) (a b : MSs) | fors (t : CT) (it : MI) (b : MSs)
  | raise (c : Str) (es : MEs) | brk | cont
  | trys (b : MSs) (h : MHs)
inductive MHs where
  | nil | cons (c : Str) (i : Nat) (b : MSs) (r : MHs)
inductive MSs where
  | nil | cons (s : MS) (r : MSs)
end

/-- a def: its parameters, its slots, how it may be called (positional ones, keywords, which keyword each further parameter takes), its body -/
structure FnI where
  np : Nat
  ns : Nat
  pats : List (Nat × List Str × List Nat)
  body : MSs

abbrev CallF := FnI → List MV → M MV
/-- what the program's text gives: defs, methods, classes, exceptions; what a def does that is called while an exception is handled -/
structure Tab where
  hc : CallF
  fn : Str → Option FnI
  me : Str → Str → Option FnI
  mp : Str → (Nat × List Str × List Nat) → Bool
  noat : Str → Str → Bool
  free : Str → Bool
  own : Str → Bool
  gi : Str → Int → Bool
  xat : Str → Bool
  exf : Str → Option (List Str)
  sub : Str → Str → Option Bool
  isc : Str → MV → Option Bool

/-- slots; the exception that is handled (its dict) -/
structure Env where
  sl : List (Option MV)
  ex : Option (Nat × Nat)

def Env.set (me : Env) (i : Nat) (v : MV) : Env := { sl := me.sl.set i (some v), ex := me.ex }

/-! ### values -/
abbrev idx (n : Nat) (i : Int) : Option Nat := ixN n i

def asList (h : MH) : MV → Option (List MV)
  | .ref n => match h.get n with
    | some (.lst xs) => some xs
    | some (.frz xs) => some xs
    | _ => none
  | _ => none
def asSeq (h : MH) : MV → Option (List MV)
  | .tup xs => some xs
  | v => asList h v
def newL (xs : List MV) : M MV := fun h => if xs.length ≤ sizeLine then .ok (.ref h.next) (h.new (.lst xs)) else .stuck
def opt {α : Type} : Option α → M α
  | some a => fun h => .ok a h
  | none => fun _ => .stuck
def get : M MH := fun h => .ok h h
def put (n : Nat) (o : MO) : M Unit := fun h => .ok () (h.put n o)

def small (i : Int) : Prop := -(2 ^ 64) < i ∧ i < 2 ^ 64
instance (i : Int) : Decidable (small i) := by unfold small; infer_instance
def binM (op : BOp) (x y : MV) : M MV := match op, x, y with
  | .add, .int i, .int j => M.pure (.int (i + j))
  | .sub, .int i, .int j => M.pure (.int (i - j))
  | .mul, .int i, .int j => if small i ∨ small j ∨ i.natAbs.log2 + j.natAbs.log2 < 1000000 then M.pure (.int (i * j)) else M.stuck
  | .fdiv, .int i, .int j => if 0 < j ∧ j.natAbs.log2 < 9000 then M.pure (.int (i / j)) else M.stuck
  | .mod, .int i, .int j => if 0 < j then M.pure (.int (i % j)) else M.stuck
  | .pow, .int i, .int j => if 0 ≤ j ∧ j ≤ 1000000 ∧ i.natAbs < 2 ^ 64 then M.pure (.int (i ^ j.toNat)) else M.stuck
  | .add, .str a, .str b => if a.length + b.length ≤ sizeLine then M.pure (.str (a ++ b)) else M.stuck
  | .add, .ref a, .ref b => fun h => match h.get a, h.get b with
    | some (.lst xs), some (.lst ys) => newL (xs ++ ys) h
    | _, _ => .stuck
  | _, _, _ => M.stuck

mutual
/-- a value as data, nested at most n deep -/
def toD (h : MH) : Nat → MV → Option PyData
  | 0, _ => none
  | _ + 1, .non => some .none
  | _ + 1, .bl b => some (.bool b)
  | _ + 1, .int i => some (.int i)
  | _ + 1, .str x => some (.str x)
  | n + 1, .tup xs => (toDs h n xs).map .tuple
  | n + 1, .ref r => match h.get r with
    | some (.lst xs) => (toDs h n xs).map .list
    | some (.frz xs) => (toDs h n xs).map .list
    | _ => none
  | _ + 1, _ => none
def toDs (h : MH) : Nat → List MV → Option (List PyData)
  | _, [] => some []
  | 0, _ :: _ => none
  | n + 1, x :: xs => match toD h n x, toDs h n xs with
    | some d, some ds => some (d :: ds)
    | _, _ => none
end
/-- the depth to which data is looked at -/
def dpt : Nat := 5000

/-- the built-in types that stand here -/
def subTy (a b : String) : Option Bool :=
  if ["NoneType", "bool", "int", "str", "list", "tuple"].contains a && ["bool", "int", "str", "list", "tuple", "dict", "bytes"].contains b then some (a == b || (a == "bool" && b == "int")) else none
def isi1 (T : Tab) (h : MH) (x : MV) (c : MV) : Option Bool :=
  match x, c with
  | .non, .ty b => subTy "NoneType" b
  | .bl _, .ty b => subTy "bool" b
  | .int _, .ty b => subTy "int" b
  | .str _, .ty b => subTy "str" b
  | .tup _, .ty b => subTy "tuple" b
  | .ref n, c => match h.get n with
    | some (.lst _) => (match c with | .ty b => subTy "list" b | _ => none)
    | some (.ins d _) => T.isc d c
    | _ => none
  | _, _ => none
def isCl : MV → Bool
  | .ty _ => true
  | .cls _ => true
  | _ => false
def isiAny (T : Tab) (h : MH) (x : MV) : List MV → Option Bool
  | [] => some false
  | c :: cs => match isi1 T h x c with
    | some true => some true
    | some false => isiAny T h x cs
    | none => none

def scalar : MV → Bool
  | .non => true
  | .bl _ => true
  | .int _ => true
  | .str _ => true
  | _ => false
def eqM (x y : MV) : M Bool := match x, y with
  | .int i, .int j => M.pure (decide (i = j))
  | .str a, .str b => M.pure (decide (a = b))
  | .bl a, .bl b => M.pure (decide (a = b))
  | .non, .non => M.pure true
  | x, y => fun h => match toD h dpt x, toD h dpt y with
    | some d, some e => if PySem.SeqAt.shaped d = true ∧ PySem.SeqAt.shaped e = true then .ok (PyData.eqv d e) h else .stuck
    | _, _ => .stuck
def cmpM (op : COp) (x y : MV) : M MV := match op with
  | .eq => M.bind (eqM x y) fun b => M.pure (.bl b)
  | .ne => M.bind (eqM x y) fun b => M.pure (.bl (!b))
  | .isN => match y with
    | .non => M.pure (.bl (match x with | .non => true | _ => false))
    | _ => M.stuck
  | .notN => match y with
    | .non => M.pure (.bl (match x with | .non => false | _ => true))
    | _ => M.stuck
  | .lt => match x, y with | .int i, .int j => M.pure (.bl (decide (i < j))) | _, _ => M.stuck
  | .le => match x, y with | .int i, .int j => M.pure (.bl (decide (i ≤ j))) | _, _ => M.stuck
  | .gt => match x, y with | .int i, .int j => M.pure (.bl (decide (j < i))) | _, _ => M.stuck
  | .ge => match x, y with | .int i, .int j => M.pure (.bl (decide (j ≤ i))) | _, _ => M.stuck
def subM (x y : MV) : M MV := match y with
  | .int i => fun h => match asSeq h x with
    | some xs => match (idx xs.length i).bind fun j => xs[j]? with
      | some v => .ok v h
      | none => .stuck
    | none => .stuck
  | _ => M.stuck
/-- a slice -/
def cut (xs : List MV) (lo hi : Option Int) : List MV := (xs.drop (HT.sIx xs.length 0 lo)).take (HT.sIx xs.length xs.length hi - HT.sIx xs.length 0 lo)
def slcM (x : MV) (lo hi : Option Int) : M MV := match x with
  | .ref n => fun h => match asList h (.ref n) with
    | some xs => newL (cut xs lo hi) h
    | none => .stuck
  | _ => M.stuck
/-- xs[::-1] -/
def revM (x : MV) : M MV := match x with
  | .ref n => fun h => match asList h (.ref n) with
    | some xs => newL xs.reverse h
    | none => .stuck
  | _ => M.stuck
def intsM : List MV → Option (List Int)
  | [] => some []
  | .int i :: r => (intsM r).map (i :: ·)
  | _ => none
/-- len(set(xs)) of unlike ints -/
def lsiM (x : MV) : M MV := match x with
  | .ref n => fun h => match (asList h (.ref n)).bind intsM with
    | some ns => if ns.Nodup ∧ ns.length ≤ 4000 then .ok (.int (ns.length : Nat)) h else .stuck
    | none => .stuck
  | _ => M.stuck
def boolsM : List MV → Option (List Bool)
  | [] => some []
  | .bl b :: r => (boolsM r).map (b :: ·)
  | _ => none
/-- the greatest, the least of some ints -/
def maxI (n : Int) : List Int → Int
  | [] => n
  | m :: r => maxI (if n < m then m else n) r
def minI (n : Int) : List Int → Int
  | [] => n
  | m :: r => minI (if m < n then m else n) r
theorem maxI_mem (ns : List Int) : ∀ n, maxI n ns ∈ n :: ns := by
  induction ns with
  | nil => intro n; exact List.mem_cons_self
  | cons m r ih =>
    intro n
    unfold maxI
    rcases List.mem_cons.mp (ih (if n < m then m else n)) with h | h
    · rw [h]; split
      · exact List.mem_cons_of_mem _ List.mem_cons_self
      · exact List.mem_cons_self
    · exact List.mem_cons_of_mem _ (List.mem_cons_of_mem _ h)
theorem maxI_ge (ns : List Int) : ∀ n y, y ∈ n :: ns → y ≤ maxI n ns := by
  induction ns with
  | nil => intro n y h; simp at h; subst h; exact Int.le_refl _
  | cons m r ih =>
    intro n y h
    unfold maxI
    have h1 := ih (if n < m then m else n) _ List.mem_cons_self
    have h2 : n ≤ (if n < m then m else n) := by split <;> omega
    have h3 : m ≤ (if n < m then m else n) := by split <;> omega
    rcases List.mem_cons.mp h with h | h
    · subst h; exact Int.le_trans h2 h1
    · rcases List.mem_cons.mp h with h | h
      · subst h; exact Int.le_trans h3 h1
      · exact ih _ _ (List.mem_cons_of_mem _ h)
theorem minI_mem (ns : List Int) : ∀ n, minI n ns ∈ n :: ns := by
  induction ns with
  | nil => intro n; exact List.mem_cons_self
  | cons m r ih =>
    intro n
    unfold minI
    rcases List.mem_cons.mp (ih (if m < n then m else n)) with h | h
    · rw [h]; split
      · exact List.mem_cons_of_mem _ List.mem_cons_self
      · exact List.mem_cons_self
    · exact List.mem_cons_of_mem _ (List.mem_cons_of_mem _ h)
theorem minI_le (ns : List Int) : ∀ n y, y ∈ n :: ns → minI n ns ≤ y := by
  induction ns with
  | nil => intro n y h; simp at h; subst h; exact Int.le_refl _
  | cons m r ih =>
    intro n y h
    unfold minI
    have h1 := ih (if m < n then m else n) _ List.mem_cons_self
    have h2 : (if m < n then m else n) ≤ n := by split <;> omega
    have h3 : (if m < n then m else n) ≤ m := by split <;> omega
    rcases List.mem_cons.mp h with h | h
    · subst h; exact Int.le_trans h1 h2
    · rcases List.mem_cons.mp h with h | h
      · subst h; exact Int.le_trans h1 h3
      · exact ih _ _ (List.mem_cons_of_mem _ h)
def biM (T : Tab) (b : BI) (vs : List MV) : M MV := match b, vs with
  | .len, [.str x] => if x.length ≤ sizeLine then M.pure (.int x.length) else M.stuck
  | .len, [x] => fun h => match asSeq h x with
    | some xs => .ok (.int xs.length) h
    | none => .stuck
  | .abs, [.int i] => M.pure (.int (if i < 0 then -i else i))
  | .max2, [.int i, .int j] => M.pure (.int (if j > i then j else i))
  | .min2, [.int i, .int j] => M.pure (.int (if j < i then j else i))
  | .int1, [.int i] => M.pure (.int i)
  | .int1, [.bl b] => M.pure (.int (if b then 1 else 0))
  | .sum, [x] => fun h => match (asList h x).bind intsM with
    | some ns => .ok (.int ns.sum) h
    | none => .stuck
  | .max1, [x] => fun h => match (asList h x).bind intsM with
    | some (n :: ns) => .ok (.int (maxI n ns)) h
    | _ => .stuck
  | .min1, [x] => fun h => match (asList h x).bind intsM with
    | some (n :: ns) => .ok (.int (minI n ns)) h
    | _ => .stuck
  | .all, [x] => fun h => match (asList h x).bind boolsM with
    | some ns => .ok (.bl (ns.all id)) h
    | none => .stuck
  | .list1, [x] => fun h => match asSeq h x with
    | some xs => newL xs h
    | none => .stuck
  | .tuple1, [x] => fun h => match asSeq h x with
    | some xs => if xs.length ≤ sizeLine then .ok (.tup xs) h else .stuck
    | none => .stuck
  | .repr, [x] => fun h => match toD h dpt x with
    | some d => if d.showable = true ∧ d.shown.length ≤ sizeLine ∧ d.depth ≤ 1000 then .ok (.str d.shown) h else .stuck
    | none => .stuck
  | .isi, [x, .tup cs] => fun h => match isiAny T h x cs with
    | some b => if cs.all isCl = true ∧ cs.isEmpty = false then .ok (.bl b) h else .stuck
    | none => .stuck
  | .isi, [x, .ty c] => fun h => match isi1 T h x (.ty c) with
    | some b => .ok (.bl b) h
    | none => .stuck
  | .isi, [x, .cls c] => fun h => match isi1 T h x (.cls c) with
    | some b => .ok (.bl b) h
    | none => .stuck
  | _, _ => M.stuck
def isLst (x : MV) : M Unit := match x with
  | .ref n => fun h => match h.get n with
    | some (.lst _) => .ok () h
    | _ => .stuck
  | _ => M.stuck
def appM (x v : MV) : M MV := match x with
  | .ref n => fun h => match h.get n with
    | some (.lst xs) => if xs.length < sizeLine then .ok .non (h.put n (.lst (xs ++ [v]))) else .stuck
    | _ => .stuck
  | _ => M.stuck
def fldM (T : Tab) (f : Str) (x : MV) : M MV := match x with
  | .ref n => fun h => match h.get n with
    | some (.ins c fs) => if T.noat c f = true then (match fs.lookup f with
      | some v => .ok v h
      | none => .stuck) else .stuck
    | _ => .stuck
  | _ => M.stuck
def putM (f : Str) (v : MV) : List (Str × MV) → List (Str × MV)
  | [] => [(f, v)]
  | (g, w) :: r => if g = f then (g, v) :: r else (g, w) :: putM f v r
def setFldM (T : Tab) (f : Str) (x v : MV) : M Unit := match x with
  | .ref n => fun h => match h.get n with
    | some (.ins c fs) => if T.noat c f = true ∧ fs.length < 1000 then .ok () (h.put n (.ins c (putM f v fs))) else .stuck
    | _ => .stuck
  | _ => M.stuck
def setSubM (x i v : MV) : M Unit := match x, i with
  | .ref n, .int k => fun h => match h.get n with
    | some (.lst xs) => match idx xs.length k with
      | some j => .ok () (h.put n (.lst (xs.set j v)))
      | none => .stuck
    | _ => .stuck
  | _, _ => M.stuck
def boolM : MV → M Bool
  | .bl b => M.pure b
  | _ => M.stuck

/-! ### iterators -/
inductive It where
  | lst (n : Nat) | tup (xs : List MV) | rng (lo : Int) (n : Nat) | enum (n : Nat) | enumT (xs : List MV)
/-- item i: stuck, the end, an item -/
def It.at (h : MH) (i : Nat) : It → Option (Option MV)
  | .lst n => (asList h (.ref n)).map fun xs => xs[i]?
  | .tup xs => some xs[i]?
  | .rng lo n => some (if i < n then some (.int (lo + i)) else none)
  | .enum n => (asList h (.ref n)).map fun xs => (xs[i]?).map fun x => .tup [.int i, x]
  | .enumT xs => some ((xs[i]?).map fun x => .tup [.int i, x])
def It.size (h : MH) : It → Nat
  | .lst n => ((asList h (.ref n)).getD []).length
  | .tup xs => xs.length
  | .rng _ n => n
  | .enum n => ((asList h (.ref n)).getD []).length
  | .enumT xs => xs.length
def itOf : MV → M It
  | .ref n => fun h => match asList h (.ref n) with
    | some _ => .ok (.lst n) h
    | none => .stuck
  | .tup xs => M.pure (.tup xs)
  | _ => M.stuck
def rngOk (i : Int) : Prop := -(2 ^ 62) ≤ i ∧ i < 2 ^ 62
instance (i : Int) : Decidable (rngOk i) := by unfold rngOk; infer_instance

/-- store an item to the slots of a target -/
def setT (h : MH) (me : Env) (v : MV) : CT → Option Env
  | .nm i => some (me.set i v)
  | .tp is => match asSeq h v with
    | some xs => if xs.length = is.length then some ((is.zip xs).foldl (fun m p => m.set p.1 p.2) me) else none
    | none => none
/-- unpacking a list, too -/
def setTL (me : Env) (v : MV) (is : List Nat) : M Env := fun h => match asSeq h v with
  | some xs => if xs.length = is.length then .ok ((is.zip xs).foldl (fun m p => m.set p.1 p.2) me) h else .stuck
  | none => .stuck
def wipeM (me : Env) (vs : List Nat) : Env := { sl := vs.foldr (fun v s => s.set v none) me.sl, ex := me.ex }

/-- a target's slots are among these -/
def ctIn (vs : List Nat) : CT → Bool
  | .nm i => vs.contains i
  | .tp is => is.all fun i => vs.contains i
/-- no exception may leave -/
def quiet {α : Type} (x : M α) : M α := fun h => match x h with
  | .exc _ _ _ => .stuck
  | r => r

/-- the turns of a comprehension: acc, what is made, stands at object r -/
def compL (step : MV → M (Option MV)) (it : It) (r : Nat) : Nat → Nat → M Unit
  | 0, i => fun h => match it.at h i with
    | some none => .ok () h
    | _ => .stuck
  | k + 1, i => fun h => match it.at h i with
    | some none => .ok () h
    | some (some v) => M.bind (step v) (fun o => match o with
      | none => compL step it r k (i + 1)
      | some w => fun h => match h.get r with
        | some (.lst acc) => if acc.length < sizeLine then compL step it r k (i + 1) (h.put r (.lst (acc ++ [w]))) else .stuck
        | _ => .stuck) h
    | none => .stuck

def argsOf (np : Nat) (vs ws : List MV) (pm : List Nat) : Option (List MV) :=
  let r := vs ++ pm.map fun i => ws.getD i .non
  if r.length = np ∧ vs.length + ws.length = np ∧ pm.length = ws.length then some r else none

/-- what may not be done while an exception is handled -/
def calmB : BI → Bool
  | .sum => true
  | .all => true
  | .max2 => true
  | .max1 => true
  | .min1 => true
  | .min2 => true
  | _ => false

section
variable (T : Tab) (C : CallF)
def mkM (c : Str) (vs : List MV) : M MV := fun h => match T.me c "__init__" with
  | some fi => if fi.np = vs.length + 1 then (match C fi (.ref h.next :: vs) (h.new (.ins c [])) with
    | .ok .non h' => .ok (.ref h.next) h'
    | .ok _ _ => .stuck
    | .exc c n h' => .exc c n h'
    | .stuck => .stuck) else .stuck
  | none => .stuck
def callM (f : Str) (vs ws : List MV) (pm : List Nat) : M MV := match T.fn f with
  | some fi => match argsOf fi.np vs ws pm with
    | some as => C fi as
    | none => M.stuck
  | none => M.stuck
def methM (m : Str) (x : MV) (k : FnI → M MV) : M MV := match x with
  | .ref n => fun h => match h.get n with
    | some (.ins c fs) => match fs.lookup m, T.me c m with
      | none, some fi => k fi h
      | _, _ => .stuck
    | _ => .stuck
  | _ => M.stuck
mutual
def evE (me : Env) : ME → M MV
  | .non => M.pure .non
  | .bl b => M.pure (.bl b)
  | .int i => M.pure (.int i)
  | .str x => M.pure (.str x)
  | .var i => opt (me.sl[i]?.getD none)
  | .ty n => M.pure (.ty n)
  | .cls c => M.pure (.cls c)
  | .gint _ i => M.pure (.int i)
  | .bin op a b => M.bind (evE me a) fun x => M.bind (evE me b) fun y => binM op x y
  | .neg a => M.bind (evE me a) fun x => match x with
    | .int i => M.pure (.int (-i))
    | _ => M.stuck
  | .notE a => M.bind (evE me a) fun x => M.bind (boolM x) fun b => M.pure (.bl (!b))
  | .cmp op a b => M.bind (evE me a) fun x => M.bind (evE me b) fun y => cmpM op x y
  | .chain op op' a b c => M.bind (evE me a) fun x => M.bind (evE me b) fun y => M.bind (cmpM op x y) fun z => M.bind (boolM z) fun k =>
      if k = true then M.bind (evE me c) fun w => cmpM op' y w else M.pure (.bl false)
  | .and a b => M.bind (evE me a) fun x => M.bind (boolM x) fun k => if k = true then evE me b else M.pure (.bl false)
  | .or a b => M.bind (evE me a) fun x => M.bind (boolM x) fun k => if k = true then M.pure (.bl true) else evE me b
  | .ife c a b => M.bind (evT me c) fun k => if k = true then evE me a else evE me b
  | .sub a i => M.bind (evE me a) fun x => M.bind (evE me i) fun y => subM x y
  | .slc a lo hi => M.bind (evE me a) fun x => M.bind (evO me lo) fun l => M.bind (evO me hi) fun u => slcM x l u
  | .rev a => M.bind (evE me a) fun x => revM x
  | .lsi a => if me.ex.isSome = true then M.stuck else M.bind (evE me a) fun x => lsiM x
  | .tup es => M.bind (evEs me es) fun vs => if vs.length ≤ sizeLine then M.pure (.tup vs) else M.stuck
  | .lst es => M.bind (evEs me es) fun vs => newL vs
  | .call f es ks kes pm => M.bind (evEs me es) fun vs => M.bind (evEs me kes) fun ws => callM T C f vs ws pm
  | .mk c es => if me.ex.isSome = true then M.stuck else M.bind (evEs me es) fun vs => mkM T C c vs
  | .meth o m es ks kes pm => if me.ex.isSome = true then M.stuck else M.bind (evE me o) fun x => methM T m x fun fi => M.bind (evEs me es) fun vs => M.bind (evEs me kes) fun ws => match argsOf fi.np (x :: vs) ws pm with
    | some as => C fi as
    | none => M.stuck
  | .bi b es => if calmB b = true ∧ me.ex.isSome = true then M.stuck else M.bind (evEs me es) fun vs => biM T b vs
  | .app o e => M.bind (evE me o) fun x => M.bind (isLst x) fun _ => M.bind (evE me e) fun v => appM x v
  | .fld o f => M.bind (evE me o) fun x => fldM T f x
  | .efld i f => fun h => match me.ex with
    | some (j, n) => if i = j ∧ i < me.sl.length ∧ T.xat f = true then (match h.get n with
      | some (.exc _ fs) => (match fs.lookup f with
        | some v => .ok v h
        | none => .stuck)
      | _ => .stuck) else .stuck
    | none => .stuck
  | .comp vs t it c e => if me.ex.isSome = true then M.stuck else M.bind (evI me it) fun J => fun h => M.bind (newL []) (fun r => match r with
    | .ref n => fun h' => M.bind (compL (fun v h => match setT h (wipeM me vs) v t with
        | some me' => quiet (M.bind (evT me' c) fun k => if k = true then M.bind (evE me' e) fun w => M.pure (some w) else M.pure none) h
        | none => .stuck) J n (J.size h) 0) (fun _ => M.pure (.ref n)) h'
    | _ => M.stuck) h
def evT (me : Env) : ME → M Bool
  | .and a b => M.bind (evT me a) fun k => if k = true then evT me b else M.pure false
  | .or a b => M.bind (evT me a) fun k => if k = true then M.pure true else evT me b
  | .notE a => M.bind (evT me a) fun k => M.pure (!k)
  | .bl b => M.pure b
  | .var i => M.bind (opt (me.sl[i]?.getD none)) boolM
  | .cmp op a b => M.bind (M.bind (evE me a) fun x => M.bind (evE me b) fun y => cmpM op x y) boolM
  | .chain op op' a b c => M.bind (M.bind (evE me a) fun x => M.bind (evE me b) fun y => M.bind (cmpM op x y) fun z => M.bind (boolM z) fun k =>
      if k = true then M.bind (evE me c) fun w => cmpM op' y w else M.pure (.bl false)) boolM
  | .sub a i => M.bind (M.bind (evE me a) fun x => M.bind (evE me i) fun y => subM x y) boolM
  | .call f es ks kes pm => M.bind (M.bind (evEs me es) fun vs => M.bind (evEs me kes) fun ws => callM T C f vs ws pm) boolM
  | .bi b es => M.bind (if calmB b = true ∧ me.ex.isSome = true then M.stuck else M.bind (evEs me es) fun vs => biM T b vs) boolM
  | .meth o m es ks kes pm => M.bind (if me.ex.isSome = true then M.stuck else M.bind (evE me o) fun x => methM T m x fun fi => M.bind (evEs me es) fun vs => M.bind (evEs me kes) fun ws => match argsOf fi.np (x :: vs) ws pm with
    | some as => C fi as
    | none => M.stuck) boolM
  | _ => M.stuck
def evO (me : Env) : MOp → M (Option Int)
  | .no => M.pure none
  | .yes e => M.bind (evE me e) fun x => match x with
    | .int i => M.pure (some i)
    | _ => M.stuck
def evI (me : Env) : MI → M It
  | .of e => M.bind (evE me e) itOf
  | .rng1 a => M.bind (evE me a) fun x => match x with
    | .int j => if rngOk j then M.pure (.rng 0 j.toNat) else M.stuck
    | _ => M.stuck
  | .rng2 a b => M.bind (evE me a) fun x => M.bind (evE me b) fun y => match x, y with
    | .int i, .int j => if rngOk i ∧ rngOk j then M.pure (.rng i (j - i).toNat) else M.stuck
    | _, _ => M.stuck
  | .enum e => M.bind (evE me e) fun x => match x with
    | .ref n => fun h => match asList h (.ref n) with
      | some _ => .ok (.enum n) h
      | none => .stuck
    | .tup xs => M.pure (.enumT xs)
    | _ => M.stuck
def evEs (me : Env) : MEs → M (List MV)
  | .nil => M.pure []
  | .cons e es => M.bind (evE me e) fun v => M.bind (evEs me es) fun vs => M.pure (v :: vs)
end
end

/-! ### statements -/
inductive Fl where
  | next (me : Env) | ret (v : MV) | brk (me : Env) | cont (me : Env)
/-- how a statement ends -/
inductive SR where
  | ok (f : Fl) (h : MH) | exc (c : Str) (n : Nat) (me : Env) (h : MH) | stuck
def SR.of {α : Type} (me : Env) (r : Res α) (k : α → MH → SR) : SR := match r with
  | .ok a h => k a h
  | .exc c n h => .exc c n me h
  | .stuck => .stuck
/-- the turns of a for -/
def forL (step : MV → Env → MH → SR) (it : It) : Nat → Nat → Env → MH → SR
  | 0, i, me, h => match it.at h i with
    | some none => .ok (.next me) h
    | _ => .stuck
  | k + 1, i, me, h => match it.at h i with
    | some none => .ok (.next me) h
    | some (some v) => match step v me h with
      | .ok (.next me') h' => forL step it k (i + 1) me' h'
      | .ok (.cont me') h' => forL step it k (i + 1) me' h'
      | .ok (.brk me') h' => .ok (.next me') h'
      | .ok (.ret v) h' => .ok (.ret v) h'
      | .exc c n me' h' => .exc c n me' h'
      | .stuck => .stuck
    | none => .stuck
section
variable (T : Tab)
def asgM (C : CallF) (me : Env) (v : MV) : MT → M Env
  | .nm i => if (me.ex.map (·.1)) = some i then M.stuck else M.pure (me.set i v)
  | .tp is => if me.ex.isSome = true then M.stuck else setTL me v is
  | .sw is => match v with
    | .tup xs => if xs.length = is.length ∧ me.ex.isSome = false then M.pure ((is.zip xs).reverse.foldl (fun m p => m.set p.1 p.2) me) else M.stuck
    | _ => M.stuck
  | .sub o i => M.bind (evE T C me o) fun x => M.bind (evE T C me i) fun y => M.bind (setSubM x y v) fun _ => M.pure me
  | .fld o f => M.bind (evE T C me o) fun x => M.bind (setFldM T f x v) fun _ => M.pure me
/-- nothing own is called -/
def noCall : CallF := fun _ _ => M.stuck
mutual
def exS (C : CallF) : MS → Env → MH → SR
  | .pass, me, h => .ok (.next me) h
  | .ret e, me, h => .of me (evE T C me e h) fun v h => .ok (.ret v) h
  | .retN, me, h => .ok (.ret .non) h
  | .expr e, me, h => .of me (evE T C me e h) fun _ h => .ok (.next me) h
  | .asg t e, me, h => if t.hot = true ∧ me.ex.isSome = true then .stuck else .of me (evE T C me e h) fun v h => .of me (asgM T C me v t h) fun me' h => .ok (.next me') h
  | .ifs c a b, me, h => .of me (evT T C me c h) fun k h => if k = true then exB C a me h else exB C b me h
  | .fors t it b, me, h => if me.ex.isSome = true then (match t, it with
      | .nm i, .of e => if (me.ex.map (·.1)) = some i then .stuck else .of me (evE T C me e h) fun x h => match x with
        | .ref n => (match asList h (.ref n) with
          | some _ => forL (fun v me h => exB C b (me.set i v) h) (.lst n) ((It.lst n).size h) 0 me h
          | none => .stuck)
        | _ => .stuck
      | _, _ => .stuck) else .of me (evI T C me it h) fun J h => forL (fun v me h => match setT h me v t with
      | some me' => exB C b me' h
      | none => .stuck) J (J.size h) 0 me h
  | .raise c es, me, h => if me.ex.isSome = true then .stuck else .of me (evEs T C me es h) fun vs h => match T.exf c with
    | some fs => if fs.length = vs.length ∧ fs ≠ [] then .exc c h.next me (h.new (.exc c (fs.zip vs).reverse)) else .stuck
    | none => .stuck
  | .brk, me, h => .ok (.brk me) h
  | .cont, me, h => .ok (.cont me) h
  | .trys b hs, me, h => if me.ex.isSome = true then .stuck else match exB C b me h with
    | .exc c n me' h' => exH hs c n me' h'
    | r => r
def exH : MHs → Str → Nat → Env → MH → SR
  | .nil, c, n, me, h => .exc c n me h
  | .cons c' i b r, c, n, me, h => match T.sub c c' with
    | some true => if (T.exf c).isSome = true ∧ i < me.sl.length then (match exB T.hc b { sl := me.sl.set i none, ex := some (i, n) } h with
      | .ok (.next m) h => .ok (.next { sl := m.sl.set i none, ex := none }) h
      | .ok (.brk m) h => .ok (.brk { sl := m.sl.set i none, ex := none }) h
      | .ok (.cont m) h => .ok (.cont { sl := m.sl.set i none, ex := none }) h
      | .ok (.ret v) h => .ok (.ret v) h
      | _ => .stuck) else .stuck
    | some false => exH r c n me h
    | none => .stuck
def exB (C : CallF) : MSs → Env → MH → SR
  | .nil, me, h => .ok (.next me) h
  | .cons s r, me, h => match exS C s me h with
    | .ok (.next me') h' => exB C r me' h'
    | x => x
end
/-- a def's run, one in another at most n deep -/
def run : Nat → CallF
  | 0 => noCall
  | n + 1 => fun fi vs h => if vs.length = fi.np then (match exB T (run n) fi.body { sl := vs.map some ++ List.replicate (fi.ns - fi.np) none, ex := none } h with
    | .ok (.ret v) h' => .ok v h'
    | .ok (.next _) h' => .ok .non h'
    | .exc c n _ h' => .exc c n h'
    | _ => .stuck) else .stuck
/-- a def's run while an exception is handled: nothing own is called there, nothing is raised -/
def hotOf : CallF := fun fi vs h => if vs.length = fi.np then (match exB T noCall fi.body { sl := vs.map some ++ List.replicate (fi.ns - fi.np) none, ex := some (fi.ns, 0) } h with
    | .ok (.ret v) h' => .ok v h'
    | .ok (.next _) h' => .ok .non h'
    | _ => .stuck) else .stuck
end
end Mi
end

section
/-! Mini, part 3: the operations of the small language agree with the rules of the hand layer. -/
namespace Mi
open PySem PySem.Spec PyProof.Rows L2

/-- room for k calls, one in another, nothing handled, no repr under way -/
structure RM (k : Nat) (A : Around) : Prop where
  hd : A.handled = none
  dp : A.depth + 3 * k + 5 < recursionLimit
  un : A.units + 16 * k + 1300 < cLine
  gd : A.guards = some []

/-- what the written part says of the names -/
structure Stat (T : Tab) (CA : Str → Addr) (K : PySem.W.Frag) (mg : Str → Option Value) : Prop where
  free : ∀ x, T.free x = true → mg x = none
  cls : ∀ c, T.own c = true → mg c = some (.ref (CA c))
  gi : ∀ x i, T.gi x i = true → ∃ t, mg x = some (.int i t)
  noat : ∀ c f, T.noat c f = true → NoAttr K (CA c) f ∧ Cls K (CA c)
  isc : ∀ c v b, T.isc c v = some b → (∀ H (a dx : Addr) (fs : List (Str × V)), H a = some (.ins (CA c) dx fs) → TyOf K H (.ref a) (.ref (CA c))) ∧
    ((∃ n, v = .ty n ∧ PySem.W.kitOne K (.ref (CA c)) (.type n) = some b) ∨ ∃ d, v = .cls d ∧ PySem.W.kitOne K (.ref (CA c)) (.ref (CA d)) = some b)
  sub : ∀ c d b, T.sub c d = some b → PySem.W.exmOne K (.ref (CA c)) (.ref (CA d)) = some b
  xf : ∀ c, (T.exf c).isSome = true → XfC K (CA c) ∧ ∀ f, T.xat f = true → PySem.W.findIn K (.ref (CA c)) f = some none

/-- the slots -/
structure RS (CA : Str → Addr) (xi : Option (Nat × Addr × Addr)) (ρ : Rho) (H : Hp) (me : Env) (σ : List (Option V)) : Prop where
  len : me.sl.length = σ.length
  sl : ∀ (i : Nat) (v : MV), me.sl[i]? = some (some v) → ∃ x, σ[i]? = some (some x) ∧ RV CA ρ H v x
  ex : ∀ (j n : Nat), me.ex = some (j, n) → ∃ (a d : Addr), xi = some (j, a, d) ∧ (j < me.sl.length → ρ n = some d ∧ σ[j]? = some (some (.ref a)))
section
variable {CA : Str → Addr} {xi : Option (Nat × Addr × Addr)} {ρ ρ' : Rho} {H H' : Hp} {me : Env} {σ : List (Option V)}
theorem RS.mono (r : RS CA xi ρ H me σ) (e : Ext ρ H ρ' H') : RS CA xi ρ' H' me σ :=
  ⟨r.len, fun i v q => let ⟨x, h1, h2⟩ := r.sl i v q; ⟨x, h1, h2.mono e⟩, fun j n q => let ⟨a, d, h1, h2⟩ := r.ex j n q; ⟨a, d, h1, fun l => ⟨e.map _ _ (h2 l).1, (h2 l).2⟩⟩⟩
end

/-- where one stands: the text's names N by slot, the scope sc -/
structure Gd (T : Tab) (CA : Str → Addr) (N : List Str) (sc : Scope) (X : Cx) : Prop where
  nm : X.N = N
  nd : X.N.Nodup
  sc : ∀ (x : Str) (k : NameKind), sc.names.lookup x = some k → X.env.scope.names.lookup x = some k ∨ (k = .free ∧ X.env.scope.names.lookup x = some .cell)
  st : Stat T CA X.K X.mg
  gd : X.A.guards = some []
  un : X.A.units + 1250 < cLine

/-- a wish at given slots -/
abbrev WS := Value → Option Addr → Hp → Prop

section
variable {T : Tab} {CA : Str → Addr} {X : Cx} {ρ ρ' : Rho} {H H' : Hp} {mh mh' : MH} {W : WS} {K : PySem.W.Frag} {x y v : MV} {a b u : V} {Q : VK}

theorem Aft.now {α β : Type} {R : Rho → Hp → α → β → Prop} {z : α} {w : β} {Q : β → Hp → Prop} (h : Aft K CA R W ρ H (.ok z mh) Q) (rh : RH K CA ρ mh H) (r : R ρ H z w) : Q w H := h ρ H w Ext.refl rh r

/-! ### lists and tuples -/
theorem seqL_of {n : Nat} {xs : List MV} (rh : RH K CA ρ mh H) (e : asList mh (.ref n) = some xs) {c : Addr} (q : ρ n = some c) : ∃ vs, SqL K H c vs ∧ RVs CA ρ H xs vs := by
  unfold asList at e
  simp only at e
  cases g : mh.get n with
  | none => rw [g] at e; cases e
  | some o =>
    rw [g] at e
    have ro := rh.at g q
    cases o with
    | lst ys => cases e; obtain ⟨vs, h1, h2⟩ := ro; exact ⟨vs, SqL.of h1, h2⟩
    | frz ys =>
      cases e
      obtain ⟨vs, h1, h2⟩ := ro
      refine ⟨vs, ?_, h2⟩
      rcases h1 with ⟨o, h1⟩ | h1
      · exact .inl (.inr ⟨o, h1⟩)
      · exact .inr h1
    | ins c fs => cases e
    | exc c fs => cases e
theorem seq_of {xs : List MV} (rh : RH K CA ρ mh H) (e : asSeq mh x = some xs) (r : RV CA ρ H x a) : ∃ c vs, a = .ref c ∧ (SqL K H c vs ∨ SqT K H c vs) ∧ RVs CA ρ H xs vs := by
  cases r with
  | ref q => obtain ⟨vs, h1, h2⟩ := seqL_of rh e q; exact ⟨_, vs, rfl, .inl h1, h2⟩
  | tup q rs => cases e; exact ⟨_, _, rfl, .inr (SqT.of q), rs⟩
  | _ => cases e
/-- a new list -/
theorem newL_ok {xs : List MV} {vs : List V} (h : Aft K CA (RV CA) W ρ H (newL xs mh) Q) (rh : RH K CA ρ mh H) (rs : RVs CA ρ H xs vs) : vs.length ≤ sizeLine ∧ ∀ p, H p = none → Q (.ref p) (upd H p (.lst vs)) := by
  unfold newL at h
  by_cases hl : xs.length ≤ sizeLine
  · rw [if_pos hl] at h
    refine ⟨by rw [← rs.length]; exact hl, fun p hp => ?_⟩
    obtain ⟨r1, e1, q1⟩ := rh.add (o := .lst xs) (p := p) (H' := upd H p (.lst vs)) (fun c o z => by rw [upd_ne (ne_of_none z hp)]; exact z) hp (fun ρ' e => ⟨vs, upd_same, rs.mono e⟩)
    exact h _ _ _ e1 r1 (.ref q1)
  · rw [if_neg hl] at h; exact h.elim
/-- a new tuple -/
theorem newT_ok {xs : List MV} {vs : List V} (h : Aft K CA (RV CA) W ρ H (.ok (.tup xs) mh) Q) (rh : RH K CA ρ mh H) (rs : RVs CA ρ H xs vs) : ∀ p, H p = none → Q (.ref p) (upd H p (.tup vs)) := fun p hp => by
  obtain ⟨r1, e1⟩ := rh.same (H' := upd H p (.tup vs)) fun c o z => by rw [upd_ne (ne_of_none z hp)]; exact z
  exact h _ _ _ e1 r1 (.tup upd_same (rs.mono e1))

/-! ### operators -/
def rBin (X : Cx) : BOp → R2
  | .add => fun x y H Q => rI0 (fun i j => .int (i + j)) x y H Q ∨ (∃ i j, x = .str i ∧ y = .str j ∧ i.length + j.length ≤ sizeLine ∧ Q (.str (i ++ j)) H) ∨ rCat x y H Q
  | .sub => rI0 fun i j => .int (i - j)
  | .mul => fun x y H Q => rI CMul (fun i j => .int (i * j)) x y H Q ∨ rI CMulW (fun i j => .int (i * j)) x y H Q
  | .fdiv => rI CDivW fun i j => .int (i / j)
  | .mod => rI (fun _ j => 0 < j) fun i j => .int (i % j)
  | .pow => rI CPow fun i j => .int (i ^ j.toNat)
def opB : BOp → Operator
  | .add => .Add
  | .sub => .Sub
  | .mul => .Mult
  | .fdiv => .FloorDiv
  | .mod => .Mod
  | .pow => .Pow
theorem op_bin : ∀ op, OpR X (binaryOp (opB op)) (rBin X op)
  | .add => op_add.or (op_add_str.or op_cat)
  | .sub => op_sub
  | .mul => op_mul.or op_mulW
  | .fdiv => op_fdivW
  | .mod => op_mod
  | .pow => op_pow
theorem bin_ok {op : BOp} (h : Aft K CA (RV CA) W ρ H (binM op x y mh) Q) (rh : RH K CA ρ mh H) (ra : RV CA ρ H x a) (rb : RV CA ρ H y b) : rBin X op a b H Q := by
  cases op with
  | add =>
    cases ra <;> cases rb <;> try exact h.elim
    · exact .inl ⟨_, _, rfl, rfl, h.now rh (.int _)⟩
    · rename_i i j
      have h' : Aft K CA (RV CA) W ρ H ((if i.length + j.length ≤ sizeLine then M.pure (.str (i ++ j)) else M.stuck : M MV) mh) Q := h
      by_cases hz : i.length + j.length ≤ sizeLine
      · rw [if_pos hz] at h'
        exact .inr (.inl ⟨_, _, rfl, rfl, hz, h'.now rh (.str _)⟩)
      · rw [if_neg hz] at h'; exact h'.elim
    · rename_i n1 a1 e1 n2 a2 e2
      unfold binM at h
      simp only at h
      cases g1 : mh.get n1 with
      | none => rw [g1] at h; exact h.elim
      | some o1 =>
        rw [g1] at h
        cases g2 : mh.get n2 with
        | none => rw [g2] at h; cases o1 <;> exact h.elim
        | some o2 =>
          rw [g2] at h
          cases o1 <;> cases o2 <;> try exact h.elim
          obtain ⟨vs, q1, r1⟩ := rh.at g1 e1
          obtain ⟨ws, q2, r2⟩ := rh.at g2 e2
          obtain ⟨z, k⟩ := newL_ok h rh (r1.append r2)
          exact .inr (.inr ⟨_, _, _, _, rfl, rfl, q1, q2, by rw [List.length_append] at z; exact z, k⟩)
  | sub => cases ra <;> cases rb <;> first | exact h.elim | exact ⟨_, _, rfl, rfl, h.now rh (.int _)⟩
  | mul =>
    cases ra <;> cases rb <;> try exact h.elim
    rename_i i j
    have h' : Aft K CA (RV CA) W ρ H ((if small i ∨ small j ∨ i.natAbs.log2 + j.natAbs.log2 < 1000000 then M.pure (.int (i * j)) else M.stuck : M MV) mh) Q := h
    by_cases hz : small i ∨ small j ∨ i.natAbs.log2 + j.natAbs.log2 < 1000000
    · rw [if_pos hz] at h'
      have q := h'.now rh (.int _)
      rcases hz with z | z | z
      · exact .inl ⟨_, _, rfl, rfl, .inl z, q⟩
      · exact .inl ⟨_, _, rfl, rfl, .inr z, q⟩
      · exact .inr ⟨_, _, rfl, rfl, z, q⟩
    · rw [if_neg hz] at h'; exact h'.elim
  | fdiv =>
    cases ra <;> cases rb <;> try exact h.elim
    rename_i i j
    have h' : Aft K CA (RV CA) W ρ H ((if 0 < j ∧ j.natAbs.log2 < 9000 then M.pure (.int (i / j)) else M.stuck : M MV) mh) Q := h
    by_cases hz : 0 < j ∧ j.natAbs.log2 < 9000
    · rw [if_pos hz] at h'
      exact ⟨_, _, rfl, rfl, hz, h'.now rh (.int _)⟩
    · rw [if_neg hz] at h'; exact h'.elim
  | mod =>
    cases ra <;> cases rb <;> try exact h.elim
    rename_i i j
    have h' : Aft K CA (RV CA) W ρ H ((if 0 < j then M.pure (.int (i % j)) else M.stuck : M MV) mh) Q := h
    by_cases hz : 0 < j
    · rw [if_pos hz] at h'
      exact ⟨_, _, rfl, rfl, hz, h'.now rh (.int _)⟩
    · rw [if_neg hz] at h'; exact h'.elim
  | pow =>
    cases ra <;> cases rb <;> try exact h.elim
    rename_i i j
    have h' : Aft K CA (RV CA) W ρ H ((if 0 ≤ j ∧ j ≤ 1000000 ∧ i.natAbs < 2 ^ 64 then M.pure (.int (i ^ j.toNat)) else M.stuck : M MV) mh) Q := h
    by_cases hz : 0 ≤ j ∧ j ≤ 1000000 ∧ i.natAbs < 2 ^ 64
    · rw [if_pos hz] at h'
      exact ⟨_, _, rfl, rfl, hz, h'.now rh (.int _)⟩
    · rw [if_neg hz] at h'; exact h'.elim

/-! ### comparisons -/
def opC : COp → CmpOp
  | .eq => .Eq
  | .ne => .NotEq
  | .lt => .Lt
  | .le => .LtE
  | .gt => .Gt
  | .ge => .GtE
  | .isN => .Is
  | .notN => .IsNot
/-! ### items, slices -/
theorem sub_ok (h : Aft K CA (RV CA) W ρ H (subM x y mh) Q) (rh : RH K CA ρ mh H) (ra : RV CA ρ H x a) (rb : RV CA ρ H y b) : rIx K a b H Q := by
  cases rb <;> try exact h.elim
  rename_i i
  unfold subM at h
  simp only at h
  cases e : asSeq mh x with
  | none => rw [e] at h; exact h.elim
  | some xs =>
    rw [e] at h
    simp only at h
    cases g : (idx xs.length i).bind fun j => xs[j]? with
    | none => rw [g] at h; exact h.elim
    | some w =>
      rw [g] at h
      obtain ⟨c, vs, rfl, sq, rs⟩ := seq_of rh e ra
      obtain ⟨j, h1, h2⟩ := Option.bind_eq_some_iff.mp g
      obtain ⟨u, h3, h4⟩ := rs.get h2
      have q := h.now rh h4
      have hat : atI vs i = some u := by
        unfold atI
        rw [← rs.length, show ixN xs.length i = some j from h1]
        exact h3
      rcases sq with s | s
      · exact .inl ⟨c, vs, i, u, rfl, rfl, s, hat, q⟩
      · exact .inr (.inl ⟨c, vs, i, u, rfl, rfl, s, hat, q⟩)
theorem cut_ok {xs : List MV} {vs : List V} (rs : RVs CA ρ H xs vs) (lo hi : Option Int) : RVs CA ρ H (cut xs lo hi) (cutV vs lo hi) := by
  unfold cut cutV
  rw [rs.length]
  exact (rs.drop _).take _
theorem slc_ok {lo hi : Option Int} (h : Aft K CA (RV CA) W ρ H (slcM x lo hi mh) Q) (rh : RH K CA ρ mh H) (ra : RV CA ρ H x a) : rSlL K a lo hi H Q := by
  cases ra <;> try exact h.elim
  rename_i n c e
  unfold slcM at h
  simp only at h
  cases g : asList mh (.ref n) with
  | none => rw [g] at h; exact h.elim
  | some xs =>
    rw [g] at h
    obtain ⟨vs, s, rs⟩ := seqL_of rh g e
    exact ⟨c, vs, rfl, s, (newL_ok h rh (cut_ok rs lo hi)).2⟩
theorem rev_ok (h : Aft K CA (RV CA) W ρ H (revM x mh) Q) (rh : RH K CA ρ mh H) (ra : RV CA ρ H x a) : ∃ c xs, a = .ref c ∧ SqL K H c xs ∧ ∀ p, H p = none → Q (.ref p) (upd H p (.lst xs.reverse)) := by
  cases ra <;> try exact h.elim
  rename_i n c e
  unfold revM at h
  simp only at h
  cases g : asList mh (.ref n) with
  | none => rw [g] at h; exact h.elim
  | some xs =>
    rw [g] at h
    obtain ⟨vs, s, rs⟩ := seqL_of rh g e
    exact ⟨c, vs, rfl, s, (newL_ok h rh rs.reverse).2⟩
theorem set_ok {z : MV} {w : V} {Q : Hp → Prop} (h : Aft K CA (fun _ _ (_ : Unit) (_ : Unit) => True) W ρ H (setSubM x y z mh) (fun _ => Q)) (rh : RH K CA ρ mh H) (ra : RV CA ρ H x a) (rb : RV CA ρ H y b) (rc : RV CA ρ H z w) : rSetL a b w H Q := by
  cases ra <;> try exact h.elim
  cases rb <;> try exact h.elim
  rename_i n c e k
  unfold setSubM at h
  simp only at h
  cases g : mh.get n with
  | none => rw [g] at h; exact h.elim
  | some o =>
    rw [g] at h
    cases o <;> try exact h.elim
    rename_i xs
    simp only at h
    cases g2 : idx xs.length k with
    | none => rw [g2] at h; exact h.elim
    | some j =>
      rw [g2] at h
      obtain ⟨vs, q, rs⟩ := rh.at g e
      obtain ⟨r1, e1⟩ := rh.write (o' := .lst (xs.set j z)) (u := .lst (vs.set j w)) g e rfl rfl fun H' eq ex => ⟨_, by rw [eq, upd_same], (RVs.set rc j rs).mono ex⟩
      exact ⟨c, vs, k, j, rfl, rfl, q, by rw [← rs.length]; exact g2, h ρ _ () e1 r1 trivial⟩

/-! ### built-in calls -/
theorem ints_of : ∀ {xs : List MV} {ns : List Int} {vs : List V}, intsM xs = some ns → RVs CA ρ H xs vs → vs = ns.map V.int
  | [], ns, _, e, .nil => by cases e; rfl
  | .int i :: r, ns, _, e, .cons (.int _) t => by
    have e' : (intsM r).map (i :: ·) = some ns := e
    obtain ⟨ms, h1, h2⟩ := Option.map_eq_some_iff.mp e'
    subst h2
    rw [List.map_cons, ← ints_of h1 t]
theorem lsi_ok (h : Aft K CA (RV CA) W ρ H (lsiM x mh) Q) (rh : RH K CA ρ mh H) (ra : RV CA ρ H x a) : ∃ (l : Addr) (ns : List Int), a = .ref l ∧ SqL K H l (ns.map V.int) ∧ ns.Nodup ∧ ns.length ≤ 4000 ∧ Q (.int (ns.length : Nat)) H := by
  cases ra <;> try exact h.elim
  rename_i n c e
  unfold lsiM at h
  simp only at h
  cases g : (asList mh (.ref n)).bind intsM with
  | none => rw [g] at h; exact h.elim
  | some ns =>
    rw [g] at h
    obtain ⟨xs, e1, e2⟩ := Option.bind_eq_some_iff.mp g
    obtain ⟨vs, s, rs⟩ := seqL_of rh e1 e
    have e3 := ints_of e2 rs
    subst e3
    simp only at h
    by_cases hz : ns.Nodup ∧ ns.length ≤ 4000
    · rw [if_pos hz] at h
      exact ⟨c, ns, rfl, s, hz.1, hz.2, h.now rh (.int _)⟩
    · rw [if_neg hz] at h; exact h.elim
theorem bools_of : ∀ {xs : List MV} {ns : List Bool} {vs : List V}, boolsM xs = some ns → RVs CA ρ H xs vs → vs = ns.map V.bl
  | [], ns, _, e, .nil => by cases e; rfl
  | .bl i :: r, ns, _, e, .cons (.bl _) t => by
    have e' : (boolsM r).map (i :: ·) = some ns := e
    obtain ⟨ms, h1, h2⟩ := Option.map_eq_some_iff.mp e'
    subst h2
    rw [List.map_cons, ← bools_of h1 t]
mutual
/-- a value's data, by the hand layer's Dp -/
theorem dp_of (rh : RH K CA ρ mh H) : ∀ (n : Nat) (x : MV) (a : V) (d : PyData), toD mh n x = some d → RV CA ρ H x a → Dp K H a d
  | 0, x, a, d, e, r => by unfold toD at e; cases e
  | n + 1, x, a, d, e, r => by
    cases r with
    | non => cases e; exact .non
    | bl b => cases e; exact .bl b
    | int b => cases e; exact .int b
    | str b => cases e; exact .str b
    | ty b => cases e
    | cls b => cases e
    | @tup xs c vs q rs =>
      have e' : (toDs mh n xs).map PyData.tuple = some d := e
      obtain ⟨ds, h1, h2⟩ := Option.map_eq_some_iff.mp e'
      subst h2
      exact .tup (SqT.of q) (dps_of rh n xs vs ds h1 rs)
    | @ref m c q =>
      unfold toD at e
      cases g : mh.get m with
      | none => rw [g] at e; cases e
      | some o =>
        rw [g] at e
        have ro := rh.at g q
        cases o with
        | lst xs =>
          obtain ⟨ds, h1, h2⟩ := Option.map_eq_some_iff.mp (show (toDs mh n xs).map PyData.list = some d from e)
          subst h2
          obtain ⟨vs, h3, rs⟩ := ro
          exact .lst (SqL.of h3) (dps_of rh n xs vs ds h1 rs)
        | frz xs =>
          obtain ⟨ds, h1, h2⟩ := Option.map_eq_some_iff.mp (show (toDs mh n xs).map PyData.list = some d from e)
          subst h2
          obtain ⟨vs, h3, rs⟩ := ro
          refine .lst (xs := vs) ?_ (dps_of rh n xs vs ds h1 rs)
          rcases h3 with ⟨o, h3⟩ | h3
          · exact .inl (.inr ⟨o, h3⟩)
          · exact .inr h3
        | ins c fs => cases e
        | exc c fs => cases e
theorem dps_of (rh : RH K CA ρ mh H) : ∀ (n : Nat) (xs : List MV) (vs : List V) (ds : List PyData), toDs mh n xs = some ds → RVs CA ρ H xs vs → DpAll K H vs ds
  | n, [], vs, ds, e, r => by
    unfold toDs at e
    cases e
    cases r
    exact .nil
  | 0, x :: xs, vs, ds, e, r => by unfold toDs at e; cases e
  | n + 1, x :: xs, vs, ds, e, r => by
    unfold toDs at e
    cases h1 : toD mh n x with
    | none => rw [h1] at e; cases e
    | some d =>
      rw [h1] at e
      cases h2 : toDs mh n xs with
      | none => rw [h2] at e; cases e
      | some ds' =>
        rw [h2] at e
        cases e
        cases r with
        | cons r t => exact .cons (dp_of rh n x _ d h1 r) (dps_of rh n xs _ ds' h2 t)
end
/-- two values as data -/
def rEqD (K : PySem.W.Frag) (f : Bool → Bool) : R2 := fun x y H Q => ∃ d e, Dp K H x d ∧ Dp K H y e ∧ PySem.SeqAt.shaped d = true ∧ PySem.SeqAt.shaped e = true ∧ Q (.bl (f (PyData.eqv d e))) H
theorem op_eqD (hu : X.A.units + 64 < cLine) : OpR X (compareOp .Eq) (rEqD X.K id) := by
  intro pins s σ H x y v u Q I rx ry h
  obtain ⟨d, e, h1, h2, h3, h4, q⟩ := h
  obtain ⟨as, r1⟩ := Dp.reads I d x v h1 rx
  obtain ⟨bs, r2⟩ := Dp.reads I e y u h2 ry
  exact eq_dataH r1 r2 h3 h4 hu ⟨.bl _, H, I, rfl, q⟩
theorem op_neD (hu : X.A.units + 64 < cLine) : OpR X (compareOp .NotEq) (rEqD X.K not) := by
  intro pins s σ H x y v u Q I rx ry h
  obtain ⟨d, e, h1, h2, h3, h4, q⟩ := h
  obtain ⟨as, r1⟩ := Dp.reads I d x v h1 rx
  obtain ⟨bs, r2⟩ := Dp.reads I e y u h2 ry
  exact ne_dataH r1 r2 h3 h4 hu ⟨.bl _, H, I, rfl, q⟩
theorem op_or {f : Value → Value → Sem Value} {r r' : R2} (h : OpR X f r) (h' : OpR X f r') : OpR X f (fun x y H Q => r x y H Q ∨ r' x y H Q) := by
  intro pins s σ H x y v u Q I rx ry q
  rcases q with q | q
  · exact h pins s σ H x y v u Q I rx ry q
  · exact h' pins s σ H x y v u Q I rx ry q
def rCmp (K : PySem.W.Frag) : COp → R2
  | .eq => fun x y H Q => rEq x y H Q ∨ rEqD K id x y H Q
  | .ne => fun x y H Q => rNe x y H Q ∨ rEqD K not x y H Q
  | .lt => rI0 fun i j => .bl (decide (i < j))
  | .le => rI0 fun i j => .bl (decide (i ≤ j))
  | .gt => rI0 fun i j => .bl (decide (j < i))
  | .ge => rI0 fun i j => .bl (decide (j ≤ i))
  | .isN => fun x y H Q => y = .non ∧ Q (.bl (decide (x = .non))) H
  | .notN => fun x y H Q => y = .non ∧ Q (.bl (!decide (x = .non))) H
theorem op_cmp (hu : X.A.units + 1250 < cLine) : ∀ op, OpR X (compareOp (opC op)) (rCmp X.K op)
  | .eq => op_or op_eq (op_eqD (by omega))
  | .ne => op_or op_ne (op_neD (by omega))
  | .lt => op_lt
  | .le => op_le
  | .gt => op_gt
  | .ge => op_ge
  | .isN => op_isN
  | .notN => op_notN
/-- equality, of scalars or of data -/
theorem eq_ok {k : Bool → MV} (h : Aft K CA (RV CA) W ρ H (M.bind (eqM x y) (fun b => M.pure (k b)) mh) Q) (rh : RH K CA ρ mh H) (ra : RV CA ρ H x a) (rb : RV CA ρ H y b) :
    (scal a b = true ∧ Aft K CA (RV CA) W ρ H (.ok (k (decide (a = b))) mh) Q) ∨ ∃ d e, Dp K H a d ∧ Dp K H b e ∧ PySem.SeqAt.shaped d = true ∧ PySem.SeqAt.shaped e = true ∧ Aft K CA (RV CA) W ρ H (.ok (k (PyData.eqv d e)) mh) Q := by
  have key : ∀ {p q : Prop} [Decidable p] [Decidable q], (p ↔ q) → decide p = decide q := fun e => by simp [e]
  have gen : (∀ h', eqM x y h' = (match toD h' dpt x, toD h' dpt y with
    | some d, some e => if PySem.SeqAt.shaped d = true ∧ PySem.SeqAt.shaped e = true then .ok (PyData.eqv d e) h' else .stuck
    | _, _ => .stuck)) → ∃ d e, Dp K H a d ∧ Dp K H b e ∧ PySem.SeqAt.shaped d = true ∧ PySem.SeqAt.shaped e = true ∧ Aft K CA (RV CA) W ρ H (.ok (k (PyData.eqv d e)) mh) Q := by
    intro e0
    unfold M.bind at h
    rw [e0 mh] at h
    cases e1 : toD mh dpt x with
    | none => rw [e1] at h; exact h.elim
    | some d =>
      cases e2 : toD mh dpt y with
      | none => rw [e1, e2] at h; exact h.elim
      | some e =>
        rw [e1, e2] at h
        simp only at h
        by_cases hc : PySem.SeqAt.shaped d = true ∧ PySem.SeqAt.shaped e = true
        · rw [if_pos hc] at h
          exact ⟨d, e, dp_of rh _ _ _ _ e1 ra, dp_of rh _ _ _ _ e2 rb, hc.1, hc.2, h⟩
        · rw [if_neg hc] at h; exact h.elim
  cases ra <;> cases rb <;> first | exact .inr (gen fun _ => rfl) | skip
  · refine .inl ⟨rfl, ?_⟩
    rw [key (q := _ = _) (by constructor <;> intro e <;> (first | exact V.str.inj e | exact congrArg V.str e))]; exact h
theorem cmp_ok {op : COp} (h : Aft K CA (RV CA) W ρ H (cmpM op x y mh) Q) (rh : RH K CA ρ mh H) (ra : RV CA ρ H x a) (rb : RV CA ρ H y b) : rCmp K op a b H Q := by
  cases op with
  | eq =>
    rcases eq_ok (k := fun b => .bl b) h rh ra rb with ⟨s, q⟩ | ⟨d, e, h1, h2, h3, h4, q⟩
    · exact .inl ⟨s, q.now rh (.bl _)⟩
    · exact .inr ⟨d, e, h1, h2, h3, h4, q.now rh (.bl _)⟩
  | ne =>
    rcases eq_ok (k := fun b => .bl (!b)) h rh ra rb with ⟨s, q⟩ | ⟨d, e, h1, h2, h3, h4, q⟩
    · exact .inl ⟨s, q.now rh (.bl _)⟩
    · exact .inr ⟨d, e, h1, h2, h3, h4, q.now rh (.bl _)⟩
  | lt => cases ra <;> cases rb <;> first | exact h.elim | exact ⟨_, _, rfl, rfl, h.now rh (.bl _)⟩
  | le => cases ra <;> cases rb <;> first | exact h.elim | exact ⟨_, _, rfl, rfl, h.now rh (.bl _)⟩
  | gt => cases ra <;> cases rb <;> first | exact h.elim | exact ⟨_, _, rfl, rfl, h.now rh (.bl _)⟩
  | ge => cases ra <;> cases rb <;> first | exact h.elim | exact ⟨_, _, rfl, rfl, h.now rh (.bl _)⟩
  | isN =>
    cases rb <;> try exact h.elim
    refine ⟨rfl, ?_⟩
    cases ra <;> exact h.now rh (.bl _)
  | notN =>
    cases rb <;> try exact h.elim
    refine ⟨rfl, ?_⟩
    cases ra <;> exact h.now rh (.bl _)

end
end Mi
end

section
/-! Mini, part 4: calls: of defs and methods, by place and by name, new instances, built-in functions. -/
namespace Mi
open PySem PySem.Spec PyProof.Rows L2

/-! ### argument lists -/
def noStar : Expr → Bool
  | .Starred _ _ => false
  | _ => true
theorem star_cons {e : Expr} {es : List Expr} {env : PySem.Env} (h : noStar e = true) : starEach (e :: es) env = (false, eval e env) :: starEach es env := by
  cases e <;> first | rfl | cases h
theorem star_none {pos : Pos} {env : PySem.Env} : ∀ {es : List Expr}, es.all noStar = true → (backTo pos (starEach es env)).any (·.1) = false
  | [], _ => rfl
  | e :: es, h => by
    rw [List.all_cons, Bool.and_eq_true] at h
    rw [star_cons h.1]
    show (false || (backTo pos (starEach es env)).any (·.1)) = false
    rw [star_none h.2]; rfl
theorem star_all {pos : Pos} {env : PySem.Env} : ∀ {es : List Expr}, es.all noStar = true → (backTo pos (starEach es env)).all (!·.1) = true
  | [], _ => rfl
  | e :: es, h => by
    rw [List.all_cons, Bool.and_eq_true] at h
    rw [star_cons h.1]
    show (true && (backTo pos (starEach es env)).all (!·.1)) = true
    rw [star_all h.2]; rfl
def kwNames : List Keyword → List Str → Bool
  | [], [] => true
  | ⟨some n, _, _⟩ :: r, k :: ks => decide (n = k) && kwNames r ks
  | _, _ => false
theorem kw_all {pos : Pos} {env : PySem.Env} : ∀ {kws : List Keyword} {ks : List Str}, kwNames kws ks = true → (backToKw pos (keywordEach kws env)).all (·.1.isSome) = true
  | [], [], _ => rfl
  | ⟨some n, e, p⟩ :: r, k :: ks, h => by
    have h' : (decide (n = k) && kwNames r ks) = true := h
    rw [Bool.and_eq_true] at h'
    show (true && (backToKw pos (keywordEach r env)).all (·.1.isSome)) = true
    rw [kw_all h'.2]; rfl
  | ⟨none, _, _⟩ :: _, _ :: _, h => by cases h
  | ⟨none, _, _⟩ :: _, [], h => by cases h
  | ⟨some _, _, _⟩ :: _, [], h => by cases h
  | [], _ :: _, h => by cases h
theorem kw_none {pos : Pos} {env : PySem.Env} : ∀ {kws : List Keyword} {ks : List Str}, kwNames kws ks = true → (backToKw pos (keywordEach kws env)).any (·.1.isNone) = false
  | [], [], _ => rfl
  | ⟨some n, e, p⟩ :: r, k :: ks, h => by
    have h' : (decide (n = k) && kwNames r ks) = true := h
    rw [Bool.and_eq_true] at h'
    show (false || (backToKw pos (keywordEach r env)).any (·.1.isNone)) = false
    rw [kw_none h'.2]; rfl
  | ⟨none, _, _⟩ :: _, _ :: _, h => by cases h
  | ⟨none, _, _⟩ :: _, [], h => by cases h
  | ⟨some _, _, _⟩ :: _, [], h => by cases h
  | [], _ :: _, h => by cases h
theorem kw_names {pos : Pos} {env : PySem.Env} : ∀ {kws : List Keyword} {ks : List Str}, kwNames kws ks = true → (backToKw pos (keywordEach kws env)).filterMap (·.1) = ks
  | [], [], _ => rfl
  | ⟨some n, e, p⟩ :: r, k :: ks, h => by
    have h' : (decide (n = k) && kwNames r ks) = true := h
    rw [Bool.and_eq_true] at h'
    show n :: (backToKw pos (keywordEach r env)).filterMap (·.1) = k :: ks
    rw [kw_names h'.2, of_decide_eq_true h'.1]
  | ⟨none, _, _⟩ :: _, _ :: _, h => by cases h
  | ⟨none, _, _⟩ :: _, [], h => by cases h
  | ⟨some _, _, _⟩ :: _, [], h => by cases h
  | [], _ :: _, h => by cases h

/-- what a call of f asks, by its arguments' values -/
def CalR (X : Cx) (f : Value) (ks : List Str) (r : List V → List V → L2.St → Hp → VK → Prop) : Prop :=
  ∀ (pins : List (Addr × Obj)) (s : Shared) (σ : L2.St) (H : Hp) (us ws : List Value) (vs zs : List V) (Q : VK), L2.Inv X pins σ H s → Vals vs us → Vals zs ws → r vs zs σ H Q →
    wpAny (model X.prog X.w) X.A (call f us (ks.zip ws)) (EP X pins σ Q) X.xe s

section
variable {X : Cx} {es : List Expr} {kws : List Keyword} {ks : List Str} {ta tk : TA} {x m : Str} {p pos apos : Pos} {g C : Addr} {pins : List (Addr × Obj)} {s : Shared} {σ : L2.St} {H : Hp} {Q : VK}
/-- the arguments, then the call -/
theorem args_run {first : List Value} {fv : List V} {r : List V → List V → L2.St → Hp → VK → Prop} (hes : es.all noStar = true) (hks : kwNames kws ks = true) (ha : PA X es ta) (hnil : es = [] → ∀ (σ : L2.St) (H : Hp) (Q : List V → Hp → Prop), ta σ H Q → Q [] H) (hkw : PK X kws tk) (hk : PySem.W.keepIn X.K (.ref g) = true)
    (hc : CalR X (.ref g) ks r) (hf : Vals fv first) (I : L2.Inv X pins σ H s) (h : ta σ H fun vs H1 => tk σ H1 fun zs H2 => r (fv ++ vs) zs σ H2 Q) :
    wpAny (model X.prog X.w) X.A (callWith pos (.ref g) first (backTo pos (starEach es X.env)) (backToKw pos (keywordEach kws X.env))) (EP X pins σ Q) X.xe s := by
  have hp : ((backTo pos (starEach es X.env)).any (·.1) || (backToKw pos (keywordEach kws X.env)).any (·.1.isNone)) = false := by rw [star_none hes, kw_none hks]; rfl
  cases es with
  | nil =>
    refine PySem.W.callWith_KW0 (h₀ := X.base) I.ok.mod.kin hk (kw_all hks) ?_ hp
    have q1 := hnil rfl σ H _ h
    refine thn (hkw.run pos pins s σ H _ I q1) fun ws s2 ⟨zs, H2, I2, rz, q2⟩ => ⟨I2.kIn, ?_⟩
    rw [kw_names hks]
    exact hc pins s2 σ H2 (first ++ []) ws (fv ++ []) zs Q I2 (hf.append .nil) rz q2
  | cons e es =>
    rw [List.all_cons, Bool.and_eq_true] at hes
    refine PySem.W.callWith_KW (h₀ := X.base) I.ok.mod.kin hk (kw_all hks) (thn (ha.run pos pins s σ H _ I h) fun us s1 ⟨vs, H1, I1, r1, q1⟩ => ?_) hp (star_cons hes.1)
    refine thn (hkw.run pos pins s1 σ H1 _ I1 q1) fun ws s2 ⟨zs, H2, I2, rz, q2⟩ => ⟨I2.kIn, ?_⟩
    rw [kw_names hks]
    exact hc pins s2 σ H2 (first ++ us) ws (fv ++ vs) zs Q I2 (hf.append r1) rz q2
/-- f(.., k = ..), f a global name -/
theorem pe_cal {r : List V → List V → L2.St → Hp → VK → Prop} (hes : es.all noStar = true) (hks : kwNames kws ks = true) (ha : PA X es ta) (hnil : es = [] → ∀ (σ : L2.St) (H : Hp) (Q : List V → Hp → Prop), ta σ H Q → Q [] H) (hkw : PK X kws tk) (hg : Gl X x) (hm : X.mg x = some (.ref g)) (hk : PySem.W.keepIn X.K (.ref g) = true)
    (hc : CalR X (.ref g) ks r) (hdb : (x == ("__debug__" : Str)) = false) : PE X (.Call (.Name x p) es kws pos) (fun σ H Q => ta σ H fun vs H1 => tk σ H1 fun zs H2 => r vs zs σ H2 Q) := by
  refine ⟨fun pins s σ H Q I h => wpAny_Call_Name_kw (ld_glob I hg hm ?_ hdb)⟩
  exact args_run (first := []) (fv := []) hes hks ha hnil hkw hk hc .nil I h

def plainRecv : Expr → Bool
  | .Call _ _ _ _ => false
  | _ => true
theorem base_plain {o : Expr} {f : Str} {env : PySem.Env} (h : plainRecv o = true) : attributeBase o f env (eval o env) = eval o env := by
  cases o <;> first | rfl | cases h
theorem meth_eval {o : Expr} {env : PySem.Env} (ho : plainRecv o = true) (hes : es.all noStar = true) (hks : kwNames kws ks = true) (hn : es.length + kws.length < 29) (hl : (apos.endLine == pos.line) = true) :
    eval (.Call (.Attribute o m apos) es kws pos) env = (do
      let ov ← eval o env
      standAt apos.atName
      let (f, first) ← holding [ov] (getMethod ov m (do return (← importBound o env).getD true))
      callWith pos f first (backTo pos (starEach es env)) (backToKw pos (keywordEach kws env))) := by
  have e : eval (.Call (.Attribute o m apos) es kws pos) env = (do
      let ov ← attributeBase o m env (eval o env)
      standAt apos.atName
      methodCall o m apos pos env ov (es.length + kws.length) (backTo pos (starEach es env)) (backToKw pos (keywordEach kws env))) := by
    first | rfl | simp only [eval]
  have hf : methodCallForm (es.length + kws.length) (backTo pos (starEach es env)) (backToKw pos (keywordEach kws env)) = true := by
    unfold methodCallForm
    rw [star_all hes, kw_all hks]
    have : es.length + kws.length + (if (backToKw pos (keywordEach kws env)).isEmpty = true then 0 else 1) < 30 := by split <;> omega
    simp only [Bool.and_self, Bool.true_and, decide_eq_true this]
  rw [e, base_plain ho]
  unfold methodCall calleeOf methodCallPos
  simp only [hf, hl, if_true, Bool.not_true, Bool.false_or]
  rfl
/-- o.m(.., k = ..) of an own class -/
theorem pe_mth {o : Expr} {to : TE} {r : Addr → List V → List V → L2.St → Hp → VK → Prop} (ho : plainRecv o = true) (hes : es.all noStar = true) (hks : kwNames kws ks = true) (hn : es.length + kws.length < 29) (hl : (apos.endLine == pos.line) = true)
    (hp : PE X o to) (ha : PA X es ta) (hnil : es = [] → ∀ (σ : L2.St) (H : Hp) (Q : List V → Hp → Prop), ta σ H Q → Q [] H) (hkw : PK X kws tk) (hc : ∀ g, (∃ C, Meth X.K C m g) → CalR X (.ref g) ks (r g)) :
    PE X (.Call (.Attribute o m apos) es kws pos) (fun σ H Q => to σ H fun y H1 => ∃ (a C dx : Addr) (fs : List (Str × V)) (g : Addr), y = .ref a ∧ H1 a = some (.ins C dx fs) ∧ Cls X.K C ∧ Meth X.K C m g ∧ fs.lookup m = none ∧
      ta σ H1 fun vs H2 => tk σ H2 fun zs H3 => r g (y :: vs) zs σ H3 Q) := by
  refine ⟨fun pins s σ H Q I h => ?_⟩
  refine PySem.W.methodCall_KW (pl := (do return (← importBound o X.env).getD true)) (thn (hp.run pins s σ H _ I h) fun u s1 ⟨y, H1, I1, ry, a, C, dx, fs, g, ey, ea, c, hm, l, q⟩ => ?_) (meth_eval ho hes hks hn hl)
  subst ey
  obtain rfl : u = Value.ref a := ry
  refine getmeth_ok I1 ea c hm l ?_
  exact args_run (first := [.ref a]) (fv := [.ref a]) hes hks ha hnil hkw hm.kp (hc g ⟨C, hm⟩) (.cons rfl .nil) I1 q
end

/-! ### what a def of the text keeps -/
/-- the def at f does what C does of fi -/
def FnM (CA : Str → Addr) (P : Program) (w : World) (K : PySem.W.Frag) (mg : Str → Option Value) (base : Heap) (C : CallF) (k : Nat) (f : Addr) (fd : FuncData) (ps : List Str) (fi : FnI) : Prop :=
  ∀ (A : Around) (outer : List PySem.Env) (s : Shared) (H : Hp) (args : Args) (us : List Value) (vs : List V) (mvs : List MV) (ρ : Rho) (mh : MH) (Q : VK) (E : XK), RM k A → Env0 P w K mg base A outer s H → BindsTo s fd args (ps.zip us) → Vals vs us →
    RVs CA ρ H mvs vs → mvs.length = fi.np → RH K CA ρ mh H → Aft K CA (RV CA) E ρ H (C fi mvs mh) Q →
    codeAny (model P w) A (.call (.ref f) args) (CR (L2N.CX P w) outer P w H s Q E) s
/-- how it may be called -/
def Pats (fd : FuncData) (ps : List Str) (fi : FnI) : Prop :=
  ps.length = fi.np ∧ ∀ p ∈ fi.pats, ∀ (us ws : List Value), us.length = p.1 → ws.length = p.2.1.length → ∀ s, BindsTo s fd ⟨us, p.2.1.zip ws⟩ (ps.zip (us ++ p.2.2.map fun i => ws.getD i .none))
structure FnR (CA : Str → Addr) (C : CallF) (k : Nat) (X : Cx) (f : Addr) (fi : FnI) : Prop where
  ex : ∃ (fd : FuncData) (ps : List Str), Pats fd ps fi ∧ FnM CA X.prog X.w X.K X.mg X.base C k f fd ps fi

section
variable {CA : Str → Addr} {C : CallF} {X : Cx} {k : Nat} {fi : FnI} {f : Addr} {fd : FuncData} {ps : List Str} {W : WX} {pins : List (Addr × Obj)} {s : Shared} {σ : L2.St} {H : Hp} {Q : VK}
theorem run_call {args : Args} {us : List Value} {vs : List V} {mvs : List MV} {ρ : Rho} {mh : MH} (F : FnM CA X.prog X.w X.K X.mg X.base C k f fd ps fi) (hr : RM k X.A) (tk : L2N.Takes X W) (I : L2.Inv X pins σ H s)
    (hb : BindsTo s fd args (ps.zip us)) (rv : Vals vs us) (rs : RVs CA ρ H mvs vs) (hl : mvs.length = fi.np) (rh : RH X.K CA ρ mh H) (h : Aft X.K CA (RV CA) (fun c d H' => W c d σ H') ρ H (C fi mvs mh) Q) :
    wpAny (model X.prog X.w) X.A (call (.ref f) args.pos args.kw) (EP X pins σ Q) X.xe s := by
  refine wpAny_call (codeAny_mono (F X.A X.stack s H args us vs mvs ρ mh Q _ hr I.env0 hb rv rs hl rh h) fun r s' hq => ?_)
  cases r with
  | error e => exact tk e s' (L2N.XE.of_call I (fun _ _ _ z => z) hq)
  | ok fl =>
    cases fl with
    | ret u => exact I.after hq
    | next => exact False.elim hq
    | brk => exact False.elim hq
    | cont => exact False.elim hq
theorem getD_vals {zs : List V} {ws : List Value} (r : Vals zs ws) : ∀ (pm : List Nat), (∀ i ∈ pm, i < zs.length) → Vals (pm.map fun i => zs.getD i .non) (pm.map fun i => ws.getD i .none)
  | [], _ => .nil
  | i :: pm, h => by
    have hi := h i List.mem_cons_self
    have e : zs[i]? = some (zs.getD i .non) := by simp [List.getD, hi]
    obtain ⟨u, h1, h2⟩ := r.get e
    have e2 : ws.getD i .none = u := by simp [List.getD, h1]
    refine .cons (by show L2.RelV (zs.getD i .non) (ws.getD i .none); rw [e2]; exact h2) (getD_vals r pm fun j hj => h j (List.mem_cons_of_mem _ hj))
theorem getD_rvs {ρ : Rho} {ms : List MV} {zs : List V} (r : RVs CA ρ H ms zs) : ∀ (pm : List Nat), (∀ i ∈ pm, i < zs.length) → RVs CA ρ H (pm.map fun i => ms.getD i .non) (pm.map fun i => zs.getD i .non)
  | [], _ => .nil
  | i :: pm, h => by
    have hi := h i List.mem_cons_self
    have hm : i < ms.length := by rw [r.length]; exact hi
    have e : ms[i]? = some (ms.getD i .non) := by simp [List.getD, hm]
    obtain ⟨u, h1, h2⟩ := r.get e
    have e2 : zs.getD i .non = u := by simp [List.getD, h1]
    refine .cons (by show RV CA ρ H (ms.getD i .non) (zs.getD i .non); rw [e2]; exact h2) (getD_rvs r pm fun j hj => h j (List.mem_cons_of_mem _ hj))
/-- a call of a def by its pattern -/
def rFn (CA : Str → Addr) (C : CallF) (X : Cx) (W : WX) (fi : FnI) (ks : List Str) (pm : List Nat) : List V → List V → L2.St → Hp → VK → Prop := fun vs zs σ H Q =>
  ∃ (ρ : Rho) (mh : MH) (ms ns as : List MV), RVs CA ρ H ms vs ∧ RVs CA ρ H ns zs ∧ RH X.K CA ρ mh H ∧ argsOf fi.np ms ns pm = some as ∧ (vs.length, ks, pm) ∈ fi.pats ∧ (∀ i ∈ pm, i < ks.length) ∧ zs.length = ks.length ∧
    Aft X.K CA (RV CA) (fun c d H' => W c d σ H') ρ H (C fi as mh) Q
theorem cal_fn {ks : List Str} {pm : List Nat} (F : FnR CA C k X f fi) (hr : RM k X.A) (tk : L2N.Takes X W) : CalR X (.ref f) ks (rFn CA C X W fi ks pm) := by
  intro pins s σ H us ws vs zs Q I r rz h
  obtain ⟨ρ, mh, ms, ns, as, r1, r2, rh, ea, hp, hpm, hz, q⟩ := h
  obtain ⟨fd, ps, ⟨hnp, hb⟩, F⟩ := F.ex
  unfold argsOf at ea
  simp only at ea
  split at ea
  · rename_i hc
    cases ea
    obtain ⟨c1, c2, c3⟩ := hc
    have hb' := hb _ hp us ws (by rw [← r.length]) (by rw [← rz.length]; exact hz) s
    exact run_call (args := ⟨us, ks.zip ws⟩) F hr tk I hb' (r.append (getD_vals rz pm fun i hi => by rw [hz]; exact hpm i hi)) (r1.append (getD_rvs r2 pm fun i hi => by rw [hz]; exact hpm i hi)) c1 rh q
  · cases ea

/-! ### calls while an exception is handled -/
/-- room for k such calls, one in another -/
structure RMH (k : Nat) (A : Around) : Prop where
  dp : A.depth + 3 * k + 5 < recursionLimit
  un : A.units + 16 * k + 1270 < cLine
  gd : A.guards = some []
theorem RM.rmh {j k : Nat} {A : Around} (r : RM k A) (h : j ≤ k) : RMH j A := ⟨by have := r.dp; omega, by have := r.un; omega, r.gd⟩
theorem RMH.deeper {k : Nat} {A : Around} (r : RMH (k + 1) A) (env : PySem.Env) : RMH k (A.deeper env) :=
  ⟨by have := r.dp; show A.depth + 1 + 3 * k + 5 < _; omega, by have := r.un; show A.units + 3 + 16 * k + 1270 < _; omega, r.gd⟩
/-- p is the exception that is handled -/
structure HotP (T : Tab) (CA : Str → Addr) (K : PySem.W.Frag) (A : Around) (p : Addr × Obj) (d : Addr) : Prop where
  h1 : L2H.Hot1 A p
  z : ∃ (c : Str) (vs : Array Value), L2N.Zn (.ref (CA c)) (some d) p.2 ∧ p.2.data = .fields vs ∧ XfC K (CA c) ∧ ∀ f, T.xat f = true → PySem.W.findIn K (.ref (CA c)) f = some none
/-- the def at f does there what C does of fi -/
def FnMH (T : Tab) (CA : Str → Addr) (P : Program) (w : World) (K : PySem.W.Frag) (mg : Str → Option Value) (base : Heap) (C : CallF) (k : Nat) (f : Addr) (fd : FuncData) (ps : List Str) (fi : FnI) : Prop :=
  ∀ (A : Around) (outer : List PySem.Env) (s : Shared) (H : Hp) (args : Args) (us : List Value) (vs : List V) (mvs : List MV) (ρ : Rho) (mh : MH) (Q : VK) (E : XK) (p : Addr × Obj) (d : Addr), RMH k A → HotP T CA K A p d → L2H.PinOk outer H s p → Env0 P w K mg base A outer s H →
    BindsTo s fd args (ps.zip us) → Vals vs us → RVs CA ρ H mvs vs → mvs.length = fi.np → RH K CA ρ mh H → Aft K CA (RV CA) E ρ H (C fi mvs mh) Q →
    codeAny (model P w) A (.call (.ref f) args) (CR (L2N.CX P w) outer P w H s Q E) s
structure FnRH (T : Tab) (CA : Str → Addr) (C : CallF) (k : Nat) (X : Cx) (f : Addr) (fi : FnI) : Prop where
  ex : ∃ (fd : FuncData) (ps : List Str), Pats fd ps fi ∧ FnMH T CA X.prog X.w X.K X.mg X.base C k f fd ps fi
theorem fnmh_no {T : Tab} {P : Program} {w : World} {K : PySem.W.Frag} {mg : Str → Option Value} {base : Heap} : FnMH T CA P w K mg base (fun _ _ => M.stuck) k f fd ps fi := fun A outer s H args us vs mvs ρ mh Q E p d hr hp po e0 hb rv rm hl rh h => h.elim
theorem run_callH {T : Tab} {args : Args} {us : List Value} {vs : List V} {mvs : List MV} {ρ : Rho} {mh : MH} {p : Addr × Obj} {d : Addr} (F : FnMH T CA X.prog X.w X.K X.mg X.base C k f fd ps fi) (hr : RMH k X.A) (hp : HotP T CA X.K X.A p d) (hpn : p ∈ X.pn) (tk : L2N.Takes X W) (I : L2.Inv X pins σ H s)
    (hb : BindsTo s fd args (ps.zip us)) (rv : Vals vs us) (rs : RVs CA ρ H mvs vs) (hl : mvs.length = fi.np) (rh : RH X.K CA ρ mh H) (h : Aft X.K CA (RV CA) (fun c d H' => W c d σ H') ρ H (C fi mvs mh) Q) :
    wpAny (model X.prog X.w) X.A (call (.ref f) args.pos args.kw) (EP X pins σ Q) X.xe s := by
  have P1 := I.pin p (List.mem_append_left _ hpn)
  have hpin : L2H.PinOk X.stack H s p := ⟨P1.1, P1.2.1, fun hm => (List.mem_cons.mp (I.stkSub p.1 hm)).elim P1.2.2.1 P1.2.2.2.1, P1.2.2.2.2⟩
  refine wpAny_call (codeAny_mono (F X.A X.stack s H args us vs mvs ρ mh Q _ p d hr hp hpin I.env0 hb rv rs hl rh h) fun r s' hq => ?_)
  cases r with
  | error e => exact tk e s' (L2N.XE.of_call I (fun _ _ _ z => z) hq)
  | ok fl =>
    cases fl with
    | ret u => exact I.after hq
    | next => exact False.elim hq
    | brk => exact False.elim hq
    | cont => exact False.elim hq
theorem cal_fnH {T : Tab} {ks : List Str} {pm : List Nat} {p : Addr × Obj} {d : Addr} (F : FnRH T CA C k X f fi) (hr : RMH k X.A) (hp : HotP T CA X.K X.A p d) (hpn : p ∈ X.pn) (tk : L2N.Takes X W) : CalR X (.ref f) ks (rFn CA C X W fi ks pm) := by
  intro pins s σ H us ws vs zs Q I r rz h
  obtain ⟨ρ, mh, ms, ns, as, r1, r2, rh, ea, hp', hpm, hz, q⟩ := h
  obtain ⟨fd, ps, ⟨hnp, hb⟩, F⟩ := F.ex
  unfold argsOf at ea
  simp only at ea
  split at ea
  · rename_i hc
    cases ea
    obtain ⟨c1, c2, c3⟩ := hc
    have hb' := hb _ hp' us ws (by rw [← r.length]) (by rw [← rz.length]; exact hz) s
    exact run_callH (args := ⟨us, ks.zip ws⟩) F hr hp hpn tk I hb' (r.append (getD_vals rz pm fun i hi => by rw [hz]; exact hpm i hi)) (r1.append (getD_rvs r2 pm fun i hi => by rw [hz]; exact hpm i hi)) c1 rh q
  · cases ea
end
end Mi
end

section
/-! Mini, part 5: new instances, built-in functions. -/
namespace Mi
open PySem PySem.Spec PyProof.Rows L2

/-! ### room -/
theorem RM.room {k : Nat} {A : Around} (r : RM k A) : Room k A := ⟨r.hd, r.dp, by have := r.un; omega⟩
theorem RM.mono {j k : Nat} {A : Around} (r : RM k A) (h : j ≤ k) : RM j A := ⟨r.hd, by have := r.dp; omega, by have := r.un; omega, r.gd⟩
theorem RM.deeper {k : Nat} {A : Around} (r : RM (k + 1) A) (env : PySem.Env) : RM k (A.deeper env) :=
  ⟨r.hd, by have := r.dp; show A.depth + 1 + 3 * k + 5 < _; omega, by have := r.un; show A.units + 3 + 16 * k + 1300 < _; omega, r.gd⟩
theorem make_guards {A : Around} {C : Addr} {us : List Value} {kw : List (Str × Value)} : (A.under (.builtin "type.__call__" ⟨.ref C :: us, kw⟩)).guards = A.guards := by
  first | rfl | simp [Around.under, Code.guards, Code.isGuard, guardIds, pushGuards]
theorem RM.make {k : Nat} {A : Around} (r : RM (k + 1) A) (C : Addr) (us : List Value) (kw : List (Str × Value)) : RM k (A.under (.builtin "type.__call__" ⟨.ref C :: us, kw⟩)) :=
  ⟨r.hd, by have := r.dp; rw [make_depth]; omega, by have := r.un; rw [make_units]; omega, by rw [make_guards]; exact r.gd⟩

section
variable {T : Tab} {CA : Str → Addr} {C : CallF} {X : Cx} {k : Nat} {fi : FnI} {f : Addr} {W : WX} {pins : List (Addr × Obj)} {s : Shared} {σ : L2.St} {H : Hp} {Q : VK} {c : Str}
/-- a new instance -/
def rMk (T : Tab) (CA : Str → Addr) (C : CallF) (X : Cx) (W : WX) (c : Str) : List V → List V → L2.St → Hp → VK → Prop := fun vs zs σ H Q =>
  ∃ (ρ : Rho) (mh : MH) (ms : List MV), RVs CA ρ H ms vs ∧ RH X.K CA ρ mh H ∧ zs = [] ∧ Aft X.K CA (RV CA) (fun c d H' => W c d σ H') ρ H (mkM T C c ms mh) Q
theorem cal_mk (hf : T.me c "__init__" = some fi) (hp : (fi.np, [], []) ∈ fi.pats) (M : Mk X.K (CA c) f) (F : FnR CA C k X f fi) (hr : RM (k + 1) X.A) (tk : L2N.Takes X W) : CalR X (.ref (CA c)) [] (rMk T CA C X W c) := by
  intro pins s σ H us ws vs zs Q I r rz h
  obtain ⟨ρ, mh, ms, rs, rh, rfl, q⟩ := h
  cases rz
  obtain ⟨fd, ps, ⟨hnp, hb⟩, F⟩ := F.ex
  unfold mkM at q
  rw [hf] at q
  simp only at q
  by_cases hz : fi.np = ms.length + 1
  · rw [if_pos hz] at q
    have I2 := Inv.made (C := CA c) I
    have hx : H (s.heap.objs.size + 1) = none := I.hok.fresh (Nat.le_succ _)
    have hdx : H s.heap.objs.size = none := I.hok.fresh (Nat.le_refl _)
    have keep : ∀ a u, H a = some u → (upd (upd H s.heap.objs.size (.own (s.heap.objs.size + 1))) (s.heap.objs.size + 1) (.ins (CA c) s.heap.objs.size [])) a = some u := fun a u z => by
      rw [upd_ne (ne_of_none z hx), upd_ne (ne_of_none z hdx)]; exact z
    obtain ⟨rh1, e1, q1⟩ := rh.add (o := .ins c []) (p := s.heap.objs.size + 1) keep hx fun ρ' e => ⟨_, [], upd_same, .nil⟩
    have r2 : Vals (V.ref (s.heap.objs.size + 1) :: vs) (Value.ref (s.heap.objs.size + 1) :: us) := .cons rfl r
    have rs2 : RVs CA (rput ρ mh.next (s.heap.objs.size + 1)) (upd (upd H s.heap.objs.size (.own (s.heap.objs.size + 1))) (s.heap.objs.size + 1) (.ins (CA c) s.heap.objs.size [])) (.ref mh.next :: ms) (V.ref (s.heap.objs.size + 1) :: vs) := .cons (.ref q1) (rs.mono e1)
    have hlen : ms.length = us.length := by rw [rs.length]; exact r.length
    have hb' := hb _ hp (Value.ref (s.heap.objs.size + 1) :: us) [] (by show us.length + 1 = fi.np; omega) rfl { s with heap := (s.heap.push PySem.W.emptyDict).push (PySem.W.instObj (CA c) s.heap.objs.size) }
    simp only [List.map_nil, List.append_nil, List.zip_nil_right] at hb'
    have af : Aft X.K CA (RV CA) (fun c d H' => W c d σ H') (rput ρ mh.next (s.heap.objs.size + 1)) (upd (upd H s.heap.objs.size (.own (s.heap.objs.size + 1))) (s.heap.objs.size + 1) (.ins (CA c) s.heap.objs.size []))
        (C fi (.ref mh.next :: ms) (mh.new (.ins c []))) (fun v H2 => v = .non ∧ Q (.ref (s.heap.objs.size + 1)) H2) := by
      cases hc : C fi (.ref mh.next :: ms) (mh.new (.ins c [])) with
      | ok v h' =>
        rw [hc] at q
        cases v <;> try exact q.elim
        intro ρ' H' b e' rh' rv
        cases rv
        exact ⟨rfl, q ρ' H' _ (e1.trans e') rh' (.ref (e'.map _ _ q1))⟩
      | exc c n h' => rw [hc] at q; exact Aft.ext (R := RV CA) (Q := Q) q e1
      | stuck => rw [hc] at q; exact q.elim
    refine wpAny_call (make_map (f := f) I.kIn M.makes M.init (beq_iff_eq.mp M.fn) (codeAny_mono (F _ X.stack _ _ ⟨Value.ref (s.heap.objs.size + 1) :: us, []⟩ _ _ _ _ _ _ _ (hr.make (CA c) us [])
      (I2.env0.make (CA c) us []) hb' r2 rs2 (by show ms.length + 1 = fi.np; omega) rh1 af) fun r s' hq' => ?_))
    cases r with
    | error e => exact tk e s' (L2N.XE.of_call I2 (fun _ _ _ z => z) hq')
    | ok fl =>
      cases fl with
      | ret u =>
        obtain ⟨v, H', I3, rv, ev, q3⟩ := I2.after hq'
        subst ev
        exact ⟨rv, ⟨V.ref (s.heap.objs.size + 1), H', I3, rfl, q3⟩⟩
      | next => exact False.elim hq'
      | brk => exact False.elim hq'
      | cont => exact False.elim hq'
  · rw [if_neg hz] at q; exact q.elim
end

/-! ### built-in functions -/
def nmB : BI → Str
  | .len => "len" | .abs => "abs" | .max2 => "max" | .min2 => "min" | .int1 => "int" | .sum => "sum" | .list1 => "list" | .tuple1 => "tuple" | .repr => "repr" | .all => "all" | .isi => "isinstance" | .max1 => "max" | .min1 => "min"
def vB : BI → Value
  | .len => .builtin "len" | .abs => .builtin "abs" | .max2 => .builtin "max" | .min2 => .builtin "min" | .int1 => .type "int" | .sum => .builtin "sum" | .list1 => .type "list" | .tuple1 => .type "tuple"
  | .repr => .builtin "repr" | .all => .builtin "all" | .isi => .builtin "isinstance" | .max1 => .builtin "max" | .min1 => .builtin "min"
theorem boot_B : ∀ b, bootBuiltins (nmB b) = some (vB b)
  | .len => by decide +kernel
  | .abs => by decide +kernel
  | .max2 => by decide +kernel
  | .min2 => by decide +kernel
  | .int1 => by decide +kernel
  | .sum => by decide +kernel
  | .list1 => by decide +kernel
  | .tuple1 => by decide +kernel
  | .repr => by decide +kernel
  | .all => by decide +kernel
  | .isi => by decide +kernel
  | .max1 => by decide +kernel
  | .min1 => by decide +kernel

mutual
theorem dp_noDict {K : PySem.W.Frag} {H : Hp} : ∀ (d : PyData) (v : V), Dp K H v d → d.hasDict = false
  | .none, _, _ => by simp only [PyData.hasDict]
  | .bool _, _, _ => by simp only [PyData.hasDict]
  | .int _, _, _ => by simp only [PyData.hasDict]
  | .str _, _, _ => by simp only [PyData.hasDict]
  | .list ds, _, h => by
    cases h with
    | lst s t => simp only [PyData.hasDict]; exact dps_noDict ds _ t
  | .tuple ds, _, h => by
    cases h with
    | tup s t => simp only [PyData.hasDict]; exact dps_noDict ds _ t
  | .dict _, _, h => by cases h
theorem dps_noDict {K : PySem.W.Frag} {H : Hp} : ∀ (ds : List PyData) (vs : List V), DpAll K H vs ds → PyData.hasDictAll ds = false
  | [], _, _ => by simp only [PyData.hasDictAll]
  | d :: ds, _, h => by
    cases h with
    | cons a b => simp only [PyData.hasDictAll, dp_noDict d _ a, dps_noDict ds _ b, Bool.or_false]
end

theorem subTy_kit {a b : String} {r : Bool} (h : subTy a b = some r) : kitB a b = some r := by
  unfold subTy at h
  split at h
  · rename_i hc
    rw [Bool.and_eq_true] at hc
    obtain ⟨h1, h2⟩ := hc
    simp only [List.contains_cons, List.contains_nil, Bool.or_false, Bool.or_eq_true, beq_iff_eq] at h1 h2
    rcases h1 with rfl | rfl | rfl | rfl | rfl | rfl <;> rcases h2 with rfl | rfl | rfl | rfl | rfl | rfl | rfl <;> (rw [← h]; decide +kernel)
  · cases h

section
variable {T : Tab} {CA : Str → Addr} {X : Cx} {W : WS} {ρ : Rho} {mh : MH} {pins : List (Addr × Obj)} {s : Shared} {σ : L2.St} {H : Hp} {Q : VK}
/-- repr -/
theorem call_repr (hg : X.A.guards = some []) (hu : X.A.units + 1250 < cLine) : CallR X (.builtin "repr") (fun xs H Q => ∃ x d, xs = [x] ∧ Dp X.K H x d ∧ d.showable = true ∧ d.shown.length ≤ sizeLine ∧ d.depth ≤ 1000 ∧ Q (.str d.shown) H) := by
  intro pins s σ H xs us Q I r h
  obtain ⟨x, d, rfl, hd, hs, hl, hn, q⟩ := h
  cases r with
  | @cons _ u _ us' r1 r2 =>
    cases r2
    have fin : ∀ (tk : Nat) (u : Tok), EP X pins σ Q (.str d.shown u) { s with toks := tk } := fun tk u => ⟨.str d.shown, H, I.tok tk, ⟨u, rfl⟩, q⟩
    obtain ⟨as, rd⟩ := Dp.reads I d x u hd r1
    cases hd with
    | non => cases r1; exact PySem.P.repr_of_none (by have := fin (s.toks + 1) s.toks; simpa only [PyData.shown] using this)
    | bl b => cases r1; exact PySem.P.repr_of_bool (by have := fin (s.toks + 1) s.toks; simpa only [PyData.shown] using this)
    | int i =>
      obtain ⟨t, rfl⟩ := r1
      exact PySem.P.repr_of_int (by simpa only [PyData.showable, decide_eq_true_eq] using hs) (by have := fin (s.toks + 1) s.toks; simpa only [PyData.shown] using this)
    | str z =>
      obtain ⟨t, rfl⟩ := r1
      exact PySem.P.repr_of_str (by have := fin (s.toks + 1) s.toks; simpa only [PyData.shown] using this) (by simpa only [PyData.shown] using hl)
    | lst s1 s2 =>
      cases r1
      exact repr_of_reads' rd hs (fun z => by rw [dp_noDict _ _ (Dp.lst s1 s2)] at z; cases z) hg (by omega) (fun _ _ e => e) (fun h' u tk kk => ⟨.str _, H, I.kept (t' := tk) kk, ⟨u, rfl⟩, q⟩) hl
    | tup s1 s2 =>
      cases r1
      exact repr_of_reads' rd hs (fun z => by rw [dp_noDict _ _ (Dp.tup s1 s2)] at z; cases z) hg (by omega) (fun _ _ e => e) (fun h' u tk kk => ⟨.str _, H, I.kept (t' := tk) kk, ⟨u, rfl⟩, q⟩) hl

/-- a class as a value; a value's type -/
def uOf (CA : Str → Addr) : MV → Value
  | .ty n => .type n
  | .cls c => .ref (CA c)
  | _ => .none
def tyOf (CA : Str → Addr) (mh : MH) : MV → Value
  | .non => .type "NoneType"
  | .bl _ => .type "bool"
  | .int _ => .type "int"
  | .str _ => .type "str"
  | .tup _ => .type "tuple"
  | .ref n => match mh.get n with
    | some (.ins d _) => .ref (CA d)
    | _ => .type "list"
  | _ => .none
theorem cl_of {c : MV} {cv : V} (r : RV CA ρ H c cv) (h : isCl c = true) : ClsV cv (uOf CA c) := by
  cases r <;> first | (cases h; done) | exact ClsV.ty _ | exact ClsV.own _
theorem cls_of : ∀ {cs : List MV} {cvs : List V}, RVs CA ρ H cs cvs → cs.all isCl = true → Paired ClsV cvs (cs.map (uOf CA))
  | [], _, .nil, _ => .nil
  | c :: cs, _, .cons r t, h => by
    rw [List.all_cons, Bool.and_eq_true] at h
    exact .cons (cl_of r h.1) (cls_of t h.2)
theorem isi1_ok {K : PySem.W.Frag} {mg : Str → Option Value} {x c : MV} {a : V} {b : Bool} (st : Stat T CA K mg) (h : isi1 T mh x c = some b) (rh : RH K CA ρ mh H) (ra : RV CA ρ H x a) :
    isCl c = true ∧ TyX K H a (tyOf CA mh x) ∧ PySem.W.kitOne K (tyOf CA mh x) (uOf CA c) = some b := by
  cases ra with
  | non => cases c <;> first | cases h | exact ⟨rfl, .base .non, subTy_kit h⟩
  | bl v => cases c <;> first | cases h | exact ⟨rfl, .base (.bl v), subTy_kit h⟩
  | int v => cases c <;> first | cases h | exact ⟨rfl, .base (.int v), subTy_kit h⟩
  | str v => cases c <;> first | cases h | exact ⟨rfl, .base (.str v), subTy_kit h⟩
  | tup e rs => cases c <;> first | cases h | exact ⟨rfl, .base (.tup e), subTy_kit h⟩
  | ty n => cases h
  | cls d => cases h
  | @ref n p e =>
    unfold isi1 at h
    unfold tyOf
    simp only at h ⊢
    cases g : mh.get n with
    | none => rw [g] at h; cases h
    | some o =>
      rw [g] at h
      have ro := rh.at g e
      cases o with
      | lst xs =>
        obtain ⟨vs, h1, _⟩ := ro
        cases c <;> first | cases h | exact ⟨rfl, .base (.lst h1), subTy_kit h⟩
      | ins d fs =>
        obtain ⟨dx, gs, h1, _⟩ := ro
        obtain ⟨ht, hv⟩ := st.isc d c b h
        rcases hv with ⟨n', rfl, hk⟩ | ⟨d', rfl, hk⟩
        · exact ⟨rfl, .base (ht H p dx gs h1), hk⟩
        · exact ⟨rfl, .base (ht H p dx gs h1), hk⟩
      | frz xs => cases h
      | exc d fs => cases h
theorem isiAny_ok {K : PySem.W.Frag} {mg : Str → Option Value} {x : MV} {a : V} (st : Stat T CA K mg) (rh : RH K CA ρ mh H) (ra : RV CA ρ H x a) : ∀ {cs : List MV} {b : Bool}, isiAny T mh x cs = some b →
    PySem.W.kitAny K (tyOf CA mh x) (cs.map (uOf CA)) = some b
  | [], b, h => h
  | c :: cs, b, h => by
    unfold isiAny at h
    rw [List.map_cons]
    unfold PySem.W.kitAny
    cases e : isi1 T mh x c with
    | none => rw [e] at h; cases h
    | some b1 =>
      rw [e] at h
      rw [(isi1_ok st e rh ra).2.2]
      cases b1 with
      | true => exact h
      | false => exact isiAny_ok st rh ra h
theorem isiAny_ty {K : PySem.W.Frag} {mg : Str → Option Value} {x : MV} {a : V} {cs : List MV} {b : Bool} (st : Stat T CA K mg) (rh : RH K CA ρ mh H) (ra : RV CA ρ H x a) (h : isiAny T mh x cs = some b) (hne : cs.isEmpty = false) : TyX K H a (tyOf CA mh x) := by
  cases cs with
  | nil => cases hne
  | cons c cs =>
    unfold isiAny at h
    cases e : isi1 T mh x c with
    | none => rw [e] at h; cases h
    | some b1 => exact (isi1_ok st e rh ra).2.1

/-- what a built-in call asks -/
def rB (T : Tab) (CA : Str → Addr) (K : PySem.W.Frag) (W : WS) (b : BI) : List V → Hp → VK → Prop := fun vs H Q =>
  ∃ (ρ : Rho) (mh : MH) (ms : List MV), RVs CA ρ H ms vs ∧ RH K CA ρ mh H ∧ Aft K CA (RV CA) W ρ H (biM T b ms mh) Q
theorem cr_imp {f : Value} {r r' : List V → Hp → VK → Prop} (h : CallR X f r) (k : ∀ vs H Q, r' vs H Q → r vs H Q) : CallR X f r' := fun pins s σ H xs us Q I rv q => h pins s σ H xs us Q I rv (k _ _ _ q)
theorem rv_ref {x : MV} {c : Addr} {a : V} (r : RV CA ρ H x a) (n : Nat) (e : x = .ref n) : ∃ c, a = .ref c ∧ ρ n = some c := by
  subst e; cases r with | ref q => exact ⟨_, rfl, q⟩
theorem arg1 {b : BI} {vs : List V} {ms : List MV} (hb : b ≠ .max2 ∧ b ≠ .min2 ∧ b ≠ .isi) (h : Aft X.K CA (RV CA) W ρ H (biM T b ms mh) Q) (rs : RVs CA ρ H ms vs) : ∃ x a, ms = [x] ∧ vs = [a] ∧ RV CA ρ H x a := by
  cases rs with
  | nil => cases b <;> exact h.elim
  | cons r t =>
    cases t with
    | nil => exact ⟨_, _, rfl, rfl, r⟩
    | cons r2 t => cases b <;> first | (cases r <;> exact h.elim) | exact absurd rfl hb.1 | exact absurd rfl hb.2.1 | exact absurd rfl hb.2.2
theorem arg2 {b : BI} {vs : List V} {ms : List MV} (hb : b = .max2 ∨ b = .min2 ∨ b = .isi) (h : Aft X.K CA (RV CA) W ρ H (biM T b ms mh) Q) (rs : RVs CA ρ H ms vs) : ∃ x y a c, ms = [x, y] ∧ vs = [a, c] ∧ RV CA ρ H x a ∧ RV CA ρ H y c := by
  rcases hb with rfl | rfl | rfl <;>
  · cases rs with
    | nil => exact h.elim
    | cons r t =>
      cases t with
      | nil => first | exact h.elim | (cases r <;> exact h.elim)
      | cons r2 t =>
        cases t with
        | nil => exact ⟨_, _, _, _, rfl, rfl, r, r2⟩
        | cons r3 t => first | exact h.elim | (cases r <;> first | exact h.elim | (cases r2 <;> exact h.elim))
theorem bi_ok (st : Stat T CA X.K X.mg) (hg : X.A.guards = some []) (hu : X.A.units + 1250 < cLine) : ∀ b, (calmB b = true → X.calm = true) → CallR X (vB b) (rB T CA X.K W b)
  | .abs, _ => cr_imp call_abs fun vs H Q ⟨ρ, mh, ms, rs, rh, h⟩ => by
    obtain ⟨x, a, rfl, rfl, r⟩ := arg1 (by decide) h rs
    cases r <;> try exact h.elim
    exact ⟨_, rfl, h.now rh (.int _)⟩
  | .max1, hc => cr_imp (cr_max (hc rfl)) fun vs H Q ⟨ρ, mh, ms, rs, rh, h⟩ => by
    obtain ⟨x, a, rfl, rfl, r⟩ := arg1 (by decide) h rs
    have h' : Aft X.K CA (RV CA) W ρ H (match (asList mh x).bind intsM with
      | some (n :: ns) => .ok (.int (maxI n ns)) mh
      | _ => .stuck) Q := h
    cases e : (asList mh x).bind intsM with
    | none => rw [e] at h'; exact h'.elim
    | some l =>
      cases l with
      | nil => rw [e] at h'; exact h'.elim
      | cons n ns =>
        rw [e] at h'
        obtain ⟨xs, e1, e2⟩ := Option.bind_eq_some_iff.mp e
        cases x <;> try (cases e1; done)
        rename_i q
        obtain ⟨c, rfl, hc⟩ := rv_ref (c := 0) r q rfl
        obtain ⟨vs, h1, h2⟩ := seqL_of rh e1 hc
        have e3 := ints_of e2 h2
        subst e3
        refine ⟨c, n :: ns, rfl, h1, by simp, fun m hm hy => ?_⟩
        have : m = maxI n ns := Int.le_antisymm (maxI_ge ns n m hm) (hy _ (maxI_mem ns n))
        subst this
        exact h'.now rh (.int _)
  | .min1, hc => cr_imp (cr_min (hc rfl)) fun vs H Q ⟨ρ, mh, ms, rs, rh, h⟩ => by
    obtain ⟨x, a, rfl, rfl, r⟩ := arg1 (by decide) h rs
    have h' : Aft X.K CA (RV CA) W ρ H (match (asList mh x).bind intsM with
      | some (n :: ns) => .ok (.int (minI n ns)) mh
      | _ => .stuck) Q := h
    cases e : (asList mh x).bind intsM with
    | none => rw [e] at h'; exact h'.elim
    | some l =>
      cases l with
      | nil => rw [e] at h'; exact h'.elim
      | cons n ns =>
        rw [e] at h'
        obtain ⟨xs, e1, e2⟩ := Option.bind_eq_some_iff.mp e
        cases x <;> try (cases e1; done)
        rename_i q
        obtain ⟨c, rfl, hc⟩ := rv_ref (c := 0) r q rfl
        obtain ⟨vs, h1, h2⟩ := seqL_of rh e1 hc
        have e3 := ints_of e2 h2
        subst e3
        refine ⟨c, n :: ns, rfl, h1, by simp, fun m hm hy => ?_⟩
        have : m = minI n ns := Int.le_antisymm (hy _ (minI_mem ns n)) (minI_le ns n m hm)
        subst this
        exact h'.now rh (.int _)
  | .max2, hc => cr_imp (call_max2 (hc rfl)) fun vs H Q ⟨ρ, mh, ms, rs, rh, h⟩ => by
    obtain ⟨x, y, a, c, rfl, rfl, r, r2⟩ := arg2 (.inl rfl) h rs
    cases r <;> try exact h.elim
    cases r2 <;> try exact h.elim
    exact ⟨_, _, rfl, h.now rh (.int _)⟩
  | .min2, hc => cr_imp (call_min2 (hc rfl)) fun vs H Q ⟨ρ, mh, ms, rs, rh, h⟩ => by
    obtain ⟨x, y, a, c, rfl, rfl, r, r2⟩ := arg2 (.inr (.inl rfl)) h rs
    cases r <;> try exact h.elim
    cases r2 <;> try exact h.elim
    exact ⟨_, _, rfl, h.now rh (.int _)⟩
  | .int1, _ => cr_imp call_int1 fun vs H Q ⟨ρ, mh, ms, rs, rh, h⟩ => by
    obtain ⟨x, a, rfl, rfl, r⟩ := arg1 (by decide) h rs
    cases r <;> try exact h.elim
    · exact .inr ⟨_, rfl, h.now rh (.int _)⟩
    · exact .inl ⟨_, rfl, h.now rh (.int _)⟩
  | .sum, hc => cr_imp (cr_sum (hc rfl)) fun vs H Q ⟨ρ, mh, ms, rs, rh, h⟩ => by
    obtain ⟨x, a, rfl, rfl, r⟩ := arg1 (by decide) h rs
    unfold biM at h
    simp only at h
    cases e : (asList mh x).bind intsM with
    | none => rw [e] at h; exact h.elim
    | some ns =>
      rw [e] at h
      obtain ⟨xs, h1, h2⟩ := Option.bind_eq_some_iff.mp e
      cases r with
      | ref q =>
        obtain ⟨vs, h3, h4⟩ := seqL_of rh h1 q
        rw [ints_of h2 h4] at h3
        exact ⟨_, ns, rfl, h3, h.now rh (.int _)⟩
      | _ => cases h1
  | .all, hc => cr_imp (cr_all (hc rfl)) fun vs H Q ⟨ρ, mh, ms, rs, rh, h⟩ => by
    obtain ⟨x, a, rfl, rfl, r⟩ := arg1 (by decide) h rs
    unfold biM at h
    simp only at h
    cases e : (asList mh x).bind boolsM with
    | none => rw [e] at h; exact h.elim
    | some ns =>
      rw [e] at h
      obtain ⟨xs, h1, h2⟩ := Option.bind_eq_some_iff.mp e
      cases r with
      | ref q =>
        obtain ⟨vs, h3, h4⟩ := seqL_of rh h1 q
        rw [bools_of h2 h4] at h3
        exact ⟨_, ns, rfl, h3, h.now rh (.bl _)⟩
      | _ => cases h1
  | .len, _ => cr_imp call_len fun vs H Q ⟨ρ, mh, ms, rs, rh, h⟩ => by
    obtain ⟨x, a, rfl, rfl, r⟩ := arg1 (by decide) h rs
    have seqs : ∀ (x : MV) (a : V), Aft X.K CA (RV CA) W ρ H (match asSeq mh x with | some xs => .ok (.int xs.length) mh | none => .stuck) Q → RV CA ρ H x a → ∃ y n, [a] = [y] ∧ LenV X.K y H n ∧ Q (.int n) H := fun x a h r => by
      cases e : asSeq mh x with
      | none => rw [e] at h; exact h.elim
      | some xs =>
        rw [e] at h
        obtain ⟨c, vs, rfl, sq, rs⟩ := seq_of rh e r
        have q := h.now rh (.int _)
        rw [rs.length] at q
        refine ⟨_, _, rfl, ?_, q⟩
        rcases sq with sq | sq
        · exact .inl ⟨vs, sq, rfl⟩
        · exact .inr ⟨vs, sq, rfl⟩
    cases r with
    | str x =>
      unfold biM at h
      simp only at h
      by_cases hz : x.length ≤ sizeLine
      · rw [if_pos hz] at h
        exact ⟨_, _, rfl, ⟨hz, rfl⟩, h.now rh (.int _)⟩
      · rw [if_neg hz] at h; exact h.elim
    | @ref n c q => exact seqs (.ref n) _ h (.ref q)
    | @tup xs c vs q r => exact seqs (.tup xs) _ h (.tup q r)
    | _ => exact h.elim
  | .list1, _ => cr_imp call_list_of fun vs H Q ⟨ρ, mh, ms, rs, rh, h⟩ => by
    obtain ⟨x, a, rfl, rfl, r⟩ := arg1 (by decide) h rs
    unfold biM at h
    simp only at h
    cases e : asSeq mh x with
    | none => rw [e] at h; exact h.elim
    | some xs =>
      rw [e] at h
      obtain ⟨c, vs, rfl, sq, rs⟩ := seq_of rh e r
      exact ⟨c, vs, rfl, sq, (newL_ok h rh rs).2⟩
  | .tuple1, _ => cr_imp call_tuple_of fun vs H Q ⟨ρ, mh, ms, rs, rh, h⟩ => by
    obtain ⟨x, a, rfl, rfl, r⟩ := arg1 (by decide) h rs
    unfold biM at h
    simp only at h
    cases e : asSeq mh x with
    | none => rw [e] at h; exact h.elim
    | some xs =>
      rw [e] at h
      simp only at h
      by_cases hz : xs.length ≤ sizeLine
      · rw [if_pos hz] at h
        cases r with
        | @ref n c q =>
          obtain ⟨vs, h3, h4⟩ := seqL_of rh e q
          exact ⟨c, vs, rfl, .inl ⟨h3, newT_ok h rh h4⟩⟩
        | @tup ys c vs q rs2 =>
          cases e
          exact ⟨c, vs, rfl, .inr ⟨SqT.of q, h.now rh (.tup q rs2)⟩⟩
        | _ => cases e
      · rw [if_neg hz] at h; exact h.elim
  | .repr, _ => cr_imp (call_repr hg hu) fun vs H Q ⟨ρ, mh, ms, rs, rh, h⟩ => by
    obtain ⟨x, a, rfl, rfl, r⟩ := arg1 (by decide) h rs
    unfold biM at h
    simp only at h
    cases e : toD mh dpt x with
    | none => rw [e] at h; exact h.elim
    | some d =>
      rw [e] at h
      simp only at h
      by_cases hz : d.showable = true ∧ d.shown.length ≤ sizeLine ∧ d.depth ≤ 1000
      · rw [if_pos hz] at h
        exact ⟨_, d, rfl, dp_of rh _ _ _ _ e r, hz.1, hz.2.1, hz.2.2, h.now rh (.str _)⟩
      · rw [if_neg hz] at h; exact h.elim
  | .isi, _ => by
    have two : CallR X (.builtin "isinstance") (fun vs H Q => rIsi X.K vs H Q ∨ rIsiT X.K vs H Q) := fun pins s σ H xs us Q I rv q => by
      rcases q with q | q
      · exact call_isi pins s σ H xs us Q I rv q
      · exact call_isiT pins s σ H xs us Q I rv q
    refine cr_imp two fun vs H Q ⟨ρ, mh, ms, rs, rh, h⟩ => ?_
    obtain ⟨x, y, a, c, rfl, rfl, r, r2⟩ := arg2 (.inr (.inr rfl)) h rs
    unfold biM at h
    cases r2 with
    | @tup cs c cvs q rcs =>
      simp only at h
      cases e : isiAny T mh x cs with
      | none => rw [e] at h; exact h.elim
      | some b =>
        rw [e] at h
        simp only at h
        by_cases hz : cs.all isCl = true ∧ cs.isEmpty = false
        · rw [if_pos hz] at h
          exact .inr ⟨_, c, cvs, _, _, b, rfl, q, cls_of rcs hz.1, isiAny_ty st rh r e hz.2, isiAny_ok st rh r e, h.now rh (.bl _)⟩
        · rw [if_neg hz] at h; exact h.elim
    | ty n =>
      simp only at h
      cases e : isi1 T mh x (.ty n) with
      | none => rw [e] at h; exact h.elim
      | some b =>
        rw [e] at h
        obtain ⟨h1, h2, h3⟩ := isi1_ok st e rh r
        exact .inl ⟨_, _, _, _, b, rfl, ClsV.ty n, h2, h3, h.now rh (.bl _)⟩
    | cls n =>
      simp only at h
      cases e : isi1 T mh x (.cls n) with
      | none => rw [e] at h; exact h.elim
      | some b =>
        rw [e] at h
        obtain ⟨h1, h2, h3⟩ := isi1_ok st e rh r
        exact .inl ⟨_, _, _, _, b, rfl, ClsV.own _, h2, h3, h.now rh (.bl _)⟩
    | _ => exact h.elim
end
end Mi
end

section
/-! Mini, part 6: which small expression stands for which of the text (ck), and that it does the same. -/
namespace Mi
open PySem PySem.Spec PyProof.Rows L2

/-! ### the look at the text -/
def okN (x : Str) : Bool := !(x == ("__debug__" : Str)) && !(x == ("__classdict__" : Str)) && !(x == ("__name__" : Str))
def vis (sc : Scope) (x : Str) : Bool := (sc.names.lookup x == some .local || sc.names.lookup x == some .cell || sc.names.lookup x == some .free) && okN x
def glb (sc : Scope) (x : Str) : Bool := sc.names.lookup x == some .globalImplicit && okN x
def plainIx : Expr → Bool
  | .Slice _ _ _ _ => false
  | _ => true
def valTest : Expr → Bool
  | .UnaryOp _ _ _ => false
  | .BoolOp _ _ _ => false
  | .IfExp _ _ _ _ => false
  | .Compare _ _ _ _ => false
  | _ => true
def notSet : Expr → Bool
  | .Set _ _ _ => false
  | _ => true
def loc (sc : Scope) (x : Str) : Bool := sc.names.lookup x == some .local || sc.names.lookup x == some .cell
def ckNm (N : List Str) (sc : Scope) (i : Nat) : Expr → Bool
  | .Name x _ => decide (N[i]? = some x) && loc sc x
  | _ => false
def ckNms (N : List Str) (sc : Scope) : List Nat → List Expr → Bool
  | [], [] => true
  | i :: is, e :: es => ckNm N sc i e && ckNms N sc is es
  | _, _ => false
def ckCT (N : List Str) (sc : Scope) : CT → Expr → Bool
  | .nm i, e => ckNm N sc i e
  | .tp is, .Tuple es _ _ => ckNms N sc is es
  | _, _ => false
def ownOf (N : List Str) (vs : List Nat) : List (Str × Nat) := vs.map fun i => (N.getD i Str.empty, i)

mutual
def ckE (T : Tab) (N : List Str) (sc : Scope) : ME → Expr → Bool
  | .non, e => match e with | .Constant .none _ _ => true | _ => false
  | .bl b, e => match e with | .Constant (.bool c) _ _ => b == c | _ => false
  | .int i, e => match e with | .Constant (.int j) _ _ => decide (i = j) | _ => false
  | .str x, e => match e with | .Constant (.str y) _ _ => decide (x = y) | _ => false
  | .var i, e => match e with | .Name x _ => decide (N[i]? = some x) && vis sc x | _ => false
  | .ty n, e => match e with | .Name x _ => glb sc x && T.free x && decide (bootBuiltins x = some (.type n)) | _ => false
  | .cls c, e => match e with | .Name x _ => decide (x = c) && glb sc x && T.own c | _ => false
  | .gint y i, e => match e with | .Name x _ => decide (x = y) && glb sc x && T.gi y i | _ => false
  | .bin op a b, e => match e with | .BinOp a' op' b' _ => decide (opB op = op') && ckE T N sc a a' && ckE T N sc b b' | _ => false
  | .neg a, e => match e with | .UnaryOp .USub a' _ => ckE T N sc a a' | _ => false
  | .notE a, e => match e with | .UnaryOp .Not a' _ => ckE T N sc a a' | _ => false
  | .cmp op a b, e => match e with | .Compare a' [op'] [b'] _ => decide (opC op = op') && ckE T N sc a a' && ckE T N sc b b' && notSet b' | _ => false
  | .chain op1 op2 a b c, e => match e with
    | .Compare a' [p1, p2] [b', c'] _ => decide (opC op1 = p1) && decide (opC op2 = p2) && ckE T N sc a a' && ckE T N sc b b' && ckE T N sc c c' && notSet c'
    | _ => false
  | .and a b, e => match e with
    | .BoolOp .And (a' :: r) pos => ckE T N sc a a' && (match r with
      | [] => false
      | [b'] => ckE T N sc b b'
      | b' :: c' :: r' => ckE T N sc b (.BoolOp .And (b' :: c' :: r') pos))
    | _ => false
  | .or a b, e => match e with
    | .BoolOp .Or (a' :: r) pos => ckE T N sc a a' && (match r with
      | [] => false
      | [b'] => ckE T N sc b b'
      | b' :: c' :: r' => ckE T N sc b (.BoolOp .Or (b' :: c' :: r') pos))
    | _ => false
  | .ife c a b, e => match e with | .IfExp c' a' b' _ => ckT T N sc c c' && ckE T N sc a a' && ckE T N sc b b' | _ => false
  | .sub a i, e => match e with | .Subscript a' i' _ => ckE T N sc a a' && ckE T N sc i i' && plainIx i' | _ => false
  | .slc a lo hi, e => match e with | .Subscript a' (.Slice lo' hi' none _) _ => ckE T N sc a a' && ckO T N sc lo lo' && ckO T N sc hi hi' | _ => false
  | .rev a, e => match e with | .Subscript a' (.Slice none none (some (.UnaryOp .USub (.Constant (.int 1) _ _) _)) _) _ => ckE T N sc a a' | _ => false
  | .lsi a, e => match e with | .Call (.Name x _) [.Call (.Name y _) [a'] [] _] [] _ => decide (x = ("len" : Str)) && decide (y = ("set" : Str)) && glb sc x && glb sc y && T.free x && T.free y && ckE T N sc a a' | _ => false
  | .tup es, e => match e with | .Tuple es' _ _ => ckEs T N sc es es' | _ => false
  | .lst es, e => match e with | .List es' _ => ckEs T N sc es es' | _ => false
  | .call f es ks kes pm, e => match e with
    | .Call (.Name x _) es' kws _ => decide (x = f) && glb sc x && ckEs T N sc es es' && kwNames kws ks && ckK T N sc kes kws && pm.all (fun i => decide (i < ks.length)) && (match T.fn f with
      | some fi => fi.pats.contains (es'.length, ks, pm)
      | none => false)
    | _ => false
  | .mk c es, e => match e with
    | .Call (.Name x _) es' [] _ => decide (x = c) && glb sc x && T.own c && ckEs T N sc es es' && (match T.me c "__init__" with
      | some fi => fi.pats.contains (fi.np, [], [])
      | none => false)
    | _ => false
  | .meth o m es ks kes pm, e => match e with
    | .Call (.Attribute o' m' ap) es' kws pos => decide (m' = m) && ckE T N sc o o' && plainRecv o' && ckEs T N sc es es' && kwNames kws ks && ckK T N sc kes kws && pm.all (fun i => decide (i < ks.length)) &&
        decide (es'.length + kws.length < 29) && (ap.endLine == pos.line) && T.mp m (es'.length + 1, ks, pm)
    | _ => false
  | .bi b es, e => match e with
    | .Call (.Name x _) (e1 :: es') [] _ => decide (x = nmB b) && glb sc x && T.free x && ckEs T N sc es (e1 :: es')
    | _ => false
  | .app o v, e => match e with
    | .Call (.Attribute o' m' ap) [v'] [] pos => decide (m' = ("append" : Str)) && ckE T N sc o o' && plainRecv o' && ckE T N sc v v' && (ap.endLine == pos.line)
    | _ => false
  | .fld o f, e => match e with | .Attribute o' f' _ => decide (f' = f) && ckE T N sc o o' && plainRecv o' | _ => false
  | .efld i f, e => match e with | .Attribute (.Name x _) f' _ => decide (f' = f) && decide (N[i]? = some x) && vis sc x | _ => false
  | .comp vs t it c v, e => match e with
    | .ListComp elt [⟨tg, iter, ifs, 0⟩] scope _ => blkC N sc scope (ownOf N vs) && ckCT N scope t tg && ckI T N sc it tg iter && (match ifs with
        | [] => (match c with | .bl true => true | _ => false)
        | [c'] => ckT T N scope c c'
        | _ => false) && ckE T N scope v elt && ctIn vs t
    | _ => false
def ckT (T : Tab) (N : List Str) (sc : Scope) : ME → Expr → Bool
  | .and a b, e => match e with
    | .BoolOp .And (a' :: r) pos => ckT T N sc a a' && (match r with
      | [] => false
      | [b'] => ckT T N sc b b'
      | b' :: c' :: r' => ckT T N sc b (.BoolOp .And (b' :: c' :: r') pos))
    | _ => false
  | .or a b, e => match e with
    | .BoolOp .Or (a' :: r) pos => ckT T N sc a a' && (match r with
      | [] => false
      | [b'] => ckT T N sc b b'
      | b' :: c' :: r' => ckT T N sc b (.BoolOp .Or (b' :: c' :: r') pos))
    | _ => false
  | .notE a, e => match e with | .UnaryOp .Not a' _ => ckT T N sc a a' | _ => false
  | .cmp op a b, e => match e with | .Compare a' [op'] [b'] _ => decide (opC op = op') && ckE T N sc a a' && ckE T N sc b b' && notSet b' | _ => false
  | .chain op1 op2 a b c, e => match e with
    | .Compare a' [p1, p2] [b', c'] _ => decide (opC op1 = p1) && decide (opC op2 = p2) && ckE T N sc a a' && ckE T N sc b b' && ckE T N sc c c' && notSet c'
    | _ => false
  | .bl b, e => match e with | .Constant (.bool c) _ _ => b == c | _ => false
  | .var i, e => match e with | .Name x _ => decide (N[i]? = some x) && vis sc x | _ => false
  | .sub a i, e => match e with | .Subscript a' i' _ => ckE T N sc a a' && ckE T N sc i i' && plainIx i' | _ => false
  | .call f es ks kes pm, e => match e with
    | .Call (.Name x _) es' kws _ => decide (x = f) && glb sc x && ckEs T N sc es es' && kwNames kws ks && ckK T N sc kes kws && pm.all (fun i => decide (i < ks.length)) && (match T.fn f with
      | some fi => fi.pats.contains (es'.length, ks, pm)
      | none => false)
    | _ => false
  | .bi b es, e => match e with
    | .Call (.Name x _) (e1 :: es') [] _ => decide (x = nmB b) && glb sc x && T.free x && ckEs T N sc es (e1 :: es')
    | _ => false
  | .meth o m es ks kes pm, e => match e with
    | .Call (.Attribute o' m' ap) es' kws pos => decide (m' = m) && ckE T N sc o o' && plainRecv o' && ckEs T N sc es es' && kwNames kws ks && ckK T N sc kes kws && pm.all (fun i => decide (i < ks.length)) &&
        decide (es'.length + kws.length < 29) && (ap.endLine == pos.line) && T.mp m (es'.length + 1, ks, pm)
    | _ => false
  | _, _ => false
def ckO (T : Tab) (N : List Str) (sc : Scope) : MOp → Option Expr → Bool
  | .no, none => true
  | .yes a, some e => ckE T N sc a e
  | _, _ => false
def ckI (T : Tab) (N : List Str) (sc : Scope) : MI → Expr → Expr → Bool
  | .of a, _, e => ckE T N sc a e && notSet e
  | .rng1 a, _, e => match e with | .Call (.Name x _) [a'] [] _ => decide (x = ("range" : Str)) && glb sc x && T.free x && ckE T N sc a a' | _ => false
  | .rng2 a b, _, e => match e with | .Call (.Name x _) [a', b'] [] _ => decide (x = ("range" : Str)) && glb sc x && T.free x && ckE T N sc a a' && ckE T N sc b b' | _ => false
  | .enum a, tg, e => match e with | .Call (.Name x _) [a'] [] _ => decide (x = ("enumerate" : Str)) && glb sc x && T.free x && ckE T N sc a a' && (match tg with | .Tuple _ _ _ => true | _ => false) | _ => false
def ckEs (T : Tab) (N : List Str) (sc : Scope) : MEs → List Expr → Bool
  | .nil, [] => true
  | .cons a as, e :: es => ckE T N sc a e && ckEs T N sc as es
  | _, _ => false
def ckK (T : Tab) (N : List Str) (sc : Scope) : MEs → List Keyword → Bool
  | .nil, [] => true
  | .cons a as, ⟨_, e, _⟩ :: es => ckE T N sc a e && ckK T N sc as es
  | _, _ => false
end
end Mi
end

section
/-! Mini, part 7: expressions. -/
namespace Mi
open PySem PySem.Spec PyProof.Rows L2

theorem takes_no {X : Cx} : L2N.Takes X (fun _ _ _ _ => False) := fun _ _ ⟨_, _, _, _, _, _, _, _, _, _, _, _, _, _, _, _, w⟩ => w.elim
/-- what own calls need -/
structure Calls (T : Tab) (CA : Str → Addr) (C : CallF) (k : Nat) (X : Cx) : Prop where
  fn : ∀ g fi, T.fn g = some fi → ∃ f, X.mg g = some (.ref f) ∧ PySem.W.keepIn X.K (.ref f) = true ∧ FnR CA C k X f fi
  me : ∀ c m fi, T.me c m = some fi → ∃ f, Cls X.K (CA c) ∧ Meth X.K (CA c) m f ∧ FnR CA C k X f fi
  mkc : ∀ c fi, T.me c "__init__" = some fi → ∃ f, Mk X.K (CA c) f ∧ FnR CA C k X f fi
  mp : ∀ c m fi p, T.me c m = some fi → T.mp m p = true → p.1 + p.2.1.length = fi.np → p ∈ fi.pats
/-- what calls do while an exception is handled -/
def CallsH (T : Tab) (CA : Str → Addr) (C : CallF) (X : Cx) : Prop := ∀ g fi, T.fn g = some fi → ∃ f, X.mg g = some (.ref f) ∧ PySem.W.keepIn X.K (.ref f) = true ∧ FnRH T CA C 2 X f fi
/-- the exception that is handled -/
structure XI (T : Tab) (CA : Str → Addr) (X : Cx) (a d : Addr) : Prop where
  ex : ∃ (oe : Obj) (c : Str) (vs : Array Value), (a, oe) ∈ X.pn ∧ L2N.Zn (.ref (CA c)) (some d) oe ∧ oe.data = .fields vs ∧ X.A.handled = some (.ref a) ∧ XfC X.K (CA c) ∧ ∀ f, T.xat f = true → PySem.W.findIn X.K (.ref (CA c)) f = some none
/-- where one stands, in all -/
structure Ct (T : Tab) (CA : Str → Addr) (N : List Str) (sc : Scope) (C : CallF) (X : Cx) (W : WX) (xi : Option (Nat × Addr × Addr)) : Prop where
  g : Gd T CA N sc X
  tk : L2N.Takes X W
  cl : X.calm = true → ∃ k, RM (k + 1) X.A ∧ Calls T CA C k X
  xi : ∀ j a d, xi = some (j, a, d) → XI T CA X a d
  fn : ∀ x, sc.names.lookup x = some .cell → X.fn x = true
  hc : CallsH T CA T.hc X
  rh : RMH 2 X.A ∨ (C = noCall ∧ RMH 1 X.A ∧ X.calm = false)
  ch : X.calm = false → C = noCall ∨ C = T.hc
  kd : sc.kind = .function

/-- the slots agree, the heap agrees -/
structure AtK (K : PySem.W.Frag) (cm : Bool) (CA : Str → Addr) (xi : Option (Nat × Addr × Addr)) (ρ : Rho) (me : Env) (mh : MH) (σ : L2.St) (H : Hp) : Prop where
  rs : RS CA xi ρ H me σ
  rh : RH K CA ρ mh H
  cm : me.ex.isSome = false → cm = true
abbrev At (CA : Str → Addr) (X : Cx) := AtK X.K X.calm CA

def RVn (CA : Str → Addr) (n : Nat) (ρ : Rho) (H : Hp) (a : List MV) (b : List V) : Prop := RVs CA ρ H a b ∧ a.length = n
section
variable (T : Tab) (CA : Str → Addr) (C : CallF) (X : Cx) (W : WX) (xi : Option (Nat × Addr × Addr))
def tE (m : ME) : TE := fun σ H Q => ∃ ρ me mh, At CA X xi ρ me mh σ H ∧ Aft X.K CA (RV CA) (fun c d H' => W c d σ H') ρ H (evE T C me m mh) Q
def tT (m : ME) : TT := fun σ H Q => ∃ ρ me mh, At CA X xi ρ me mh σ H ∧ Aft X.K CA (fun _ _ (a b : Bool) => a = b) (fun c d H' => W c d σ H') ρ H (evT T C me m mh) Q
def tO (m : MOp) : TO := fun σ H Q => ∃ ρ me mh, At CA X xi ρ me mh σ H ∧ Aft X.K CA (fun _ _ (a b : Option Int) => a = b) (fun c d H' => W c d σ H') ρ H (evO T C me m mh) Q
def tEs (m : MEs) : TA := fun σ H Q => ∃ ρ me mh, At CA X xi ρ me mh σ H ∧ Aft X.K CA (RVn CA m.len) (fun c d H' => W c d σ H') ρ H (evEs T C me m mh) Q
end

section
variable {T : Tab} {CA : Str → Addr} {N : List Str} {sc : Scope} {C : CallF} {X : Cx} {W : WX} {xi : Option (Nat × Addr × Addr)} {ρ ρ1 : Rho} {me : Env} {mh mh1 : MH} {σ : L2.St} {H H1 : Hp}
theorem AtK.to (h : At CA X xi ρ me mh σ H) (e : Ext ρ H ρ1 H1) (r : RH X.K CA ρ1 mh1 H1) : At CA X xi ρ1 me mh1 σ H1 := ⟨h.rs.mono e, r, h.cm⟩
theorem PE.to {e : Expr} {t t' : TE} (h : PE X e t) (k : ∀ σ H Q, t' σ H Q → t σ H Q) : PE X e t' := ⟨fun pins s σ H Q I q => h.run pins s σ H Q I (k σ H Q q)⟩
theorem PT.to {e : Expr} {t t' : TT} (h : PT X e t) (k : ∀ σ H Q, t' σ H Q → t σ H Q) : PT X e t' := ⟨fun pins s σ H Q I q => h.run pins s σ H Q I (k σ H Q q)⟩
theorem PW.to {e : Expr} {t t' : TT} (h : PW X e t) (k : ∀ σ H Q, t' σ H Q → t σ H Q) : PW X e t' := ⟨fun w pins s σ H Q I q => h.run w pins s σ H Q I (k σ H Q q)⟩
theorem PA.to {e : List Expr} {t t' : TA} (h : PA X e t) (k : ∀ σ H Q, t' σ H Q → t σ H Q) : PA X e t' := ⟨fun p pins s σ H Q I q => h.run p pins s σ H Q I (k σ H Q q)⟩
theorem PK.to {e : List Keyword} {t t' : TA} (h : PK X e t) (k : ∀ σ H Q, t' σ H Q → t σ H Q) : PK X e t' := ⟨fun p pins s σ H Q I q => h.run p pins s σ H Q I (k σ H Q q)⟩

theorem vis_of (g : Gd T CA N sc X) {x : Str} (h : vis sc x = true) : Vis X.env.scope x ∧ (x == ("__debug__" : Str)) = false ∧ (x == ("__classdict__" : Str)) = false := by
  unfold vis okN at h
  simp only [Bool.and_eq_true, Bool.or_eq_true, beq_iff_eq, Bool.not_eq_true'] at h
  obtain ⟨h1, ⟨h2, h3⟩, _⟩ := h
  refine ⟨?_, h2, h3⟩
  rcases h1 with (h1 | h1) | h1
  · rcases g.sc x _ h1 with z | ⟨z, _⟩
    · exact .inl z
    · cases z
  · rcases g.sc x _ h1 with z | ⟨z, _⟩
    · exact .inr (.inl z)
    · cases z
  · rcases g.sc x _ h1 with z | ⟨_, z⟩
    · exact .inr (.inr z)
    · exact .inr (.inl z)
theorem glb_of (g : Gd T CA N sc X) {x : Str} (h : glb sc x = true) : Gl X x ∧ (x == ("__debug__" : Str)) = false ∧ x ≠ "__name__" := by
  unfold glb okN at h
  simp only [Bool.and_eq_true, beq_iff_eq, Bool.not_eq_true'] at h
  obtain ⟨h1, ⟨h2, _⟩, h3⟩ := h
  refine ⟨?_, h2, fun e => ?_⟩
  · unfold Gl PySem.Env.kindOf
    rcases g.sc x _ h1 with z | ⟨z, _⟩
    · exact z
    · cases z
  · rw [e] at h3; simp at h3
theorem noStar_of : ∀ {m : ME} {e : Expr}, ckE T N sc m e = true → noStar e = true := fun {m e} h => by
  cases e <;> first | rfl | (cases m <;> (unfold ckE at h; cases h))
theorem noStars_of : ∀ {m : MEs} {es : List Expr}, ckEs T N sc m es = true → es.all noStar = true
  | .nil, [], _ => rfl
  | .cons a as, e :: es, h => by
    unfold ckEs at h
    rw [Bool.and_eq_true] at h
    rw [List.all_cons, noStar_of h.1, noStars_of h.2]; rfl
  | .nil, _ :: _, h => by unfold ckEs at h; cases h
  | .cons _ _, [], h => by unfold ckEs at h; cases h
theorem plainIx_of {e : Expr} (h : plainIx e = true) : PlainIx e := by
  cases e <;> first | exact fun _ _ => rfl | cases h
theorem valTest_of {e : Expr} (h : valTest e = true) (env : PySem.Env) : ∀ whole, isTrue e env whole = (do let v ← whole; standAt e.pos; holding [v] (truthy v)) := by
  cases e <;> first | exact fun _ => rfl | cases h
theorem notSet_mark {op : CmpOp} {e : Expr} (h : notSet e = true) : behindInMarks op e = false := by
  cases e <;> first | rfl | cases h
theorem notSet_last {p1 p2 : CmpOp} {b c : Expr} (h : notSet c = true) : lastMarks [p1, p2] [b, c] = false := by
  show behindInMarks p2 c = false
  exact notSet_mark h
theorem notSet_fold {e : Expr} (h : notSet e = true) (env : PySem.Env) : ∀ x, foldedSetIterable e env x = pure x := by
  cases e <;> first | exact fun _ => rfl | cases h

/-- a name in a slot -/
theorem pe_slot {i : Nat} {x : Str} {p : Pos} (c : Ct T CA N sc C X W xi) (hi : N[i]? = some x) (hv : vis sc x = true) : PE X (.Name x p) (tE T CA C X W xi (.var i)) := by
  obtain ⟨v, d1, d2⟩ := vis_of c.g hv
  refine PE.to (pe_var (i := i) (by rw [c.g.nm]; exact hi) v d1 d2) fun σ H Q ⟨ρ, me, mh, at_, h⟩ => ?_
  unfold evE at h
  cases e : me.sl[i]? with
  | none => rw [e] at h; exact h.elim
  | some o =>
    rw [e] at h
    cases o with
    | none => exact h.elim
    | some w =>
      obtain ⟨z, h1, h2⟩ := at_.rs.sl i w e
      exact ⟨z, h1, Aft.now (z := w) h at_.rh h2⟩
/-- e.f of the exception that is handled -/
theorem pe_exf {i : Nat} {x f : Str} {p pos : Pos} (c : Ct T CA N sc C X W xi) (hi : N[i]? = some x) (hv : vis sc x = true) : PE X (.Attribute (.Name x p) f pos) (tE T CA C X W xi (.efld i f)) := by
  obtain ⟨v, d1, d2⟩ := vis_of c.g hv
  refine ⟨fun pins s σ H Q I ⟨ρ, me, mh, at_, h⟩ => ?_⟩
  unfold evE at h
  cases ee : me.ex with
  | none => rw [ee] at h; exact h.elim
  | some q =>
    obtain ⟨j, n⟩ := q
    rw [ee] at h
    simp only at h
    by_cases hc : i = j ∧ i < me.sl.length ∧ T.xat f = true
    · rw [if_pos hc] at h
      obtain ⟨hj, hil, hx⟩ := hc
      subst hj
      obtain ⟨a, d, hxi, hds⟩ := at_.rs.ex i n ee
      obtain ⟨hd, hs⟩ := hds hil
      cases g : mh.get n with
      | none => rw [g] at h; exact h.elim
      | some o =>
        rw [g] at h
        cases o <;> try exact h.elim
        rename_i c' fs
        simp only at h
        cases l : fs.lookup f with
        | none => rw [l] at h; exact h.elim
        | some w =>
          rw [l] at h
          obtain ⟨gs, h1, h2⟩ := at_.rh.at g hd
          obtain ⟨z, h3, h4⟩ := RF.lookup h2 l
          have q := h.now at_.rh h4
          obtain ⟨oe, cc, vs, pn, hz, hdt, _, xf, hno⟩ := (c.xi i a d hxi).ex
          refine attr_of (base_plain rfl) (thn ((pe_var (X := X) (i := i) (pos := p) (by rw [c.g.nm]; exact hi) v d1 d2).run pins s σ H (fun y H' => y = .ref a ∧ H' = H) I ⟨_, hs, rfl, rfl⟩) fun u s1 ⟨y, H1, I1, ry, ey, eH⟩ => ?_)
          subst ey eH
          obtain rfl : u = Value.ref a := ry
          obtain ⟨ha, _⟩ := I1.pin (a, oe) (List.mem_append_left _ pn)
          have hx1 : ObjOk X.prog X.w H1 s1.heap d (.xd gs) := I1.hok d _ h1
          obtain ⟨mA, hns, hr⟩ := hx1
          obtain ⟨od, ho, hl⟩ := lookIn_ns hns
          obtain ⟨u, hu, ru⟩ := RelO.some_of (v := z) (o := mA f) (by rw [← h3]; exact hr f)
          have J : PySem.W.InstAt s1.heap a oe (CA cc) (some od) := ⟨ha, hz.1, by unfold PySem.W.notCls; rw [hdt] <;> rfl, by rw [hz.2.1]; exact ho⟩
          exact HandSPX.exc_get I1.kIn J xf.ga xf.gg xf.exC (PySem.W.findObj_own xf.hdC (hno f hx) rfl (by rw [hl, hu])) (handed_of ru) ⟨z, H1, I1.tok _, ru, q⟩
    · rw [if_neg hc] at h; exact h.elim

variable {a b c : ME} {ea eb ec : Expr} {pos : Pos}
/-- two values, then a rule -/
theorem two_ok {r : R2} {f : MV → MV → M MV} {me : Env} {Q : VK} (at_ : At CA X xi ρ me mh σ H) (h : Aft X.K CA (RV CA) (fun c d H' => W c d σ H') ρ H (M.bind (evE T C me a) (fun x => M.bind (evE T C me b) fun y => f x y) mh) Q)
    (k : ∀ {ρ : Rho} {mh : MH} {x y : MV} {u v : V} {H : Hp}, Aft X.K CA (RV CA) (fun c d H' => W c d σ H') ρ H (f x y mh) Q → RH X.K CA ρ mh H → RV CA ρ H x u → RV CA ρ H y v → r u v H Q) :
    tOp r (tE T CA C X W xi a) (tE T CA C X W xi b) σ H Q :=
  ⟨ρ, me, mh, at_, h.bnd.imp fun u H1 ⟨ρ1, mh1, x, e1, r1, q1, h1⟩ => ⟨ρ1, me, mh1, at_.to e1 r1, h1.bnd.imp fun v H2 ⟨ρ2, mh2, y, e2, r2, q2, h2⟩ => k h2 r2 (q1.mono e2) q2⟩⟩
theorem pe_bin {op : BOp} (ha : PE X ea (tE T CA C X W xi a)) (hb : PE X eb (tE T CA C X W xi b)) : PE X (.BinOp ea (opB op) eb pos) (tE T CA C X W xi (.bin op a b)) :=
  PE.to (pe_op (op_bin op) ha hb) fun σ H Q ⟨ρ, me, mh, at_, h⟩ => by
    unfold evE at h
    exact two_ok at_ h fun h2 rh q1 q2 => bin_ok h2 rh q1 q2
theorem pe_cmpM {op : COp} (hu : X.A.units + 1250 < cLine) (hs : notSet eb = true) (ha : PE X ea (tE T CA C X W xi a)) (hb : PE X eb (tE T CA C X W xi b)) : PE X (.Compare ea [opC op] [eb] pos) (tE T CA C X W xi (.cmp op a b)) :=
  PE.to (pe_cmpR (op_cmp hu op) ha hb (notSet_mark hs)) fun σ H Q ⟨ρ, me, mh, at_, h⟩ => by
    unfold evE at h
    exact two_ok at_ h fun h2 rh q1 q2 => cmp_ok h2 rh q1 q2
/-- a bool in hand -/
theorem Aft.bool {x : MV} {u : V} {β : Type} {δ : Type} {R' : Rho → Hp → β → δ → Prop} {f : Bool → M β} {Q : δ → Hp → Prop} {Wf : WS} (h : Aft X.K CA R' Wf ρ H (M.bind (boolM x) f mh) Q) (r : RV CA ρ H x u) : ∃ k, x = .bl k ∧ u = .bl k ∧ Aft X.K CA R' Wf ρ H (f k mh) Q := by
  cases r <;> first | exact h.elim | exact ⟨_, rfl, rfl, h⟩
theorem pe_chainM {op op' : COp} (hu : X.A.units + 1250 < cLine) (hs : notSet ec = true) (ha : PE X ea (tE T CA C X W xi a)) (hb : PE X eb (tE T CA C X W xi b)) (hc : PE X ec (tE T CA C X W xi c)) : PE X (.Compare ea [opC op, opC op'] [eb, ec] pos) (tE T CA C X W xi (.chain op op' a b c)) :=
  PE.to (pe_chain (op_cmp hu op) (op_cmp hu op') ha hb hc (notSet_last hs)) fun σ H Q ⟨ρ, me, mh, at_, h⟩ => by
    unfold evE at h
    refine ⟨ρ, me, mh, at_, h.bnd.imp fun u H1 ⟨ρ1, mh1, x, e1, r1, q1, h1⟩ => ⟨ρ1, me, mh1, at_.to e1 r1, h1.bnd.imp fun v H2 ⟨ρ2, mh2, y, e2, r2, q2, h2⟩ => ?_⟩⟩
    refine cmp_ok (h2.bnd.imp fun z H3 ⟨ρ3, mh3, w, e3, r3, q3, h3⟩ => ?_) r2 (q1.mono e2) q2
    obtain ⟨k, rfl, rfl, h4⟩ := h3.bool q3
    refine ⟨k, rfl, ?_⟩
    cases k with
    | true => exact ⟨ρ3, me, mh3, (at_.to e1 r1).to (e2.trans e3) r3, h4.bnd.imp fun t H4 ⟨ρ4, mh4, w4, e4, r4, q4, h5⟩ => cmp_ok h5 r4 (q2.mono (e3.trans e4)) q4⟩
    | false => exact Aft.now (z := MV.bl false) h4 r3 (.bl _)
theorem pe_ands {r : List Expr} (ha : PE X ea (tE T CA C X W xi a)) (hb : PE X (.BoolOp .And (eb :: r) pos) (tE T CA C X W xi b)) : PE X (.BoolOp .And (ea :: eb :: r) pos) (tE T CA C X W xi (.and a b)) :=
  PE.to (pe_and ha hb) fun σ H Q ⟨ρ, me, mh, at_, h⟩ => by
    unfold evE at h
    refine ⟨ρ, me, mh, at_, h.bnd.imp fun u H1 ⟨ρ1, mh1, x, e1, r1, q1, h1⟩ => ?_⟩
    obtain ⟨k, rfl, rfl, h2⟩ := h1.bool q1
    refine ⟨k, rfl, ?_⟩
    cases k with
    | true => exact ⟨ρ1, me, mh1, at_.to e1 r1, h2⟩
    | false => exact Aft.now (z := MV.bl false) h2 r1 (.bl _)
theorem pe_ors {r : List Expr} (ha : PE X ea (tE T CA C X W xi a)) (hb : PE X (.BoolOp .Or (eb :: r) pos) (tE T CA C X W xi b)) : PE X (.BoolOp .Or (ea :: eb :: r) pos) (tE T CA C X W xi (.or a b)) :=
  PE.to (pe_or ha hb) fun σ H Q ⟨ρ, me, mh, at_, h⟩ => by
    unfold evE at h
    refine ⟨ρ, me, mh, at_, h.bnd.imp fun u H1 ⟨ρ1, mh1, x, e1, r1, q1, h1⟩ => ?_⟩
    obtain ⟨k, rfl, rfl, h2⟩ := h1.bool q1
    refine ⟨k, rfl, ?_⟩
    cases k with
    | true => exact Aft.now (z := MV.bl true) h2 r1 (.bl _)
    | false => exact ⟨ρ1, me, mh1, at_.to e1 r1, h2⟩
theorem pe_nots (ha : PE X ea (tE T CA C X W xi a)) : PE X (.UnaryOp .Not ea pos) (tE T CA C X W xi (.notE a)) :=
  PE.to (pe_not ha) fun σ H Q ⟨ρ, me, mh, at_, h⟩ => by
    unfold evE at h
    refine ⟨ρ, me, mh, at_, h.bnd.imp fun u H1 ⟨ρ1, mh1, x, e1, r1, q1, h1⟩ => ?_⟩
    obtain ⟨k, rfl, rfl, h2⟩ := h1.bool q1
    exact ⟨k, rfl, Aft.now (z := MV.bl (!k)) h2 r1 (.bl _)⟩
theorem pe_negs (ha : PE X ea (tE T CA C X W xi a)) : PE X (.UnaryOp .USub ea pos) (tE T CA C X W xi (.neg a)) :=
  PE.to (pe_un un_neg ha) fun σ H Q ⟨ρ, me, mh, at_, h⟩ => by
    unfold evE at h
    refine ⟨ρ, me, mh, at_, h.bnd.imp fun u H1 ⟨ρ1, mh1, x, e1, r1, q1, h1⟩ => ?_⟩
    cases q1 <;> first | exact h1.elim | exact ⟨_, rfl, Aft.now (z := MV.int _) h1 r1 (.int _)⟩
theorem pe_ifes (hc : PT X ec (tT T CA C X W xi c)) (ha : PE X ea (tE T CA C X W xi a)) (hb : PE X eb (tE T CA C X W xi b)) : PE X (.IfExp ec ea eb pos) (tE T CA C X W xi (.ife c a b)) :=
  PE.to (pe_ifExp hc ha hb) fun σ H Q ⟨ρ, me, mh, at_, h⟩ => by
    unfold evE at h
    refine ⟨ρ, me, mh, at_, h.bnd.imp fun u H1 ⟨ρ1, mh1, x, e1, r1, q1, h1⟩ => ?_⟩
    subst q1
    cases x with
    | true => exact ⟨ρ1, me, mh1, at_.to e1 r1, h1⟩
    | false => exact ⟨ρ1, me, mh1, at_.to e1 r1, h1⟩
theorem pe_subs (hp : plainIx eb = true) (ha : PE X ea (tE T CA C X W xi a)) (hb : PE X eb (tE T CA C X W xi b)) : PE X (.Subscript ea eb pos) (tE T CA C X W xi (.sub a b)) :=
  PE.to (pe_ix ix_seq ha hb (plainIx_of hp)) fun σ H Q ⟨ρ, me, mh, at_, h⟩ => by
    unfold evE at h
    exact two_ok at_ h fun h2 rh q1 q2 => sub_ok h2 rh q1 q2
theorem pe_slcs {lo hi : MOp} {l h : Option Expr} {p2 : Pos} (ha : PE X ea (tE T CA C X W xi a)) (hl : PO X l (tO T CA C X W xi lo)) (hh : PO X h (tO T CA C X W xi hi)) : PE X (.Subscript ea (.Slice l h none p2) pos) (tE T CA C X W xi (.slc a lo hi)) :=
  PE.to (pe_slice sl_list ha hl hh) fun σ H Q ⟨ρ, me, mh, at_, h⟩ => by
    unfold evE at h
    refine ⟨ρ, me, mh, at_, h.bnd.imp fun u H1 ⟨ρ1, mh1, x, e1, r1, q1, h1⟩ => ⟨ρ1, me, mh1, at_.to e1 r1, h1.bnd.imp fun v H2 ⟨ρ2, mh2, y, e2, r2, q2, h2⟩ => ?_⟩⟩
    subst q2
    refine ⟨ρ2, me, mh2, (at_.to e1 r1).to e2 r2, h2.bnd.imp fun v H3 ⟨ρ3, mh3, z, e3, r3, q3, h3⟩ => ?_⟩
    subst q3
    exact slc_ok h3 r3 (q1.mono (e2.trans e3))
theorem pe_revs {p1 p2 p3 : Pos} {k : Nat} (ha : PE X ea (tE T CA C X W xi a)) : PE X (.Subscript ea (.Slice none none (some (.UnaryOp .USub (.Constant (.int 1) k p1) p2)) p3) pos) (tE T CA C X W xi (.rev a)) :=
  PE.to (pe_revL ha) fun σ H Q ⟨ρ, me, mh, at_, h⟩ => by
    unfold evE at h
    exact ⟨ρ, me, mh, at_, h.bnd.imp fun u H1 ⟨ρ1, mh1, x, e1, r1, q1, h1⟩ => rev_ok h1 r1 q1⟩
theorem pe_lsis {p p2 q : Pos} {x y : Str} (ct : Ct T CA N sc C X W xi) (hx : x = "len") (hy : y = "set") (gx : glb sc x = true) (gy : glb sc y = true) (fx : T.free x = true) (fy : T.free y = true) (ns : noStar ea = true) (ha : PE X ea (tE T CA C X W xi a)) :
    PE X (.Call (.Name x p) [.Call (.Name y p2) [ea] [] q] [] pos) (tE T CA C X W xi (.lsi a)) := by
  subst hx hy
  refine ⟨fun pins s σ H Q I ⟨ρ, me, mh, at_, h⟩ => ?_⟩
  unfold evE at h
  by_cases hc : me.ex.isSome = true
  · rw [if_pos hc] at h; exact h.elim
  · rw [if_neg hc] at h
    have hcalm : X.calm = true := at_.cm (by simpa using hc)
    refine (RZ.pe_lenSetI (glb_of ct.g gx).1 (ct.g.st.free _ fx) (glb_of ct.g gy).1 (ct.g.st.free _ fy) ha hcalm (star_cons ns)).run pins s σ H Q I ?_
    exact ⟨ρ, me, mh, at_, h.bnd.imp fun u H1 ⟨ρ1, mh1, x, e1, r1, q1, h1⟩ => lsi_ok h1 r1 q1⟩
theorem po_nos : PO X none (tO T CA C X W xi .no) := ⟨fun pins s σ H Q I ⟨ρ, me, mh, at_, h⟩ => po_none.run pins s σ H Q I (by unfold evO at h; exact Aft.now (z := (none : Option Int)) h at_.rh rfl)⟩
theorem po_yess (ha : PE X ea (tE T CA C X W xi a)) : PO X (some ea) (tO T CA C X W xi (.yes a)) := ⟨fun pins s σ H Q I ⟨ρ, me, mh, at_, h⟩ => (po_some ha).run pins s σ H Q I (by
  unfold evO at h
  refine ⟨ρ, me, mh, at_, h.bnd.imp fun u H1 ⟨ρ1, mh1, x, e1, r1, q1, h1⟩ => ?_⟩
  cases q1 <;> first | exact h1.elim | exact ⟨_, rfl, Aft.now (z := some _) h1 r1 rfl⟩)⟩
theorem pa_nils : PA X [] (tEs T CA C X W xi .nil) := PA.to pa_nil fun σ H Q ⟨ρ, me, mh, at_, h⟩ => by
  unfold evEs at h
  exact Aft.now (z := ([] : List MV)) h at_.rh ⟨.nil, rfl⟩
theorem pk_nils : PK X [] (tEs T CA C X W xi .nil) := PK.to pk_nil fun σ H Q ⟨ρ, me, mh, at_, h⟩ => by
  unfold evEs at h
  exact Aft.now (z := ([] : List MV)) h at_.rh ⟨.nil, rfl⟩
theorem cons_ok {as : MEs} {me : Env} {Q : List V → Hp → Prop} (at_ : At CA X xi ρ me mh σ H) (h : Aft X.K CA (RVn CA (as.len + 1)) (fun c d H' => W c d σ H') ρ H (evEs T C me (.cons a as) mh) Q) : tCons (tE T CA C X W xi a) (tEs T CA C X W xi as) σ H Q := by
  unfold evEs at h
  refine ⟨ρ, me, mh, at_, h.bnd.imp fun u H1 ⟨ρ1, mh1, x, e1, r1, q1, h1⟩ => ⟨ρ1, me, mh1, at_.to e1 r1, h1.bnd.imp fun v H2 ⟨ρ2, mh2, y, e2, r2, q2, h2⟩ => ?_⟩⟩
  exact Aft.now (z := x :: y) h2 r2 ⟨.cons (q1.mono e2) q2.1, by rw [List.length_cons, q2.2]⟩
theorem pa_conss {as : MEs} {es : List Expr} (hn : noStar ea = true) (ha : PE X ea (tE T CA C X W xi a)) (hs : PA X es (tEs T CA C X W xi as)) : PA X (ea :: es) (tEs T CA C X W xi (.cons a as)) :=
  PA.to (pa_cons ha hs (star_cons hn)) fun σ H Q ⟨ρ, me, mh, at_, h⟩ => cons_ok at_ h
theorem pk_conss {as : MEs} {es : List Keyword} {nm : Option Str} {p : Pos} (ha : PE X ea (tE T CA C X W xi a)) (hs : PK X es (tEs T CA C X W xi as)) : PK X (⟨nm, ea, p⟩ :: es) (tEs T CA C X W xi (.cons a as)) :=
  PK.to (pk_cons ha hs) fun σ H Q ⟨ρ, me, mh, at_, h⟩ => cons_ok at_ h
theorem pe_tups {as : MEs} {es : List Expr} {n : Nat} (hs : PA X es (tEs T CA C X W xi as)) : PE X (.Tuple es n pos) (tE T CA C X W xi (.tup as)) :=
  PE.to (pe_tup hs) fun σ H Q ⟨ρ, me, mh, at_, h⟩ => by
    unfold evE at h
    refine ⟨ρ, me, mh, at_, h.bnd.imp fun u H1 ⟨ρ1, mh1, x, e1, r1, q1, h1⟩ => ?_⟩
    by_cases hz : x.length ≤ sizeLine
    · rw [if_pos hz] at h1
      exact ⟨by rw [← q1.1.length]; exact hz, newT_ok h1 r1 q1.1⟩
    · rw [if_neg hz] at h1; exact h1.elim
theorem pe_lsts {as : MEs} {es : List Expr} (hs : PA X es (tEs T CA C X W xi as)) : PE X (.List es pos) (tE T CA C X W xi (.lst as)) :=
  PE.to (pe_lst hs) fun σ H Q ⟨ρ, me, mh, at_, h⟩ => by
    unfold evE at h
    exact ⟨ρ, me, mh, at_, h.bnd.imp fun u H1 ⟨ρ1, mh1, x, e1, r1, q1, h1⟩ => newL_ok h1 r1 q1.1⟩
theorem pe_bis {as : MEs} {bb : BI} {x : Str} {p : Pos} {es : List Expr} (ct : Ct T CA N sc C X W xi) (hx : x = nmB bb) (hg : glb sc x = true) (hf : T.free x = true) (hn : (ea :: es).all noStar = true) (hs : PA X (ea :: es) (tEs T CA C X W xi as)) :
    PE X (.Call (.Name x p) (ea :: es) [] pos) (tE T CA C X W xi (.bi bb as)) := by
  obtain ⟨g1, g2, g3⟩ := glb_of ct.g hg
  have hm := ct.g.st.free x hf
  rw [List.all_cons, Bool.and_eq_true] at hn
  refine ⟨fun pins s σ H Q I ⟨ρ, me, mh, at_, h⟩ => ?_⟩
  unfold evE at h
  by_cases hc : calmB bb = true ∧ me.ex.isSome = true
  · rw [if_pos hc] at h; exact h.elim
  · rw [if_neg hc] at h
    have hcalm : calmB bb = true → X.calm = true := fun z => at_.cm (by
      cases q : me.ex.isSome with
      | false => rfl
      | true => exact absurd ⟨z, q⟩ hc)
    have R := bi_ok (T := T) (CA := CA) (W := fun c d H' => W c d σ H') ct.g.st ct.g.gd ct.g.un bb hcalm
    have hb := boot_B bb
    rw [← hx] at hb
    have q : tCB (rB T CA X.K (fun c d H' => W c d σ H') bb) (tEs T CA C X W xi as) σ H Q := ⟨ρ, me, mh, at_, h.bnd.imp fun u H1 ⟨ρ1, mh1, z, e1, r1, q1, h1⟩ => ⟨ρ1, mh1, z, q1.1, r1, h1⟩⟩
    cases bb with
    | int1 => exact (pe_callTy R g1 hm hb hs g3 g2 (star_cons hn.1) (star_none hn.2)).run pins s σ H Q I q
    | list1 => exact (pe_callTy R g1 hm hb hs g3 g2 (star_cons hn.1) (star_none hn.2)).run pins s σ H Q I q
    | tuple1 => exact (pe_callTy R g1 hm hb hs g3 g2 (star_cons hn.1) (star_none hn.2)).run pins s σ H Q I q
    | _ => exact (pe_callB R g1 hm hb hs g3 g2 (star_cons hn.1) (star_none hn.2)).run pins s σ H Q I q
end
end Mi
end

section
/-! Mini: enumerate over a tuple. -/
namespace Mi
open PySem PySem.Spec PyProof.Rows L2

theorem meets_enum_tup (l : Addr) (items : Array Value) (n : Nat) (dct : Option Addr) (sl : Array (Option Value)) :
    Meets (Builtin.«enumerate.__new__» ⟨[.type "enumerate", .ref l], []⟩) (fun _ R s => s.heap.get? l = some { cls := .type "tuple", dict := dct, data := .seq items n, slots := sl } ∧
      R (.ok (.ret (.ref (s.heap.push { cls := .type "tuple_iterator", data := .fields #[.ref l, .int 0 0] }).objs.size)))
        { s with heap := (s.heap.push { cls := .type "tuple_iterator", data := .fields #[.ref l, .int 0 0] }).push { cls := .type "enumerate", data := .fields #[.none, .bool false, .ref s.heap.objs.size, rawInt 0, .none, .none] } }) :=
  .of_wp fun prog w A R s h => by
    obtain ⟨hp, g, d, tk, os⟩ := s; obtain ⟨hl, h⟩ := h
    have hsub := sub_enumerate
    have hL : Heap.IsTuple (Shared.heap ⟨hp, g, d, tk, os⟩) l items := ⟨_, hl, rfl, n, rfl⟩
    wp_walk using AutoSeq1.wpAny_loadPart' hl
    refine wpAny_stack_any fun st => wpAny_pure ?_
    split
    · rename_i c _ _ _ _ _
      cases (c == Value.type "enumerate")
      · wp_walk using AutoSeq1.wpAny_loadPart' hl, wpAny_pyIter_tuple hL
        exact ⟨_, rfl, h⟩
      · wp_walk using AutoSeq1.wpAny_loadPart' hl, wpAny_pyIter_tuple hL
        exact ⟨_, rfl, h⟩
    · wp_walk using AutoSeq1.wpAny_loadPart' hl, wpAny_pyIter_tuple hL
      exact ⟨_, rfl, h⟩
section
variable {prog : Program} {w : World} {A : Around} {E : Value → Shared → Prop} {s : Shared}
theorem call_enum_tup {l : Addr} {items : Array Value} {Q : Value → Shared → Prop} (hL : s.heap.IsTuple l items)
    (h : ∀ h', IsEnum h' (s.heap.objs.size + 1) s.heap.objs.size 0 .none → h'.IsTupleIter s.heap.objs.size l 0 → (∀ b o, s.heap.get? b = some o → h'.get? b = some o) → Q (.ref (s.heap.objs.size + 1)) { s with heap := h' }) :
    wpAny (model prog w) A (call (.type "enumerate") [.ref l]) Q E s := by
  obtain ⟨⟨c, dct, dt, sl⟩, hl, hc, n, hd⟩ := hL
  replace hc : c = .type "tuple" := hc
  replace hd : dt = .seq items n := hd
  subst hc hd
  refine callType_new F.called_enumerate (by decide) (F.typeCall_enumerate_1 _) (F.newCall_enumerate_1 _) (fun obj => F.args_object_init_2 obj _) F.entry_enumerate_new
    (meets_enum_tup l items n dct sl) ⟨hl, ?_⟩
  have hz : (s.heap.push { cls := .type "tuple_iterator", data := .fields #[.ref l, .int 0 0] }).objs.size = s.heap.objs.size + 1 := Heap.size_push ..
  show _ ∧ _
  rw [hz]
  have he : IsEnum ((s.heap.push { cls := .type "tuple_iterator", data := .fields #[.ref l, .int 0 0] }).push
      { cls := .type "enumerate", data := .fields #[.none, .bool false, .ref s.heap.objs.size, rawInt 0, .none, .none] }) (s.heap.objs.size + 1) s.heap.objs.size 0 .none := by
    have := Heap.get?_push_size (s.heap.push { cls := .type "tuple_iterator", data := .fields #[.ref l, .int 0 0] })
      (o := { cls := .type "enumerate", data := .fields #[.none, .bool false, .ref s.heap.objs.size, rawInt 0, .none, .none] }) rfl
    rw [hz] at this; exact this
  exact ⟨⟨_, he, rfl⟩, h _ he ⟨_, Heap.get?_push_of_some _ (Heap.get?_push_size _ rfl), rfl, rfl⟩ fun b o x => Heap.get?_push_of_some _ (Heap.get?_push_of_some _ x)⟩
end
/-- the tuple at a, each item in a new pair -/
def IteT (K : PySem.W.Frag) (a : Addr) : L2.It :=
  ⟨fun i H => ∃ (xs : List V) (x : V), SqT K H a xs ∧ xs[i]? = some x, fun i H v H' => ∃ T x, v = .ref T ∧ H T = none ∧ H' = upd H T (.tup [.int (i : Nat), x]) ∧ ∀ xs, SqT K H a xs → xs[i]? = some x, fun i H => ∃ xs : List V, SqT K H a xs ∧ xs.length ≤ i⟩
theorem turn_enumT {P : Program} {w : World} {K : PySem.W.Frag} {elts : List Expr} {kk : Nat} {tpos : Pos} (a e it : Addr) :
    Turn P w K (.Tuple elts kk tpos) (IteT K a) [e, it] e (fun i h => (∃ old, IsEnum h e it ((i : Nat) : Int) old) ∧ h.IsTupleIter it a i ∧ e ≠ it) where
  mem := by simp
  obj := fun i h st b hb => by
    obtain ⟨⟨old, he⟩, ⟨o, ho, hc, hd⟩, _⟩ := st
    have e' : b = e ∨ b = it := by simpa using hb
    rcases e' with z | z
    · rw [z]; exact ⟨_, he, fun v q => nomatch q⟩
    · rw [z]; exact ⟨o, ho, fun v q => by rw [hd] at q; cases q⟩
  keep := fun i h h' st k => let ⟨⟨old, he⟩, hi, hne⟩ := st; ⟨⟨old, k e (by simp) _ he⟩, hi.at fun o q => k it (by simp) o q, hne⟩
  item := by
    intro X hP hw hK hc i pins s σ H E I hf st hg
    subst hP hw hK
    obtain ⟨⟨old, he⟩, hit, hne⟩ := st
    obtain ⟨xs, x, hq, hx⟩ := hg
    obtain ⟨its, rv, p, hz⟩ := I.tuple hq
    obtain ⟨u, hu, ru⟩ := rv.get hx
    have hel : e < s.heap.objs.size := Heap.lt_size he
    have hil : it < s.heap.objs.size := by obtain ⟨_, q, _⟩ := hit; exact Heap.lt_size q
    have pT : s.heap.IsTuple a its.toArray := p
    have ae : a ≠ e := fun z => by
      obtain ⟨o, ho, hoc, _⟩ := pT
      rw [z, he] at ho
      cases ho
      have hoc' : Value.type "enumerate" = Value.type "tuple" := hoc
      exact absurd hoc' (by simp)
    have ai : a ≠ it := fun z => by
      obtain ⟨o, ho, hoc, _⟩ := pT
      obtain ⟨o2, ho2, hoc2, _⟩ := hit
      rw [z, ho2] at ho
      cases ho
      rw [hoc2] at hoc
      exact absurd hoc (by simp)
    have hlt : i < its.toArray.size := by
      have := (List.getElem?_eq_some_iff.mp hu).1
      simpa using this
    have hA : X.A.in1.handled = none := I.ok.hd hc
    refine wpAny_pyNext_enum_itemC (Draws.tuple (prog := X.prog) (w := X.w) hA it a ai its.toArray) he ⟨hit, pT⟩ hlt hne (by simp [hne, Ne.symm ae]) fun y h' tk hy ho hit' hT hsz hk => ?_
    have ey : y = u := by
      have hy' : its.toArray[i]? = some y := hy
      have hu' : its.toArray[i]? = some u := by simpa using hu
      rw [hu'] at hy'
      exact (Option.some.inj hy').symm
    subst ey
    refine ⟨_, rfl, wpAny_letOwnedTupleGo_enum (s := { s with heap := h', toks := tk + 1 }) ho fun h'' he' sb => ?_⟩
    have hT2 : h''.get? s.heap.objs.size = some { cls := .type "tuple", data := .seq #[.int i tk, y] } := (sb.2 _ (Nat.ne_of_gt hel)).trans hT
    have new : ObjOk X.prog X.w (upd H s.heap.objs.size (.tup [.int (i : Nat), x])) h'' s.heap.objs.size (.tup [.int (i : Nat), x]) :=
      ⟨by show 2 ≤ sizeLine; decide, [.int i tk, y], .cons ⟨_, rfl⟩ (.cons ru .nil), ⟨_, hT2, rfl, _, rfl⟩⟩
    have I1 : L2.Inv X pins σ (upd H s.heap.objs.size (.tup [.int (i : Nat), x])) { s with heap := h'', toks := tk + 1 } :=
      I.turnedNew (ch := [e, it]) (fun b ob hb q => (sb.2 b (fun z => hb (by simp [z]))).trans (hk b ob (fun z => hb (by simp [z])) (fun z => hb (by simp [z])) q)) hf (Nat.le_refl _) new
    refine ⟨.ref s.heap.objs.size, _, I1, rfl, ⟨_, x, rfl, I.hok.fresh (Nat.le_refl _), rfl, fun ys hy => by rw [I.tuple_inj hy hq]; exact hx⟩, ⟨⟨y, ?_⟩, hit'.1.at fun o q => (sb.2 it (Ne.symm hne)).trans q, hne⟩, fun b hb => ?_⟩
    · have e1 : ((i + 1 : Nat) : Int) = (i : Int) + 1 := by omega
      rw [e1]; exact he'
    · have hb' : b < s.heap.objs.size := by
        have e' : b = e ∨ b = it := by simpa using hb
        rcases e' with z | z
        · rw [z]; exact hel
        · rw [z]; exact hil
      rw [upd_ne (Nat.ne_of_lt hb')]
      exact (hf b hb).1
  done := by
    intro X hP hw hK hc i pins s σ H E I hf st hg
    subst hP hw hK
    obtain ⟨⟨old, he⟩, hit, hne⟩ := st
    obtain ⟨xs, hq, hx⟩ := hg
    obtain ⟨its, rv, p, hz⟩ := I.tuple hq
    obtain ⟨f0, f1, f2, f3, f4, f5⟩ := hf it (by simp)
    have hl := rv.length
    have pT : s.heap.IsTuple a its.toArray := p
    have hT : s.TypeIs (.ref e) "enumerate" := ⟨_, he, rfl⟩
    have hA : X.A.in1.handled = none := I.ok.hd hc
    unfold pyNext
    refine wpAny_bind (wpAny_attempt (wpAny_callSpecial?_slot (name := Str.ofString "__next__") hT F.slot_enumerate_next
      (wpAny_call_entry F.slot_enumerate_next hT F.entry_enumerate_next ?_ (F.args_enumerate_next_1 _))))
    show wpAny _ _ (field (.ref e) 2 >>= _) _ _ _
    refine wpAny_bind (wpAny_field he rfl (x := .ref it) rfl ?_)
    refine wpAny_bind (PySem.wpAny_nextOf_tuple_end hA hit pT (by simp; omega) fun h' x he' hx' => ?_)
    obtain ⟨o, ho, hc'⟩ := hx'
    refine wpAny_bind (wpAny_isInstance (T := "StopIteration") (b := true) ⟨o, ho, hc'⟩ isSubtype_stop ?_)
    exact wpAny_pure ⟨rfl, I.turned (t' := s.toks) (fun b o hb q => he' b o hb q) f0 f1 f3 f4 f5⟩
  self := fun A i s Q E st h => let ⟨⟨_, he⟩, _⟩ := st; wpAny_pyIter_enum he h
theorem pi_enumT {X : Cx} {e : Expr} {ta : TA} {p pos tpos : Pos} {elts : List Expr} {kk : Nat} (hg : Gl X "enumerate") (hm : X.mg "enumerate" = none) (ha : PA X [e] ta) (hs : starEach [e] X.env = [(false, eval e X.env)]) :
    PI X (.Tuple elts kk tpos) (.Call (.Name "enumerate" p) [e] [] pos) (fun σ H R => ta σ H fun vs H1 => ∃ a, vs = [.ref a] ∧ ((∃ xs, SqL X.K H1 a xs ∧ R (Ite X.K a) H1) ∨ ∃ xs, SqT X.K H1 a xs ∧ R (IteT X.K a) H1)) := by
  refine ⟨fun pins s σ H R I h => ?_⟩
  refine Call_ (ld_blt I hg hm boot_enumerate (PyProof.Rows.callWith_type1 (thn (ha.run pos pins s σ H _ I h) fun us s1 ⟨vs, H1, I1, r1, q1⟩ => ?_) hs rfl))
  obtain ⟨a, ex, q1⟩ := q1
  subst ex
  cases r1 with
  | cons r rr =>
    cases rr
    cases r
    have fr : ∀ b, b = s1.heap.objs.size + 1 ∨ b = s1.heap.objs.size → FpOk X pins H1 b := fun b e' => by
      have hle : s1.heap.objs.size ≤ b := by
        rcases e' with z | z
        · rw [z]; exact Nat.le_add_right _ _
        · rw [z]; exact Nat.le_refl _
      exact I1.fpOk hle (I1.hok.fresh hle)
    rcases q1 with ⟨xs, hq, q⟩ | ⟨xs, hq, q⟩
    · obtain ⟨its, rv, p', hz⟩ := I1.list hq
      refine call_enumerate_list p'.isList fun h' he hit hsz hk => wpAny_pyIter_enum he ?_
      exact ⟨s1.heap.objs.size + 1, [s1.heap.objs.size + 1, s1.heap.objs.size], _, _, H1, rfl, I1.kept (t' := s1.toks) hk, turn_enum a (s1.heap.objs.size + 1) s1.heap.objs.size, ⟨⟨.none, he⟩, hit, Nat.succ_ne_self _⟩, fun b hb => fr b (by simpa using hb), q⟩
    · obtain ⟨its, rv, p', hz⟩ := I1.tuple hq
      refine call_enum_tup (show s1.heap.IsTuple a its.toArray from p') fun h' he hit hk => wpAny_pyIter_enum he ?_
      exact ⟨s1.heap.objs.size + 1, [s1.heap.objs.size + 1, s1.heap.objs.size], _, _, H1, rfl, I1.kept (t' := s1.toks) hk, turn_enumT a (s1.heap.objs.size + 1) s1.heap.objs.size, ⟨⟨.none, he⟩, hit, Nat.succ_ne_self _⟩, fun b hb => fr b (by simpa using hb), q⟩
end Mi
end

section
/-! Mini, part 8: calls and comprehensions within expressions; every expression that the look lets by does what its small one does. -/
namespace Mi
open PySem PySem.Spec PyProof.Rows L2

section
variable {T : Tab} {CA : Str → Addr} {N : List Str} {sc : Scope} {C : CallF} {X : Cx} {W : WX} {xi : Option (Nat × Addr × Addr)} {ρ ρ1 : Rho} {me : Env} {mh mh1 : MH} {σ : L2.St} {H H1 : Hp}
variable {a b c : ME} {ea eb ec : Expr} {pos : Pos}
theorem ckEs_len : ∀ {as : MEs} {es : List Expr}, ckEs T N sc as es = true → as.len = es.length
  | .nil, [], _ => rfl
  | .cons _ as, _ :: es, h => by
    unfold ckEs at h
    rw [Bool.and_eq_true] at h
    show as.len + 1 = es.length + 1
    rw [ckEs_len h.2]
  | .nil, _ :: _, h => by unfold ckEs at h; cases h
  | .cons _ _, [], h => by unfold ckEs at h; cases h
theorem ckK_len : ∀ {as : MEs} {es : List Keyword}, ckK T N sc as es = true → as.len = es.length
  | .nil, [], _ => rfl
  | .cons _ as, ⟨_, _, _⟩ :: es, h => by
    unfold ckK at h
    rw [Bool.and_eq_true] at h
    show as.len + 1 = es.length + 1
    rw [ckK_len h.2]
  | .nil, _ :: _, h => by unfold ckK at h; cases h
  | .cons _ _, [], h => by unfold ckK at h; cases h
theorem kwNames_len : ∀ {kws : List Keyword} {ks : List Str}, kwNames kws ks = true → kws.length = ks.length
  | [], [], _ => rfl
  | ⟨some n, e, p⟩ :: r, k :: ks, h => by
    have h' : (decide (n = k) && kwNames r ks) = true := h
    rw [Bool.and_eq_true] at h'
    rw [List.length_cons, List.length_cons, kwNames_len h'.2]
  | ⟨none, _, _⟩ :: _, _ :: _, h => by cases h
  | ⟨none, _, _⟩ :: _, [], h => by cases h
  | ⟨some _, _, _⟩ :: _, [], h => by cases h
  | [], _ :: _, h => by cases h
theorem tEs_nil {es : List Expr} {as : MEs} (hl : as.len = es.length) (he : es = []) (σ : L2.St) (H : Hp) (Q : List V → Hp → Prop) (h : tEs T CA C X W xi as σ H Q) : Q [] H := by
  subst he
  cases as with
  | nil =>
    obtain ⟨ρ, me, mh, at_, h⟩ := h
    unfold evEs at h
    exact Aft.now (z := ([] : List MV)) h at_.rh ⟨.nil, rfl⟩
  | cons a as => cases hl

/-- f(..) -/
theorem pe_calls {as bs : MEs} {x f : Str} {p : Pos} {es : List Expr} {kws : List Keyword} {ks : List Str} {pm : List Nat} {fi : FnI} (ct : Ct T CA N sc C X W xi) (hx : x = f) (hg : glb sc x = true) (hf : T.fn f = some fi) (hp : (es.length, ks, pm) ∈ fi.pats)
    (hpm : ∀ i ∈ pm, i < ks.length) (hks : kwNames kws ks = true) (hn : es.all noStar = true) (hl : as.len = es.length) (hl2 : bs.len = kws.length) (ha : PA X es (tEs T CA C X W xi as)) (hb : PK X kws (tEs T CA C X W xi bs)) :
    PE X (.Call (.Name x p) es kws pos) (tE T CA C X W xi (.call f as ks bs pm)) := by
  subst hx
  obtain ⟨g1, g2, g3⟩ := glb_of ct.g hg
  refine ⟨fun pins s σ H Q I ⟨ρ, me, mh, at_, h⟩ => ?_⟩
  unfold evE at h
  cases hcm : X.calm with
  | true =>
    obtain ⟨k, hr, cs⟩ := ct.cl hcm
    obtain ⟨g, hm, hk, F⟩ := cs.fn x fi hf
    refine (pe_cal (r := rFn CA C X W fi ks pm) hn hks ha (fun e σ H Q q => tEs_nil hl e σ H Q q) hb g1 hm hk (cal_fn F (hr.mono (Nat.le_succ _)) ct.tk) g2).run pins s σ H Q I ?_
    refine ⟨ρ, me, mh, at_, h.bnd.imp fun vs H1 ⟨ρ1, mh1, ms, e1, r1, q1, h1⟩ => ⟨ρ1, me, mh1, at_.to e1 r1, h1.bnd.imp fun zs H2 ⟨ρ2, mh2, ns, e2, r2, q2, h2⟩ => ?_⟩⟩
    unfold callM at h2
    rw [hf] at h2
    simp only at h2
    cases e : argsOf fi.np ms ns pm with
    | none => rw [e] at h2; exact h2.elim
    | some as' =>
      rw [e] at h2
      have l1 : vs.length = es.length := by rw [← hl, ← q1.2, q1.1.length]
      have l2 : zs.length = ks.length := by rw [← kwNames_len hks, ← hl2, ← q2.2, q2.1.length]
      exact ⟨ρ2, mh2, ms, ns, as', q1.1.mono e2, q2.1, r2, e, by rw [l1]; exact hp, hpm, l2, h2⟩
  | false =>
    cases ee : me.ex with
    | none => exact absurd (at_.cm (by rw [ee]; rfl)) (by rw [hcm]; decide)
    | some q0 =>
    obtain ⟨j0, n0⟩ := q0
    obtain ⟨a0, d0, hxi, _⟩ := at_.rs.ex j0 n0 ee
    obtain ⟨oe, cc, vs0, hpn, hz, hdt, hh, xf, hno⟩ := (ct.xi j0 a0 d0 hxi).ex
    have hot : HotP T CA X.K X.A (a0, oe) d0 := ⟨⟨hh, vs0, hdt, hz.2.2 vs0 hdt⟩, cc, vs0, hz, hdt, xf, hno⟩
    obtain ⟨g, hm, hk, F0⟩ := ct.hc x fi hf
    obtain ⟨kk, rm, F⟩ : ∃ kk, RMH kk X.A ∧ FnRH T CA C kk X g fi := by
      have no : C = noCall → ∀ kk, FnRH T CA C kk X g fi := fun z kk => by
        obtain ⟨fd, ps, pt, _⟩ := F0.ex
        exact ⟨fd, ps, pt, by rw [z]; exact fnmh_no⟩
      rcases ct.rh with r | ⟨z, r, _⟩
      · rcases ct.ch hcm with z | z
        · exact ⟨2, r, no z 2⟩
        · exact ⟨2, r, by rw [z]; exact F0⟩
      · exact ⟨1, r, no z 1⟩
    refine (pe_cal (r := rFn CA C X W fi ks pm) hn hks ha (fun e σ H Q q => tEs_nil hl e σ H Q q) hb g1 hm hk (cal_fnH F rm hot hpn ct.tk) g2).run pins s σ H Q I ?_
    refine ⟨ρ, me, mh, at_, h.bnd.imp fun vs H1 ⟨ρ1, mh1, ms, e1, r1, q1, h1⟩ => ⟨ρ1, me, mh1, at_.to e1 r1, h1.bnd.imp fun zs H2 ⟨ρ2, mh2, ns, e2, r2, q2, h2⟩ => ?_⟩⟩
    unfold callM at h2
    rw [hf] at h2
    simp only at h2
    cases e : argsOf fi.np ms ns pm with
    | none => rw [e] at h2; exact h2.elim
    | some as' =>
      rw [e] at h2
      have l1 : vs.length = es.length := by rw [← hl, ← q1.2, q1.1.length]
      have l2 : zs.length = ks.length := by rw [← kwNames_len hks, ← hl2, ← q2.2, q2.1.length]
      exact ⟨ρ2, mh2, ms, ns, as', q1.1.mono e2, q2.1, r2, e, by rw [l1]; exact hp, hpm, l2, h2⟩
/-- C(..) -/
theorem pe_mks {as : MEs} {x cn : Str} {p : Pos} {es : List Expr} {fi : FnI} (ct : Ct T CA N sc C X W xi) (hx : x = cn) (hg : glb sc x = true) (ho : T.own cn = true) (hf : T.me cn "__init__" = some fi) (hp : (fi.np, [], []) ∈ fi.pats)
    (hn : es.all noStar = true) (hl : as.len = es.length) (ha : PA X es (tEs T CA C X W xi as)) : PE X (.Call (.Name x p) es [] pos) (tE T CA C X W xi (.mk cn as)) := by
  subst hx
  obtain ⟨g1, g2, g3⟩ := glb_of ct.g hg
  refine ⟨fun pins s σ H Q I ⟨ρ, me, mh, at_, h⟩ => ?_⟩
  unfold evE at h
  by_cases hc : me.ex.isSome = true
  · rw [if_pos hc] at h; exact h.elim
  · rw [if_neg hc] at h
    obtain ⟨k, hr, cs⟩ := ct.cl (at_.cm (by simpa using hc))
    obtain ⟨g, M, F⟩ := cs.mkc x fi hf
    refine (pe_cal (ks := []) (r := rMk T CA C X W x) hn rfl ha (fun e σ H Q q => tEs_nil hl e σ H Q q) pk_nil g1 (ct.g.st.cls x ho) M.kp (cal_mk hf hp M F hr ct.tk) g2).run pins s σ H Q I ?_
    exact ⟨ρ, me, mh, at_, h.bnd.imp fun vs H1 ⟨ρ1, mh1, ms, e1, r1, q1, h1⟩ => ⟨ρ1, mh1, ms, q1.1, r1, rfl, h1⟩⟩
/-- o.m(..) -/
theorem pe_meths {as bs : MEs} {m : Str} {ap : Pos} {es : List Expr} {kws : List Keyword} {ks : List Str} {pm : List Nat} (ct : Ct T CA N sc C X W xi) (hr : plainRecv ea = true) (hp : T.mp m (es.length + 1, ks, pm) = true)
    (hpm : ∀ i ∈ pm, i < ks.length) (hks : kwNames kws ks = true) (hn : es.all noStar = true) (hl : as.len = es.length) (hl2 : bs.len = kws.length) (h29 : es.length + kws.length < 29) (hli : (ap.endLine == pos.line) = true)
    (hop : PE X ea (tE T CA C X W xi a)) (ha : PA X es (tEs T CA C X W xi as)) (hb : PK X kws (tEs T CA C X W xi bs)) : PE X (.Call (.Attribute ea m ap) es kws pos) (tE T CA C X W xi (.meth a m as ks bs pm)) := by
  refine ⟨fun pins s σ H Q I ⟨ρ, me, mh, at_, h⟩ => ?_⟩
  unfold evE at h
  by_cases hc : me.ex.isSome = true
  · rw [if_pos hc] at h; exact h.elim
  · rw [if_neg hc] at h
    obtain ⟨k, hrm, cs⟩ := ct.cl (at_.cm (by simpa using hc))
    refine (pe_mth (r := fun g vs zs σ H Q => ∃ fi, FnR CA C k X g fi ∧ rFn CA C X W fi ks pm vs zs σ H Q) hr hn hks h29 hli hop ha (fun e σ H Q q => tEs_nil hl e σ H Q q) hb
      (fun g _ pins s σ H us ws vs zs Q I r1 r2 q => by
        obtain ⟨fi, F, q⟩ := q
        exact cal_fn F (hrm.mono (Nat.le_succ _)) ct.tk pins s σ H us ws vs zs Q I r1 r2 q)).run pins s σ H Q I ?_
    refine ⟨ρ, me, mh, at_, h.bnd.imp fun u H1 ⟨ρ1, mh1, x, e1, r1, q1, h1⟩ => ?_⟩
    cases q1 with
    | @ref n pa q =>
      unfold methM at h1
      simp only at h1
      cases g : mh1.get n with
      | none => rw [g] at h1; exact h1.elim
      | some o =>
        rw [g] at h1
        cases o <;> try exact h1.elim
        rename_i cn fs
        simp only at h1
        cases l : fs.lookup m with
        | some z => rw [l] at h1; exact h1.elim
        | none =>
          rw [l] at h1
          cases hme : T.me cn m with
          | none => rw [hme] at h1; exact h1.elim
          | some fi =>
            rw [hme] at h1
            simp only at h1
            obtain ⟨dx, gs, ho, hfs⟩ := r1.at g q
            obtain ⟨gf, hcl, hmt, F⟩ := cs.me cn m fi hme
            refine ⟨pa, CA cn, dx, gs, gf, rfl, ho, hcl, hmt, RF.lookup_none hfs l, ?_⟩
            refine ⟨ρ1, me, mh1, at_.to e1 r1, h1.bnd.imp fun vs H2 ⟨ρ2, mh2, ms, e2, r2, q2, h2⟩ => ⟨ρ2, me, mh2, (at_.to e1 r1).to e2 r2, h2.bnd.imp fun zs H3 ⟨ρ3, mh3, ns, e3, r3, q3, h3⟩ => ?_⟩⟩
            cases e : argsOf fi.np (.ref n :: ms) ns pm with
            | none => rw [e] at h3; exact h3.elim
            | some as' =>
              rw [e] at h3
              have l1 : vs.length = es.length := by rw [← hl, ← q2.2, q2.1.length]
              have l2 : zs.length = ks.length := by rw [← kwNames_len hks, ← hl2, ← q3.2, q3.1.length]
              have hnp : (vs.length + 1) + ks.length = fi.np := by
                unfold argsOf at e
                simp only at e
                split at e
                · rename_i hh
                  have := hh.2.1
                  rw [List.length_cons, q2.1.length, q3.1.length, l2] at this
                  exact this
                · cases e
              exact ⟨fi, F, ρ3, mh3, .ref n :: ms, ns, as', .cons (.ref ((e2.trans e3).map _ _ q)) (q2.1.mono e3), q3.1, r3, e,
                cs.mp cn m fi (vs.length + 1, ks, pm) hme (by rw [l1]; exact hp) hnp, hpm, l2, h3⟩
    | _ => exact h1.elim
/-- o.append(v) -/
theorem pe_apps {ap : Pos} (hr : plainRecv ea = true) (hn : noStar eb = true) (hli : (ap.endLine == pos.line) = true) (hop : PE X ea (tE T CA C X W xi a)) (hb : PE X eb (tE T CA C X W xi b)) : PE X (.Call (.Attribute ea "append" ap) [eb] [] pos) (tE T CA C X W xi (.app a b)) :=
  PE.to (pe_bm PySem.F.plainAttrs_list PySem.F.slot_list_append PySem.F.type_list_append (r := rAppend) mt_append hop (pa_cons hb pa_nil (star_cons hn)) (base_plain hr) (by
      rw [star_cons hn]; rfl) hli (star_cons hn) rfl) fun σ H Q ⟨ρ, me, mh, at_, h⟩ => by
    unfold evE at h
    refine ⟨ρ, me, mh, at_, h.bnd.imp fun u H1 ⟨ρ1, mh1, x, e1, r1, q1, h1⟩ => ?_⟩
    cases q1 with
    | @ref n pa q =>
      have h1' : Aft X.K CA (RV CA) (fun c d H' => W c d σ H') ρ1 H1 (M.bind (isLst (.ref n)) (fun _ => M.bind (evE T C me b) fun v => appM (.ref n) v) mh1) Q := h1
      unfold M.bind isLst at h1'
      simp only at h1'
      cases g : mh1.get n with
      | none => rw [g] at h1'; exact h1'.elim
      | some o =>
        rw [g] at h1'
        cases o <;> try exact h1'.elim
        rename_i xs
        have h2 : Aft X.K CA (RV CA) (fun c d H' => W c d σ H') ρ1 H1 (M.bind (evE T C me b) (fun v => appM (.ref n) v) mh1) Q := h1'
        obtain ⟨vs, ho, rs⟩ := r1.at g q
        refine ⟨.inl ⟨rfl, vs, SqL.of ho⟩, ρ1, me, mh1, at_.to e1 r1, h2.bnd.imp fun v H2 ⟨ρ2, mh2, y, e2, r2, q2, h3⟩ => ?_⟩
        have q' := e2.map _ _ q
        unfold appM at h3
        simp only at h3
        cases g2 : mh2.get n with
        | none => rw [g2] at h3; exact h3.elim
        | some o2 =>
          rw [g2] at h3
          cases o2 <;> try exact h3.elim
          rename_i ys
          simp only at h3
          by_cases hz : ys.length < sizeLine
          · rw [if_pos hz] at h3
            obtain ⟨ws, ho2, rs2⟩ := r2.at g2 q'
            obtain ⟨r3, e3⟩ := r2.write (o' := .lst (ys ++ [y])) (u := .lst (ws ++ [v])) g2 q' rfl rfl fun H' eq ex => ⟨_, by rw [eq, upd_same], (rs2.append (.cons q2 .nil)).mono ex⟩
            exact ⟨pa, ws, v, rfl, rfl, ho2, by rw [← rs2.length]; exact hz, h3 ρ2 _ .non e3 r3 .non⟩
          · rw [if_neg hz] at h3; exact h3.elim
    | _ => exact h1.elim
/-- o.f -/
theorem pe_flds {f : Str} (ct : Ct T CA N sc C X W xi) (hr : plainRecv ea = true) (hop : PE X ea (tE T CA C X W xi a)) : PE X (.Attribute ea f pos) (tE T CA C X W xi (.fld a f)) :=
  PE.to (pe_fld hop (base_plain hr)) fun σ H Q ⟨ρ, me, mh, at_, h⟩ => by
    unfold evE at h
    refine ⟨ρ, me, mh, at_, h.bnd.imp fun u H1 ⟨ρ1, mh1, x, e1, r1, q1, h1⟩ => ?_⟩
    cases q1 with
    | @ref n pa q =>
      unfold fldM at h1
      simp only at h1
      cases g : mh1.get n with
      | none => rw [g] at h1; exact h1.elim
      | some o =>
        rw [g] at h1
        cases o <;> try exact h1.elim
        rename_i cn fs
        simp only at h1
        by_cases hz : T.noat cn f = true
        · rw [if_pos hz] at h1
          cases l : fs.lookup f with
          | none => rw [l] at h1; exact h1.elim
          | some w =>
            rw [l] at h1
            obtain ⟨dx, gs, ho, hfs⟩ := r1.at g q
            obtain ⟨z, h3, h4⟩ := RF.lookup hfs l
            obtain ⟨n1, n2⟩ := ct.g.st.noat cn f hz
            exact ⟨pa, CA cn, dx, gs, z, rfl, ho, n2, n1, h3, h1.now r1 h4⟩
        · rw [if_neg hz] at h1; exact h1.elim
    | _ => exact h1.elim

/-! ### iterators -/
def RIt (K : PySem.W.Frag) (CA : Str → Addr) (ρ : Rho) (H : Hp) : It → L2.It → Prop
  | .lst n, J => ∃ a, ρ n = some a ∧ J = Itl K a
  | .tup xs, J => ∃ a vs, H a = some (.tup vs) ∧ RVs CA ρ H xs vs ∧ J = Itt K a
  | .rng lo n, J => J = Itr lo n
  | .enum n, J => ∃ a, ρ n = some a ∧ J = Ite K a
  | .enumT xs, J => ∃ a vs, H a = some (.tup vs) ∧ RVs CA ρ H xs vs ∧ J = IteT K a
def tI (T : Tab) (CA : Str → Addr) (C : CallF) (X : Cx) (W : WX) (xi : Option (Nat × Addr × Addr)) (m : MI) : TI := fun σ H R => ∃ ρ me mh, At CA X xi ρ me mh σ H ∧ Aft X.K CA (RIt X.K CA) (fun c d H' => W c d σ H') ρ H (evI T C me m mh) R
theorem PI.to {tg e : Expr} {t t' : TI} (h : PI X tg e t) (k : ∀ σ H R, t' σ H R → t σ H R) : PI X tg e t' := ⟨fun pins s σ H Q I q => h.run pins s σ H Q I (k σ H Q q)⟩
/-- a list or a tuple -/
theorem pi_seq {tg l : Expr} {tl : TE} (hl : PE X l tl) : PI X tg l (fun σ H R => tl σ H fun x H1 => ∃ a, x = .ref a ∧ (((∃ xs, SqL X.K H1 a xs) ∧ R (Itl X.K a) H1) ∨ ((∃ xs, SqT X.K H1 a xs) ∧ R (Itt X.K a) H1))) := by
  refine ⟨fun pins s σ H R I h => thn (hl.run pins s σ H _ I h) fun v s1 ⟨x, H1, I1, r1, a, e, q1⟩ => ?_⟩
  subst e
  cases r1
  have fresh : ∀ b ∈ [s1.heap.objs.size], FpOk X pins H1 b := fun b hb => by
    obtain rfl : b = s1.heap.objs.size := by simpa using hb
    exact I1.fpOk (Nat.le_refl _) (I1.hok.fresh (Nat.le_refl _))
  rcases q1 with ⟨⟨xs, hq⟩, q⟩ | ⟨⟨xs, hq⟩, q⟩
  · obtain ⟨its, rv, p, hz⟩ := I1.list hq
    exact wpAny_pyIter_list p.isList ⟨_, [s1.heap.objs.size], _, _, H1, rfl, I1.kept (t' := s1.toks) (fun b o e => Heap.get?_push_of_some _ e), turn_list a _, ⟨_, Heap.get?_push_size _ rfl, rfl, rfl⟩, fresh, q⟩
  · obtain ⟨its, rv, p, hz⟩ := I1.tuple hq
    exact wpAny_pyIter_tuple (show s1.heap.IsTuple a its.toArray from p) ⟨_, [s1.heap.objs.size], _, _, H1, rfl, I1.kept (t' := s1.toks) (fun b o e => Heap.get?_push_of_some _ e), turn_tuple a _, ⟨_, Heap.get?_push_size _ rfl, rfl, rfl⟩, fresh, q⟩
theorem pi_ofs {tg : Expr} (ha : PE X ea (tE T CA C X W xi a)) : PI X tg ea (tI T CA C X W xi (.of a)) :=
  PI.to (pi_seq ha) fun σ H R ⟨ρ, me, mh, at_, h⟩ => by
    unfold evI at h
    refine ⟨ρ, me, mh, at_, h.bnd.imp fun u H1 ⟨ρ1, mh1, x, e1, r1, q1, h1⟩ => ?_⟩
    cases q1 with
    | @ref n pa q =>
      unfold itOf at h1
      simp only at h1
      cases g : asList mh1 (.ref n) with
      | none => rw [g] at h1; exact h1.elim
      | some xs =>
        rw [g] at h1
        obtain ⟨vs, h3, h4⟩ := seqL_of r1 g q
        exact ⟨pa, rfl, .inl ⟨⟨vs, h3⟩, Aft.now (z := It.lst n) h1 r1 ⟨pa, q, rfl⟩⟩⟩
    | @tup xs pa vs q rs => exact ⟨pa, rfl, .inr ⟨⟨vs, SqT.of q⟩, Aft.now (z := It.tup xs) h1 r1 ⟨pa, vs, q, rs, rfl⟩⟩⟩
    | _ => exact h1.elim
theorem pi_rng1s {tg : Expr} {x : Str} {p : Pos} (ct : Ct T CA N sc C X W xi) (hx : x = "range") (hg : glb sc x = true) (hf : T.free x = true) (hn : noStar ea = true) (ha : PE X ea (tE T CA C X W xi a)) : PI X tg (.Call (.Name x p) [ea] [] pos) (tI T CA C X W xi (.rng1 a)) := by
  subst hx
  obtain ⟨g1, _, _⟩ := glb_of ct.g hg
  refine PI.to (pi_range1 g1 (ct.g.st.free _ hf) (pa_cons ha pa_nil (star_cons hn)) (star_cons hn)) fun σ H R ⟨ρ, me, mh, at_, h⟩ => ?_
  unfold evI at h
  refine ⟨ρ, me, mh, at_, h.bnd.imp fun u H1 ⟨ρ1, mh1, x, e1, r1, q1, h1⟩ => ?_⟩
  cases q1 with
  | int j =>
    simp only at h1
    by_cases hz : rngOk j
    · rw [if_pos hz] at h1
      exact ⟨j, rfl, hz.1, hz.2, Aft.now (z := It.rng 0 j.toNat) h1 r1 rfl⟩
    · rw [if_neg hz] at h1; exact h1.elim
  | _ => exact h1.elim
theorem pi_rng2s {tg : Expr} {x : Str} {p : Pos} (ct : Ct T CA N sc C X W xi) (hx : x = "range") (hg : glb sc x = true) (hf : T.free x = true) (hn : noStar ea = true) (hn2 : noStar eb = true) (ha : PE X ea (tE T CA C X W xi a)) (hb : PE X eb (tE T CA C X W xi b)) :
    PI X tg (.Call (.Name x p) [ea, eb] [] pos) (tI T CA C X W xi (.rng2 a b)) := by
  subst hx
  obtain ⟨g1, _, _⟩ := glb_of ct.g hg
  refine PI.to (pi_range2 g1 (ct.g.st.free _ hf) (pa_cons ha (pa_cons hb pa_nil (star_cons hn2)) (star_cons hn)) (by rw [star_cons hn, star_cons hn2]; rfl) (star_cons hn2)) fun σ H R ⟨ρ, me, mh, at_, h⟩ => ?_
  unfold evI at h
  refine ⟨ρ, me, mh, at_, h.bnd.imp fun u H1 ⟨ρ1, mh1, x, e1, r1, q1, h1⟩ => ⟨ρ1, me, mh1, at_.to e1 r1, h1.bnd.imp fun v H2 ⟨ρ2, mh2, y, e2, r2, q2, h2⟩ => ?_⟩⟩
  cases q1 with
  | int i =>
    cases q2 with
    | int j =>
      simp only at h2
      by_cases hz : rngOk i ∧ rngOk j
      · rw [if_pos hz] at h2
        exact ⟨i, j, rfl, ⟨hz.1.1, hz.1.2, hz.2.1, hz.2.2⟩, Aft.now (z := It.rng i (j - i).toNat) h2 r2 rfl⟩
      · rw [if_neg hz] at h2; exact h2.elim
    | _ => exact h2.elim
  | _ => exact h2.elim
theorem pi_enums {tel : List Expr} {tk : Nat} {tp : Pos} {x : Str} {p : Pos} (ct : Ct T CA N sc C X W xi) (hx : x = "enumerate") (hg : glb sc x = true) (hf : T.free x = true) (hn : noStar ea = true) (ha : PE X ea (tE T CA C X W xi a)) :
    PI X (.Tuple tel tk tp) (.Call (.Name x p) [ea] [] pos) (tI T CA C X W xi (.enum a)) := by
  subst hx
  obtain ⟨g1, _, _⟩ := glb_of ct.g hg
  refine PI.to (pi_enumT g1 (ct.g.st.free _ hf) (pa_cons ha pa_nil (star_cons hn)) (star_cons hn)) fun σ H R ⟨ρ, me, mh, at_, h⟩ => ?_
  unfold evI at h
  refine ⟨ρ, me, mh, at_, h.bnd.imp fun u H1 ⟨ρ1, mh1, x, e1, r1, q1, h1⟩ => ?_⟩
  cases q1 with
  | @ref n pa q =>
    simp only at h1
    cases g : asList mh1 (.ref n) with
    | none => rw [g] at h1; exact h1.elim
    | some xs =>
      rw [g] at h1
      obtain ⟨vs, h3, h4⟩ := seqL_of r1 g q
      exact ⟨pa, rfl, .inl ⟨vs, h3, Aft.now (z := It.enum n) h1 r1 ⟨pa, q, rfl⟩⟩⟩
  | @tup xs pa vs q rs => exact ⟨pa, rfl, .inr ⟨vs, SqT.of q, Aft.now (z := It.enumT xs) h1 r1 ⟨pa, vs, q, rs, rfl⟩⟩⟩
  | _ => exact h1.elim
end
end Mi
end

section
/-! Mini, part 9: comprehensions; the theorem about expressions. -/
namespace Mi
open PySem PySem.Spec PyProof.Rows L2

theorem bind_assoc {α β γ : Type} (x : M α) (f : α → M β) (g : β → M γ) : M.bind (M.bind x f) g = M.bind x fun a => M.bind (f a) g := by
  funext h
  unfold M.bind
  cases x h <;> rfl
theorem quiet_bind {α β : Type} (x : M α) (f : α → M β) : quiet (M.bind x f) = M.bind (quiet x) fun a => quiet (f a) := by
  funext h
  unfold M.bind quiet
  cases e : x h <;> simp only [e]
def WF : WX := fun _ _ _ _ => False

section
variable {α β γ δ : Type} {K : PySem.W.Frag} {CA : Str → Addr} {R : Rho → Hp → α → β → Prop} {R' : Rho → Hp → γ → δ → Prop} {W : Value → Option Addr → Hp → Prop} {ρ : Rho} {H : Hp} {Q : β → Hp → Prop} {mh : MH}
/-- x, from which nothing may leave, then f -/
theorem Aft.bndq {x : M γ} {f : γ → M α} {σ : L2.St} (h : Aft K CA R W ρ H (M.bind (quiet x) f mh) Q) :
    Aft K CA R' (fun c d H' => WF c d σ H') ρ H (x mh) (fun b H1 => ∃ ρ1 mh1 a, Ext ρ H ρ1 H1 ∧ RH K CA ρ1 mh1 H1 ∧ R' ρ1 H1 a b ∧ Aft K CA R W ρ1 H1 (f a mh1) Q) := by
  unfold M.bind quiet at h
  cases e : x mh with
  | ok a m =>
    rw [e] at h
    exact fun ρ1 H1 b e1 r1 q => ⟨ρ1, m, a, e1, r1, q, Aft.ext h e1⟩
  | exc c n m => rw [e] at h; exact h.elim
  | stuck => rw [e] at h; exact h.elim
end

/-! ### slots wiped -/
theorem wipe_setN {σ : L2.St} {i : Nat} {y : Option V} : ∀ {vs : List Nat}, i ∉ vs → wipe (σ.set i y) vs = (wipe σ vs).set i y
  | [], _ => rfl
  | v :: vs, h => by
    have h1 : i ≠ v := fun e => h (by rw [e]; exact List.mem_cons_self)
    have h2 : i ∉ vs := fun e => h (List.mem_cons_of_mem _ e)
    show (wipe (σ.set i y) vs).set v none = ((wipe σ vs).set v none).set i y
    rw [wipe_setN h2]
    exact List.set_comm _ _ h1
theorem wipe_set {σ : L2.St} {i : Nat} {y : Option V} : ∀ {vs : List Nat}, i ∈ vs → wipe (σ.set i y) vs = wipe σ vs
  | v :: vs, h => by
    show (wipe (σ.set i y) vs).set v none = (wipe σ vs).set v none
    by_cases h2 : i ∈ vs
    · rw [wipe_set h2]
    · have e : i = v := by
        rcases List.mem_cons.mp h with e | e
        · exact e
        · exact absurd e h2
      subst e
      rw [wipe_setN h2, List.set_set]
theorem wipeM_get {sl : List (Option MV)} {i : Nat} {v : MV} : ∀ {vs : List Nat}, (vs.foldr (fun v (s : List (Option MV)) => s.set v none) sl)[i]? = some (some v) → sl[i]? = some (some v) ∧ i ∉ vs
  | [], h => ⟨h, by simp⟩
  | w :: vs, h => by
    rw [List.foldr_cons, List.getElem?_set] at h
    by_cases e : w = i
    · rw [if_pos e] at h; split at h <;> cases h
    · rw [if_neg e] at h
      obtain ⟨h1, h2⟩ := wipeM_get h
      exact ⟨h1, fun z => by rcases List.mem_cons.mp z with z | z; exact e z.symm; exact h2 z⟩
theorem wipeM_len {sl : List (Option MV)} : ∀ {vs : List Nat}, (vs.foldr (fun v (s : List (Option MV)) => s.set v none) sl).length = sl.length
  | [] => rfl
  | w :: vs => by rw [List.foldr_cons, List.length_set, wipeM_len]

section
variable {T : Tab} {CA : Str → Addr} {N : List Str} {sc : Scope} {C : CallF} {X : Cx} {W : WX} {xi : Option (Nat × Addr × Addr)} {ρ ρ1 : Rho} {me : Env} {mh mh1 : MH} {σ : L2.St} {H H1 : Hp}
variable {a b c : ME} {ea eb ec : Expr} {pos : Pos}
theorem RS.wipe (r : RS CA xi ρ H me σ) (he : me.ex = none) (vs : List Nat) : RS CA none ρ H (wipeM me vs) (L2.wipe σ vs) where
  len := by
    show (vs.foldr (fun v (s : List (Option MV)) => s.set v none) me.sl).length = _
    rw [wipeM_len, wipe_length]; exact r.len
  sl := fun i v h => by
    obtain ⟨h1, h2⟩ := wipeM_get h
    obtain ⟨x, h3, h4⟩ := r.sl i v h1
    exact ⟨x, by rw [wipe_out h2]; exact h3, h4⟩
  ex := fun j n h => by
    have h' : me.ex = some (j, n) := h
    rw [he] at h'; cases h'
theorem RS.set {i : Nat} {x : MV} {v : V} (r : RS CA xi ρ H me σ) (he : (me.ex.map (·.1)) ≠ some i) (rv : RV CA ρ H x v) : RS CA xi ρ H (me.set i x) (σ.set i (some v)) where
  len := by show (me.sl.set i (some x)).length = _; rw [List.length_set, List.length_set]; exact r.len
  sl := fun j w h => by
    have h' : (me.sl.set i (some x))[j]? = some (some w) := h
    rw [List.getElem?_set] at h'
    by_cases e : i = j
    · rw [if_pos e] at h'
      split at h'
      · rename_i hl
        cases h'
        refine ⟨v, ?_, rv⟩
        rw [← e, List.getElem?_set_self (by rw [← r.len]; exact e ▸ hl)]
      · cases h'
    · rw [if_neg e] at h'
      obtain ⟨z, h1, h2⟩ := r.sl j w h'
      exact ⟨z, by rw [List.getElem?_set_ne e]; exact h1, h2⟩
  ex := fun j n h => by
    have h' : me.ex = some (j, n) := h
    obtain ⟨a, d, h1, h2⟩ := r.ex j n h'
    refine ⟨a, d, h1, fun l => ?_⟩
    have l' : j < me.sl.length := by
      have : j < (me.sl.set i (some x)).length := l
      simpa using this
    refine ⟨(h2 l').1, ?_⟩
    rw [List.getElem?_set_ne]
    · exact (h2 l').2
    · intro e
      apply he
      rw [h', e]; rfl

/-! ### targets -/
/-- an item is stored to a target -/
def gCT (CA : Str → Addr) (X : Cx) (xi : Option (Nat × Addr × Addr)) (t : CT) : TG := fun v σ H Q => ∃ ρ me mh x me', At CA X xi ρ me mh σ H ∧ me.ex = none ∧ RV CA ρ H x v ∧ setT mh me x t = some me' ∧
  ∀ σ', RS CA xi ρ H me' σ' → me'.ex = none → (∀ vs, ctIn vs t = true → L2.wipe σ' vs = L2.wipe σ vs) → Q σ' H
theorem ckNm_of {i : Nat} {e : Expr} (h : ckNm N sc i e = true) : ∃ x p, e = .Name x p ∧ N[i]? = some x ∧ (sc.names.lookup x = some .local ∨ sc.names.lookup x = some .cell) := by
  unfold ckNm at h
  split at h
  · rename_i x p
    unfold loc at h
    simp only [Bool.and_eq_true, Bool.or_eq_true, decide_eq_true_eq, beq_iff_eq] at h
    exact ⟨x, p, rfl, h.1, h.2⟩
  · cases h
theorem loc_of (g : Gd T CA N sc X) {x : Str} (h : sc.names.lookup x = some .local ∨ sc.names.lookup x = some .cell) : Loc X.env.scope x ∧ (sc.names.lookup x = some .local → X.env.scope.names.lookup x = some .local) := by
  have key : ∀ k, k ≠ .free → sc.names.lookup x = some k → X.env.scope.names.lookup x = some k := fun k hk q => by
    rcases g.sc x _ q with z | ⟨z, _⟩
    · exact z
    · exact absurd z hk
  refine ⟨?_, key _ (by decide)⟩
  rcases h with h | h
  · exact .inl (key _ (by decide) h)
  · exact .inr (key _ (by decide) h)
/-- names that a cell holds may be stored here -/
abbrev Fns (sc : Scope) (X : Cx) : Prop := ∀ x, sc.names.lookup x = some .cell → X.fn x = true
theorem pg_nm {i : Nat} {e : Expr} (g : Gd T CA N sc X) (hf : Fns sc X) (h : ckNm N sc i e = true) : PG X e (gName i) := by
  obtain ⟨x, p, rfl, h1, h2⟩ := ckNm_of h
  obtain ⟨h3, h4⟩ := loc_of g h2
  refine pg_name g.nd (by rw [g.nm]; exact h1) h3 ?_
  rcases h2 with z | z
  · exact .inr (h4 z)
  · exact .inl (hf x z)
/-- the slots is, one after another -/
def gNms : List Nat → TGs
  | [] => gNil
  | i :: is => gCons (gName i) (gNms is)
theorem asEach {x : Str} {p : Pos} {es : List Expr} {env : PySem.Env} : assignEach (.Name x p :: es) env = (false, assign (.Name x p) env) :: assignEach es env := rfl
theorem pgs_nms (g : Gd T CA N sc X) (hf : Fns sc X) : ∀ {is : List Nat} {es : List Expr}, ckNms N sc is es = true → PGs X es (gNms is)
  | [], [], _ => pgs_nil
  | i :: is, e :: es, h => by
    unfold ckNms at h
    rw [Bool.and_eq_true] at h
    obtain ⟨x, p, rfl, _, _⟩ := ckNm_of h.1
    exact pgs_cons (pg_nm g hf h.1) (pgs_nms g hf h.2) rfl
  | [], _ :: _, h => by unfold ckNms at h; cases h
  | _ :: _, [], h => by unfold ckNms at h; cases h
theorem nms_len : ∀ {is : List Nat} {es : List Expr} {env : PySem.Env}, ckNms N sc is es = true → (assignEach es env).length = is.length ∧ (assignEach es env).findIdx? (·.1) = none
  | [], [], env, _ => ⟨rfl, rfl⟩
  | i :: is, e :: es, env, h => by
    unfold ckNms at h
    rw [Bool.and_eq_true] at h
    obtain ⟨x, p, rfl, _, _⟩ := ckNm_of h.1
    obtain ⟨l1, l2⟩ := nms_len (env := env) h.2
    rw [asEach]
    refine ⟨by rw [List.length_cons, List.length_cons, l1], ?_⟩
    rw [List.findIdx?_cons]
    simp only [Bool.false_eq_true, if_false, l2, Option.map_none]
  | [], _ :: _, _, h => by unfold ckNms at h; cases h
  | _ :: _, [], _, h => by unfold ckNms at h; cases h
/-- slots set one after another -/
theorem nms_run {xi : Option (Nat × Addr × Addr)} {Q : L2.St → Hp → Prop} : ∀ {is : List Nat} {xs : List MV} {vs : List V} {me : Env} {σ : L2.St}, xs.length = is.length → RS CA xi ρ H me σ → me.ex = none → RVs CA ρ H xs vs →
    (∀ σ', RS CA xi ρ H ((is.zip xs).foldl (fun m p => m.set p.1 p.2) me) σ' → ((is.zip xs).foldl (fun m p => m.set p.1 p.2) me).ex = none → (∀ ws : List Nat, (∀ i ∈ is, i ∈ ws) → L2.wipe σ' ws = L2.wipe σ ws) → Q σ' H) → gNms is vs σ H Q
  | [], [], _, me, σ, _, r, he, .nil, k => ⟨rfl, k σ r he fun _ _ => rfl⟩
  | i :: is, x :: xs, _, me, σ, hl, r, he, .cons rv rs, k => by
    refine ⟨_, _, rfl, ?_⟩
    refine nms_run (me := me.set i x) (by simpa using hl) (r.set (by rw [he]; simp) rv) he rs fun σ' r' e' hw => k σ' r' e' fun ws hws => ?_
    rw [hw ws fun j hj => hws j (List.mem_cons_of_mem _ hj)]
    exact wipe_set (hws i List.mem_cons_self)
  | [], _ :: _, _, _, _, hl, _, _, _, _ => by cases hl
  | _ :: _, [], _, _, _, hl, _, _, _, _ => by cases hl
theorem pg_either {es : List Expr} {k : Nat} {is : List Nat} (g : Gd T CA N sc X) (hf : Fns sc X) (hc : X.calm = true) (h : ckNms N sc is es = true) : PG X (.Tuple es k pos) (fun v σ H Q => gTup X.K is.length (gNms is) v σ H Q ∨ gUnl X.K is.length (gNms is) v σ H Q) := by
  obtain ⟨l1, l2⟩ := nms_len (env := X.env) h
  have P1 : PG X (.Tuple es k pos) (gTup X.K is.length (gNms is)) := pg_tup hc (pgs_nms g hf h) l1 l2
  have P2 : PG X (.Tuple es k pos) (gUnl X.K is.length (gNms is)) := pg_unl hc (pgs_nms g hf h) l1 l2
  refine ⟨fun pins s σ H v u Q I r q => ?_⟩
  rcases q with q | q
  · exact P1.run pins s σ H v u Q I r q
  · exact P2.run pins s σ H v u Q I r q
theorem pg_ct {t : CT} {e : Expr} (g : Gd T CA N sc X) (hf : Fns sc X) (hc : X.calm = true) (h : ckCT N sc t e = true) : PG X e (gCT CA X xi t) := by
  cases t with
  | nm i =>
    have P := pg_nm (i := i) (e := e) g hf h
    refine ⟨fun pins s σ H v u Q I r ⟨ρ, me, mh, x, me', at_, he, rv, es, k⟩ => P.run pins s σ H v u Q I r ?_⟩
    cases es
    exact k _ (at_.rs.set (by rw [he]; simp) rv) he fun vs hv => wipe_set (by simpa [ctIn] using hv)
  | tp is =>
    cases e <;> try (unfold ckCT at h; cases h; done)
    rename_i es kk pp
    have h' : ckNms N sc is es = true := h
    obtain ⟨l1, l2⟩ := nms_len (env := X.env) h'
    have P := pg_either (pos := pp) (k := kk) g hf hc h'
    refine ⟨fun pins s σ H v u Q I r ⟨ρ, me, mh, x, me', at_, he, rv, es, k⟩ => P.run pins s σ H v u Q I r ?_⟩
    unfold setT at es
    simp only at es
    cases e : asSeq mh x with
    | none => rw [e] at es; cases es
    | some xs =>
      rw [e] at es
      simp only at es
      by_cases hl : xs.length = is.length
      · rw [if_pos hl] at es
        cases es
        obtain ⟨p, vs, rfl, sq, rs⟩ := seq_of at_.rh e rv
        have fin := nms_run (Q := Q) hl at_.rs he rs fun σ' r' e' hw => k σ' r' e' fun ws hws => hw ws fun i hi => by
          have hws' : is.all (fun i => ws.contains i) = true := hws
          simpa using List.all_eq_true.mp hws' i hi
        rcases sq with sq | sq
        · exact .inr ⟨p, vs, rfl, sq, by rw [← rs.length]; exact hl, fin⟩
        · exact .inl ⟨p, vs, rfl, sq, by rw [← rs.length]; exact hl, fin⟩
      · rw [if_neg hl] at es; cases es

/-! ### iterators' items -/
theorem it_stop {it : It} {J : L2.It} {i : Nat} (r : RIt X.K CA ρ H it J) (rh : RH X.K CA ρ mh H) (h : it.at mh i = some none) : J.stop i H := by
  cases it with
  | lst n =>
    obtain ⟨a, q, rfl⟩ := r
    obtain ⟨xs, h1, h2⟩ := Option.map_eq_some_iff.mp (show (asList mh (.ref n)).map (fun xs => xs[i]?) = some none from h)
    obtain ⟨vs, h3, h4⟩ := seqL_of rh h1 q
    exact ⟨vs, h3, by rw [← h4.length]; simpa using h2⟩
  | tup xs =>
    obtain ⟨a, vs, q, rs, rfl⟩ := r
    have h' : xs[i]? = none := Option.some.inj h
    exact ⟨vs, SqT.of q, by rw [← rs.length]; simpa using h'⟩
  | rng lo n =>
    cases r
    have h' : (if i < n then some (MV.int (lo + i)) else none) = none := Option.some.inj h
    show n ≤ i
    split at h'
    · cases h'
    · omega
  | enum n =>
    obtain ⟨a, q, rfl⟩ := r
    obtain ⟨xs, h1, h2⟩ := Option.map_eq_some_iff.mp (show (asList mh (.ref n)).map (fun xs => (xs[i]?).map fun x => MV.tup [.int i, x]) = some none from h)
    obtain ⟨vs, h3, h4⟩ := seqL_of rh h1 q
    exact ⟨vs, h3, by rw [← h4.length]; simpa using h2⟩
  | enumT xs =>
    obtain ⟨a, vs, q, rs, rfl⟩ := r
    have h' : (xs[i]?).map (fun x => MV.tup [.int i, x]) = none := Option.some.inj h
    exact ⟨vs, SqT.of q, by rw [← rs.length]; simpa using h'⟩
theorem it_go {it : It} {J : L2.It} {i : Nat} {v : MV} (r : RIt X.K CA ρ H it J) (rh : RH X.K CA ρ mh H) (h : it.at mh i = some (some v)) :
    J.go i H ∧ ∀ x H', J.yld i H x H' → Ext ρ H ρ H' ∧ RH X.K CA ρ mh H' ∧ RV CA ρ H' v x := by
  cases it with
  | lst n =>
    obtain ⟨a, q, rfl⟩ := r
    obtain ⟨xs, h1, h2⟩ := Option.map_eq_some_iff.mp (show (asList mh (.ref n)).map (fun xs => xs[i]?) = some (some v) from h)
    obtain ⟨vs, h3, h4⟩ := seqL_of rh h1 q
    obtain ⟨u, h5, h6⟩ := h4.get h2
    refine ⟨⟨vs, u, h3, h5⟩, fun x H' y => ?_⟩
    obtain ⟨rfl, y⟩ := y
    have := y vs h3
    rw [h5] at this; cases this
    exact ⟨Ext.refl, rh, h6⟩
  | tup xs =>
    obtain ⟨a, vs, q, rs, rfl⟩ := r
    have h' : xs[i]? = some v := Option.some.inj h
    obtain ⟨u, h5, h6⟩ := rs.get h'
    refine ⟨⟨vs, u, SqT.of q, h5⟩, fun x H' y => ?_⟩
    obtain ⟨rfl, y⟩ := y
    have := y vs (SqT.of q)
    rw [h5] at this; cases this
    exact ⟨Ext.refl, rh, h6⟩
  | rng lo n =>
    cases r
    have h' : (if i < n then some (MV.int (lo + i)) else none) = some v := Option.some.inj h
    split at h'
    · rename_i hl
      cases h'
      refine ⟨hl, fun x H' y => ?_⟩
      obtain ⟨rfl, rfl⟩ := y
      exact ⟨Ext.refl, rh, .int _⟩
    · cases h'
  | enum n =>
    obtain ⟨a, q, rfl⟩ := r
    obtain ⟨xs, h1, h2⟩ := Option.map_eq_some_iff.mp (show (asList mh (.ref n)).map (fun xs => (xs[i]?).map fun x => MV.tup [.int i, x]) = some (some v) from h)
    obtain ⟨y, h2a, h2b⟩ := Option.map_eq_some_iff.mp h2
    subst h2b
    obtain ⟨vs, h3, h4⟩ := seqL_of rh h1 q
    obtain ⟨u, h5, h6⟩ := h4.get h2a
    refine ⟨⟨vs, u, h3, h5⟩, fun x H' z => ?_⟩
    obtain ⟨t, w, rfl, ht, rfl, z⟩ := z
    have := z vs h3
    rw [h5] at this; cases this
    obtain ⟨r1, e1⟩ := rh.same (H' := upd H t (.tup [.int (i : Nat), u])) fun c o z => by rw [upd_ne (ne_of_none z ht)]; exact z
    exact ⟨e1, r1, .tup upd_same (.cons (.int _) (.cons (h6.mono e1) .nil))⟩
  | enumT xs =>
    obtain ⟨a, vs, q, rs, rfl⟩ := r
    have h' : (xs[i]?).map (fun x => MV.tup [.int i, x]) = some v := Option.some.inj h
    obtain ⟨y, h2a, h2b⟩ := Option.map_eq_some_iff.mp h'
    subst h2b
    obtain ⟨u, h5, h6⟩ := rs.get h2a
    refine ⟨⟨vs, u, SqT.of q, h5⟩, fun x H' z => ?_⟩
    obtain ⟨t, w, rfl, ht, rfl, z⟩ := z
    have := z vs (SqT.of q)
    rw [h5] at this; cases this
    obtain ⟨r1, e1⟩ := rh.same (H' := upd H t (.tup [.int (i : Nat), u])) fun c o z => by rw [upd_ne (ne_of_none z ht)]; exact z
    exact ⟨e1, r1, .tup upd_same (.cons (.int _) (.cons (h6.mono e1) .nil))⟩
theorem RIt.mono {it : It} {J : L2.It} {ρ' : Rho} {H' : Hp} (r : RIt X.K CA ρ H it J) (e : Ext ρ H ρ' H') : RIt X.K CA ρ' H' it J := by
  cases it with
  | lst n => obtain ⟨a, q, rfl⟩ := r; exact ⟨a, e.map _ _ q, rfl⟩
  | tup xs => obtain ⟨a, vs, q, rs, rfl⟩ := r; exact ⟨a, vs, e.tups _ _ q, rs.mono e, rfl⟩
  | rng lo n => exact r
  | enum n => obtain ⟨a, q, rfl⟩ := r; exact ⟨a, e.map _ _ q, rfl⟩
  | enumT xs => obtain ⟨a, vs, q, rs, rfl⟩ := r; exact ⟨a, vs, e.tups _ _ q, rs.mono e, rfl⟩
end
end Mi
end

section
/-! Mini, part 10: comprehensions; the theorem about expressions. -/
namespace Mi
open PySem PySem.Spec PyProof.Rows L2

section
variable {T : Tab} {CA : Str → Addr} {N : List Str} {sc : Scope} {C : CallF} {X : Cx} {W : WX} {xi : Option (Nat × Addr × Addr)} {ρ ρ1 : Rho} {me : Env} {mh mh1 : MH} {σ : L2.St} {H H1 : Hp}
variable {a b c : ME} {ea eb ec : Expr} {pos : Pos}
theorem map_names {f : Str → NameKind → NameKind} (hf : ∀ n k, f n k = k ∨ (k = .free ∧ f n k = .cell)) {x : Str} {k : NameKind} : ∀ {names : List (Str × NameKind)}, names.lookup x = some k →
    (names.map fun p => (p.1, f p.1 p.2)).lookup x = some k ∨ (k = .free ∧ (names.map fun p => (p.1, f p.1 p.2)).lookup x = some .cell)
  | [], h => by cases h
  | (n, j) :: r, h => by
    rw [List.map_cons, List.lookup_cons]
    rw [List.lookup_cons] at h
    cases e : x == n with
    | true =>
      rw [e] at h
      cases h
      rcases hf n k with z | ⟨z, w⟩
      · exact .inl (congrArg some z)
      · exact .inr ⟨z, congrArg some w⟩
    | false =>
      rw [e] at h
      exact map_names hf h
theorem relabel_ok {scope : Scope} {cl : List (Str × Addr)} {C0 : Addr} {env : PySem.Env} {x : Str} {k : NameKind} (h : scope.names.lookup x = some k) :
    (compEnvC scope cl C0 env).scope.names.lookup x = some k ∨ (k = .free ∧ (compEnvC scope cl C0 env).scope.names.lookup x = some .cell) := by
  have e : (compEnvC scope cl C0 env).scope.names = scope.names.map fun p => (p.1, if (p.2 == NameKind.free && env.scope.kind == .function && env.kindOf p.1 == some .cell) = true then NameKind.cell else p.2) := by
    show (scope.names.map _) = _
    refine congrArg (fun f => scope.names.map f) (funext fun p => ?_)
    obtain ⟨n, k⟩ := p
    show (if _ then _ else _) = _
    split <;> rfl
  rw [e]
  refine map_names (f := fun n k => if (k == NameKind.free && env.scope.kind == .function && env.kindOf n == some .cell) = true then NameKind.cell else k) (fun n k => ?_) h
  by_cases hc : (k == NameKind.free && env.scope.kind == .function && env.kindOf n == some .cell) = true
  · simp only [Bool.and_eq_true, beq_iff_eq] at hc
    exact .inr ⟨hc.1.1, by simp [hc]⟩
  · exact .inl (if_neg hc)
/-- a comprehension's block -/
theorem Ct.blk {s : Shared} {H : Hp} {scope : Scope} {C0 : Addr} {cl : List (Str × Addr)} {fp : List Addr} (ct : Ct T CA N sc C X W xi) (hk : scope.kind = .function) : Ct T CA N scope C (X.blk s H scope (compEnvC scope cl C0 X.env) fp) WF none where
  g := { nm := ct.g.nm, nd := ct.g.nd, sc := fun x k h => relabel_ok h, st := ct.g.st, gd := ct.g.gd, un := ct.g.un }
  tk := takes_no
  cl := fun h => by
    obtain ⟨k, hr, cs⟩ := ct.cl h
    refine ⟨k, hr, ⟨fun g fi q => ?_, fun c m fi q => ?_, fun c fi q => ?_, cs.mp⟩⟩
    · obtain ⟨f, h1, h2, h3⟩ := cs.fn g fi q; exact ⟨f, h1, h2, ⟨h3.ex⟩⟩
    · obtain ⟨f, h1, h2, h3⟩ := cs.me c m fi q; exact ⟨f, h1, h2, ⟨h3.ex⟩⟩
    · obtain ⟨f, h1, h3⟩ := cs.mkc c fi q; exact ⟨f, h1, ⟨h3.ex⟩⟩
  xi := fun j a d h => by cases h
  fn := fun x h => by show (scope.names.lookup x == some .cell) = true; rw [h]; rfl
  hc := fun g fi q => by obtain ⟨f, h1, h2, h3⟩ := ct.hc g fi q; exact ⟨f, h1, h2, ⟨h3.ex⟩⟩
  rh := ct.rh
  ch := ct.ch
  kd := hk

/-! ### tests -/
theorem tB_of {m : ME} {Q : Bool → Hp → Prop} (at_ : At CA X xi ρ me mh σ H) (h : Aft X.K CA (fun _ _ (a b : Bool) => a = b) (fun c d H' => W c d σ H') ρ H (M.bind (evE T C me m) boolM mh) Q) : tE T CA C X W xi m σ H (fun x H1 => ∃ k, x = .bl k ∧ Q k H1) :=
  ⟨ρ, me, mh, at_, h.bnd.imp fun u H1 ⟨ρ1, mh1, x, e1, r1, q1, h1⟩ => by
    cases q1 <;> first | exact h1.elim | exact ⟨_, rfl, Aft.now (z := (_ : Bool)) h1 r1 rfl⟩⟩
theorem pt_vals {m : ME} {e : Expr} (hv : valTest e = true) (hp : PE X e (tE T CA C X W xi m)) (hm : ∀ me, evT T C me m = M.bind (evE T C me m) boolM) : PT X e (tT T CA C X W xi m) :=
  PT.to (pt_val hp (valTest_of hv _)) fun σ H Q ⟨ρ, me, mh, at_, h⟩ => by
    rw [hm] at h
    exact tB_of at_ h
theorem cmp_rd {op : COp} {Q : VK} (h : tE T CA C X W xi (.cmp op a b) σ H Q) : tOp (rCmp X.K op) (tE T CA C X W xi a) (tE T CA C X W xi b) σ H Q := by
  obtain ⟨ρ, me, mh, at_, h⟩ := h
  unfold evE at h
  exact two_ok at_ h fun h2 rh q1 q2 => cmp_ok h2 rh q1 q2
theorem pt_cmps {op : COp} (hu : X.A.units + 1250 < cLine) (hs : notSet eb = true) (ha : PE X ea (tE T CA C X W xi a)) (hb : PE X eb (tE T CA C X W xi b)) : PT X (.Compare ea [opC op] [eb] pos) (tT T CA C X W xi (.cmp op a b)) :=
  PT.to (pt_cmpR (op_cmp hu op) ha hb (notSet_mark hs)) fun σ H Q ⟨ρ, me, mh, at_, h⟩ => by
    refine cmp_rd (tB_of (m := .cmp op a b) at_ ?_)
    unfold evT at h
    unfold evE
    exact h
theorem chain_rd {op op' : COp} {Q : VK} (h : tE T CA C X W xi (.chain op op' a b c) σ H Q) : tChain (rCmp X.K op) (rCmp X.K op') (tE T CA C X W xi a) (tE T CA C X W xi b) (tE T CA C X W xi c) σ H Q := by
  obtain ⟨ρ, me, mh, at_, h⟩ := h
  unfold evE at h
  refine ⟨ρ, me, mh, at_, h.bnd.imp fun u H1 ⟨ρ1, mh1, x, e1, r1, q1, h1⟩ => ⟨ρ1, me, mh1, at_.to e1 r1, h1.bnd.imp fun v H2 ⟨ρ2, mh2, y, e2, r2, q2, h2⟩ => ?_⟩⟩
  refine cmp_ok (h2.bnd.imp fun z H3 ⟨ρ3, mh3, w, e3, r3, q3, h3⟩ => ?_) r2 (q1.mono e2) q2
  obtain ⟨k, rfl, rfl, h4⟩ := h3.bool q3
  refine ⟨k, rfl, ?_⟩
  cases k with
  | true => exact ⟨ρ3, me, mh3, (at_.to e1 r1).to (e2.trans e3) r3, h4.bnd.imp fun t H4 ⟨ρ4, mh4, w4, e4, r4, q4, h5⟩ => cmp_ok h5 r4 (q2.mono (e3.trans e4)) q4⟩
  | false => exact Aft.now (z := MV.bl false) h4 r3 (.bl _)
theorem pt_chains {op op' : COp} (hu : X.A.units + 1250 < cLine) (hs : notSet ec = true) (ha : PE X ea (tE T CA C X W xi a)) (hb : PE X eb (tE T CA C X W xi b)) (hc : PE X ec (tE T CA C X W xi c)) : PT X (.Compare ea [opC op, opC op'] [eb, ec] pos) (tT T CA C X W xi (.chain op op' a b c)) :=
  PT.to (pt_chain (op_cmp hu op) (op_cmp hu op') ha hb hc (notSet_last hs)) fun σ H Q ⟨ρ, me, mh, at_, h⟩ => by
    refine chain_rd (tB_of (m := .chain op op' a b c) at_ ?_)
    unfold evT at h
    unfold evE
    exact h
theorem pw_ands {r : List Expr} (ha : PT X ea (tT T CA C X W xi a)) (hb : PW X (.BoolOp .And (eb :: r) pos) (tT T CA C X W xi b)) : PW X (.BoolOp .And (ea :: eb :: r) pos) (tT T CA C X W xi (.and a b)) :=
  PW.to (pw_and ha hb) fun σ H Q ⟨ρ, me, mh, at_, h⟩ => by
    unfold evT at h
    refine ⟨ρ, me, mh, at_, h.bnd.imp fun u H1 ⟨ρ1, mh1, x, e1, r1, q1, h1⟩ => ?_⟩
    subst q1
    cases x with
    | true => exact ⟨ρ1, me, mh1, at_.to e1 r1, h1⟩
    | false => exact Aft.now (z := false) h1 r1 rfl
theorem pw_ors {r : List Expr} (ha : PT X ea (tT T CA C X W xi a)) (hb : PW X (.BoolOp .Or (eb :: r) pos) (tT T CA C X W xi b)) : PW X (.BoolOp .Or (ea :: eb :: r) pos) (tT T CA C X W xi (.or a b)) :=
  PW.to (pw_or ha hb) fun σ H Q ⟨ρ, me, mh, at_, h⟩ => by
    unfold evT at h
    refine ⟨ρ, me, mh, at_, h.bnd.imp fun u H1 ⟨ρ1, mh1, x, e1, r1, q1, h1⟩ => ?_⟩
    subst q1
    cases x with
    | true => exact Aft.now (z := true) h1 r1 rfl
    | false => exact ⟨ρ1, me, mh1, at_.to e1 r1, h1⟩
theorem pt_nots (ha : PT X ea (tT T CA C X W xi a)) : PT X (.UnaryOp .Not ea pos) (tT T CA C X W xi (.notE a)) :=
  PT.to (pt_not ha) fun σ H Q ⟨ρ, me, mh, at_, h⟩ => by
    unfold evT at h
    refine ⟨ρ, me, mh, at_, h.bnd.imp fun u H1 ⟨ρ1, mh1, x, e1, r1, q1, h1⟩ => ?_⟩
    subst q1
    exact Aft.now (z := !x) h1 r1 rfl

/-! ### comprehensions -/
theorem wipe_at (σ : L2.St) (j : Nat) : ∀ vs : List Nat, (L2.wipe σ vs : List (Option V))[j]? = if j ∈ vs then (σ[j]? : Option (Option V)).map (fun _ => none) else σ[j]?
  | [] => rfl
  | v :: vs => by
    show ((L2.wipe σ vs).set v none)[j]? = _
    rw [List.getElem?_set, wipe_length]
    by_cases e : v = j
    · subst e
      rw [if_pos rfl, if_pos List.mem_cons_self]
      by_cases hl : v < σ.length
      · rw [if_pos hl]; simp [hl]
      · rw [if_neg hl]; simp [Nat.le_of_not_lt hl]
    · rw [if_neg e, wipe_at σ j vs]
      by_cases h : j ∈ vs
      · rw [if_pos h, if_pos (List.mem_cons_of_mem _ h)]
      · rw [if_neg h, if_neg (fun z => by rcases List.mem_cons.mp z with z | z; exact e z.symm; exact h z)]
theorem wipe_wipe (σ : L2.St) (vs : List Nat) : L2.wipe (L2.wipe σ vs) vs = L2.wipe σ vs := by
  refine List.ext_getElem? fun j => ?_
  rw [wipe_at (L2.wipe σ vs) j vs, wipe_at σ j vs]
  by_cases h : j ∈ vs
  · rw [if_pos h, if_pos h]; cases (σ[j]? : Option (Option V)) <;> rfl
  · rw [if_neg h, if_neg h]
theorem own_snd {vs : List Nat} : (ownOf N vs).map (·.2) = vs := by
  unfold ownOf
  rw [List.map_map]
  exact List.map_id _
theorem bind_at {α β : Type} (x : M α) (f : α → M β) (h : MH) : M.bind x f h = (match x h with | .ok a h' => f a h' | .exc c n h' => .exc c n h' | .stuck => .stuck) := rfl
theorem comp_rd {vs : List Nat} {t : CT} {it : MI} {c v : ME} {Q : VK} (hv : ctIn vs t = true) (at_ : At CA X xi ρ me mh σ H) (hex : me.ex = none)
    (h : Aft X.K CA (RV CA) (fun c d H' => W c d σ H') ρ H (M.bind (evI T C me it) (fun J => fun h => M.bind (newL []) (fun r => match r with
    | .ref n => fun h' => M.bind (compL (fun v_1 h_1 => match setT h_1 (wipeM me vs) v_1 t with
        | some me' => quiet (M.bind (evT T C me' c) fun k => if k = true then M.bind (evE T C me' v) fun w => M.pure (some w) else M.pure none) h_1
        | none => .stuck) J n (J.size h) 0) (fun _ => M.pure (.ref n)) h'
    | _ => M.stuck) h) mh) Q) :
    tLc (tI T CA C X W xi it) (gCT CA X none t) (tT T CA C X WF none c) (tE T CA C X WF none v) ((ownOf N vs).map (·.2)) σ H Q := by
    have hcalm := at_.cm (by rw [hex]; rfl)
    rw [show tLc (tI T CA C X W xi it) (gCT CA X none t) (tT T CA C X WF none c) (tE T CA C X WF none v) ((ownOf N vs).map (·.2)) σ H Q = tLc (tI T CA C X W xi it) (gCT CA X none t) (tT T CA C X WF none c) (tE T CA C X WF none v) vs σ H Q from by rw [own_snd]]
    refine ⟨ρ, me, mh, at_, h.bnd.imp fun J H1 ⟨ρ1, mh1, it1, e1, r1, q1, h1⟩ => ?_⟩
    intro D hD
    -- the list
    obtain ⟨r2, e2, qD⟩ := r1.add (o := .lst []) (p := D) (H' := upd H1 D (.lst [])) (fun c o z => by rw [upd_ne (ne_of_none z hD)]; exact z) hD (fun ρ' e => ⟨[], upd_same, .nil⟩)
    have h2 : Aft X.K CA (RV CA) (fun c d H' => W c d σ H') (rput ρ1 mh1.next D) (upd H1 D (.lst [])) (M.bind (compL (fun v_1 h_1 => match setT h_1 (wipeM me vs) v_1 t with
        | some me' => quiet (M.bind (evT T C me' c) fun k => if k = true then M.bind (evE T C me' v) fun w => M.pure (some w) else M.pure none) h_1
        | none => .stuck) it1 mh1.next (it1.size mh1) 0) (fun _ => M.pure (.ref mh1.next)) (mh1.new (.lst []))) Q := by
      have h1' := Aft.ext h1 e2
      exact h1'
    generalize hstep : (fun v_1 h_1 => match setT h_1 (wipeM me vs) v_1 t with
        | some me' => quiet (M.bind (evT T C me' c) fun k => if k = true then M.bind (evE T C me' v) fun w => M.pure (some w) else M.pure none) h_1
        | none => .stuck) = step at h2
    have rs0 := (at_.rs.mono (e1.trans e2))
    refine ⟨fun i m H => ∃ ρ2 mh2, Ext (rput ρ1 mh1.next D) (upd H1 D (.lst [])) ρ2 H ∧ RH X.K CA ρ2 mh2 H ∧ Aft X.K CA (RV CA) (fun c d H' => W c d σ H') ρ2 H (M.bind (compL step it1 mh1.next m i) (fun _ => M.pure (.ref mh1.next)) mh2) Q,
      ⟨it1.size mh1, _, _, Ext.refl, r2, h2⟩, ?_⟩
    rintro i m H2 ⟨ρ2, mh2, e3, r3, h3⟩
    have qJ := q1.mono (e2.trans e3)
    have qD2 : ρ2 mh1.next = some D := e3.map _ _ qD
    have stop : it1.at mh2 i = some none → Aft X.K CA (RV CA) (fun c d H' => W c d σ H') ρ2 H2 (.ok (.ref mh1.next) mh2) Q → (J.stop i H2 ∧ Q (.ref D) H2) := fun hs hq => ⟨it_stop qJ r3 hs, Aft.now (z := MV.ref mh1.next) hq r3 (.ref qD2)⟩
    unfold M.bind at h3
    cases m with
    | zero =>
      unfold compL at h3
      cases ei : it1.at mh2 i with
      | none => simp only [ei] at h3; exact h3.elim
      | some o =>
        cases o with
        | none => simp only [ei] at h3; exact .inl (stop ei h3)
        | some v => simp only [ei] at h3; exact h3.elim
    | succ m =>
      unfold compL at h3
      cases ei : it1.at mh2 i with
      | none => simp only [ei] at h3; exact h3.elim
      | some o =>
        cases o with
        | none => simp only [ei] at h3; exact .inl (stop ei h3)
        | some w =>
          simp only [ei] at h3
          obtain ⟨g1, g2⟩ := it_go qJ r3 ei
          refine .inr ⟨g1, fun H => ∃ ρ2 mh2, Ext (rput ρ1 mh1.next D) (upd H1 D (.lst [])) ρ2 H ∧ RH X.K CA ρ2 mh2 H ∧ Aft X.K CA (RV CA) (fun c d H' => W c d σ H') ρ2 H (M.bind (compL step it1 mh1.next m (i + 1)) (fun _ => M.pure (.ref mh1.next)) mh2) Q,
            fun H' z => ⟨m, Nat.lt_succ_self m, z⟩, fun x H3 y => ?_⟩
          obtain ⟨e4, r4, rv⟩ := g2 x H3 y
          -- the target
          cases es : setT mh2 (wipeM me vs) w t with
          | none =>
            have hst : step w mh2 = .stuck := by rw [← hstep]; simp only [es]
            unfold M.bind at h3
            simp only [hst] at h3
            exact h3.elim
          | some me' =>
            have at0 : At CA X none ρ2 (wipeM me vs) mh2 (L2.wipe σ vs) H3 := ⟨((rs0.mono e3).mono e4).wipe hex vs, r4, fun _ => hcalm⟩
            refine ⟨ρ2, wipeM me vs, mh2, w, me', at0, hex, rv, es, fun σ' rs' hex' hw => ?_⟩
            refine ⟨by rw [hw vs hv]; exact wipe_wipe σ vs, ?_⟩
            have h4 : Aft X.K CA (RV CA) (fun c d H' => W c d σ H') ρ2 H3 (M.bind (quiet (M.bind (evT T C me' c) fun k => if k = true then M.bind (evE T C me' v) fun w => M.pure (some w) else M.pure none))
                (fun o => M.bind (fun h => match o with
                  | none => compL step it1 mh1.next m (i + 1) h
                  | some w => match h.get mh1.next with
                    | some (.lst acc) => if acc.length < sizeLine then compL step it1 mh1.next m (i + 1) (h.put mh1.next (.lst (acc ++ [w]))) else .stuck
                    | _ => .stuck) (fun _ => M.pure (.ref mh1.next))) mh2) Q := by
              refine Aft.ext ?_ e4
              have hst : step w mh2 = quiet (M.bind (evT T C me' c) fun k => if k = true then M.bind (evE T C me' v) fun w => M.pure (some w) else M.pure none) mh2 := by rw [← hstep]; simp only [es]
              rw [bind_at, ← hst]
              unfold M.bind at h3 ⊢
              cases hx : step w mh2 with
              | ok o h' =>
                simp only [hx] at h3 ⊢
                cases o <;> exact h3
              | exc cc n h' => simp only [hx] at h3 ⊢; exact h3
              | stuck => simp only [hx] at h3 ⊢; exact h3
            rw [quiet_bind, bind_assoc] at h4
            refine ⟨ρ2, me', mh2, ⟨rs', r4, fun _ => hcalm⟩, (Aft.bndq (σ := σ') h4).imp fun k H4 ⟨ρ5, mh5, k', e5, r5, q5, h5⟩ => ?_⟩
            subst q5
            cases k' with
            | true =>
              rw [if_pos rfl] at h5
              rw [if_pos rfl]
              rw [quiet_bind, bind_assoc] at h5
              refine ⟨ρ5, me', mh5, ⟨rs'.mono e5, r5, fun _ => hcalm⟩, (Aft.bndq (σ := σ') h5).imp fun y H5 ⟨ρ6, mh6, w', e6, r6, q6, h6⟩ => ?_⟩
              have h6' : Aft X.K CA (RV CA) (fun c d H' => W c d σ H') ρ6 H5 (M.bind (fun h => match h.get mh1.next with
                    | some (.lst acc) => if acc.length < sizeLine then compL step it1 mh1.next m (i + 1) (h.put mh1.next (.lst (acc ++ [w']))) else .stuck
                    | _ => .stuck) (fun _ => M.pure (.ref mh1.next)) mh6) Q := h6
              unfold M.bind at h6'
              cases gg : mh6.get mh1.next with
              | none => simp only [gg] at h6'; exact h6'.elim
              | some oo =>
                simp only [gg] at h6'
                cases oo <;> try exact h6'.elim
                rename_i acc
                simp only at h6'
                by_cases hz : acc.length < sizeLine
                · rw [if_pos hz] at h6'
                  have qD6 := (e5.trans e6).map _ _ (e4.map _ _ qD2)
                  obtain ⟨accV, ha, rs6⟩ := r6.at gg qD6
                  obtain ⟨r7, e7⟩ := r6.write (o' := .lst (acc ++ [w'])) (u := .lst (accV ++ [y])) gg qD6 rfl rfl fun H' eq ex => ⟨_, by rw [eq, upd_same], (rs6.append (.cons q6 .nil)).mono ex⟩
                  exact ⟨accV, ha, by rw [← rs6.length]; exact hz, ρ6, _, e3.trans (e4.trans (e5.trans (e6.trans e7))), r7, Aft.ext h6' e7⟩
                · rw [if_neg hz] at h6'; exact h6'.elim
            | false =>
              rw [if_neg (by decide)] at h5
              rw [if_neg (by decide)]
              exact ⟨ρ5, mh5, e3.trans (e4.trans e5), r5, h5⟩
theorem pe_comps {vs : List Nat} {t : CT} {it : MI} {c v : ME} {elt tg iter : Expr} {ifs : List Expr} {scope : Scope} (ct : Ct T CA N sc C X W xi) (hb : blkC N sc scope (ownOf N vs) = true) (ht : ckCT N scope t tg = true) (hv : ctIn vs t = true)
    (hi : PI X tg iter (tI T CA C X W xi it)) (hfs : ∀ x, foldedSetIterable iter X.env x = pure x)
    (hif : ∀ (s : Shared) (H : Hp) (C0 : Addr) (cl : List (Str × Addr)) (fp : List Addr), PTs (X.blk s H scope (compEnvC scope cl C0 X.env) fp) ifs (tT T CA C X WF none c))
    (he : ∀ (s : Shared) (H : Hp) (C0 : Addr) (cl : List (Str × Addr)) (fp : List Addr), PE (X.blk s H scope (compEnvC scope cl C0 X.env) fp) elt (tE T CA C X WF none v)) :
    PE X (.ListComp elt [⟨tg, iter, ifs, 0⟩] scope pos) (tE T CA C X W xi (.comp vs t it c v)) := by
  have ok0 : BlkOk N sc scope (ownOf N vs) := blkOk_by hb
  have ok : BlkOk X.N X.env.scope scope (ownOf N vs) := by
    rw [ct.g.nm]
    refine ⟨ok0.kind, ok0.uniq, ok0.ix, fun y hy hf => ?_, ok0.own⟩
    rcases ok0.free y hy hf with z | z
    · rcases ct.g.sc _ _ z with q | ⟨q, _⟩
      · exact .inl q
      · cases q
    · rcases ct.g.sc _ _ z with q | ⟨_, q⟩
      · exact .inr q
      · exact .inl q
  refine ⟨fun pins s σ H Q I ⟨ρ, me, mh, at_, h⟩ => ?_⟩
  unfold evE at h
  by_cases hc : me.ex.isSome = true
  · rw [if_pos hc] at h; exact h.elim
  · rw [if_neg hc] at h
    have hex : me.ex = none := by simpa using hc
    have hcalm := at_.cm (by simpa using hc)
    refine (pe_lc (g := gCT CA X none t) hcalm ct.g.nd hi ok (fun s H C0 cl fp => pg_ct (xi := none) (X := X.blk s H scope (compEnvC scope cl C0 X.env) fp) (ct.blk (s := s) (H := H) (cl := cl) (C0 := C0) (fp := fp) ok.kind).g (ct.blk (s := s) (H := H) (cl := cl) (C0 := C0) (fp := fp) ok.kind).fn hcalm ht) hif he hfs).run pins s σ H Q I ?_
    exact comp_rd hv at_ hex h
end
end Mi
end

section
/-! Mini, part 11: the theorem about expressions. -/
namespace Mi
open PySem PySem.Spec PyProof.Rows L2

def isBool : Expr → Bool
  | .BoolOp _ _ _ => true
  | _ => false
theorem ba {a b : Bool} (h : (a && b) = true) : a = true ∧ b = true := Bool.and_eq_true_iff.mp h
theorem dc {p : Prop} [Decidable p] (h : decide p = true) : p := of_decide_eq_true h
theorem isTru {c : ME} (h : (match c with | .bl true => true | _ => false) = true) : c = .bl true := by
  split at h
  · rfl
  · cases h
variable {T : Tab} {CA : Str → Addr} {C : CallF}
mutual
theorem sndE : ∀ (m : ME) (e : Expr) {N : List Str} {sc : Scope} {X : Cx} {W : WX} {xi : Option (Nat × Addr × Addr)}, Ct T CA N sc C X W xi → ckE T N sc m e = true → PE X e (tE T CA C X W xi m)
  | .non, e, N, sc, X, W, xi, ct, h => by
    unfold ckE at h
    split at h
    · exact PE.to pe_non fun σ H Q ⟨ρ, me, mh, at_, h⟩ => by unfold evE at h; exact Aft.now (z := MV.non) h at_.rh .non
    · cases h
  | .bl b, e, N, sc, X, W, xi, ct, h => by
    unfold ckE at h
    split at h
    · rename_i c _ _
      obtain rfl : b = c := beq_iff_eq.mp h
      exact PE.to pe_bl fun σ H Q ⟨ρ, me, mh, at_, h⟩ => by unfold evE at h; exact Aft.now (z := MV.bl b) h at_.rh (.bl _)
    · cases h
  | .int i, e, N, sc, X, W, xi, ct, h => by
    unfold ckE at h
    split at h
    · rename_i c _ _
      obtain rfl : i = c := dc h
      exact PE.to pe_int fun σ H Q ⟨ρ, me, mh, at_, h⟩ => by unfold evE at h; exact Aft.now (z := MV.int i) h at_.rh (.int _)
    · cases h
  | .str i, e, N, sc, X, W, xi, ct, h => by
    unfold ckE at h
    split at h
    · rename_i c _ _
      obtain rfl : i = c := dc h
      exact PE.to pe_str fun σ H Q ⟨ρ, me, mh, at_, h⟩ => by unfold evE at h; exact Aft.now (z := MV.str i) h at_.rh (.str _)
    · cases h
  | .var i, e, N, sc, X, W, xi, ct, h => by
    unfold ckE at h
    split at h
    · obtain ⟨h1, h2⟩ := ba h
      exact pe_slot ct (dc h1) h2
    · cases h
  | .ty n, e, N, sc, X, W, xi, ct, h => by
    unfold ckE at h
    split at h
    · rename_i x p
      obtain ⟨h, h3⟩ := ba h
      obtain ⟨h1, h2⟩ := ba h
      obtain ⟨g1, g2, g3⟩ := glb_of ct.g h1
      exact PE.to (pe_bltn (v := .ty n) g1 (ct.g.st.free x h2) (dc h3) rfl g3 g2) fun σ H Q ⟨ρ, me, mh, at_, h⟩ => by unfold evE at h; exact Aft.now (z := MV.ty n) h at_.rh (.ty _)
    · cases h
  | .cls n, e, N, sc, X, W, xi, ct, h => by
    unfold ckE at h
    split at h
    · rename_i x p
      obtain ⟨h, h3⟩ := ba h
      obtain ⟨h1, h2⟩ := ba h
      obtain ⟨g1, g2, g3⟩ := glb_of ct.g h2
      obtain rfl : x = n := dc h1
      exact PE.to (pe_glob (v := .ref (CA x)) g1 (ct.g.st.cls x h3) rfl g2) fun σ H Q ⟨ρ, me, mh, at_, h⟩ => by unfold evE at h; exact Aft.now (z := MV.cls x) h at_.rh (.cls _)
    · cases h
  | .gint y i, e, N, sc, X, W, xi, ct, h => by
    unfold ckE at h
    split at h
    · rename_i x p
      obtain ⟨h, h3⟩ := ba h
      obtain ⟨h1, h2⟩ := ba h
      obtain ⟨g1, g2, g3⟩ := glb_of ct.g h2
      obtain rfl : x = y := dc h1
      obtain ⟨t, ht⟩ := ct.g.st.gi x i h3
      exact PE.to (pe_glob (v := .int i) g1 ht ⟨t, rfl⟩ g2) fun σ H Q ⟨ρ, me, mh, at_, h⟩ => by unfold evE at h; exact Aft.now (z := MV.int i) h at_.rh (.int _)
    · cases h
  | .bin op a b, e, N, sc, X, W, xi, ct, h => by
    unfold ckE at h
    split at h
    · obtain ⟨h, h3⟩ := ba h
      obtain ⟨h1, h2⟩ := ba h
      obtain rfl := dc h1
      exact pe_bin (sndE a _ ct h2) (sndE b _ ct h3)
    · cases h
  | .neg a, e, N, sc, X, W, xi, ct, h => by
    unfold ckE at h
    split at h
    · exact pe_negs (sndE a _ ct h)
    · cases h
  | .notE a, e, N, sc, X, W, xi, ct, h => by
    unfold ckE at h
    split at h
    · exact pe_nots (sndE a _ ct h)
    · cases h
  | .cmp op a b, e, N, sc, X, W, xi, ct, h => by
    unfold ckE at h
    split at h
    · obtain ⟨h, h4⟩ := ba h
      obtain ⟨h, h3⟩ := ba h
      obtain ⟨h1, h2⟩ := ba h
      obtain rfl := dc h1
      exact pe_cmpM ct.g.un h4 (sndE a _ ct h2) (sndE b _ ct h3)
    · cases h
  | .chain op1 op2 a b c, e, N, sc, X, W, xi, ct, h => by
    unfold ckE at h
    split at h
    · obtain ⟨h, h6⟩ := ba h
      obtain ⟨h, h5⟩ := ba h
      obtain ⟨h, h4⟩ := ba h
      obtain ⟨h, h3⟩ := ba h
      obtain ⟨h1, h2⟩ := ba h
      obtain rfl := dc h1
      obtain rfl := dc h2
      exact pe_chainM ct.g.un h6 (sndE a _ ct h3) (sndE b _ ct h4) (sndE c _ ct h5)
    · cases h
  | .and a b, e, N, sc, X, W, xi, ct, h => by
    unfold ckE at h
    split at h
    · rename_i a' r pos
      obtain ⟨h1, h2⟩ := ba h
      cases r with
      | nil => cases h2
      | cons b' r =>
        cases r with
        | nil => exact pe_ands (sndE a _ ct h1) (pe_one (sndE b _ ct h2))
        | cons c' r => exact pe_ands (sndE a _ ct h1) (sndE b _ ct h2)
    · cases h
  | .or a b, e, N, sc, X, W, xi, ct, h => by
    unfold ckE at h
    split at h
    · rename_i a' r pos
      obtain ⟨h1, h2⟩ := ba h
      cases r with
      | nil => cases h2
      | cons b' r =>
        cases r with
        | nil => exact pe_ors (sndE a _ ct h1) (pe_one (sndE b _ ct h2))
        | cons c' r => exact pe_ors (sndE a _ ct h1) (sndE b _ ct h2)
    · cases h
  | .ife c a b, e, N, sc, X, W, xi, ct, h => by
    unfold ckE at h
    split at h
    · obtain ⟨h, h3⟩ := ba h
      obtain ⟨h1, h2⟩ := ba h
      exact pe_ifes (sndT c _ ct h1).1 (sndE a _ ct h2) (sndE b _ ct h3)
    · cases h
  | .sub a i, e, N, sc, X, W, xi, ct, h => by
    unfold ckE at h
    split at h
    · obtain ⟨h, h3⟩ := ba h
      obtain ⟨h1, h2⟩ := ba h
      exact pe_subs h3 (sndE a _ ct h1) (sndE i _ ct h2)
    · cases h
  | .slc a lo hi, e, N, sc, X, W, xi, ct, h => by
    unfold ckE at h
    split at h
    · obtain ⟨h, h3⟩ := ba h
      obtain ⟨h1, h2⟩ := ba h
      exact pe_slcs (sndE a _ ct h1) (sndO lo _ ct h2) (sndO hi _ ct h3)
    · cases h
  | .rev a, e, N, sc, X, W, xi, ct, h => by
    unfold ckE at h
    split at h
    · exact pe_revs (sndE a _ ct h)
    · cases h
  | .lsi a, e, N, sc, X, W, xi, ct, h => by
    unfold ckE at h
    split at h
    · obtain ⟨h, h7⟩ := ba h
      obtain ⟨h, h6⟩ := ba h
      obtain ⟨h, h5⟩ := ba h
      obtain ⟨h, h4⟩ := ba h
      obtain ⟨h, h3⟩ := ba h
      obtain ⟨h1, h2⟩ := ba h
      exact pe_lsis ct (dc h1) (dc h2) h3 h4 h5 h6 (noStar_of h7) (sndE a _ ct h7)
    · cases h
  | .tup es, e, N, sc, X, W, xi, ct, h => by
    unfold ckE at h
    split at h
    · exact pe_tups (sndEs es _ ct h)
    · cases h
  | .lst es, e, N, sc, X, W, xi, ct, h => by
    unfold ckE at h
    split at h
    · exact pe_lsts (sndEs es _ ct h)
    · cases h
  | .call f es ks kes pm, e, N, sc, X, W, xi, ct, h => by
    unfold ckE at h
    split at h
    · obtain ⟨h, h7⟩ := ba h
      obtain ⟨h, h6⟩ := ba h
      obtain ⟨h, h5⟩ := ba h
      obtain ⟨h, h4⟩ := ba h
      obtain ⟨h, h3⟩ := ba h
      obtain ⟨h1, h2⟩ := ba h
      cases hf : T.fn f with
      | none => rw [hf] at h7; cases h7
      | some fi =>
        rw [hf] at h7
        exact pe_calls ct (dc h1) h2 hf (by simpa using h7) (fun i hi => dc (List.all_eq_true.mp h6 i hi)) h4 (noStars_of h3) (ckEs_len h3) (ckK_len h5) (sndEs es _ ct h3) (sndK kes _ ct h5)
    · cases h
  | .mk c es, e, N, sc, X, W, xi, ct, h => by
    unfold ckE at h
    split at h
    · obtain ⟨h, h5⟩ := ba h
      obtain ⟨h, h4⟩ := ba h
      obtain ⟨h, h3⟩ := ba h
      obtain ⟨h1, h2⟩ := ba h
      cases hf : T.me c "__init__" with
      | none => rw [hf] at h5; cases h5
      | some fi =>
        rw [hf] at h5
        exact pe_mks ct (dc h1) h2 h3 hf (by simpa using h5) (noStars_of h4) (ckEs_len h4) (sndEs es _ ct h4)
    · cases h
  | .meth o m es ks kes pm, e, N, sc, X, W, xi, ct, h => by
    unfold ckE at h
    split at h
    · obtain ⟨h, h10⟩ := ba h
      obtain ⟨h, h9⟩ := ba h
      obtain ⟨h, h8⟩ := ba h
      obtain ⟨h, h7⟩ := ba h
      obtain ⟨h, h6⟩ := ba h
      obtain ⟨h, h5⟩ := ba h
      obtain ⟨h, h4⟩ := ba h
      obtain ⟨h, h3⟩ := ba h
      obtain ⟨h1, h2⟩ := ba h
      obtain rfl := dc h1
      exact pe_meths ct h3 h10 (fun i hi => dc (List.all_eq_true.mp h7 i hi)) h5 (noStars_of h4) (ckEs_len h4) (ckK_len h6) (dc h8) h9 (sndE o _ ct h2) (sndEs es _ ct h4) (sndK kes _ ct h6)
    · cases h
  | .bi b es, e, N, sc, X, W, xi, ct, h => by
    unfold ckE at h
    split at h
    · obtain ⟨h, h4⟩ := ba h
      obtain ⟨h, h3⟩ := ba h
      obtain ⟨h1, h2⟩ := ba h
      exact pe_bis ct (dc h1) h2 h3 (noStars_of h4) (sndEs es _ ct h4)
    · cases h
  | .app o v, e, N, sc, X, W, xi, ct, h => by
    unfold ckE at h
    split at h
    · obtain ⟨h, h5⟩ := ba h
      obtain ⟨h, h4⟩ := ba h
      obtain ⟨h, h3⟩ := ba h
      obtain ⟨h1, h2⟩ := ba h
      obtain rfl := dc h1
      exact pe_apps h3 (noStar_of h4) h5 (sndE o _ ct h2) (sndE v _ ct h4)
    · cases h
  | .fld o f, e, N, sc, X, W, xi, ct, h => by
    unfold ckE at h
    split at h
    · obtain ⟨h, h3⟩ := ba h
      obtain ⟨h1, h2⟩ := ba h
      obtain rfl := dc h1
      exact pe_flds ct h3 (sndE o _ ct h2)
    · cases h
  | .efld i f, e, N, sc, X, W, xi, ct, h => by
    unfold ckE at h
    split at h
    · obtain ⟨h, h3⟩ := ba h
      obtain ⟨h1, h2⟩ := ba h
      obtain rfl := dc h1
      exact pe_exf ct (dc h2) h3
    · cases h
  | .comp vs t it c v, e, N, sc, X, W, xi, ct, h => by
    unfold ckE at h
    split at h
    · rename_i elt tg iter ifs scope pos
      obtain ⟨h, h6⟩ := ba h
      obtain ⟨h, h5⟩ := ba h
      obtain ⟨h, h4⟩ := ba h
      obtain ⟨h, h3⟩ := ba h
      obtain ⟨h1, h2⟩ := ba h
      have hk : scope.kind = .function := (blkOk_by h1).kind
      refine pe_comps ct h1 h2 h6 (sndI it tg iter ct h3).1 ((sndI it tg iter ct h3).2 _) (fun s H C0 cl fp => ?_) (fun s H C0 cl fp => sndE v elt (ct.blk hk) h5)
      cases ifs with
      | nil =>
        have hcc : c = .bl true := isTru h4
        subst hcc
        refine ⟨fun pins s σ H Q I ⟨ρ, me, mh, at_, h⟩ => pts_nil.run pins s σ H Q I ?_⟩
        unfold evT at h
        exact Aft.now (z := true) h at_.rh rfl
      | cons c' r =>
        cases r with
        | nil => exact pts_one (sndT c c' (ct.blk hk) h4).1
        | cons _ _ => cases h4
    · cases h
theorem sndT : ∀ (m : ME) (e : Expr) {N : List Str} {sc : Scope} {X : Cx} {W : WX} {xi : Option (Nat × Addr × Addr)}, Ct T CA N sc C X W xi → ckT T N sc m e = true → PT X e (tT T CA C X W xi m) ∧ (isBool e = true → PW X e (tT T CA C X W xi m))
  | .and a b, e, N, sc, X, W, xi, ct, h => by
    unfold ckT at h
    split at h
    · rename_i a' r pos
      obtain ⟨h1, h2⟩ := ba h
      have P : PW X (.BoolOp .And (a' :: r) pos) (tT T CA C X W xi (.and a b)) := by
        cases r with
        | nil => cases h2
        | cons b' r =>
          cases r with
          | nil => exact pw_ands (sndT a _ ct h1).1 (pw_and1 (sndT b _ ct h2).1)
          | cons c' r => exact pw_ands (sndT a _ ct h1).1 ((sndT b _ ct h2).2 rfl)
      exact ⟨P.pt, fun _ => P⟩
    · cases h
  | .or a b, e, N, sc, X, W, xi, ct, h => by
    unfold ckT at h
    split at h
    · rename_i a' r pos
      obtain ⟨h1, h2⟩ := ba h
      have P : PW X (.BoolOp .Or (a' :: r) pos) (tT T CA C X W xi (.or a b)) := by
        cases r with
        | nil => cases h2
        | cons b' r =>
          cases r with
          | nil => exact pw_ors (sndT a _ ct h1).1 (pw_or1 (sndT b _ ct h2).1)
          | cons c' r => exact pw_ors (sndT a _ ct h1).1 ((sndT b _ ct h2).2 rfl)
      exact ⟨P.pt, fun _ => P⟩
    · cases h
  | .notE a, e, N, sc, X, W, xi, ct, h => by
    unfold ckT at h
    split at h
    · exact ⟨pt_nots (sndT a _ ct h).1, fun z => by cases z⟩
    · cases h
  | .cmp op a b, e, N, sc, X, W, xi, ct, h => by
    unfold ckT at h
    split at h
    · obtain ⟨h, h4⟩ := ba h
      obtain ⟨h, h3⟩ := ba h
      obtain ⟨h1, h2⟩ := ba h
      obtain rfl := dc h1
      exact ⟨pt_cmps ct.g.un h4 (sndE a _ ct h2) (sndE b _ ct h3), fun z => by cases z⟩
    · cases h
  | .chain op1 op2 a b c, e, N, sc, X, W, xi, ct, h => by
    unfold ckT at h
    split at h
    · obtain ⟨h, h6⟩ := ba h
      obtain ⟨h, h5⟩ := ba h
      obtain ⟨h, h4⟩ := ba h
      obtain ⟨h, h3⟩ := ba h
      obtain ⟨h1, h2⟩ := ba h
      obtain rfl := dc h1
      obtain rfl := dc h2
      exact ⟨pt_chains ct.g.un h6 (sndE a _ ct h3) (sndE b _ ct h4) (sndE c _ ct h5), fun z => by cases z⟩
    · cases h
  | .bl b, e, N, sc, X, W, xi, ct, h => by
    unfold ckT at h
    split at h
    · rename_i c _ _
      obtain rfl : b = c := beq_iff_eq.mp h
      exact ⟨pt_vals rfl (PE.to pe_bl fun σ H Q ⟨ρ, me, mh, at_, h⟩ => by unfold evE at h; exact Aft.now (z := MV.bl b) h at_.rh (.bl _)) fun me => by unfold evT evE; rfl, fun z => by cases z⟩
    · cases h
  | .var i, e, N, sc, X, W, xi, ct, h => by
    unfold ckT at h
    split at h
    · obtain ⟨h1, h2⟩ := ba h
      exact ⟨pt_vals rfl (pe_slot ct (dc h1) h2) fun me => by unfold evT evE; rfl, fun z => by cases z⟩
    · cases h
  | .sub a i, e, N, sc, X, W, xi, ct, h => by
    unfold ckT at h
    split at h
    · obtain ⟨h, h3⟩ := ba h
      obtain ⟨h1, h2⟩ := ba h
      exact ⟨pt_vals rfl (pe_subs h3 (sndE a _ ct h1) (sndE i _ ct h2)) fun me => by unfold evT; conv => rhs; unfold evE, fun z => by cases z⟩
    · cases h
  | .call f es ks kes pm, e, N, sc, X, W, xi, ct, h => by
    unfold ckT at h
    split at h
    · obtain ⟨h, h7⟩ := ba h
      obtain ⟨h, h6⟩ := ba h
      obtain ⟨h, h5⟩ := ba h
      obtain ⟨h, h4⟩ := ba h
      obtain ⟨h, h3⟩ := ba h
      obtain ⟨h1, h2⟩ := ba h
      cases hf : T.fn f with
      | none => rw [hf] at h7; cases h7
      | some fi =>
        rw [hf] at h7
        exact ⟨pt_vals rfl (pe_calls ct (dc h1) h2 hf (by simpa using h7) (fun i hi => dc (List.all_eq_true.mp h6 i hi)) h4 (noStars_of h3) (ckEs_len h3) (ckK_len h5) (sndEs es _ ct h3) (sndK kes _ ct h5)) fun me => by unfold evT; conv => rhs; unfold evE, fun z => by cases z⟩
    · cases h
  | .meth o m es ks kes pm, e, N, sc, X, W, xi, ct, h => by
    unfold ckT at h
    split at h
    · obtain ⟨h, h10⟩ := ba h
      obtain ⟨h, h9⟩ := ba h
      obtain ⟨h, h8⟩ := ba h
      obtain ⟨h, h7⟩ := ba h
      obtain ⟨h, h6⟩ := ba h
      obtain ⟨h, h5⟩ := ba h
      obtain ⟨h, h4⟩ := ba h
      obtain ⟨h, h3⟩ := ba h
      obtain ⟨h1, h2⟩ := ba h
      obtain rfl := dc h1
      exact ⟨pt_vals rfl (pe_meths ct h3 h10 (fun i hi => dc (List.all_eq_true.mp h7 i hi)) h5 (noStars_of h4) (ckEs_len h4) (ckK_len h6) (dc h8) h9 (sndE o _ ct h2) (sndEs es _ ct h4) (sndK kes _ ct h6)) fun me => by unfold evT; conv => rhs; unfold evE, fun z => by cases z⟩
    · cases h
  | .bi b es, e, N, sc, X, W, xi, ct, h => by
    unfold ckT at h
    split at h
    · obtain ⟨h, h4⟩ := ba h
      obtain ⟨h, h3⟩ := ba h
      obtain ⟨h1, h2⟩ := ba h
      exact ⟨pt_vals rfl (pe_bis ct (dc h1) h2 h3 (noStars_of h4) (sndEs es _ ct h4)) fun me => by unfold evT; conv => rhs; unfold evE, fun z => by cases z⟩
    · cases h
  | .non, e, N, sc, X, W, xi, ct, h => by unfold ckT at h; cases h
  | .int i, e, N, sc, X, W, xi, ct, h => by unfold ckT at h; cases h
  | .str i, e, N, sc, X, W, xi, ct, h => by unfold ckT at h; cases h
  | .ty n, e, N, sc, X, W, xi, ct, h => by unfold ckT at h; cases h
  | .cls n, e, N, sc, X, W, xi, ct, h => by unfold ckT at h; cases h
  | .gint y i, e, N, sc, X, W, xi, ct, h => by unfold ckT at h; cases h
  | .bin op a b, e, N, sc, X, W, xi, ct, h => by unfold ckT at h; cases h
  | .neg a, e, N, sc, X, W, xi, ct, h => by unfold ckT at h; cases h
  | .ife c a b, e, N, sc, X, W, xi, ct, h => by unfold ckT at h; cases h
  | .slc a lo hi, e, N, sc, X, W, xi, ct, h => by unfold ckT at h; cases h
  | .rev a, e, N, sc, X, W, xi, ct, h => by unfold ckT at h; cases h
  | .lsi a, e, N, sc, X, W, xi, ct, h => by unfold ckT at h; cases h
  | .tup es, e, N, sc, X, W, xi, ct, h => by unfold ckT at h; cases h
  | .lst es, e, N, sc, X, W, xi, ct, h => by unfold ckT at h; cases h
  | .mk c es, e, N, sc, X, W, xi, ct, h => by unfold ckT at h; cases h
  | .app o v, e, N, sc, X, W, xi, ct, h => by unfold ckT at h; cases h
  | .fld o f, e, N, sc, X, W, xi, ct, h => by unfold ckT at h; cases h
  | .efld i f, e, N, sc, X, W, xi, ct, h => by unfold ckT at h; cases h
  | .comp vs t it c v, e, N, sc, X, W, xi, ct, h => by unfold ckT at h; cases h
theorem sndO : ∀ (m : MOp) (e : Option Expr) {N : List Str} {sc : Scope} {X : Cx} {W : WX} {xi : Option (Nat × Addr × Addr)}, Ct T CA N sc C X W xi → ckO T N sc m e = true → PO X e (tO T CA C X W xi m)
  | .no, none, N, sc, X, W, xi, ct, h => po_nos
  | .yes a, some e, N, sc, X, W, xi, ct, h => by
    unfold ckO at h
    exact po_yess (sndE a e ct h)
  | .no, some _, _, _, _, _, _, _, h => by unfold ckO at h; cases h
  | .yes _, none, _, _, _, _, _, _, h => by unfold ckO at h; cases h
theorem sndI : ∀ (m : MI) (tg e : Expr) {N : List Str} {sc : Scope} {X : Cx} {W : WX} {xi : Option (Nat × Addr × Addr)}, Ct T CA N sc C X W xi → ckI T N sc m tg e = true → PI X tg e (tI T CA C X W xi m) ∧ ∀ env x, foldedSetIterable e env x = pure x
  | .of a, tg, e, N, sc, X, W, xi, ct, h => by
    unfold ckI at h
    obtain ⟨h1, h2⟩ := ba h
    exact ⟨pi_ofs (sndE a e ct h1), fun env => notSet_fold h2 env⟩
  | .rng1 a, tg, e, N, sc, X, W, xi, ct, h => by
    unfold ckI at h
    split at h
    · obtain ⟨h, h4⟩ := ba h
      obtain ⟨h, h3⟩ := ba h
      obtain ⟨h1, h2⟩ := ba h
      exact ⟨pi_rng1s ct (dc h1) h2 h3 (noStar_of h4) (sndE a _ ct h4), fun _ _ => rfl⟩
    · cases h
  | .rng2 a b, tg, e, N, sc, X, W, xi, ct, h => by
    unfold ckI at h
    split at h
    · obtain ⟨h, h5⟩ := ba h
      obtain ⟨h, h4⟩ := ba h
      obtain ⟨h, h3⟩ := ba h
      obtain ⟨h1, h2⟩ := ba h
      exact ⟨pi_rng2s ct (dc h1) h2 h3 (noStar_of h4) (noStar_of h5) (sndE a _ ct h4) (sndE b _ ct h5), fun _ _ => rfl⟩
    · cases h
  | .enum a, tg, e, N, sc, X, W, xi, ct, h => by
    unfold ckI at h
    split at h
    · obtain ⟨h, h5⟩ := ba h
      obtain ⟨h, h4⟩ := ba h
      obtain ⟨h, h3⟩ := ba h
      obtain ⟨h1, h2⟩ := ba h
      split at h5
      · exact ⟨pi_enums ct (dc h1) h2 h3 (noStar_of h4) (sndE a _ ct h4), fun _ _ => rfl⟩
      · cases h5
    · cases h
theorem sndEs : ∀ (m : MEs) (es : List Expr) {N : List Str} {sc : Scope} {X : Cx} {W : WX} {xi : Option (Nat × Addr × Addr)}, Ct T CA N sc C X W xi → ckEs T N sc m es = true → PA X es (tEs T CA C X W xi m)
  | .nil, [], N, sc, X, W, xi, ct, h => pa_nils
  | .cons a as, e :: es, N, sc, X, W, xi, ct, h => by
    unfold ckEs at h
    obtain ⟨h1, h2⟩ := ba h
    exact pa_conss (noStar_of h1) (sndE a e ct h1) (sndEs as es ct h2)
  | .nil, _ :: _, _, _, _, _, _, _, h => by unfold ckEs at h; cases h
  | .cons _ _, [], _, _, _, _, _, _, h => by unfold ckEs at h; cases h
theorem sndK : ∀ (m : MEs) (es : List Keyword) {N : List Str} {sc : Scope} {X : Cx} {W : WX} {xi : Option (Nat × Addr × Addr)}, Ct T CA N sc C X W xi → ckK T N sc m es = true → PK X es (tEs T CA C X W xi m)
  | .nil, [], N, sc, X, W, xi, ct, h => pk_nils
  | .cons a as, ⟨_, e, _⟩ :: es, N, sc, X, W, xi, ct, h => by
    unfold ckK at h
    obtain ⟨h1, h2⟩ := ba h
    exact pk_conss (sndE a e ct h1) (sndK as es ct h2)
  | .nil, _ :: _, _, _, _, _, _, _, h => by unfold ckK at h; cases h
  | .cons _ _, [], _, _, _, _, _, _, h => by unfold ckK at h; cases h
end
end Mi
end

section
/-! Mini: a list's items while an exception is handled. -/
namespace Mi
open PySem PySem.Spec PyProof.Rows L2 HotX L2H

section
variable {prog : Program} {w : World} {A : Around} {E : Value → Shared → Prop} {s : Shared}
theorem list_end_hot {it l x1 : Addr} {i : Nat} {items : Array Value} {Q : Option Value → Shared → Prop} (hot : HotAt A x1 s.heap) (hit : s.heap.IsListIter it l i) (hl : s.heap.IsList l items) (hx : items[i]? = none)
    (hQ : ∀ h', Heap.ExtBut it s.heap h' → Q none { s with heap := h' }) : wpAny (model prog w) A (pyNext (.ref it)) Q E s := by
  obtain ⟨o, ho, hc, hd⟩ := id hit
  obtain ⟨ol, hol, _, nl, hdl⟩ := hl
  obtain ⟨hh, o1, vs1, h1, d1, c1⟩ := hot
  have hne : x1 ≠ it := fun z => by
    rw [z, ho] at h1
    cases h1
    rw [hd] at d1
    cases d1
    simp at c1
  unfold pyNext
  refine wpAny_bind (wpAny_attempt (wpAny_callSpecial?_slot (name := Str.ofString "__next__") hit.typeIs slot_listiter_next
    (wpAny_call_entry slot_listiter_next hit.typeIs entry_listiter_next ?_ (args_listiter_next _))))
  show wpAny _ _ (field (.ref it) 0 >>= _) _ _ s
  refine wpAny_bind (wpAny_field ho hd (x := .ref l) rfl ?_)
  show wpAny _ _ (if (Value.ref l == Value.none) = true then _ else _) _ _ s
  rw [if_neg (show ¬ ((Value.ref l == Value.none) = true) from Bool.false_ne_true)]
  show wpAny _ _ (field (.ref it) 1 >>= _) _ _ s
  refine wpAny_bind (wpAny_field ho hd (x := .int i 0) rfl ?_)
  show wpAny _ _ (seqItems? (.ref l) >>= _) _ _ s
  refine wpAny_bind (wpAny_seqItems hol hdl ?_)
  simp only [Int.toNat_natCast, hx]
  refine wpAny_bind (wpAny_rule (wpAny_bind (wpAny_setField ho hd (by simp) ?_)))
  show wpAny _ _ (newExc (.type "StopIteration") [] >>= _) _ _ _
  refine wpAny_bind ?_
  simp only [newExc, newTuple]
  refine wpAny_bind (wpAny_newObj_type ?_ (by size_fits))
  refine wpAny_bind (m := firstArgMember _ _) (wpAny_of_eq (a := Value.none) (by first | rfl | (simp only [firstArgMember]; rfl)) ?_)
  refine wpAny_newObj_type ?_ (by size_fits)
  have g1 : (s.heap.update it (Obj.mapFields (·.setIfInBounds 0 .none))).get? x1 = some o1 := by rw [Heap.get?_update_other _ _ (Ne.symm hne)]; exact h1
  refine raiseNew_hot ⟨hh, o1, vs1, Heap.get?_push_of_some _ (Heap.get?_push_of_some _ g1), d1, c1⟩ (Nat.ne_of_lt (Heap.lt_size (Heap.get?_push_of_some _ g1))) (Heap.get?_push_size _ rfl) rfl (by first | (simp; done) | (simp; omega) | (simp only [Array.size_append]; simp; omega)) ?_
  refine wpAny_bind (wpAny_isInstance (T := "StopIteration") (b := true) ⟨_, Heap.get?_update_self _ (Heap.get?_push_size _ rfl) rfl, rfl⟩ isSubtype_stop ?_)
  refine wpAny_pure (hQ _ fun b o hb e => ?_)
  have e1 : (s.heap.update it (Obj.mapFields (·.setIfInBounds 0 .none))).get? b = some o := by rw [Heap.get?_update_other _ _ (Ne.symm hb)]; exact e
  rw [Heap.get?_update_other _ _ (Nat.ne_of_gt (Heap.lt_size (Heap.get?_push_of_some _ e1)))]
  exact Heap.get?_push_of_some _ (Heap.get?_push_of_some _ e1)
end
theorem turn_listH {P : Program} {w : World} {K : PySem.W.Frag} {tg : Expr} (a it : Addr) : TurnH P w K tg (Itl K a) [it] it (fun i h => h.IsListIter it a i) where
  mem := by simp
  obj := (turn_list (P := P) (w := w) (K := K) (tg := tg) a it).obj
  keep := (turn_list (P := P) (w := w) (K := K) (tg := tg) a it).keep
  item := by
    intro X hP hw hK hc i pins s σ H E I hf st hg
    subst hP hw hK
    obtain ⟨xs, x, hq, hx⟩ := hg
    obtain ⟨its, rv, p, hz⟩ := I.list hq
    obtain ⟨u, hu, ru⟩ := rv.get hx
    obtain ⟨f0, f1, f2, f3, f4, f5⟩ := hf it (by simp)
    refine wpAny_pyNext_list_item st p.isList (x := u) (by simpa using hu) fun h' st' sb => ?_
    have I1 : L2.Inv X pins σ H { s with heap := h' } := I.turned (t' := s.toks) (fun b o hb e => (sb.2 b hb).trans e) f0 f1 f3 f4 f5
    obtain ⟨o, e, c, d⟩ := id st'
    exact ⟨u, rfl, go_of (s := { s with heap := h' }) e c d (by decide) ⟨x, H, I1, ru, ⟨rfl, fun ys hy => by rw [I.list_inj hy hq]; exact hx⟩, st', fun b hb => (hf b hb).1⟩⟩
  done := by
    intro X hP hw hK hc i pins s σ H E I hf st hg
    subst hP hw hK
    obtain ⟨xs, hq, hx⟩ := hg
    obtain ⟨its, rv, p, hz⟩ := I.list hq
    obtain ⟨f0, f1, f2, f3, f4, f5⟩ := hf it (by simp)
    have hl := rv.length
    obtain ⟨x1, hot⟩ := hc.at I
    exact list_end_hot hot st p.isList (by simp; omega) fun h' eb => ⟨rfl, I.turned (t' := s.toks) (fun b o hb e => eb b o hb e) f0 f1 f3 f4 f5⟩
  self := fun _ _ _ _ _ st h => wpAny_pyIter_listiter st h
theorem pih_list {X : Cx} {tg l : Expr} {tl : TE} (hl : PE X l tl) : PIH X tg l (iList X.K tl) := by
  refine ⟨fun pins s σ H R I h => ?_⟩
  refine thn (hl.run pins s σ H _ I h) fun v s1 ⟨x, H1, I1, r1, q1⟩ => ?_
  obtain ⟨a, e, ⟨xs, hq⟩, q⟩ := q1
  subst e
  cases r1
  obtain ⟨its, rv, p, hz⟩ := I1.list hq
  refine wpAny_pyIter_list p.isList ?_
  refine ⟨s1.heap.objs.size, [s1.heap.objs.size], _, _, H1, rfl, I1.kept (t' := s1.toks) fun b o e => Heap.get?_push_of_some _ e, turn_listH a _, ⟨_, Heap.get?_push_size _ rfl, rfl, rfl⟩, fun b hb => ?_, q⟩
  have e : b = s1.heap.objs.size := by simpa using hb
  subst e
  exact I1.fpOk (Nat.le_refl _) (I1.hok.fresh (Nat.le_refl _))
end Mi
end

section
/-! Mini, part 12: statements: assignments, tests, loops. -/
namespace Mi
open PySem PySem.Spec PyProof.Rows L2

structure CtS (T : Tab) (CA : Str → Addr) (N : List Str) (sc : Scope) (C : CallF) (X : Cx) (W : WX) (xi : Option (Nat × Addr × Addr)) : Prop where
  c : Ct T CA N sc C X W xi
  po : PassesOwn (model X.prog X.w) X.A X.env X.xe
  st : X.stack = X.env :: X.outer
  fr : X.env.frame = some X.env.locals
  bk : X.env.blockKind = .function

/-- what a statement's end asks -/
def AftS (X : Cx) (CA : Str → Addr) (W : WX) (xi : Option (Nat × Addr × Addr)) (ρ : Rho) (H : Hp) (r : SR) (D : Ends) : Prop :=
  match r with
  | .ok (.next me) mh => ∀ ρ' H' σ', Ext ρ H ρ' H' → At CA X xi ρ' me mh σ' H' → D.nx σ' H'
  | .ok (.brk me) mh => ∀ ρ' H' σ', Ext ρ H ρ' H' → At CA X xi ρ' me mh σ' H' → D.bk σ' H'
  | .ok (.cont me) mh => ∀ ρ' H' σ', Ext ρ H ρ' H' → At CA X xi ρ' me mh σ' H' → D.ct σ' H'
  | .ok (.ret v) mh => ∀ ρ' H' x, Ext ρ H ρ' H' → RH X.K CA ρ' mh H' → RV CA ρ' H' v x → D.rt x H'
  | .exc c n me mh => ∀ ρ' H' σ' d, Ext ρ H ρ' H' → At CA X xi ρ' me mh σ' H' → ρ' n = some d → (∃ fs, mh.get n = some (.exc c fs)) → W (.ref (CA c)) (some d) σ' H'
  | .stuck => False
def tS (T : Tab) (CA : Str → Addr) (C : CallF) (X : Cx) (W : WX) (xi : Option (Nat × Addr × Addr)) (m : MS) : TS := fun D σ H => ∃ ρ me mh, At CA X xi ρ me mh σ H ∧ AftS X CA W xi ρ H (exS T C m me mh) D
def tB (T : Tab) (CA : Str → Addr) (C : CallF) (X : Cx) (W : WX) (xi : Option (Nat × Addr × Addr)) (m : MSs) : TS := fun D σ H => ∃ ρ me mh, At CA X xi ρ me mh σ H ∧ AftS X CA W xi ρ H (exB T C m me mh) D

/-! ### what is handled stays -/
def SRex (e : Option (Nat × Nat)) : SR → Prop
  | .ok (.next me) _ => me.ex = e
  | .ok (.brk me) _ => me.ex = e
  | .ok (.cont me) _ => me.ex = e
  | .ok (.ret _) _ => True
  | .exc _ _ me _ => me.ex = e
  | .stuck => True
theorem SRex.of {α : Type} {me : Env} {r : Res α} {k : α → MH → SR} (h : ∀ a h, SRex me.ex (k a h)) : SRex me.ex (SR.of me r k) := by
  cases r with
  | ok a m => exact h a m
  | exc c n m => rfl
  | stuck => trivial
theorem fold_ex : ∀ (l : List (Nat × MV)) (me : Env), (l.foldl (fun m p => m.set p.1 p.2) me).ex = me.ex
  | [], _ => rfl
  | p :: l, me => fold_ex l (me.set p.1 p.2)
theorem asg_ex {T : Tab} {C : CallF} {me : Env} {v : MV} (t : MT) (h : MH) : SRex me.ex (SR.of me (asgM T C me v t h) fun me' h => .ok (.next me') h) := by
  cases e : asgM T C me v t h with
  | ok me' m =>
    show me'.ex = me.ex
    unfold asgM at e
    cases t with
    | nm i => simp only at e; split at e <;> cases e; rfl
    | tp is =>
      simp only at e
      split at e
      · cases e
      · unfold setTL at e
        cases q : asSeq h v with
        | none => rw [q] at e; cases e
        | some xs =>
          rw [q] at e
          simp only at e
          split at e
          · cases e; exact fold_ex _ _
          · cases e
    | sw is =>
      simp only at e
      split at e
      · split at e
        · cases e; exact fold_ex _ _
        · cases e
      · cases e
    | sub o i =>
      simp only [M.bind] at e
      repeat (split at e <;> try (cases e; done))
      cases e; rfl
    | fld o f =>
      simp only [M.bind] at e
      repeat (split at e <;> try (cases e; done))
      cases e; rfl
  | exc c n m => rfl
  | stuck => trivial
theorem forL_ex {x0 : Option (Nat × Nat)} {step : MV → Env → MH → SR} (hs : ∀ v me h, me.ex = x0 → SRex x0 (step v me h)) {it : It} : ∀ (k i : Nat) (me : Env) (h : MH), me.ex = x0 → SRex x0 (forL step it k i me h)
  | 0, i, me, h, e => by
    unfold forL
    cases q : it.at h i with
    | none => trivial
    | some o => cases o <;> first | exact e | trivial
  | k + 1, i, me, h, e => by
    unfold forL
    cases q : it.at h i with
    | none => trivial
    | some o =>
      cases o with
      | none => exact e
      | some v =>
        simp only
        have hv := hs v me h e
        cases z : step v me h with
        | ok f m =>
          rw [z] at hv
          cases f with
          | next me' => exact forL_ex hs k (i + 1) me' m hv
          | cont me' => exact forL_ex hs k (i + 1) me' m hv
          | brk me' => exact hv
          | ret v => trivial
        | exc c n me' m => rw [z] at hv; exact hv
        | stuck => trivial
theorem setT_ex {me me' : Env} {v : MV} {t : CT} {hh : MH} (h : setT hh me v t = some me') : me'.ex = me.ex := by
  unfold setT at h
  cases t with
  | nm i => cases h; rfl
  | tp is =>
    simp only at h
    split at h
    · split at h
      · cases h; exact fold_ex _ _
      · cases h
    · cases h
mutual
theorem exS_ex {T : Tab} {C : CallF} : ∀ (s : MS) (me : Env) (h : MH), SRex me.ex (exS T C s me h)
  | .pass, me, h => by unfold exS; rfl
  | .ret e, me, h => by unfold exS; exact SRex.of fun _ _ => trivial
  | .retN, me, h => by unfold exS; trivial
  | .expr e, me, h => by unfold exS; exact SRex.of fun _ _ => rfl
  | .asg t e, me, h => by
    unfold exS
    split
    · trivial
    · exact SRex.of fun _ h => asg_ex t h
  | .ifs c a b, me, h => by
    unfold exS
    refine SRex.of fun k h => ?_
    split
    · exact exB_ex a me h
    · exact exB_ex b me h
  | .fors t it b, me, h => by
    unfold exS
    split
    · split
      · split
        · trivial
        · refine SRex.of fun x h => ?_
          split
          · split
            · exact forL_ex (fun v me2 h2 e2 => e2 ▸ exB_ex (T := T) (C := C) b (me2.set _ v) h2) _ _ _ _ rfl
            · trivial
          · trivial
      · trivial
    · rename_i hc
      have hn : me.ex = none := by simpa using hc
      have e : SRex me.ex = SRex none := by rw [hn]
      refine SRex.of fun J h => ?_
      rw [e]
      refine forL_ex (fun v me2 h2 e2 => ?_) _ _ _ _ hn
      cases q : setT h2 me2 v t with
      | none => trivial
      | some me3 =>
        have := exB_ex (T := T) (C := C) b me3 h2
        rw [setT_ex q, e2] at this
        exact this
  | .raise c es, me, h => by
    unfold exS
    split
    · trivial
    · refine SRex.of fun vs h => ?_
      split
      · split
        · rfl
        · trivial
      · trivial
  | .brk, me, h => by unfold exS; rfl
  | .cont, me, h => by unfold exS; rfl
  | .trys b hs, me, h => by
    unfold exS
    split
    · trivial
    · rename_i hc
      have hn : me.ex = none := by simpa using hc
      have hb := exB_ex (T := T) (C := C) b me h
      cases q : exB T C b me h with
      | ok f m => rw [q] at hb; exact hb
      | exc c n me' m =>
        rw [q] at hb
        rw [hn] at hb ⊢
        exact exH_ex hs c n me' m hb
      | stuck => trivial
theorem exH_ex {T : Tab} : ∀ (hs : MHs) (c : Str) (n : Nat) (me : Env) (h : MH), me.ex = none → SRex none (exH T hs c n me h)
  | .nil, c, n, me, h, e => by unfold exH; exact e
  | .cons c' i b r, c, n, me, h, e => by
    unfold exH
    split
    · split
      · split <;> first | rfl | trivial
      · trivial
    · exact exH_ex r c n me h e
    · trivial
theorem exB_ex {T : Tab} {C : CallF} : ∀ (s : MSs) (me : Env) (h : MH), SRex me.ex (exB T C s me h)
  | .nil, me, h => by unfold exB; rfl
  | .cons s r, me, h => by
    unfold exB
    have hs := exS_ex (T := T) (C := C) s me h
    cases q : exS T C s me h with
    | ok f m =>
      rw [q] at hs
      cases f with
      | next me' =>
        have e : me'.ex = me.ex := hs
        rw [← e]
        exact exB_ex r me' m
      | ret v => trivial
      | brk me' => exact hs
      | cont me' => exact hs
    | exc c n me' m => rw [q] at hs; exact hs
    | stuck => trivial
end

section
variable {T : Tab} {CA : Str → Addr} {N : List Str} {sc : Scope} {C : CallF} {X : Cx} {W : WX} {xi : Option (Nat × Addr × Addr)} {ρ ρ1 : Rho} {me : Env} {mh mh1 : MH} {σ : L2.St} {H H1 : Hp} {D : Ends}
variable {a b c : ME} {ea eb ec : Expr} {pos : Pos} {s1 s2 : MS} {b1 b2 : MSs}
theorem AftS.ext {r : SR} (h : AftS X CA W xi ρ H r D) (e : Ext ρ H ρ1 H1) : AftS X CA W xi ρ1 H1 r D := by
  cases r with
  | ok f m => cases f <;> exact fun ρ' H' x e1 => h ρ' H' x (e.trans e1)
  | exc c n me m => exact fun ρ' H' x d e1 => h ρ' H' x d (e.trans e1)
  | stuck => exact h
/-- a value, then the rest -/
theorem AftS.of {α β : Type} {R : Rho → Hp → α → β → Prop} {x : M α} {k : α → MH → SR} (at_ : At CA X xi ρ me mh σ H) (h : AftS X CA W xi ρ H (SR.of me (x mh) k) D) :
    Aft X.K CA R (fun c d H' => W c d σ H') ρ H (x mh) (fun b H1 => ∃ ρ1 mh1 a, Ext ρ H ρ1 H1 ∧ RH X.K CA ρ1 mh1 H1 ∧ R ρ1 H1 a b ∧ AftS X CA W xi ρ1 H1 (k a mh1) D) := by
  unfold SR.of at h
  cases e : x mh with
  | ok v m =>
    rw [e] at h
    exact fun ρ1 H1 b e1 r1 q => ⟨ρ1, m, v, e1, r1, q, AftS.ext h e1⟩
  | exc c n m =>
    rw [e] at h
    exact fun ρ1 H1 d e1 r1 q ex => h ρ1 H1 σ d e1 (at_.to e1 r1) q ex
  | stuck => rw [e] at h; exact h
theorem PS.to {s : Stmt} {t t' : TS} (h : PS X s t) (k : ∀ D σ H, t' D σ H → t D σ H) : PS X s t' := ⟨fun pins s σ H Q I q => h.run pins s σ H Q I (k Q σ H q)⟩
theorem PSs.to {s : List Stmt} {t t' : TS} (h : PSs X s t) (k : ∀ D σ H, t' D σ H → t D σ H) : PSs X s t' := ⟨fun pins s σ H Q I q => h.run pins s σ H Q I (k Q σ H q)⟩
theorem PG.to {e : Expr} {t t' : TG} (h : PG X e t) (k : ∀ v σ H Q, t' v σ H Q → t v σ H Q) : PG X e t' := ⟨fun pins s σ H v u Q I r q => h.run pins s σ H v u Q I r (k v σ H Q q)⟩

theorem ps_passes : PS X (.Pass pos) (tS T CA C X W xi .pass) := PS.to ps_pass fun D σ H ⟨ρ, me, mh, at_, h⟩ => by unfold exS at h; exact h ρ H σ Ext.refl at_
theorem ps_brks : PS X (.Break pos) (tS T CA C X W xi .brk) := PS.to ps_break fun D σ H ⟨ρ, me, mh, at_, h⟩ => by unfold exS at h; exact h ρ H σ Ext.refl at_
theorem ps_conts : PS X (.Continue pos) (tS T CA C X W xi .cont) := PS.to ps_continue fun D σ H ⟨ρ, me, mh, at_, h⟩ => by unfold exS at h; exact h ρ H σ Ext.refl at_
theorem ps_rets (ha : PE X ea (tE T CA C X W xi a)) : PS X (.Return (some ea) pos) (tS T CA C X W xi (.ret a)) := PS.to (ps_ret ha) fun D σ H ⟨ρ, me, mh, at_, h⟩ => by
  unfold exS at h
  exact ⟨ρ, me, mh, at_, (AftS.of at_ h).imp fun u H1 ⟨ρ1, mh1, x, e1, r1, q1, h1⟩ => h1 ρ1 H1 u Ext.refl r1 q1⟩
theorem ps_retNs : PS X (.Return none pos) (tS T CA C X W xi .retN) := PS.to ps_retN fun D σ H ⟨ρ, me, mh, at_, h⟩ => by
  unfold exS at h
  exact h ρ H .non Ext.refl at_.rh .non
def notComp : Expr → Bool
  | .ListComp _ _ _ _ => false
  | .SetComp _ _ _ _ => false
  | .DictComp _ _ _ _ _ => false
  | _ => true
theorem swaps_no {e : Expr} {t : Option Expr} {l : Nat} {env : PySem.Env} (h : notComp e = true) : swapsWith e t l env = pure false := by
  cases e <;> first | rfl | cases h
theorem swapsSole_no {e t : Expr} {l : Nat} {env : PySem.Env} (h : notComp e = true) : swapsWithSole [t] e l env = pure false := swaps_no h
theorem ps_exprs (hn : notComp ea = true) (ha : PE X ea (tE T CA C X W xi a)) : PS X (.Expr ea pos) (tS T CA C X W xi (.expr a)) := PS.to (ps_expr ha (swaps_no hn)) fun D σ H ⟨ρ, me, mh, at_, h⟩ => by
  unfold exS at h
  exact ⟨ρ, me, mh, at_, (AftS.of at_ h).imp fun u H1 ⟨ρ1, mh1, x, e1, r1, q1, h1⟩ => h1 ρ1 H1 σ Ext.refl (at_.to e1 r1)⟩

/-! ### assignments -/
theorem AtK.set {i : Nat} {x : MV} {v : V} (at_ : At CA X xi ρ me mh σ H) (he : (me.ex.map (·.1)) ≠ some i) (rv : RV CA ρ H x v) : At CA X xi ρ (me.set i x) mh (σ.set i (some v)) H := ⟨at_.rs.set he rv, at_.rh, at_.cm⟩
/-- a name -/
theorem asg_nm {i : Nat} {x : MV} {v : V} (at_ : At CA X xi ρ me mh σ H) (rv : RV CA ρ H x v) (h : AftS X CA W xi ρ H (SR.of me (asgM T C me x (.nm i) mh) fun me' h => .ok (.next me') h) D) : D.nx (σ.set i (some v)) H := by
  unfold asgM at h
  simp only at h
  by_cases hc : (me.ex.map (·.1)) = some i
  · rw [if_pos hc] at h; exact h.elim
  · rw [if_neg hc] at h
    exact h ρ H _ Ext.refl (at_.set hc rv)
theorem ps_asgN {i : Nat} {tg : Expr} (ct : CtS T CA N sc C X W xi) (ht : ckNm N sc i tg = true) (hs : ∀ x p, tg = .Name x p → swapsWith ea (some tg) pos.line X.env = pure false) (ha : PE X ea (tE T CA C X W xi a)) : PS X (.Assign [tg] ea pos) (tS T CA C X W xi (.asg (.nm i) a)) := by
  obtain ⟨x, p, rfl, h1, h2⟩ := ckNm_of ht
  obtain ⟨h3, h4⟩ := loc_of ct.c.g h2
  have hf : X.fn x = true ∨ X.env.scope.names.lookup x = some .local := by
    rcases h2 with z | z
    · exact .inr (h4 z)
    · exact .inl (ct.c.fn x z)
  refine PS.to (ps_set (i := i) ct.c.g.nd (by rw [ct.c.g.nm]; exact h1) h3 ha (hs x p rfl) hf) fun D σ H ⟨ρ, me, mh, at_, h⟩ => ?_
  unfold exS at h
  rw [if_neg (fun z => by cases z.1)] at h
  exact ⟨ρ, me, mh, at_, (AftS.of at_ h).imp fun u H1 ⟨ρ1, mh1, x, e1, r1, q1, h1⟩ => asg_nm (at_.to e1 r1) q1 h1⟩
/-- a comprehension to a name of its line -/
theorem ps_asgLc {i : Nat} {vs : List Nat} {t : CT} {it : MI} {c v : ME} {elt tg iter : Expr} {ifs : List Expr} {scope : Scope} {y : Str} {py pos spos : Pos} (ct : CtS T CA N sc C X W xi) (hy : N[i]? = some y) (hyl : sc.names.lookup y = some .local)
    (hl : (py.line == pos.line) = true) (hsh : (scope.names.any fun (n, k) => n == y && (k == .local || k == .cell)) = false) (hb : blkC N sc scope (ownOf N vs) = true) (ht : ckCT N scope t tg = true) (hv : ctIn vs t = true)
    (hi : PI X tg iter (tI T CA C X W xi it)) (hfs : ∀ x, foldedSetIterable iter X.env x = pure x)
    (hif : ∀ (s : Shared) (H : Hp) (C0 : Addr) (cl : List (Str × Addr)) (fp : List Addr), PTs (X.blk s H scope (compEnvC scope cl C0 X.env) fp) ifs (tT T CA C X WF none c))
    (he : ∀ (s : Shared) (H : Hp) (C0 : Addr) (cl : List (Str × Addr)) (fp : List Addr), PE (X.blk s H scope (compEnvC scope cl C0 X.env) fp) elt (tE T CA C X WF none v)) :
    PS X (.Assign [.Name y py] (.ListComp elt [⟨tg, iter, ifs, 0⟩] scope pos) spos) (tS T CA C X W xi (.asg (.nm i) (.comp vs t it c v))) := by
  have ok0 : BlkOk N sc scope (ownOf N vs) := blkOk_by hb
  have ok : BlkOk X.N X.env.scope scope (ownOf N vs) := by
    rw [ct.c.g.nm]
    refine ⟨ok0.kind, ok0.uniq, ok0.ix, fun y hy hf => ?_, ok0.own⟩
    rcases ok0.free y hy hf with z | z
    · rcases ct.c.g.sc _ _ z with q | ⟨q, _⟩
      · exact .inl q
      · cases q
    · rcases ct.c.g.sc _ _ z with q | ⟨_, q⟩
      · exact .inr q
      · exact .inl q
  have hyl' := (loc_of ct.c.g (.inl hyl)).2 hyl
  refine ⟨fun pins s σ H D I ⟨ρ, me, mh, at_, h⟩ => ?_⟩
  unfold exS at h
  rw [if_neg (fun z => by cases z.1)] at h
  have h' := AftS.of (R := RV CA) at_ h
  unfold evE at h'
  by_cases hc : me.ex.isSome = true
  · rw [if_pos hc] at h'; exact h'.elim
  · rw [if_neg hc] at h'
    have hex : me.ex = none := by simpa using hc
    have hcalm := at_.cm (by simpa using hc)
    refine (ps_setLc (i := i) (g := gCT CA X none t) hcalm ct.c.g.nd (by rw [ct.c.g.nm]; exact hy) hyl' ?_ hi ok (fun s H C0 cl fp => pg_ct (xi := none) (X := X.blk s H scope (compEnvC scope cl C0 X.env) fp) (ct.c.blk (s := s) (H := H) (cl := cl) (C0 := C0) (fp := fp) ok.kind).g (ct.c.blk (s := s) (H := H) (cl := cl) (C0 := C0) (fp := fp) ok.kind).fn hcalm ht) hif he hfs).run pins s σ H D I ?_
    · exact sw_true I.ok.kind hyl' hl hsh
    · exact comp_rd hv at_ hex (h'.imp fun u H1 ⟨ρ1, mh1, x, e1, r1, q1, h1⟩ => asg_nm (at_.to e1 r1) q1 h1)
/-- o.f = e -/
theorem ps_asgF {f : Str} {pos' : Pos} (ct : CtS T CA N sc C X W xi) (hn : notComp eb = true) (ha : PE X ea (tE T CA C X W xi a)) (hb : PE X eb (tE T CA C X W xi b)) : PS X (.Assign [.Attribute ea f pos'] eb pos) (tS T CA C X W xi (.asg (.fld a f) b)) :=
  PS.to (ps_fld ha hb (swaps_no hn)) fun D σ H ⟨ρ, me, mh, at_, h⟩ => by
    unfold exS at h
    rw [if_neg (fun z => by cases z.1)] at h
    refine ⟨ρ, me, mh, at_, (AftS.of at_ h).imp fun v H1 ⟨ρ1, mh1, x, e1, r1, q1, h1⟩ => ?_⟩
    have at1 := at_.to e1 r1
    have h2 := AftS.of (R := fun _ _ (m : Env) (_ : Unit) => m = me) at1 h1
    unfold asgM at h2
    refine ⟨ρ1, me, mh1, at1, h2.bnd.imp fun u H2 ⟨ρ2, mh2, y, e2, r2, q2, h3⟩ => ?_⟩
    cases q2 with
    | @ref n pa q =>
      unfold M.bind setFldM at h3
      simp only at h3
      cases g : mh2.get n with
      | none => rw [g] at h3; exact h3.elim
      | some o =>
        rw [g] at h3
        cases o <;> try exact h3.elim
        rename_i cn fs
        simp only at h3
        by_cases hz : T.noat cn f = true ∧ fs.length < 1000
        · rw [if_pos hz] at h3
          obtain ⟨dx, gs, ho, hfs⟩ := r2.at g q
          obtain ⟨n1, n2⟩ := ct.c.g.st.noat cn f hz.1
          refine ⟨pa, CA cn, dx, gs, rfl, ho, n2, n1, by rw [← hfs.length]; exact hz.2, ?_⟩
          have put : ∀ {fs : List (Str × MV)} {gs : List (Str × V)}, RF CA ρ2 H2 fs gs → RF CA ρ2 H2 (putM f x fs) (putF f v gs) := by
            intro fs gs r
            induction r with
            | nil => exact .cons (q1.mono e2) .nil
            | @cons g z w xs vs r t ih =>
              unfold putM putF
              by_cases hg : g = f
              · rw [if_pos hg, if_pos hg]; exact .cons (q1.mono e2) t
              · rw [if_neg hg, if_neg hg]; exact .cons r ih
          obtain ⟨r3, e3⟩ := r2.write (o' := .ins cn (putM f x fs)) (u := .ins (CA cn) dx (putF f v gs)) g q rfl rfl fun H' eq ex => ⟨dx, _, by rw [eq, upd_same], (put hfs).mono ex⟩
          obtain ⟨ρ4, mh4, me4, e4, r4, em, h4⟩ := h3 ρ2 _ () e3 r3 rfl
          subst em
          exact h4 ρ4 _ σ Ext.refl (at1.to e4 r4)
        · rw [if_neg hz] at h3; exact h3.elim
    | _ => exact h3.elim
/-- o[i] = e -/
theorem ps_asgI {pos' : Pos} (hnn : notComp ec = true) (ha : PE X ea (tE T CA C X W xi a)) (hb : PE X eb (tE T CA C X W xi b)) (hc : PE X ec (tE T CA C X W xi c)) (hq : ∀ v, assign (.Subscript ea eb pos') X.env v = (do
      let ov ← holding [v] (eval ea X.env)
      let iv ← holding [v, ov] (eval eb X.env)
      standAt pos'
      holding [v, ov, iv] (setItem ov iv v)
      release [v, ov, iv] [])) (hw : swappedStores [.Subscript ea eb pos'] ec X.env = pure none) (hl : (assignEach [.Subscript ea eb pos'] X.env).map (·.2) = [assign (.Subscript ea eb pos') X.env]) :
    PS X (.Assign [.Subscript ea eb pos'] ec pos) (tS T CA C X W xi (.asg (.sub a b) c)) :=
  PS.to (ps_asg hc (pg_sub ha hb set_list hq) (swapsSole_no hnn) hw hl) fun D σ H ⟨ρ, me, mh, at_, h⟩ => by
    unfold exS at h
    rw [if_neg (fun z => by cases z.1)] at h
    refine ⟨ρ, me, mh, at_, (AftS.of at_ h).imp fun v H1 ⟨ρ1, mh1, x, e1, r1, q1, h1⟩ => ?_⟩
    have at1 := at_.to e1 r1
    have h2 := AftS.of (R := fun _ _ (m : Env) (_ : Unit) => m = me) at1 h1
    unfold asgM at h2
    simp only at h2
    refine ⟨ρ1, me, mh1, at1, h2.bnd.imp fun u H2 ⟨ρ2, mh2, y, e2, r2, q2, h3⟩ => ⟨ρ2, me, mh2, at1.to e2 r2, h3.bnd.imp fun w H3 ⟨ρ3, mh3, z, e3, r3, q3, h4⟩ => ?_⟩⟩
    refine set_ok (W := fun c d H' => W c d σ H') ?_ r3 (q2.mono e3) q3 (q1.mono (e2.trans e3))
    refine h4.bnd.imp fun _ H4 ⟨ρ4, mh4, _, e4, r4, _, h5⟩ => ?_
    obtain ⟨ρ5, mh5, me5, e5, r5, em, h6⟩ := h5 ρ4 _ () Ext.refl r4 rfl
    subst em
    exact h6 ρ5 _ σ Ext.refl (at1.to e5 r5)
/-- a list or a tuple, to names -/
theorem ps_asgT {is : List Nat} {es : List Expr} {k : Nat} {tpos : Pos} (ct : CtS T CA N sc C X W xi) (ht : ckNms N sc is es = true) (hnn : notComp ea = true) (hw : swappedStores [.Tuple es k tpos] ea X.env = pure none) (ha : PE X ea (tE T CA C X W xi a)) :
    PS X (.Assign [.Tuple es k tpos] ea pos) (tS T CA C X W xi (.asg (.tp is) a)) := by
  refine ⟨fun pins s σ H D I ⟨ρ, me, mh, at_, h⟩ => ?_⟩
  unfold exS at h
  by_cases hc : me.ex.isSome = true
  · rw [if_pos ⟨rfl, hc⟩] at h; exact h.elim
  · rw [if_neg (fun z => hc z.2)] at h
    have h' := AftS.of (R := RV CA) at_ h
    have hcalm := at_.cm (by simpa using hc)
    have hex : me.ex = none := by simpa using hc
    refine (ps_asg ha (pg_either (pos := tpos) (k := k) ct.c.g ct.c.fn hcalm ht) (swapsSole_no hnn) hw rfl).run pins s σ H D I ?_
    refine ⟨ρ, me, mh, at_, h'.imp fun v H1 ⟨ρ1, mh1, x, e1, r1, q1, h1⟩ => ?_⟩
    have at1 := at_.to e1 r1
    unfold asgM setTL at h1
    simp only [if_neg hc] at h1
    cases e : asSeq mh1 x with
    | none => rw [e] at h1; exact h1.elim
    | some xs =>
      rw [e] at h1
      simp only at h1
      by_cases hl : xs.length = is.length
      · rw [if_pos hl] at h1
        obtain ⟨p, vs, rfl, sq, rs⟩ := seq_of r1 e q1
        have fin : gNms is vs σ H1 D.nx := nms_run hl at1.rs hex rs fun σ' r' e' _ => h1 ρ1 H1 σ' Ext.refl ⟨r', r1, fun _ => hcalm⟩
        rcases sq with sq | sq
        · exact .inr ⟨p, vs, rfl, sq, by rw [← rs.length]; exact hl, fin⟩
        · exact .inl ⟨p, vs, rfl, sq, by rw [← rs.length]; exact hl, fin⟩
      · rw [if_neg hl] at h1; exact h1.elim

/-! ### tests, blocks -/
theorem ps_ifss {ba bb : List Stmt} (hc : PT X ec (tT T CA C X W xi c)) (h1 : PSs X ba (tB T CA C X W xi b1)) (h2 : PSs X bb (tB T CA C X W xi b2)) : PS X (.If ec ba bb pos) (tS T CA C X W xi (.ifs c b1 b2)) :=
  PS.to (ps_if hc h1 h2) fun D σ H ⟨ρ, me, mh, at_, h⟩ => by
    unfold exS at h
    refine ⟨ρ, me, mh, at_, (AftS.of at_ h).imp fun v H1 ⟨ρ1, mh1, x, e1, r1, q1, h1⟩ => ?_⟩
    subst q1
    cases x with
    | true => exact ⟨ρ1, me, mh1, at_.to e1 r1, h1⟩
    | false => exact ⟨ρ1, me, mh1, at_.to e1 r1, h1⟩
theorem pss_nils : PSs X [] (tB T CA C X W xi .nil) := PSs.to pss_nil fun D σ H ⟨ρ, me, mh, at_, h⟩ => by unfold exB at h; exact h ρ H σ Ext.refl at_
theorem pss_conss {st : Stmt} {r : List Stmt} (h1 : PS X st (tS T CA C X W xi s1)) (h2 : PSs X r (tB T CA C X W xi b1)) : PSs X (st :: r) (tB T CA C X W xi (.cons s1 b1)) :=
  PSs.to (pss_cons h1 h2) fun D σ H ⟨ρ, me, mh, at_, h⟩ => by
    unfold exB at h
    refine ⟨ρ, me, mh, at_, ?_⟩
    cases e : exS T C s1 me mh with
    | ok f m =>
      rw [e] at h
      cases f with
      | next me' => exact fun ρ' H' σ' e1 a1 => ⟨ρ', me', m, a1, AftS.ext h e1⟩
      | ret v => exact h
      | brk me' => exact h
      | cont me' => exact h
    | exc c n me' m => rw [e] at h; exact h
    | stuck => rw [e] at h; exact h

/-! ### loops -/
theorem ps_forsH {i : Nat} {tg iter : Expr} {body : List Stmt} (ct : CtS T CA N sc C X W xi) (ht : ckCT N sc (.nm i) tg = true) (hi : PE X iter (tE T CA C X W xi a)) (hfs : ∀ x, foldedSetIterable iter X.env x = pure x) (hb : PSs X body (tB T CA C X W xi b1))
    {pins : List (Addr × Obj)} {s : Shared} (I : L2.Inv X pins σ H s) (at_ : At CA X xi ρ me mh σ H) (hc : me.ex.isSome = true) (h : AftS X CA W xi ρ H (exS T C (.fors (.nm i) (.of a) b1) me mh) D) :
    wpAny (model X.prog X.w) X.A (exec (.For tg iter body [] pos) X.env) (SP X pins D) X.xe s := by
  obtain ⟨⟨j, m0⟩, hex⟩ := Option.isSome_iff_exists.mp hc
  obtain ⟨pa0, pd0, hxi, _⟩ := at_.rs.ex j m0 hex
  obtain ⟨oe, cc, vs0, hpn, hz, hdt, hh, _, _⟩ := (ct.c.xi j pa0 pd0 hxi).ex
  have hot : L2H.HotC X := ⟨(pa0, oe), ⟨hh, vs0, hdt, hz.2.2 vs0 hdt⟩, hpn⟩
  unfold exS at h
  rw [if_pos hc] at h
  simp only at h
  by_cases hi0 : (me.ex.map (·.1)) = some i
  · rw [if_pos hi0] at h; exact h.elim
  · rw [if_neg hi0] at h
    refine (L2H.ps_forH (g := fun v σ H Q => Q (σ.set i (some v)) H) ct.po hot (pih_list hi) (PG.to (pg_nm (i := i) ct.c.g ct.c.fn ht) fun v σ H Q z => z) hb hfs).run pins s σ H D I ?_
    refine ⟨ρ, me, mh, at_, (AftS.of at_ h).imp fun v H1 ⟨ρ1, mh1, x, e1, r1, q1, h1⟩ => ?_⟩
    cases q1 with
    | @ref n pa q =>
      simp only at h1
      cases ea : asList mh1 (.ref n) with
      | none => rw [ea] at h1; exact h1.elim
      | some xs =>
        rw [ea] at h1
        simp only at h1
        obtain ⟨vs, h3, h4⟩ := seqL_of r1 ea q
        generalize hst : (fun (v : MV) (me : Env) (h : MH) => exB T C b1 (me.set i v) h) = step at h1
        refine ⟨pa, rfl, ⟨vs, h3⟩, fun k m σ2 H2 => ∃ ρ2 me2 mh2, Ext ρ1 H1 ρ2 H2 ∧ At CA X xi ρ2 me2 mh2 σ2 H2 ∧ me2.ex = me.ex ∧ AftS X CA W xi ρ2 H2 (forL step (.lst n) m k me2 mh2) D, ⟨(It.lst n).size mh1, ρ1, me, mh1, Ext.refl, at_.to e1 r1, rfl, h1⟩, ?_⟩
        rintro k m σ2 H2 ⟨ρ2, me2, mh2, e2, at2, hex2, h2⟩
        have qJ : RIt X.K CA ρ2 H2 (.lst n) (Itl X.K pa) := ⟨pa, e2.map _ _ q, rfl⟩
        cases m with
        | zero =>
          unfold forL at h2
          cases ei : (It.lst n).at mh2 k with
          | none => simp only [ei] at h2; exact h2.elim
          | some o =>
            cases o with
            | none => simp only [ei] at h2; exact .inl ⟨it_stop qJ at2.rh ei, h2 ρ2 H2 σ2 Ext.refl at2⟩
            | some v => simp only [ei] at h2; exact h2.elim
        | succ m =>
          unfold forL at h2
          cases ei : (It.lst n).at mh2 k with
          | none => simp only [ei] at h2; exact h2.elim
          | some o =>
            cases o with
            | none => simp only [ei] at h2; exact .inl ⟨it_stop qJ at2.rh ei, h2 ρ2 H2 σ2 Ext.refl at2⟩
            | some v =>
              simp only [ei] at h2
              obtain ⟨g1, g2⟩ := it_go qJ at2.rh ei
              refine .inr ⟨g1, fun σ' H' => ∃ ρ3 me3 mh3, Ext ρ1 H1 ρ3 H' ∧ At CA X xi ρ3 me3 mh3 σ' H' ∧ me3.ex = me.ex ∧ AftS X CA W xi ρ3 H' (forL step (.lst n) m (k + 1) me3 mh3) D, fun σ' H' z => ⟨m, Nat.lt_succ_self m, z⟩, fun x H3 y => ?_⟩
              obtain ⟨e4, r4, rv⟩ := g2 x H3 y
              have hstep : ∀ h, step v me2 h = exB T C b1 (me2.set i v) h := fun h => by rw [← hst]
              rw [hstep] at h2
              have at3 := (at2.to e4 r4).set (i := i) (by rw [hex2]; exact hi0) rv
              refine ⟨ρ2, me2.set i v, mh2, at3, ?_⟩
              have keep := exB_ex (T := T) (C := C) b1 (me2.set i v) mh2
              rw [show (me2.set i v).ex = me2.ex from rfl, hex2] at keep
              cases eb : exB T C b1 (me2.set i v) mh2 with
              | ok f m2 =>
                rw [eb] at h2 keep
                cases f with
                | next me4 => exact fun ρ5 H5 σ5 e5 a5 => ⟨ρ5, me4, m2, e2.trans (e4.trans e5), a5, keep, AftS.ext h2 (e4.trans e5)⟩
                | cont me4 => exact fun ρ5 H5 σ5 e5 a5 => ⟨ρ5, me4, m2, e2.trans (e4.trans e5), a5, keep, AftS.ext h2 (e4.trans e5)⟩
                | brk me4 => exact fun ρ5 H5 σ5 e5 a5 => h2 ρ5 H5 σ5 (e4.trans e5) a5
                | ret v => exact fun ρ5 H5 σ5 e5 a5 => h2 ρ5 H5 σ5 (e4.trans e5) a5
              | exc c n me4 m2 =>
                rw [eb] at h2
                exact fun ρ5 H5 σ5 d e5 a5 => h2 ρ5 H5 σ5 d (e4.trans e5) a5
              | stuck => rw [eb] at h2; exact h2
    | _ => exact h1.elim
theorem ps_forss {t : CT} {it : MI} {tg iter : Expr} {body : List Stmt} (ct : CtS T CA N sc C X W xi) (ht : ckCT N sc t tg = true) (hi : PI X tg iter (tI T CA C X W xi it)) (hfs : ∀ x, foldedSetIterable iter X.env x = pure x) (hb : PSs X body (tB T CA C X W xi b1)) (hh : ∀ a, it = .of a → PE X iter (tE T CA C X W xi a)) :
    PS X (.For tg iter body [] pos) (tS T CA C X W xi (.fors t it b1)) := by
  refine ⟨fun pins s σ H D I ⟨ρ, me, mh, at_, h⟩ => ?_⟩
  by_cases hc : me.ex.isSome = true
  · cases t with
    | nm i =>
      cases it with
      | of a => exact ps_forsH ct ht (hh a rfl) hfs hb I at_ hc h
      | _ => unfold exS at h; rw [if_pos hc] at h; exact h.elim
    | tp is => unfold exS at h; rw [if_pos hc] at h; exact h.elim
  · unfold exS at h
    rw [if_neg hc] at h
    have hcalm := at_.cm (by simpa using hc)
    have hex : me.ex = none := by simpa using hc
    refine (ps_for (g := gCT CA X xi t) ct.po hcalm hi (pg_ct ct.c.g ct.c.fn hcalm ht) hb hfs).run pins s σ H D I ?_
    refine ⟨ρ, me, mh, at_, (AftS.of at_ h).imp fun J H1 ⟨ρ1, mh1, it1, e1, r1, q1, h1⟩ => ?_⟩
    generalize hst : (fun (v : MV) (me : Env) (h : MH) => match setT h me v t with
      | some me' => exB T C b1 me' h
      | none => SR.stuck) = step at h1
    refine ⟨fun i m σ2 H2 => ∃ ρ2 me2 mh2, Ext ρ1 H1 ρ2 H2 ∧ At CA X xi ρ2 me2 mh2 σ2 H2 ∧ me2.ex = none ∧ AftS X CA W xi ρ2 H2 (forL step it1 m i me2 mh2) D, ⟨it1.size mh1, ρ1, me, mh1, Ext.refl, at_.to e1 r1, hex, h1⟩, ?_⟩
    rintro i m σ2 H2 ⟨ρ2, me2, mh2, e2, at2, hex2, h2⟩
    have qJ := q1.mono e2
    cases m with
    | zero =>
      unfold forL at h2
      cases ei : it1.at mh2 i with
      | none => simp only [ei] at h2; exact h2.elim
      | some o =>
        cases o with
        | none => simp only [ei] at h2; exact .inl ⟨it_stop qJ at2.rh ei, h2 ρ2 H2 σ2 Ext.refl at2⟩
        | some v => simp only [ei] at h2; exact h2.elim
    | succ m =>
      unfold forL at h2
      cases ei : it1.at mh2 i with
      | none => simp only [ei] at h2; exact h2.elim
      | some o =>
        cases o with
        | none => simp only [ei] at h2; exact .inl ⟨it_stop qJ at2.rh ei, h2 ρ2 H2 σ2 Ext.refl at2⟩
        | some v =>
          simp only [ei] at h2
          obtain ⟨g1, g2⟩ := it_go qJ at2.rh ei
          refine .inr ⟨g1, fun σ' H' => ∃ ρ3 me3 mh3, Ext ρ1 H1 ρ3 H' ∧ At CA X xi ρ3 me3 mh3 σ' H' ∧ me3.ex = none ∧ AftS X CA W xi ρ3 H' (forL step it1 m (i + 1) me3 mh3) D, fun σ' H' z => ⟨m, Nat.lt_succ_self m, z⟩, fun x H3 y => ?_⟩
          obtain ⟨e4, r4, rv⟩ := g2 x H3 y
          cases es : setT mh2 me2 v t with
          | none =>
            rw [← hst] at h2
            simp only [es] at h2
            exact h2.elim
          | some me3 =>
            have hstep : step v me2 mh2 = exB T C b1 me3 mh2 := by rw [← hst]; simp only [es]
            rw [hstep] at h2
            refine ⟨ρ2, me2, mh2, v, me3, at2.to e4 r4, hex2, rv, es, fun σ' rs' hex' _ => ⟨ρ2, me3, mh2, ⟨rs', r4, fun _ => hcalm⟩, ?_⟩⟩
            have keep := exB_ex (T := T) (C := C) b1 me3 mh2
            cases eb : exB T C b1 me3 mh2 with
            | ok f m2 =>
              rw [eb] at h2 keep
              cases f with
              | next me4 => exact fun ρ5 H5 σ5 e5 a5 => ⟨ρ5, me4, m2, e2.trans (e4.trans e5), a5, (show me4.ex = me3.ex from keep).trans hex', AftS.ext h2 (e4.trans e5)⟩
              | cont me4 => exact fun ρ5 H5 σ5 e5 a5 => ⟨ρ5, me4, m2, e2.trans (e4.trans e5), a5, (show me4.ex = me3.ex from keep).trans hex', AftS.ext h2 (e4.trans e5)⟩
              | brk me4 => exact fun ρ5 H5 σ5 e5 a5 => h2 ρ5 H5 σ5 (e4.trans e5) a5
              | ret v => exact fun ρ5 H5 σ5 e5 a5 => h2 ρ5 H5 σ5 (e4.trans e5) a5
            | exc c n me4 m2 =>
              rw [eb] at h2
              exact fun ρ5 H5 σ5 d e5 a5 => h2 ρ5 H5 σ5 d (e4.trans e5) a5
            | stuck => rw [eb] at h2; exact h2
end
end Mi
end

section
/-! Mini, part 13: a, b = x, y. -/
namespace Mi
open PySem PySem.Spec PyProof.Rows L2

def star1 : Expr → Bool
  | .Starred _ _ => true
  | _ => false
def ckSwN (N : List Str) (sc : Scope) (line : Nat) : List Nat → List Expr → Bool
  | [], [] => true
  | i :: is, e :: es => (match e with | .Name x p => decide (N[i]? = some x) && (sc.names.lookup x == some .local) && (p.line == line) | _ => false) && ckSwN N sc line is es
  | _, _ => false
def lineOf (ts : List Expr) : Nat := (ts.head?.map (·.pos.line)).getD 0
def ckSw (N : List Str) (sc : Scope) (is : List Nat) (ts vs : List Expr) : Bool :=
  (ts.length == 2 || ts.length == 3) && decide (vs.length = ts.length) && vs.all noStar && ckSwN N sc (lineOf ts) is ts && decide (is.Nodup) && ((is.map fun i => N.getD i Str.empty).eraseDups.length == is.length) && !(vs.all (foldedForSure 8)) && !(vs.all (constantsAlone 8))
def ckNoSw (sc : Scope) (ts : List Expr) : Expr → Bool
  | .Tuple vs _ _ => !(ts.length == 2 || ts.length == 3) || !(decide (vs.length = ts.length))
  | _ => true

theorem nostar_any : ∀ {vs : List Expr}, vs.all noStar = true → (vs.any fun | .Starred .. => true | _ => false) = false
  | [], _ => rfl
  | v :: vs, h => by
    rw [List.all_cons, Bool.and_eq_true] at h
    rw [List.any_cons, nostar_any h.2, Bool.or_false]
    have h1 := h.1
    cases v <;> first | rfl | cases h1
theorem noSw_of {sc : Scope} {ts : List Expr} {k : Nat} {p : Pos} {e : Expr} {env : PySem.Env} (h : ckNoSw sc ts e = true) : swappedStores [.Tuple ts k p] e env = pure none := by
  cases e <;> try rfl
  rename_i vs k2 p2
  unfold swappedStores
  have h' : (!(ts.length == 2 || ts.length == 3) || !(decide (vs.length = ts.length))) = true := h
  have hc : (!(ts.length == 2 || ts.length == 3) || vs.length != ts.length || env.blockKind != .function) = true := by
    rw [Bool.or_eq_true] at h'
    rcases h' with z | z
    · rw [z]; rfl
    · have : (vs.length != ts.length) = true := by simpa using z
      rw [this]; simp
  simp only [hc, if_true]
section
variable {T : Tab} {CA : Str → Addr} {N : List Str} {sc : Scope} {C : CallF} {X : Cx} {W : WX} {xi : Option (Nat × Addr × Addr)} {ρ ρ1 : Rho} {me : Env} {mh mh1 : MH} {σ : L2.St} {H H1 : Hp} {D : Ends}
theorem swN_names {line : Nat} {env : PySem.Env} (hk : ∀ x, sc.names.lookup x = some .local → env.kindOf x = some .local) : ∀ {is : List Nat} {ts : List Expr}, ckSwN N sc line is ts = true →
    (ts.filterMap fun | .Name id pos => if env.kindOf id == some .local && pos.line == line then some id else none | _ => none) = is.map (fun i => N.getD i Str.empty) ∧ ts.length = is.length ∧ ∀ j ∈ is, N[j]? = some (N.getD j Str.empty) ∧ sc.names.lookup (N.getD j Str.empty) = some .local
  | [], [], _ => ⟨rfl, rfl, fun j hj => by cases hj⟩
  | i :: is, e :: ts, h => by
    unfold ckSwN at h
    obtain ⟨h1, h2⟩ := ba h
    split at h1
    · rename_i x p
      obtain ⟨h1, h5⟩ := ba h1
      obtain ⟨h3, h4⟩ := ba h1
      obtain ⟨g1, g2, g3⟩ := swN_names hk h2
      have hx := dc h3
      have hl := beq_iff_eq.mp h4
      have ex : N.getD i Str.empty = x := by simp [List.getD, hx]
      refine ⟨?_, by rw [List.length_cons, List.length_cons, g2], fun j hj => ?_⟩
      · rw [List.filterMap_cons, List.map_cons, ex]
        simp only [hk x hl, beq_self_eq_true, h5, Bool.and_self, if_true]
        exact congrArg (x :: ·) g1
      · rcases List.mem_cons.mp hj with z | z
        · rw [z, ex]; exact ⟨hx, hl⟩
        · exact g3 j z
    · cases h1
  | [], _ :: _, h => by unfold ckSwN at h; cases h
  | _ :: _, [], h => by unfold ckSwN at h; cases h
theorem sw_of {is : List Nat} {ts vs : List Expr} {k k2 : Nat} {p p2 : Pos} {env : PySem.Env} (hk : ∀ x, sc.names.lookup x = some .local → env.kindOf x = some .local) (hb : env.blockKind = .function) (h : ckSw N sc is ts vs = true) :
    swappedStores [.Tuple ts k p] (.Tuple vs k2 p2) env = pure (some (is.map fun i => N.getD i Str.empty)) := by
  unfold ckSw at h
  obtain ⟨h, h8⟩ := ba h
  obtain ⟨h, h7⟩ := ba h
  obtain ⟨h, h6⟩ := ba h
  obtain ⟨h, h5⟩ := ba h
  obtain ⟨h, h4⟩ := ba h
  obtain ⟨h, h3⟩ := ba h
  obtain ⟨h1, h2⟩ := ba h
  obtain ⟨g1, g2, g3⟩ := swN_names (env := env) hk h4
  have e1 : (!(ts.length == 2 || ts.length == 3) || vs.length != ts.length || env.blockKind != .function) = false := by
    rw [h1, hb, dc h2]; simp
  unfold swappedStores
  simp only [e1, Bool.false_eq_true, if_false]
  generalize hg : List.filterMap _ ts = names
  generalize hv : List.any vs _ = bb
  have hb1 : bb = false := by rw [← hv]; exact nostar_any h3
  have hb2 : names = is.map (fun i => N.getD i Str.empty) := by rw [← hg]; exact g1
  rw [hb1, hb2]
  have e2 : ((is.map fun i => N.getD i Str.empty).length != ts.length || (is.map fun i => N.getD i Str.empty).eraseDups.length != (is.map fun i => N.getD i Str.empty).length) = false := by
    rw [beq_iff_eq.mp h6, List.length_map, g2]; simp
  simp only [e2, Bool.false_eq_true, if_false]
  have e3 : vs.all (foldedForSure 8) = false := by simpa using h7
  have e4 : vs.all (constantsAlone 8) = false := by simpa using h8
  simp only [e3, e4, Bool.false_eq_true, if_false]
/-- names set one after another -/
theorem assign_all {pins : List (Addr × Obj)} {Q : Unit → Shared → Prop} {E : Value → Shared → Prop} (g : Gd T CA N sc X) : ∀ {is : List Nat} {vs : List V} {us : List Value} {σ : L2.St} {s : Shared}, is.length = vs.length →
    (∀ j ∈ is, N[j]? = some (N.getD j Str.empty) ∧ sc.names.lookup (N.getD j Str.empty) = some .local) → L2.Inv X pins σ H s → Vals vs us →
    (∀ s', L2.Inv X pins ((is.zip vs).foldl (fun (m : L2.St) p => m.set p.1 (some p.2)) σ) H s' → Q () s') → wpAny (model X.prog X.w) X.A (assignInOrder (is.map fun i => bindName X.env (N.getD i Str.empty)) us) Q E s
  | [], [], _, σ, s, _, _, I, .nil, k => assignInOrder_nil (k s I)
  | i :: is, v :: vs, _, σ, s, hl, hn, I, .cons rv rs, k => by
    obtain ⟨h1, h2⟩ := hn i List.mem_cons_self
    have h3 := (loc_of g (.inl h2)).2 h2
    rw [List.map_cons]
    refine assignInOrder_cons (wpAny_bindName (store_ok I g.nd (by rw [g.nm]; exact h1) (.inl h3) rv (fun s2 I2 => ?_) (.inr h3)))
    exact assign_all g (by simpa using hl) (fun j hj => hn j (List.mem_cons_of_mem _ hj)) I2 rs k
  | [], _ :: _, _, _, _, hl, _, _, _, _ => by cases hl
  | _ :: _, [], _, _, _, hl, _, _, _, _ => by cases hl
theorem fold_rs {xs : List MV} : ∀ {is : List Nat} {xs : List MV} {vs : List V} {me : Env} {σ : L2.St}, me.ex = none → RS CA xi ρ H me σ → RVs CA ρ H xs vs →
    RS CA xi ρ H ((is.zip xs).foldl (fun m p => m.set p.1 p.2) me) ((is.zip vs).foldl (fun (m : L2.St) p => m.set p.1 (some p.2)) σ)
  | [], _, _, me, σ, he, r, _ => by simpa using r
  | i :: is, [], _, me, σ, he, r, .nil => by simpa using r
  | i :: is, x :: xs, v :: vs, me, σ, he, r, .cons rv rs => by
    rw [List.zip_cons_cons, List.zip_cons_cons, List.foldl_cons, List.foldl_cons]
    exact fold_rs (xs := xs) (me := me.set i x) he (r.set (by rw [he]; simp) rv) rs
theorem zip_rev {α β : Type} : ∀ {as : List α} {bs : List β}, as.length = bs.length → (as.zip bs).reverse = as.reverse.zip bs.reverse
  | [], [], _ => rfl
  | a :: as, b :: bs, h => by
    have h' : as.length = bs.length := by simpa using h
    rw [List.zip_cons_cons, List.reverse_cons, List.reverse_cons, List.reverse_cons, zip_rev h', List.zip_append (by simpa using h')]
    rfl
  | [], _ :: _, h => by cases h
  | _ :: _, [], h => by cases h
theorem SR.of_bind {α β : Type} {me : Env} {x : M α} {f : α → M β} {k : β → MH → SR} {mh : MH} : SR.of me (M.bind x f mh) k = SR.of me (x mh) fun a h => SR.of me (f a h) k := by
  unfold M.bind SR.of
  cases x mh <;> rfl
theorem vals_rev : ∀ {xs : List V} {us : List Value}, Vals xs us → Vals xs.reverse us.reverse
  | _, _, .nil => .nil
  | _, _, .cons r t => by
    rw [List.reverse_cons, List.reverse_cons]
    exact (vals_rev t).append (.cons r .nil)
theorem ps_asgSw {is : List Nat} {ts vs : List Expr} {as : MEs} {k k2 : Nat} {p p2 pos : Pos} (ct : CtS T CA N sc C X W xi) (h0 : ckSw N sc is ts vs = true) (ha : PA X vs (tEs T CA C X W xi as)) :
    PS X (.Assign [.Tuple ts k p] (.Tuple vs k2 p2) pos) (tS T CA C X W xi (.asg (.sw is) (.tup as))) := by
  have hk : ∀ x, sc.names.lookup x = some .local → X.env.kindOf x = some .local := fun x h => (loc_of ct.c.g (.inl h)).2 h
  have hw := sw_of (k := k) (k2 := k2) (p := p) (p2 := p2) hk ct.bk h0
  have hnames : ∀ j ∈ is, N[j]? = some (N.getD j Str.empty) ∧ sc.names.lookup (N.getD j Str.empty) = some .local := by
    unfold ckSw at h0
    obtain ⟨h, _⟩ := ba h0
    obtain ⟨h, _⟩ := ba h
    obtain ⟨h, _⟩ := ba h
    obtain ⟨h, _⟩ := ba h
    obtain ⟨h, h4⟩ := ba h
    exact (swN_names hk h4).2.2
  refine ⟨fun pins s σ H D I ⟨ρ, me, mh, at_, h⟩ => ?_⟩
  unfold exS at h
  by_cases hc : me.ex.isSome = true
  · rw [if_pos ⟨rfl, hc⟩] at h; exact h.elim
  · rw [if_neg (fun z => hc z.2)] at h
    have hcalm := at_.cm (by simpa using hc)
    have hex : me.ex = none := by simpa using hc
    unfold evE at h
    rw [SR.of_bind] at h
    have h' := AftS.of (R := RVn CA as.len) at_ h
    rw [exec_Assign_arm]
    refine wpAny_bind (wpAny_standAt ?_)
    rw [show swapsWithSole [.Tuple ts k p] (.Tuple vs k2 p2) pos.line X.env = pure false from rfl]
    refine wpAny_bind (wpAny_pure ?_)
    rw [if_neg (by decide)]
    refine wpAny_bind (PyProof.Rows.Tuple_ (thn (ha.run _ pins s σ H _ I ⟨ρ, me, mh, at_, h'⟩) fun us s1 ⟨ws, H1, I1, r1, ρ1, mh1, xs, e1, rh1, q1, h1⟩ => ?_))
    by_cases hz : xs.length ≤ sizeLine
    · rw [if_pos hz] at h1
      have hz2 : us.length ≤ sizeLine := by rw [← r1.length, ← q1.1.length]; exact hz
      refine wpAny_newObj_type ?_ (by show us.length ≤ sizeLine; exact hz2)
      have I2 : L2.Inv X pins σ H1 { s1 with heap := s1.heap.push { cls := .type "tuple", data := .seq us.toArray } } := I1.kept (t' := s1.toks) fun b o e => Heap.get?_push_of_some _ e
      rw [hw]
      refine wpAny_bind (wpAny_pure ?_)
      have h2 : AftS X CA W xi ρ1 H1 (SR.of me (asgM T C me (.tup xs) (.sw is) mh1) fun me' h => .ok (.next me') h) D := h1
      unfold asgM at h2
      simp only at h2
      by_cases hl : xs.length = is.length
      · rw [if_pos ⟨hl, by rw [hex]; rfl⟩] at h2
        have hlen : us.toArray.size = is.length := by rw [← hl, q1.1.length, r1.length]; simp
        show wpAny (model X.prog X.w) X.A (do rule "assign.swapped-stores"; let items ← unpackItems (.ref s1.heap.objs.size) (is.map fun i => N.getD i Str.empty).length none; assignInOrder ((is.map fun i => N.getD i Str.empty).reverse.map fun n => bindName X.env n) items.reverse; pure Flow.next) _ _ _
        rw [List.length_map, ← hlen]
        refine wpAny_bind (wpAny_rule (wpAny_bind (unpackItems_tuple (items := us.toArray) (I.ok.hd hcalm) (IsTup.new s1.heap _) fun h' hx' => ?_)))
        have I3 := I2.kept (h' := h') (t' := s1.toks) fun b o e => hx' b o (Nat.ne_of_lt (Heap.lt_size e)) e
        have em : ((is.map fun i => N.getD i Str.empty).reverse.map fun n => bindName X.env n) = is.reverse.map fun i => bindName X.env (N.getD i Str.empty) := by
          rw [← List.map_reverse, List.map_map]; rfl
        rw [em]
        refine wpAny_bind (assign_all (T := T) (CA := CA) ct.c.g (is := is.reverse) (vs := ws.reverse) (by rw [List.length_reverse, List.length_reverse, ← q1.1.length, hl]) (fun j hj => hnames j (List.mem_reverse.mp hj)) I3 (vals_rev r1) fun s' I4 => wpAny_pure ?_)
        have rs := at_.rs.mono e1
        have rr := fold_rs (xs := xs) (is := is.reverse) hex rs q1.1.reverse
        rw [← zip_rev hl.symm] at rr
        exact ⟨_, H1, I4, h2 ρ1 H1 _ Ext.refl ⟨rr, rh1, fun _ => hcalm⟩⟩
      · rw [if_neg (fun z => hl z.1)] at h2; exact h2.elim
    · rw [if_neg hz] at h1; exact h1.elim
end
end Mi
end

section
/-! Mini, part 14: own exceptions over Exception: their __init__, raise. -/
namespace Mi
open PySem PySem.Spec PyProof.Rows L2

/-- own classes, then Exception's mro -/
def refsEx : List Value → Bool
  | .ref _ :: r => refsEx r
  | l => l == PySem.ESX.exTail
theorem refsEx_cases : ∀ l : List Value, refsEx l = true → (∃ c r, l = .ref c :: r ∧ refsEx r = true) ∨ l = PySem.ESX.exTail := fun l h => by
  cases l with
  | nil => exact .inr (beq_iff_eq.mp h)
  | cons a r => cases a <;> first | exact .inr (beq_iff_eq.mp h) | exact .inl ⟨_, _, rfl, h⟩
theorem refsEx_pass (self : Value) : ∀ l : List Value, refsEx l = true → refuseLoop self "__setattr__" l = pure ()
  | [], e => absurd e (by decide)
  | a :: r, e => by
    rcases refsEx_cases (a :: r) e with ⟨c, r', q, h⟩ | q
    · obtain ⟨rfl, rfl⟩ := List.cons.inj q
      rw [refuseLoop_ref]; exact refsEx_pass self r h
    · rw [q]; exact F.store_Exception.passes self
theorem refsEx_has (X : String) : ∀ l : List Value, refsEx l = true → l.contains (.type X) = PySem.ESX.exTail.contains (.type X)
  | [], e => absurd e (by decide)
  | a :: r, e => by
    rcases refsEx_cases (a :: r) e with ⟨c, r', q, h⟩ | q
    · obtain ⟨rfl, rfl⟩ := List.cons.inj q
      rw [List.contains_cons, refsEx_has X r h]; rfl
    · rw [q]
theorem refsEx_ne {l : List Value} (e : refsEx l = true) : l.isEmpty = false := by
  cases l with
  | nil => exact absurd e (by decide)
  | cons _ _ => rfl

/-! ### self.f = v on such an exception -/
section
open Builtin Builtin.ObjectAttr
variable {prog : Program} {w : World} {A : Around} {R : Result → Shared → Prop} {hp : Heap} {g : Array GenState} {d : Drawn} {t : Nat} {os : OsState}
theorem osa_go {K : W.Frag} {name : Str} {tk : Tok} {v : Value} {x C : Addr} {ox : Obj} {od : Option Obj} {cd : ClassData}
    (X : K.In hp) (I : W.InstAt hp x ox C od) (hcd : W.clsIn K C = some cd) (hm : refsEx cd.mro = true) (ha : W.findIn K (.ref C) name = some none)
    (hq : wpAny (model prog w) A.in1 (storeInOwnDict (.ref x) (.ref C) (.str name tk) name v false)
      (fun fin s' => match fin with | .done f => R (.ok f) s' | .again c' => c'.quiet = true ∧ codeAny (model prog w) A c' R s') (fun e s' => R (.error e) s') ⟨hp, g, d, t, os⟩) :
    codeAny (model prog w) A (.call (.builtin "object.__setattr__") ⟨[.ref x, .str name tk, v], []⟩) R ⟨hp, g, d, t, os⟩ := by
  have SF := F.store_object
  have ne := refsEx_ne hm
  have hob : cd.mro.contains (.type "object") = true := (refsEx_has "object" _ hm).trans (by decide +kernel)
  have sub : W.Looks (model prog w) hp (isInstance (.ref x) (.type "object")) true := I.type.andThen (W.looks_mroIn X (by unfold W.mroIn; rw [hcd, Option.bind_some, if_neg (by rw [ne]; decide), hob]))
  refine codeAny_call_builtin SF.slot.plain SF.entry (@W.check_slot (model prog w) _ _ ⟨hp, g, d, t, os⟩ "object.__setattr__" "object" "__setattr__" (.ref x) [.str name tk, v] [] _ SF.kind SF.split sub (SF.args (.ref x) (.str name tk) v) ?_)
  have hmr : W.Looks (model prog w) hp (mroOf (.ref C)) cd.mro := (W.looks_clsIn X hcd).andThen .now
  have L3 : W.Looks (model prog w) hp (storeTaker? none) none := .now
  rw [W.osa_eq, refuse_eq]
  refine wpAny_bind (wpAny_bind (I.type.at (wpAny_bind (hmr.at ?_))))
  rw [refsEx_pass _ _ hm]
  exact wpAny_pure (wpAny_bind (I.type.at (wpAny_bind ((W.looks_findIn X ha).at (wpAny_bind (L3.at hq))))))
theorem osa_fst {K : W.Frag} {name : Str} {tk : Tok} {v : Value} {x C : Addr} {fv : Array Value} {cd : ClassData}
    (X : K.In hp) (hx : hp.get? x = some { cls := .ref C, data := .fields fv }) (hcd : W.clsIn K C = some cd) (hm : refsEx cd.mro = true) (hh : cd.hasDict = true) (ha : W.findIn K (.ref C) name = some none)
    (hq : ∀ h' tk' dx, (∀ b o, b ≠ x → hp.get? b = some o → h'.get? b = some o) → hp.objs.size ≤ dx → dx ≠ x → h'.get? x = some { cls := .ref C, dict := some dx, data := .fields fv } →
      h'.Ns1 dx (fun y => if y = name then some v else none) → R (.ok (.ret .none)) ⟨h', g, d, tk', os⟩) :
    codeAny (model prog w) A (.call (.builtin "object.__setattr__") ⟨[.ref x, .str name tk, v], []⟩) R ⟨hp, g, d, t, os⟩ := by
  have I : W.InstAt hp x { cls := .ref C, data := .fields fv } C none := ⟨hx, rfl, rfl, trivial⟩
  have hxs : x ≠ hp.objs.size := Nat.ne_of_lt (Heap.lt_size hx)
  refine osa_go X I hcd hm ha ?_
  have hcls : W.Looks (model prog w) hp (classData C) cd := W.looks_clsIn X hcd
  obtain ⟨nm, bs, mro, ns, qn, hd, sn, sb, ab, col, del⟩ := cd
  dsimp only at hh
  subst hh
  unfold storeInOwnDict ownDictForStores
  repeat (first | with_reducible refine HandSPX.store_in_new ?_ ?_ | with_reducible refine wpAny_loadPart_at hx ?_ | with_reducible refine hcls.at ?_ | wp_step)
  · exact ⟨_, #[], _, (Heap.get?_update_ne _ _ _ _ hxs.symm).trans (Heap.get?_push_at rfl rfl), rfl, fun e he => absurd he (by simp), fun _ => rfl⟩
  · intro h' tk' hn' hs
    have hx₁ : (hp.push { cls := .type "dict", data := .dict #[] }).get? x = some { cls := .ref C, data := .fields fv } := Heap.get?_push_of_some _ hx
    refine hq h' tk' hp.objs.size (fun b o hb ho => ?_) (Nat.le_refl _) hxs.symm ?_ hn'
    · exact (hs.2 b (Nat.ne_of_lt (Heap.lt_size ho))).trans ((Heap.get?_update_ne _ _ _ _ hb).trans (Heap.get?_push_of_some _ ho))
    · exact (hs.2 x hxs).trans (Heap.get?_update_self _ hx₁ rfl)
theorem osa_nxt {K : W.Frag} {name : Str} {tk : Tok} {v : Value} {x C dx : Addr} {fv : Array Value} {cd : ClassData} {m0 : Str → Option Value} {nl : List Str}
    (X : K.In hp) (hx : hp.get? x = some { cls := .ref C, dict := some dx, data := .fields fv }) (hns : hp.Ns1 dx m0) (hw : Within m0 nl) (hz : nl.length ≤ 1000) (hcd : W.clsIn K C = some cd) (hm : refsEx cd.mro = true) (hh : cd.hasDict = true)
    (ha : W.findIn K (.ref C) name = some none)
    (hq : ∀ h' tk', (∀ b o, b ≠ dx → hp.get? b = some o → h'.get? b = some o) → h'.Ns1 dx (fun y => if y = name then some v else m0 y) → R (.ok (.ret .none)) ⟨h', g, d, tk', os⟩) :
    codeAny (model prog w) A (.call (.builtin "object.__setattr__") ⟨[.ref x, .str name tk, v], []⟩) R ⟨hp, g, d, t, os⟩ := by
  obtain ⟨oD, esD, epD, hoD, hdD, _⟩ := hns.count hw
  have I : W.InstAt hp x { cls := .ref C, dict := some dx, data := .fields fv } C (some oD) := ⟨hx, rfl, rfl, hoD⟩
  refine osa_go X I hcd hm ha ?_
  have hcls : W.Looks (model prog w) hp (classData C) cd := W.looks_clsIn X hcd
  obtain ⟨nm, bs, mro, ns, qn, hd, sn, sb, ab, col, del⟩ := cd
  dsimp only at hh
  subst hh
  unfold storeInOwnDict ownDictForStores
  repeat (first | with_reducible refine PySem.OEX.store_in_old hns hw hz ?_ | with_reducible refine wpAny_loadPart_at hx ?_ | with_reducible refine hcls.at ?_ | wp_step)
  intro h' tk' hn' hs
  exact hq h' tk' (fun b o hb ho => (hs.2 b hb).trans ho) hn'
end

/-- what the written part says of such a class -/
structure EC (K : PySem.W.Frag) (C : Addr) : Prop where
  cls : ∃ nm q N bs bm sn sub ab col dd k0 k1 k2 k3 k5, K.lookup C = some (excClassObj nm q C N bs bm true sn sub ab col dd k0 k1 k2 k3 k5 "Exception.__new__") ∧ refsEx bm = true
  sa : PySem.W.findIn K (.ref C) "__setattr__" = some (some (.builtin "object.__setattr__"))
  exC : PySem.W.subIn K (.ref C) (.type "BaseException") = some true
  tyC : PySem.W.typeIn K (.ref C) = some (.type "type")
  kC : PySem.W.keepIn K (.ref C) = true
/-- .. of the class whose __init__ is called by name -/
structure XB (K : PySem.W.Frag) (G : Addr) : Prop where
  sp : PySem.W.specialIn K (.ref G) "__getattribute__" = some (some (.builtin "type.__getattribute__"))
  ty : PySem.W.typeIn K (.ref G) = some (.type "type")
  rd : PySem.W.readsIn K G (.type "type") = true
  fc : PySem.W.findCls K (.ref G) (.type "type") "__init__" = some (.val (.builtin "Exception.__init__"))

section
variable {X : Cx} {pins : List (Addr × Obj)} {σ : L2.St} {H : Hp} {s : Shared} {a C dx : Addr} {f : Str} {y : V} {u : Value} {fs : List (Str × V)} {Q : Unit → Shared → Prop} {E : Value → Shared → Prop} {A : Around}
theorem xst_new (T : EC X.K C) (I : L2.Inv X pins σ H s) (e : H a = some (exo a C none)) (hno : PySem.W.findIn X.K (.ref C) f = some none) (ry : RelV y u)
    (h : ∀ dx s', H dx = none → dx ≠ a → L2.Inv X pins σ (upd (upd H dx (exd dx [(f, y)])) a (exo a C (some dx))) s' → Q () s') : wpAny (model X.prog X.w) A (setAttr (.ref a) f u) Q E s := by
  obtain ⟨nm, q, N, bs, bm, sn, sub, ab, col, dd, k0, k1, k2, k3, k5, hC, hbm⟩ := T.cls
  have hcl : PySem.W.clsIn X.K C = some { name := nm, bases := bs, mro := .ref C :: bm, ns := N, qualname := q, hasDict := true, slotNames := sn, subclasses := sub, abstract := ab, collection := col, hasDel := false } := by unfold PySem.W.clsIn; rw [hC] <;> rfl
  obtain ⟨t1, ho⟩ := exo_at I.hok e
  obtain ⟨hp, g, d, t, os⟩ := s
  refine PySem.W.set_plain I.kIn (ox := { cls := .ref C, dict := none, data := .fields #[.ref t1, .none, .none, .none, .bool false, .none] }) (od := none) ⟨ho, rfl, rfl, trivial⟩ T.sa ?_
  refine osa_fst I.kIn ho hcl (show refsEx (.ref C :: bm) = true from hbm) rfl hno (fun h' tk' dx k dn dne hx hn => ?_)
  have hnd : H dx = none := I.hok.fresh dn
  have nd : ∀ {b : Addr} {o : Obj}, hp.get? b = some o → b ≠ dx := fun {b o} q => Nat.ne_of_lt (Nat.lt_of_lt_of_le (Heap.lt_size q) dn)
  have na : ∀ {b : Addr}, H b = none → b ≠ a := fun {b} n z => by
    rw [z, e] at n
    cases n
  have Un1 : Un X.fs [] H (upd (upd H dx (exd dx [(f, y)])) a (exo a C (some dx))) hp h' := {
    keep := fun b o q n _ _ => k b o (na n) q
    slot := fun b o q n _ _ => ⟨o.slots, k b o (na n) q⟩
    free := fun b o q n _ => by rw [upd_ne (na n), upd_ne (nd q)]; exact n
    there := fun b o q _ => by
      by_cases hb : b = a
      · exact ⟨_, by rw [hb]; exact hx⟩
      · exact ⟨o, k b o hb q⟩
    tups := fun b xs q => by rw [upd_ne (at_ne e q exo_tup), upd_ne (ne_of_none q hnd)]; exact q
    frzs := fun b o v q => by rw [upd_ne (at_ne e q exo_frz), upd_ne (ne_of_none q hnd)]; exact q
    tbls := fun b ps q => ⟨#[], by rw [upd_ne (at_ne e q exo_tbl), upd_ne (ne_of_none q hnd), q]; simp⟩ }
  refine h dx _ hnd dne (I.un (t' := tk') Un1 fun b o q => ?_)
  by_cases hb : b = a
  · subst hb
    rw [upd_same] at q
    cases q
    exact exo_ok hx
  · rw [upd_ne hb] at q
    by_cases hd : b = dx
    · subst hd
      rw [upd_same] at q
      cases q
      exact exd_ok hn (relO_put (fs := []) ry fun g => True.intro)
    · rw [upd_ne hd] at q
      exact (I.hok b o q).stay (fun c v hc z => k c v (by
          rcases hc with hc | hc
          · rw [hc]
            exact hb
          · exact at_ne e hc exo_own) z)
        (fun c hc => by rw [upd_ne (at_ne e hc exo_own), upd_ne (ne_of_none hc hnd)]; exact hc) (fun c xs hc => by rw [upd_ne (at_ne e hc exo_tup), upd_ne (ne_of_none hc hnd)]; exact hc)
theorem xst_old (T : EC X.K C) (I : L2.Inv X pins σ H s) (e : H a = some (exo a C (some dx))) (ed : H dx = some (exd dx fs)) (hl : fs.length ≤ 900) (hno : PySem.W.findIn X.K (.ref C) f = some none) (ry : RelV y u)
    (h : ∀ s', L2.Inv X pins σ (upd H dx (exd dx ((f, y) :: fs))) s' → Q () s') : wpAny (model X.prog X.w) A (setAttr (.ref a) f u) Q E s := by
  obtain ⟨nm, q, N, bs, bm, sn, sub, ab, col, dd, k0, k1, k2, k3, k5, hC, hbm⟩ := T.cls
  have hcl : PySem.W.clsIn X.K C = some { name := nm, bases := bs, mro := .ref C :: bm, ns := N, qualname := q, hasDict := true, slotNames := sn, subclasses := sub, abstract := ab, collection := col, hasDel := false } := by unfold PySem.W.clsIn; rw [hC] <;> rfl
  obtain ⟨t1, ho⟩ := exo_at I.hok e
  obtain ⟨mA, hns, rel⟩ := exd_at I.hok ed
  have hw := within_of rel
  obtain ⟨hp, g, d, t, os⟩ := s
  obtain ⟨oD, _, _, hoD, _, _⟩ := hns.count hw
  refine PySem.W.set_plain I.kIn (ox := { cls := .ref C, dict := some dx, data := .fields #[.ref t1, .none, .none, .none, .bool false, .none] }) (od := some oD) ⟨ho, rfl, rfl, hoD⟩ T.sa ?_
  refine osa_nxt I.kIn ho hns hw (by rw [List.length_map]; omega) hcl (show refsEx (.ref C :: bm) = true from hbm) rfl hno (fun h' tk' k hn => ?_)
  have hd : ∃ o, h'.get? dx = some o := by
    obtain ⟨o, _, _, e', _⟩ := hn
    exact ⟨o, e'⟩
  exact h _ (I.write (t' := tk') (x := dx) (e := dx) (o := exd dx ((f, y) :: fs)) (by rw [ed]; exact True.intro) (.inl rfl) k hd (exd_ok hn (relO_put ry rel)))
/-- Exception.__init__(self, ..): nothing of it is told -/
theorem xinit_ok {us : List Value} {Q : Value → Shared → Prop} (T : EC X.K C) (I : L2.Inv X pins σ H s) (e : H a = some (exo a C none)) (hl : us.length ≤ sizeLine) (h : ∀ s', L2.Inv X pins σ H s' → Q .none s') :
    wpAny (model X.prog X.w) A (call (.builtin "Exception.__init__") (.ref a :: us)) Q E s := by
  obtain ⟨nm, q, N, bs, bm, sn, sub, ab, col, dd, k0, k1, k2, k3, k5, hC, hbm⟩ := T.cls
  obtain ⟨t1, ho⟩ := exo_at I.hok e
  obtain ⟨hp, g, d, t, os⟩ := s
  refine wpAny_call (PySem.HandSPX.init_base F.excBase_Exception (fun Y => refsEx_has Y bm hbm) (I.kIn _ _ hC) ho hl fun h' t2 k hx => ?_)
  have J := I.write (t' := t) (x := a) (e := a) (o := exo a C none) (by rw [e]; exact True.intro) (.inl rfl) k ⟨_, hx⟩ (exo_ok hx)
  have eu : upd H a (exo a C none) = H := by
    funext b
    by_cases hb : b = a
    · rw [hb, upd_same, e]
    · rw [upd_ne hb]
  rw [eu] at J
  exact h _ J
end
end Mi
end

section
/-! Mini, part 15: raise X(..). -/
namespace Mi
open PySem PySem.Spec PyProof.Rows L2

/-! ### the def __init__ of such a class -/
def ckXA (N : List Str) (sc : Scope) : Nat → List Str → List Stmt → Bool
  | _, [], [] => true
  | i, f :: fs, .Assign [.Attribute (.Name s _) f' _] (.Name p _) _ :: r => decide (f' = f) && decide (N[0]? = some s) && vis sc s && decide (N[i]? = some p) && vis sc p && ckXA N sc (i + 1) fs r
  | _, _, _ => false
def ckXI (N : List Str) (sc : Scope) (g : Str) (fs : List Str) : List Stmt → Bool
  | .Expr (.Call (.Attribute (.Name x _) m p2) [.Name s _, .Constant (.str _) _ _] [] pos) _ :: r =>
    decide (x = g) && decide (m = ("__init__" : Str)) && glb sc x && decide (N[0]? = some s) && vis sc s && (p2.endLine == pos.line) && ckXA N sc 1 fs r
  | _ => false
/-- what it does -/
def spX (K : PySem.W.Frag) (C : Addr) (fs : List Str) : Sp := fun vs H Q _ => ∃ (a : Addr) (ws : List V), vs = .ref a :: ws ∧ ws.length = fs.length ∧ H a = some (exo a C none) ∧
  ∀ dx, H dx = none → dx ≠ a → Q .non (upd (upd H dx (exd dx (fs.zip ws).reverse)) a (exo a C (some dx)))

section
variable {X : Cx} {N : List Str} {sc : Scope}
/-- the names of a def's body -/
structure Nms (X : Cx) (N : List Str) (sc : Scope) : Prop where
  nm : X.N = N
  nd : X.N.Nodup
  sc : ∀ (x : Str) (k : NameKind), sc.names.lookup x = some k → X.env.scope.names.lookup x = some k
theorem Nms.vis (g : Nms X N sc) {x : Str} (h : vis sc x = true) : Vis X.env.scope x ∧ (x == ("__debug__" : Str)) = false ∧ (x == ("__classdict__" : Str)) = false := by
  unfold Mi.vis okN at h
  simp only [Bool.and_eq_true, Bool.or_eq_true, beq_iff_eq, Bool.not_eq_true'] at h
  obtain ⟨h1, ⟨h2, h3⟩, _⟩ := h
  refine ⟨?_, h2, h3⟩
  rcases h1 with (h1 | h1) | h1
  · exact .inl (g.sc x _ h1)
  · exact .inr (.inl (g.sc x _ h1))
  · exact .inr (.inr (g.sc x _ h1))
theorem Nms.glb (g : Nms X N sc) {x : Str} (h : glb sc x = true) : Gl X x ∧ (x == ("__debug__" : Str)) = false := by
  unfold Mi.glb okN at h
  simp only [Bool.and_eq_true, beq_iff_eq, Bool.not_eq_true'] at h
  obtain ⟨h1, ⟨h2, _⟩, _⟩ := h
  exact ⟨g.sc x _ h1, h2⟩
theorem pe_nms {i : Nat} {x : Str} {p : Pos} (g : Nms X N sc) (hi : N[i]? = some x) (hv : vis sc x = true) : PE X (.Name x p) (fun σ H Q => ∃ v, σ[i]? = some (some v) ∧ Q v H) := by
  obtain ⟨v, d1, d2⟩ := g.vis hv
  exact PE.to (pe_var (i := i) (by rw [g.nm]; exact hi) v d1 d2) fun _ _ _ h => h

def tXeI (K : PySem.W.Frag) (ta : TA) : TE := fun σ H Q => ta σ H fun vs H1 => ∃ (a C : Addr) (ws : List V), vs = .ref a :: ws ∧ ws.length ≤ 1000 ∧ EC K C ∧ H1 a = some (exo a C none) ∧ Q .non H1
theorem pe_xinit {e : Expr} {es : List Expr} {ta : TA} {x : Str} {p1 p2 pos : Pos} {G : Addr} (hb : XB X.K G) (hg : Gl X x) (hdb : (x == ("__debug__" : Str)) = false) (hm : X.mg x = some (.ref G)) (ha : PA X (e :: es) ta)
    (hes : (e :: es).all noStar = true) (hn : (e :: es).length < 29) (hl : (p2.endLine == pos.line) = true) : PE X (.Call (.Attribute (.Name x p1) "__init__" p2) (e :: es) [] pos) (tXeI X.K ta) := by
  refine ⟨fun pins s σ H Q I h => ?_⟩
  refine PySem.W.methodCall_KW (pl := (do return (← importBound (.Name x p1) X.env).getD true)) (ld_glob I hg hm ?_ hdb) (meth_eval (ks := []) rfl hes rfl (by simpa using hn) hl)
  obtain ⟨m, fr⟩ := I.fr
  refine PySem.W.method_of_cls fr I.ok.mod.kin hb.sp (PySem.W.cls_val fr I.ok.mod.kin hb.ty hb.rd hb.fc (by decide +kernel) ?_)
  show wpAny _ _ (callWith pos (Value.builtin "Exception.__init__") [] (backTo pos (starEach (e :: es) X.env)) []) _ _ _
  rw [List.all_cons, Bool.and_eq_true] at hes
  refine PyProof.Rows.callWith_method1 (thn (ha.run pos pins _ σ H _ (I.tok _) h) fun us s1 ⟨vs, H1, I1, r1, a, C, ws, ev, hlw, T, ea, q⟩ => ?_) (star_cons hes.1) (star_none hes.2)
  subst ev
  cases r1 with
  | @cons _ u0 _ ur ra rw' =>
    obtain rfl : u0 = Value.ref a := ra
    have hlen : ur.length ≤ sizeLine := by
      rw [← Paired.length rw', sizeLine_eq]
      omega
    exact xinit_ok T I1 ea hlen fun s' J => ⟨.non, H1, J, rfl, q⟩

theorem upd_upd {H : Hp} {a b : Addr} {o o' p : HO} (h : b ≠ a) : upd (upd (upd H b o) a p) b o' = upd (upd H b o') a p := by
  funext c
  by_cases h1 : c = b
  · subst h1; rw [upd_same, upd_ne h, upd_same]
  · rw [upd_ne h1]
    by_cases h2 : c = a
    · subst h2; rw [upd_same, upd_same]
    · rw [upd_ne h2, upd_ne h1, upd_ne h2, upd_ne h1]
/-- the fields behind the first -/
def tXA (K : PySem.W.Frag) (C : Addr) (i : Nat) (fs : List Str) : TS := fun D σ H => ∃ (a dx : Addr) (dn : List (Str × V)) (ws : List V), EC K C ∧ (∀ f ∈ fs, PySem.W.findIn K (.ref C) f = some none) ∧ σ[0]? = some (some (.ref a)) ∧
  (∀ (j : Nat) (y : V), ws[j]? = some y → σ[i + j]? = some (some y)) ∧ ws.length = fs.length ∧ H a = some (exo a C (some dx)) ∧ H dx = some (exd dx dn) ∧ dx ≠ a ∧ dn.length + fs.length ≤ 900 ∧ D.nx σ (upd H dx (exd dx ((fs.zip ws).reverse ++ dn)))
theorem ckXA_cons {i : Nat} {f : Str} {fs : List Str} {st : Stmt} {r : List Stmt} (h : ckXA N sc i (f :: fs) (st :: r) = true) : ∃ (s : Str) (ps pa : Pos) (p : Str) (pp pos' : Pos), st = .Assign [.Attribute (.Name s ps) f pa] (.Name p pp) pos' ∧
    N[0]? = some s ∧ vis sc s = true ∧ N[i]? = some p ∧ vis sc p = true ∧ ckXA N sc (i + 1) fs r = true := by
  unfold ckXA at h
  split at h
  · rename_i e1 e2; cases e1
  · rename_i e1 e2
    cases e1
    cases e2
    obtain ⟨h, h6⟩ := ba h
    obtain ⟨h, h5⟩ := ba h
    obtain ⟨h, h4⟩ := ba h
    obtain ⟨h, h3⟩ := ba h
    obtain ⟨h1, h2⟩ := ba h
    have hf := dc h1
    subst hf
    exact ⟨_, _, _, _, _, _, rfl, dc h2, h3, dc h4, h5, h6⟩
  · cases h
theorem pss_xa {C : Addr} (g : Nms X N sc) : ∀ (fs : List Str) (i : Nat) (st : List Stmt), ckXA N sc i fs st = true → PSs X st (tXA X.K C i fs)
  | [], i, [], _ => PSs.to pss_nil fun D σ H ⟨a, dx, dn, ws, _, _, _, _, hl, ea, ed, _, _, q⟩ => by
    have e : upd H dx (exd dx dn) = H := by
      funext b
      by_cases hb : b = dx
      · rw [hb, upd_same, ed]
      · rw [upd_ne hb]
    have q' : D.nx σ (upd H dx (exd dx dn)) := by simpa using q
    rw [e] at q'
    exact q'
  | f :: fs, i, st :: r, h => by
    obtain ⟨s, ps, pa, p, pp, pos', rfl, h2, h3, h4, h5, h6⟩ := ckXA_cons h
    have hs : PS X (.Assign [.Attribute (.Name s ps) f pa] (.Name p pp) pos') (fun D σ H => ∃ (a dx : Addr) (dn : List (Str × V)) (y : V), EC X.K C ∧ PySem.W.findIn X.K (.ref C) f = some none ∧ σ[0]? = some (some (.ref a)) ∧ σ[i]? = some (some y) ∧
        H a = some (exo a C (some dx)) ∧ H dx = some (exd dx dn) ∧ dn.length ≤ 900 ∧ D.nx σ (upd H dx (exd dx ((f, y) :: dn)))) := by
      refine ⟨fun pins s0 σ H D I ⟨a, dx, dn, y, T, hno, e0, ei, ea, ed, hl, q⟩ => ?_⟩
      refine plainObj_wpAny_Assign_Attribute (thn ((pe_nms (p := pp) g h4 h5).run pins s0 σ H (fun v H1 => v = y ∧ H1 = H) I ⟨y, ei, rfl, rfl⟩) fun v s1 ⟨y1, H1, I1, r1, ey, eH⟩ =>
        thn ((pe_nms (p := ps) g h2 h3).run pins s1 σ H1 (fun v H2 => v = .ref a ∧ H2 = H) I1 ⟨.ref a, e0, rfl, eH⟩) fun u s2 ⟨x, H2, I2, r2, ex, eH2⟩ => ?_) (swaps_no rfl)
      subst ey; subst ex; subst eH2
      obtain rfl : u = Value.ref a := r2
      exact xst_old T I2 ea ed hl hno r1 fun s' J => ⟨σ, _, J, q⟩
    refine PSs.to (pss_cons hs (pss_xa (C := C) g fs (i + 1) r h6)) fun D σ H ⟨a, dx, dn, ws, T, hno, e0, ei, hl, ea, ed, ne, hz, q⟩ => ?_
    cases ws with
    | nil => cases hl
    | cons y ws =>
      rw [List.length_cons] at hz
      refine ⟨a, dx, dn, y, T, hno f List.mem_cons_self, e0, ei 0 y rfl, ea, ed, by omega, ?_⟩
      refine ⟨a, dx, (f, y) :: dn, ws, T, fun f hf => hno f (List.mem_cons_of_mem _ hf), e0, fun j z hj => ?_, by simpa using hl, by rw [upd_ne (Ne.symm ne)]; exact ea, upd_same, ne, by rw [List.length_cons]; omega, ?_⟩
      · have := ei (j + 1) z (by simpa using hj)
        rw [show i + 1 + j = i + (j + 1) by omega]; exact this
      · have e : upd (upd H dx (exd dx ((f, y) :: dn))) dx (exd dx ((fs.zip ws).reverse ++ (f, y) :: dn)) = upd H dx (exd dx (((f :: fs).zip (y :: ws)).reverse ++ dn)) := by
          funext b
          by_cases hb : b = dx
          · subst hb; rw [upd_same, upd_same, List.zip_cons_cons, List.reverse_cons, List.append_assoc]; rfl
          · rw [upd_ne hb, upd_ne hb, upd_ne hb]
        show D.nx σ (upd (upd H dx (exd dx ((f, y) :: dn))) dx (exd dx ((fs.zip ws).reverse ++ (f, y) :: dn)))
        rw [e]; exact q
  | [], _, _ :: _, h => by unfold ckXA at h; cases h
  | _ :: _, _, [], h => by unfold ckXA at h; cases h
/-- the whole body -/
def tXB (K : PySem.W.Frag) (C : Addr) (fs : List Str) : TS := fun D σ H => ∃ (a : Addr) (ws : List V), EC K C ∧ (∀ f ∈ fs, PySem.W.findIn K (.ref C) f = some none) ∧ fs ≠ [] ∧ fs.length ≤ 900 ∧ σ[0]? = some (some (.ref a)) ∧
  (∀ (j : Nat) (y : V), ws[j]? = some y → σ[1 + j]? = some (some y)) ∧ ws.length = fs.length ∧ H a = some (exo a C none) ∧
  ∀ dx, H dx = none → dx ≠ a → D.nx σ (upd (upd H dx (exd dx (fs.zip ws).reverse)) a (exo a C (some dx)))
theorem pss_xb {C G : Addr} {gn : Str} {fs : List Str} {body : List Stmt} (g : Nms X N sc) (hb : XB X.K G) (hm : X.mg gn = some (.ref G)) (h : ckXI N sc gn fs body = true) : PSs X body (tXB X.K C fs) := by
  unfold ckXI at h
  split at h
  · rename_i x p1 m p2 s ps z zk zp pos pos' r
    obtain ⟨h, h7⟩ := ba h
    obtain ⟨h, h6⟩ := ba h
    obtain ⟨h, h5⟩ := ba h
    obtain ⟨h, h4⟩ := ba h
    obtain ⟨h, h3⟩ := ba h
    obtain ⟨h1, h2⟩ := ba h
    have hx := dc h1
    subst hx
    have hm2 := dc h2
    subst hm2
    obtain ⟨hg, hd⟩ := g.glb h3
    have ec := pe_xinit (p1 := p1) (p2 := p2) (pos := pos) hb hg hd hm (pa_cons (pe_nms (p := ps) g (dc h4) h5) (pa_cons (pe_str (x := z) (j := zk) (pos := zp)) pa_nil)) rfl (show (2:Nat) < 29 by decide) h6
    cases r with
    | nil =>
      cases fs with
      | nil => exact PSs.to (pss_cons (ps_expr ec (swaps_no rfl)) pss_nil) fun D σ H ⟨_, _, _, _, z, _⟩ => absurd rfl z
      | cons f fs => unfold ckXA at h7; cases h7
    | cons st r =>
      cases fs with
      | nil => unfold ckXA at h7; cases h7
      | cons f fs =>
        obtain ⟨s', ps', pa', p', pp', pos'', rfl, g2, g3, g4, g5, g6⟩ := ckXA_cons h7
        have hs : PS X (.Assign [.Attribute (.Name s' ps') f pa'] (.Name p' pp') pos'') (fun D σ H => ∃ (a : Addr) (y : V), EC X.K C ∧ PySem.W.findIn X.K (.ref C) f = some none ∧ σ[0]? = some (some (.ref a)) ∧ σ[1]? = some (some y) ∧
            H a = some (exo a C none) ∧ ∀ dx, H dx = none → dx ≠ a → D.nx σ (upd (upd H dx (exd dx [(f, y)])) a (exo a C (some dx)))) := by
          refine ⟨fun pins s0 σ H D I ⟨a, y, T, hno, e0, ei, ea, q⟩ => ?_⟩
          refine plainObj_wpAny_Assign_Attribute (thn ((pe_nms (p := pp') g g4 g5).run pins s0 σ H (fun v H1 => v = y ∧ H1 = H) I ⟨y, ei, rfl, rfl⟩) fun v s1 ⟨y1, H1, I1, r1, ey, eH⟩ =>
            thn ((pe_nms (p := ps') g g2 g3).run pins s1 σ H1 (fun v H2 => v = .ref a ∧ H2 = H) I1 ⟨.ref a, e0, rfl, eH⟩) fun u s2 ⟨x, H2, I2, r2, ex, eH2⟩ => ?_) (swaps_no rfl)
          subst ey; subst ex; subst eH2
          obtain rfl : u = Value.ref a := r2
          exact xst_new T I2 ea hno r1 fun dx s' n ne J => ⟨σ, _, J, q dx n ne⟩
        refine PSs.to (pss_cons (ps_expr ec (swaps_no rfl)) (pss_cons hs (pss_xa (C := C) g fs 2 r g6))) fun D σ H ⟨a, ws, T, hno, _, hz, e0, ei, hl, ea, q⟩ => ?_
        cases ws with
        | nil => cases hl
        | cons y ws =>
          rw [List.length_cons] at hz
          refine ⟨.ref a, e0, a, C, [.str z], rfl, by simp, T, ea, a, y, T, hno f List.mem_cons_self, e0, ei 0 y rfl, ea, fun dx n ne => ?_⟩
          refine ⟨a, dx, [(f, y)], ws, T, fun f hf => hno f (List.mem_cons_of_mem _ hf), e0, fun j z hj => ?_, by simpa using hl, upd_same, by rw [upd_ne ne, upd_same], ne, by simp; omega, ?_⟩
          · have := ei (j + 1) z (by simpa using hj)
            rw [show 2 + j = 1 + (j + 1) by omega]; exact this
          · rw [upd_upd ne]
            have := q dx n ne
            rw [List.zip_cons_cons, List.reverse_cons] at this
            exact this
  · cases h
end
/-- a def of the text, its names, its body -/
structure FnT (K : PySem.W.Frag) (f : Addr) (fd : FuncData) (N ps : List Str) (body : List Stmt) (sc : Scope) : Prop where
  ex : ∃ (name qual : Str) (params : Arguments) (dV kV doc pm cdv ct oc : Value) (an od : Option Addr) (osl : Array (Option Value)), K.lookup f = some ⟨oc, od, .func fd, osl⟩ ∧ fd = PySem.W.fnOf name qual params body sc dV kV doc pm an cdv ct ∧ PySem.W.codeIn K cdv qual = true
  sc : FnScope N ps sc
theorem start_get {N : List Str} {vs : List V} {j : Nat} {y : V} (h : vs[j]? = some y) : (L2.start N vs)[j]? = some (some y) := by
  unfold L2.start
  have hj : j < vs.length := (List.getElem?_eq_some_iff.mp h).1
  rw [List.getElem?_append_left (by simpa using hj), List.getElem?_map, h]; rfl
theorem fn_xinit {P : Program} {w : World} {K : PySem.W.Frag} {mg : Str → Option Value} {base : Heap} {fI C G : Addr} {fd : FuncData} {N ps fs : List Str} {body : List Stmt} {sc : Scope} {gn : Str}
    (F : FnT K fI fd N ps body sc) (hps : ps.length = fs.length + 1) (T : EC K C) (hno : ∀ f ∈ fs, PySem.W.findIn K (.ref C) f = some none) (hne : fs ≠ []) (hz : fs.length ≤ 900) (hb : XB K G) (hm : mg gn = some (.ref G)) (hc : ckXI N sc gn fs body = true) :
    FnOk P w K mg base (L2N.CX P w) 1 fI fd ps (spX K C fs) := by
  obtain ⟨name, qual, params, dV, kV, doc, pm, cdv, ct, oc, an, od, osl, lk, rfl, hcd⟩ := F.ex
  refine fn_of (k := 0) lk hcd F.sc (fun vs H Q E ⟨a, ws, e, hl, _⟩ => by rw [e, List.length_cons, hl, hps]) fun A outer s H vs Q E hr ⟨a, ws, e, hl, ea, q⟩ => ?_
  refine ⟨_, pss_xb (C := C) (sc := sc) (N := N) ⟨rfl, F.sc.nd, fun _ _ h => h⟩ hb hm hc, a, ws, T, hno, hne, hz, ?_, fun j y hj => ?_, hl, ea, fun dx n ne => q dx n ne⟩
  · exact start_get (by rw [e]; rfl)
  · exact start_get (by rw [e, show 1 + j = j + 1 by omega, List.getElem?_cons_succ]; exact hj)

/-- what is known of the exception c, made with fields fs -/
structure XC (CA : Str → Addr) (X : Cx) (c : Str) (fs : List Str) : Prop where
  ex : ∃ (fI : Addr) (fd : FuncData) (ps : List Str), EC X.K (CA c) ∧ PySem.W.findIn X.K (.ref (CA c)) "__init__" = some (some (.ref fI)) ∧ PySem.W.typeIn X.K (.ref fI) = some (.type "function") ∧
    FnOk X.prog X.w X.K X.mg X.base (L2N.CX X.prog X.w) 1 fI fd ps (spX X.K (CA c) fs) ∧ Binds X.K fd ps []
def tMkX (C : Addr) (sp : Sp) (ta : TA) : L2.St → Hp → XK → Prop := fun σ H Q => ta σ H fun vs H1 => vs.length ≤ 1000 ∧ ∀ a, H1 a = none → sp (.ref a :: vs) (upd H1 a (exo a C none))
  (fun v H2 => v = .non ∧ ∃ (d : Addr) (fs : List (Str × V)), H2 a = some (exo a C (some d)) ∧ H2 d = some (exd d fs) ∧ H1 d = none ∧ Q (.ref C) (some d) (upd (del H2 a) d (.xd fs))) (fun _ _ _ => False)
section
variable {X : Cx} {e : Expr} {es : List Expr} {ta : TA}
theorem pmk_x {x : Str} {p pos : Pos} {C fI : Addr} {k : Nat} {fd : FuncData} {ps : List Str} {sp : Sp} (T : EC X.K C) (iC : PySem.W.findIn X.K (.ref C) "__init__" = some (some (.ref fI))) (tI : PySem.W.typeIn X.K (.ref fI) = some (.type "function"))
    (F1 : FnOk X.prog X.w X.K X.mg X.base (L2N.CX X.prog X.w) k fI fd ps sp) (hr : Room (k + 1) X.A) (hb : Binds X.K fd ps []) (hx : Passes (L2N.CX X.prog X.w) X (fun _ _ _ => False)) (hg : Gl X x) (hm : X.mg x = some (.ref C)) (ha : PA X (e :: es) ta)
    (hdb : (x == ("__debug__" : Str)) = false) (hes : (e :: es).all noStar = true) :
    L2N.PMk X (.Call (.Name x p) (e :: es) [] pos) (tMkX C sp ta) := by
  intro pins s σ H Q I h
  obtain ⟨nm, q, N, bs, bm, sn, sub, ab, col, dd, k0, k1, k2, k3, k5, hC, hbm⟩ := T.cls
  rw [List.all_cons, Bool.and_eq_true] at hes
  refine wpAny_Call_Name_kw (ld_glob I hg hm ?_ hdb)
  refine PySem.W.callWith_K (h₀ := X.base) I.ok.mod.kin T.kC (thn (ha.run pos pins s σ H _ I h) fun us s1 ⟨vs, H1, I1, r1, hz, q1⟩ => ⟨I1.kIn, ?_⟩) (star_cons hes.1) (star_none hes.2)
  show wpAny _ _ (call (.ref C) us) _ _ _
  obtain ⟨hp, g, dr, tk, os⟩ := s1
  have hsz : hp.objs.size ≤ hp.objs.size + 1 := Nat.le_succ _
  have hn : H1 (hp.objs.size + 1) = none := I1.hok.fresh hsz
  have hq := q1 (hp.objs.size + 1) hn
  have kk : ∀ b o, hp.get? b = some o → ((hp.push (PySem.W.kdv_tup us)).push (PySem.HandSPX.excO C hp.objs.size)).get? b = some o := fun b o e => Heap.get?_push_of_some _ (Heap.get?_push_of_some _ e)
  have hget : ((hp.push (PySem.W.kdv_tup us)).push (PySem.HandSPX.excO C hp.objs.size)).get? (hp.objs.size + 1) = some (PySem.HandSPX.excO C hp.objs.size) := by heap_get
  have I2 : L2.Inv X pins σ (upd H1 (hp.objs.size + 1) (exo (hp.objs.size + 1) C none)) ⟨(hp.push (PySem.W.kdv_tup us)).push (PySem.HandSPX.excO C hp.objs.size), g, dr, tk, os⟩ :=
    I1.laid (t' := tk) (a := hp.objs.size + 1) (o := exo (hp.objs.size + 1) C none) (h' := (hp.push (PySem.W.kdv_tup us)).push (PySem.HandSPX.excO C hp.objs.size)) kk hsz (exo_ok hget)
  have r2 : Vals (V.ref (hp.objs.size + 1) :: vs) (Value.ref (hp.objs.size + 1) :: us) := .cons rfl r1
  have hl : (Value.ref (hp.objs.size + 1) :: us ++ []).length = ps.length := by
    have e := r2.length
    rw [F1.len _ _ _ _ hq] at e
    rw [List.append_nil]
    exact e.symm
  have hus : us.length ≤ sizeLine := by
    rw [← Paired.length r1, sizeLine_eq]
    omega
  have hbt := hb ⟨(hp.push (PySem.W.kdv_tup us)).push (PySem.HandSPX.excO C hp.objs.size), g, dr, tk, os⟩ (Value.ref (hp.objs.size + 1) :: us) I2.kIn hl
  rw [List.append_nil] at hbt
  refine wpAny_call (PySem.HandSPX.call_own F.excBase_Exception (fun Y => refsEx_has Y bm hbm) (I1.kIn _ _ hC) (PySem.W.looks_findIn I1.kIn iC) (fun self => PySem.W.bind_fn I1.kIn self tI) hus
    (codeAny_mono (F1.run _ X.stack _ _ ⟨Value.ref (hp.objs.size + 1) :: us, []⟩ (Value.ref (hp.objs.size + 1) :: us) _ _ (fun _ _ _ => False) (hr.make C us []) (I2.env0.make C us []) hbt r2 hq) fun r s' hq' => ?_))
  cases r with
  | error er => exact hx pins σ _ _ er s' I2 hq'
  | ok fl =>
    cases fl with
    | ret u =>
      obtain ⟨v, H2, os2, bare2, un2, hok2, rv, ev, d, fs, ea, ed, hd1, q2⟩ := hq'
      subst ev
      obtain ⟨h2, g2, d2, t2, os'⟩ := s'
      obtain ⟨t0, G, J, kG, ge, hoe, na⟩ := mk_end0 (d2 := d2) (t2 := t2) I1 hsz kk un2 hok2 os2 bare2 ea ed hd1
      exact ⟨rv, _, _, _, ⟨G, g2, d2, t2, os'⟩, _, .ref C, some d, rfl, J, kG, ge, hoe, ⟨rfl, rfl, fun vs e => by cases e; rfl⟩, rfl, rfl, na, rfl, bare2, raises_own T.exC T.tyC, q2⟩
    | next => exact False.elim hq'
    | brk => exact False.elim hq'
    | cont => exact False.elim hq'
end
section
variable {T : Tab} {CA : Str → Addr} {N : List Str} {sc : Scope} {C : CallF} {X : Cx} {W : WX} {xi : Option (Nat × Addr × Addr)} {ρ ρ1 : Rho} {me : Env} {mh mh1 : MH} {σ : L2.St} {H H1 : Hp} {D : Ends}
theorem rf_zip : ∀ {fs : List Str} {ms : List MV} {vs : List V}, RVs CA ρ H ms vs → RF CA ρ H (fs.zip ms) (fs.zip vs)
  | [], _, _, _ => by rw [List.zip_nil_left, List.zip_nil_left]; exact .nil
  | _ :: _, _, _, .nil => by rw [List.zip_nil_right, List.zip_nil_right]; exact .nil
  | f :: fs, _, _, .cons r t => by rw [List.zip_cons_cons, List.zip_cons_cons]; exact .cons r (rf_zip t)
theorem rf_app : ∀ {a b : List (Str × MV)} {c d : List (Str × V)}, RF CA ρ H a c → RF CA ρ H b d → RF CA ρ H (a ++ b) (c ++ d)
  | _, _, _, _, .nil, h => h
  | _, _, _, _, .cons r t, h => .cons r (rf_app t h)
theorem rf_rev : ∀ {a : List (Str × MV)} {c : List (Str × V)}, RF CA ρ H a c → RF CA ρ H a.reverse c.reverse
  | _, _, .nil => .nil
  | _, _, .cons r t => by rw [List.reverse_cons, List.reverse_cons]; exact rf_app (rf_rev t) (.cons r .nil)
/-- raise X(..) -/
theorem ps_raises {x : Str} {p pos pos' : Pos} {e : Expr} {es : List Expr} {as : MEs} {fs : List Str} (ct : CtS T CA N sc C X W xi) (hg : glb sc x = true) (ho : T.own x = true) (hf : T.exf x = some fs) (hx : XC CA X x fs) (hes : (e :: es).all noStar = true) (hl : as.len ≤ 1000)
    (ha : PA X (e :: es) (tEs T CA C X W xi as)) (hcl : X.calm = true → Room 2 X.A) : PS X (.Raise (some (.Call (.Name x p) (e :: es) [] pos)) none pos') (tS T CA C X W xi (.raise x as)) := by
  refine ⟨fun pins s σ H D I ⟨ρ, me, mh, at_, h⟩ => ?_⟩
  unfold exS at h
  by_cases hc : me.ex.isSome = true
  · rw [if_pos hc] at h; exact h.elim
  · rw [if_neg hc] at h
    have hcalm := at_.cm (by simpa using hc)
    have hm := ct.c.g.st.cls x ho
    obtain ⟨g1, g2, _⟩ := glb_of ct.c.g hg
    obtain ⟨fI, fd, ps, T', iC, tI, F1, hb⟩ := hx.ex
    refine (L2N.ps_raise hcalm ct.c.tk (pmk_x (p := p) (pos := pos) T' iC tI F1 (hcl hcalm) hb (fun pins σ H s e s' I z => L2N.passes_call (E := fun _ _ _ => False) ct.c.tk (fun _ _ _ _ z => z.elim) pins σ H s e s' I z) g1 hm ha g2 hes)).run pins s σ H D I ?_
    refine ⟨ρ, me, mh, at_, (AftS.of (R := RVn CA as.len) at_ h).imp fun vs H1 ⟨ρ1, mh1, ms, e1, rh1, q1, h1⟩ => ?_⟩
    rw [hf] at h1
    simp only at h1
    have hvl : vs.length = as.len := by rw [← q1.1.length, q1.2]
    refine ⟨by omega, fun a na => ?_⟩
    by_cases hz : fs.length = ms.length ∧ fs ≠ []
    · rw [if_pos hz] at h1
      refine ⟨a, vs, rfl, by rw [hz.1, q1.1.length], upd_same, fun dx n ne => ?_⟩
      have nd : H1 dx = none := by rw [upd_ne ne] at n; exact n
      refine ⟨rfl, dx, (fs.zip vs).reverse, upd_same, by rw [upd_ne ne, upd_same], nd, ?_⟩
      have eH : upd (del (upd (upd (upd H1 a (exo a (CA x) none)) dx (exd dx (fs.zip vs).reverse)) a (exo a (CA x) (some dx))) a) dx (.xd (fs.zip vs).reverse) = upd H1 dx (.xd (fs.zip vs).reverse) := by
        funext b
        by_cases hb : b = dx
        · subst hb; rw [upd_same, upd_same]
        · rw [upd_ne hb, upd_ne hb]
          by_cases hba : b = a
          · subst hba; rw [del_same, na]
          · rw [del_ne hba, upd_ne hba, upd_ne hb, upd_ne hba]
      rw [eH]
      obtain ⟨r2, e2, q2⟩ := rh1.add (o := .exc x (fs.zip ms).reverse) (p := dx) (H' := upd H1 dx (.xd (fs.zip vs).reverse)) (fun c o z => by rw [upd_ne (ne_of_none z nd)]; exact z) nd
        (fun ρ' e => ⟨_, upd_same, rf_rev (rf_zip (q1.1.mono e))⟩)
      exact h1 _ _ σ dx e2 (at_.to (e1.trans e2) r2) q2 ⟨_, MH.new_same⟩
    · rw [if_neg hz] at h1; exact h1.elim
end
end Mi
end

section
/-! Mini, part 16: try .. except X as e .. except Y as e .. -/
namespace Mi
open PySem PySem.Spec PyProof.Rows L2

/-- one clause: its class, its name's slot, its suite -/
abbrev Cl := Value × Nat × (Addr → Value → Option Addr → TS)
def Ends.off (D : Ends) (i : Nat) : Ends := { nx := fun σ H => D.nx (σ.set i none) H, rt := D.rt, bk := fun σ H => D.bk (σ.set i none) H, ct := fun σ H => D.ct (σ.set i none) H }
def wMA (K : PySem.W.Frag) (Wout : WX) (D : Ends) : List Cl → WX
  | [] => Wout
  | (c, i, ts) :: r => fun cls d σ H => ∃ b, PySem.W.exmOne K cls c = some b ∧ (b = true → ∀ a, H a = none → ts a cls d (Mi.Ends.off D i) (σ.set i (some (.ref a))) H) ∧ (b = false → wMA K Wout D r cls d σ H)
inductive HdA (X : Cx) : List ExceptHandler → List Cl → Prop
  | nil : HdA X [] []
  | cons {x n : Str} {c : Value} {i : Nat} {ts : Addr → Value → Option Addr → TS} {b₀ : Stmt} {suite : List Stmt} {np pos' : Pos} {hds : List ExceptHandler} {l : List Cl} (hc : Names X x c) (hi : X.N[i]? = some n) (hln : X.env.kindOf n = some .local)
      (hsu : ∀ (a : Addr) (oe : Obj) (cls : Value) (d : Option Addr) (pn : List (Addr × Obj)), L2N.Zn cls d oe → (∃ vs, oe.data = .fields vs) → PSs (X.suite a ((a, oe) :: pn)) (b₀ :: suite) (ts a cls d)) (r : HdA X hds l) :
      HdA X (.ExceptHandler (some (.Name x np)) (some n) (b₀ :: suite) pos' :: hds) ((c, i, ts) :: l)
section
variable {X : Cx} {body : List Stmt} {h₀ : ExceptHandler} {hds : List ExceptHandler} {l : List Cl} {pos : Pos} {tb : WX → TS} {Wout : WX}
theorem ps_try_as_many (hs : X.stack = X.env :: X.outer) (hf : X.env.frame = some X.env.locals) (hN : X.N.Nodup) (tk : L2N.Takes X Wout)
    (hb : ∀ (W : WX) (pn : List (Addr × Obj)) (xe : Value → Shared → Prop), L2N.Takes (X.tr pn xe) W → PassesOwn (model X.prog X.w) X.A X.env xe → PSs (X.tr pn xe) body (tb W))
    (hh : HdA X (h₀ :: hds) l) : PS X (.Try body (h₀ :: hds) [] [] pos) (fun D σ H => tb (wMA X.K Wout D l) D σ H) := by
  refine ⟨fun pins s σ H D I h => ?_⟩
  have ok := I.ok
  have hfr : X.A.frames = some (X.env :: X.outer) := by rw [ok.frames, hs]
  refine wpAny_Try_except ?_
  refine wpAny_mono ((hb (wMA X.K Wout D l) (X.pn ++ pins) (fun e s₁ => wpAny (model X.prog X.w) X.A (noteFrame e X.env) (fun _ s₂ => wpAny (model X.prog X.w) X.A (setFlight e none) (fun _ s₃ =>
    wpAny (model X.prog X.w) X.A (handleBy e X.env (h₀ :: hds)) (SP X pins D) X.xe s₃) X.xe s₂) X.xe s₁) (fun u s' xx => ?_) PassesOwn.looking).run [] s σ H D (I.toTry _) h) (fun f s1 hsp => ?_) (fun e s1 he => he)
  · -- the catch
    obtain ⟨a, B, sI, pins', σ', H', cls, d, rfl, J', nb, up, sky, na, os, ag, w⟩ := xx
    have J : L2.Inv X pins σ' H' sI := J'.ofTry ok
    have sky' : Sky B (X.env :: X.outer) a (L2N.Zn cls d) X.env.locals s'.heap := by rw [← hs]; exact sky
    show wpAny (model X.prog X.w) X.A (noteFrame (.ref a) X.env) _ _ _
    refine L2N.Sky.land L2N.Zn.steady hfr hf sky' fun h3 fl3 up3 => ?_
    have J3 : L2.Inv X pins σ' H' { s' with heap := h3 } := J.landed nb fl3.1 (up.trans up3) os ag
    obtain ⟨oe3, vs3, he3, hz3, hd3⟩ := fl3.there
    have notFr : ∀ {h : Heap} {o : Obj} {vs : Array Value}, h.FunFrames B (X.env :: X.outer) → h.get? a = some o → o.data = .fields vs → a ∉ frs (X.env :: X.outer) := fun {h o vs} ff e dd hm => by
      obtain ⟨_, o', e', hnf⟩ := ff.mem hm
      rw [e] at e'; cases e'
      exact hnf _ dd
    have nfr := notFr fl3.2.2.1 he3 hd3
    have nL : a ≠ X.env.locals := fun z => nfr (List.mem_filterMap.mpr ⟨X.env, List.mem_cons_self, by rw [hf, z]⟩)
    have nF : a ∉ X.fs := fun hm => by
      obtain ⟨e, he, q⟩ := List.mem_filterMap.mp hm
      exact nfr (List.mem_filterMap.mpr ⟨e, List.mem_cons_of_mem _ he, q⟩)
    have S3 := J3.suite he3 hd3 na nL nF
    have go : ∀ {hds' : List ExceptHandler} {l' : List Cl}, HdA X hds' l' → wMA X.K Wout D l' cls d σ' H' →
        wpAny (model X.prog X.w) X.A (handleBy (.ref a) X.env hds') (SP X pins D) X.xe { s' with heap := h3 } := by
      intro hds' l' hk
      induction hk with
      | nil =>
        intro w
        refine wpAny_handleBy_nil ?_
        obtain ⟨k1, k2, k3, oe, vs, T, oT, ts', he, hz, hd, h1, hr⟩ := id fl3
        unfold PySem.passOn
        refine wpAny_bind (wpAny_field he hd h1 ?_)
        rw [if_neg (show ¬ ((Value.ref T == Value.none) = true) from by simp)]
        have fin : wpAny (model X.prog X.w) X.A (setFlight (.ref a) X.env.frame) (fun _ s4 => wpAny (model X.prog X.w) X.A (throw (.ref a) : Sem Flow) (SP X pins D) X.xe s4) X.xe { s' with heap := h3 } := by
          rw [hf]
          refine HandSPX.setFlight_upZ fl3 fun h4 hh4 up4 => wpAny_throw (tk _ _ ?_)
          exact ⟨a, B, sI, pins, σ', H', cls, d, rfl, J, nb, (up.trans up3).trans up4, .inr (.inr (by rw [hs]; exact hh4)), na, os, ag, w⟩
        first
          | exact wpAny_bind (wpAny_pure (wpAny_bind fin))
          | exact wpAny_bind fin
      | @cons x n c i ts b₀ suite np pos' hds2 l2 hc hi hln hsu r ih =>
        intro w
        obtain ⟨b, hb1, hyes, hno⟩ := w
        have hloc : Loc X.env.scope n := .inl hln
        refine wpAny_handleBy_cons (codeAny_handlers_test ?_) (by intro q; cases q)
        have LT : PySem.W.Looks (model X.prog X.w) h3 (typeOf (.ref a)) cls := fun A Q E s k q => wpAny_typeOf_ref (k _ _ he3) (by rw [hz3.1]; exact q)
        have LM := PySem.W.exm_one (M := model X.prog X.w) (J3.kIn) LT hb1
        have test : ∀ {Q : Value → Shared → Prop} {E : Value → Shared → Prop}, Q c { s' with heap := h3 } → wpAny (model X.prog X.w) (X.A.mark (some (.ref a))) (eval (.Name x np) X.env) Q E { s' with heap := h3 } := fun {Q E} q => by
          obtain ⟨hg, hdbg, hm | ⟨hm, hv, hnn⟩⟩ := hc
          · exact ld_glob (X := X.suite a ((a, oe3) :: (X.pn ++ pins))) S3 hg hm q hdbg
          · exact ld_blt (X := X.suite a ((a, oe3) :: (X.pn ++ pins))) S3 hg hm hv q hnn hdbg
        refine test (LM.here ?_)
        cases b with
        | true =>
          refine codeAny_handlers_suite_as ?_
          refine HandSPX.lands_againZ fl3 fun h4 fl4 up4 => ?_
          have J4 : L2.Inv X pins σ' H' { s' with heap := h4 } := J.landed nb fl4.1 ((up.trans up3).trans up4) os ag
          obtain ⟨oe4, vs4, he4, hz4, hd4⟩ := fl4.there
          have S4 := J4.suite he4 hd4 na nL nF
          refine store_ok (X := X.suite a ((a, oe4) :: (X.pn ++ pins))) (v := .ref a) S4 hN hi hloc rfl (fun s5 S5 => ?_) (.inr hln)
          refine wpAny_mono ((hsu a oe4 cls d (X.pn ++ pins) hz4 ⟨_, hd4⟩).run [] s5 _ H' _ S5 (hyes rfl a na)) (fun f s6 hsp => ?_) (fun _ _ z => False.elim z)
          have end_ : ∀ {σ6 : L2.St} {H6 : Hp} {Q : Shared → Prop}, L2.Inv (X.suite a ((a, oe4) :: (X.pn ++ pins))) [] σ6 H6 s6 → (∀ s7, L2.Inv X pins (σ6.set i none) H6 s7 → Q s7) →
              wpAny (model X.prog X.w) X.A (do bindName X.env n .none; unbindBehindTheSuite X.env n pos') (fun _ s7 => Q s7) X.xe s6 := fun {σ6 H6 Q} S6 hq => gone_ok (S6.unsuite ok) hN hi hln hq
          cases f with
          | next =>
            obtain ⟨σ6, H6, S6, q6⟩ := hsp
            exact end_ S6 fun s7 J7 => ⟨_, _, J7, q6⟩
          | brk =>
            obtain ⟨σ6, H6, S6, q6⟩ := hsp
            exact end_ S6 fun s7 J7 => ⟨_, _, J7, q6⟩
          | cont =>
            obtain ⟨σ6, H6, S6, q6⟩ := hsp
            exact end_ S6 fun s7 J7 => ⟨_, _, J7, q6⟩
          | ret u =>
            obtain ⟨v6, σ6, H6, S6, r6, q6⟩ := hsp
            exact end_ S6 fun s7 J7 => ⟨_, _, _, J7, r6, q6⟩
        | false =>
          show wpAny _ X.A (handleBy (.ref a) X.env hds2) _ _ _
          exact ih (hno rfl)
    exact go hh w
  · cases f with
    | next =>
      obtain ⟨σ', H', J', q⟩ := hsp
      exact wpAny_execs_nil ⟨σ', H', J'.ofTry ok, q⟩
    | brk =>
      obtain ⟨σ', H', J', q⟩ := hsp
      exact ⟨σ', H', J'.ofTry ok, q⟩
    | cont =>
      obtain ⟨σ', H', J', q⟩ := hsp
      exact ⟨σ', H', J'.ofTry ok, q⟩
    | ret u =>
      obtain ⟨v, σ', H', J', r, q⟩ := hsp
      exact ⟨v, σ', H', J'.ofTry ok, r, q⟩
end

/-! ### what is handled, in the slots -/
section
variable {T : Tab} {CA : Str → Addr} {N : List Str} {sc : Scope} {C : CallF} {X : Cx} {W : WX} {xi xi' : Option (Nat × Addr × Addr)} {ρ ρ1 : Rho} {me : Env} {mh mh1 : MH} {σ : L2.St} {H H1 : Hp} {D : Ends} {K : PySem.W.Frag} {cm : Bool}
theorem AtK.no (h : AtK K cm CA xi ρ me mh σ H) (e : me.ex = none) : AtK K cm CA xi' ρ me mh σ H := ⟨⟨h.rs.len, h.rs.sl, fun j n q => by rw [e] at q; cases q⟩, h.rh, h.cm⟩
theorem aft_no {r : SR} (hr : SRex none r) (h : AftS X CA W xi ρ H r D) : AftS X CA W xi' ρ H r D := by
  cases r with
  | ok f m =>
    cases f with
    | next me' => exact fun ρ' H' σ' e a => h ρ' H' σ' e (a.no hr)
    | brk me' => exact fun ρ' H' σ' e a => h ρ' H' σ' e (a.no hr)
    | cont me' => exact fun ρ' H' σ' e a => h ρ' H' σ' e (a.no hr)
    | ret v => exact h
  | exc c n me' m => exact fun ρ' H' σ' d e a => h ρ' H' σ' d e (a.no hr)
  | stuck => exact h
/-- another wish of exceptions -/
theorem aft_w {W' : WX} {r : SR} (h : AftS X CA W xi ρ H r D) (k : ∀ c n me' m, r = .exc c n me' m → AftS X CA W xi ρ H r D → AftS X CA W' xi ρ H r D) : AftS X CA W' xi ρ H r D := by
  cases r with
  | ok f m => cases f <;> exact h
  | exc c n me' m => exact k c n me' m rfl h
  | stuck => exact h
/-- the context of a suite -/
def tSu (T : Tab) (CA : Str → Addr) (X : Cx) (i : Nat) (b : MSs) (a : Addr) (cls : Value) (d : Option Addr) : TS := fun D σ H => ∃ c dd, cls = .ref (CA c) ∧ d = some dd ∧ (T.exf c).isSome = true ∧ RMH 2 X.A ∧
  tB T CA T.hc (X.suite a []) (fun _ _ _ _ => False) (some (i, a, dd)) b D σ H
def hdl (T : Tab) (CA : Str → Addr) (X : Cx) : MHs → List Cl
  | .nil => []
  | .cons c i b r => (.ref (CA c), i, tSu T CA X i b) :: hdl T CA X r
theorem ct_suite {a d : Addr} {oe : Obj} {c : Str} {i : Nat} {pn : List (Addr × Obj)} (ct : CtS T CA N sc C X W xi) (hrm : RMH 2 X.A) (hz : L2N.Zn (.ref (CA c)) (some d) oe) (hd : ∃ vs, oe.data = .fields vs) (hx : (T.exf c).isSome = true) :
    CtS T CA N sc T.hc (X.suite a ((a, oe) :: pn)) (fun _ _ _ _ => False) (some (i, a, d)) := by
  obtain ⟨vs, hd⟩ := hd
  obtain ⟨x1, x2⟩ := ct.c.g.st.xf c hx
  have g := ct.c.g
  exact ⟨⟨⟨g.nm, g.nd, g.sc, g.st, g.gd, g.un⟩, takes_no, fun z => absurd (show false = true from z) Bool.false_ne_true, fun j a' d' e => by
    cases e
    exact ⟨oe, c, vs, List.mem_cons_self, hz, hd, rfl, x1, x2⟩, ct.c.fn, fun g fi q => by obtain ⟨f, h1, h2, h3⟩ := ct.c.hc g fi q; exact ⟨f, h1, h2, ⟨h3.ex⟩⟩, .inl ⟨hrm.dp, hrm.un, hrm.gd⟩, fun _ => .inr rfl, ct.c.kd⟩, PassesOwn.never, ct.st, ct.fr, ct.bk⟩
theorem ct_try {pn : List (Addr × Obj)} {xe : Value → Shared → Prop} {W' : WX} (ct : CtS T CA N sc C X W xi) (tk : L2N.Takes (X.tr pn xe) W') (po : PassesOwn (model X.prog X.w) X.A X.env xe) : CtS T CA N sc C (X.tr pn xe) W' none := by
  have g := ct.c.g
  refine ⟨⟨⟨g.nm, g.nd, g.sc, g.st, g.gd, g.un⟩, tk, fun hc => ?_, fun j a d e => (by cases e), ct.c.fn, fun g fi q => by obtain ⟨f, h1, h2, h3⟩ := ct.c.hc g fi q; exact ⟨f, h1, h2, ⟨h3.ex⟩⟩, ct.c.rh, ct.c.ch, ct.c.kd⟩, po, ct.st, ct.fr, ct.bk⟩
  obtain ⟨k, h1, h2⟩ := ct.c.cl hc
  refine ⟨k, h1, ⟨fun g fi e => ?_, fun c m fi e => ?_, fun c fi e => ?_, h2.mp⟩⟩
  · obtain ⟨f, a, b, c⟩ := h2.fn g fi e
    exact ⟨f, a, b, ⟨c.ex⟩⟩
  · obtain ⟨f, a, b, c⟩ := h2.me c m fi e
    exact ⟨f, a, b, ⟨c.ex⟩⟩
  · obtain ⟨f, a, b⟩ := h2.mkc c fi e
    exact ⟨f, a, ⟨b.ex⟩⟩
/-- what the clauses wish -/
theorem wma_ok {c : Str} {n : Nat} {d : Addr} (st : Stat T CA X.K X.mg) (hcm : X.calm = true) (hrm : RMH 2 X.A) : ∀ (hs : MHs) {me : Env} {mh : MH} {σ : L2.St} {H : Hp} {ρ : Rho}, me.ex = none → At CA X none ρ me mh σ H → ρ n = some d → (∃ fs, mh.get n = some (.exc c fs)) →
    AftS X CA W none ρ H (exH T hs c n me mh) D → wMA X.K W D (hdl T CA X hs) (.ref (CA c)) (some d) σ H
  | .nil, me, mh, σ, H, ρ, he, at_, hr, hg, h => by
    unfold exH at h
    exact h ρ H σ d Ext.refl at_ hr hg
  | .cons c' i b r, me, mh, σ, H, ρ, he, at_, hr, hg, h => by
    unfold exH at h
    cases e : T.sub c c' with
    | none => rw [e] at h; exact h.elim
    | some k =>
      rw [e] at h
      refine ⟨k, st.sub c c' k e, fun hk a na => ?_, fun hk => ?_⟩
      · subst hk
        simp only at h
        by_cases hc : (T.exf c).isSome = true ∧ i < me.sl.length
        · rw [if_pos hc] at h
          refine ⟨c, d, rfl, rfl, hc.1, hrm, ρ, { sl := me.sl.set i none, ex := some (i, n) }, mh, ⟨⟨by simp [at_.rs.len], fun j v q => ?_, fun j m q => ?_⟩, at_.rh, fun z => by cases z⟩, ?_⟩
          · by_cases hj : j = i
            · subst hj
              rw [List.getElem?_set_self hc.2] at q; cases q
            · rw [List.getElem?_set_ne (Ne.symm hj)] at q
              obtain ⟨x, h1, h2⟩ := at_.rs.sl j v q
              exact ⟨x, by rw [List.getElem?_set_ne (Ne.symm hj)]; exact h1, h2⟩
          · cases q
            exact ⟨a, d, rfl, fun _ => ⟨hr, List.getElem?_set_self (by rw [← at_.rs.len]; exact hc.2)⟩⟩
          · have off : ∀ {ρ' : Rho} {m : Env} {h' : MH} {σ' : L2.St} {H' : Hp}, At CA (X.suite a []) (some (i, a, d)) ρ' m h' σ' H' → At CA X none ρ' { sl := m.sl.set i none, ex := none } h' (σ'.set i none) H' := fun {ρ' m h' σ' H'} A => by
              refine ⟨⟨by simp [A.rs.len], fun j v q => ?_, fun j m q => by cases q⟩, A.rh, fun _ => hcm⟩
              by_cases hj : j = i
              · subst hj
                by_cases hl : j < m.sl.length
                · rw [show ({ sl := m.sl.set j none, ex := none } : Env).sl = m.sl.set j none from rfl, List.getElem?_set_self hl] at q; cases q
                · rw [List.getElem?_eq_none (by simpa using hl)] at q; cases q
              · rw [show ({ sl := m.sl.set i none, ex := none } : Env).sl = m.sl.set i none from rfl, List.getElem?_set_ne (Ne.symm hj)] at q
                obtain ⟨x, h1, h2⟩ := A.rs.sl j v q
                exact ⟨x, by rw [List.getElem?_set_ne (Ne.symm hj)]; exact h1, h2⟩
            cases eb : exB T T.hc b { sl := me.sl.set i none, ex := some (i, n) } mh with
            | ok f m2 =>
              rw [eb] at h
              cases f with
              | next m => exact fun ρ' H' σ' e A => h ρ' H' _ e (off A)
              | brk m => exact fun ρ' H' σ' e A => h ρ' H' _ e (off A)
              | cont m => exact fun ρ' H' σ' e A => h ρ' H' _ e (off A)
              | ret v => exact fun ρ' H' x e rh rv => h ρ' H' x e rh rv
            | exc c2 n2 m m2 => rw [eb] at h; exact h.elim
            | stuck => rw [eb] at h; exact h.elim
        · rw [if_neg hc] at h; exact h.elim
      · subst hk
        simp only at h
        exact wma_ok st hcm hrm r he at_ hr hg h
theorem ps_trys {b : MSs} {hs : MHs} {body : List Stmt} {h₀ : ExceptHandler} {hds : List ExceptHandler} {pos : Pos} (ct : CtS T CA N sc C X W xi)
    (hb : ∀ (W' : WX) (pn : List (Addr × Obj)) (xe : Value → Shared → Prop), CtS T CA N sc C (X.tr pn xe) W' none → PSs (X.tr pn xe) body (tB T CA C (X.tr pn xe) W' none b)) (hh : HdA X (h₀ :: hds) (hdl T CA X hs)) :
    PS X (.Try body (h₀ :: hds) [] [] pos) (tS T CA C X W xi (.trys b hs)) := by
  refine PS.to (ps_try_as_many (tb := fun W' => tB T CA C X W' none b) ct.st ct.fr ct.c.g.nd ct.c.tk (fun W' pn xe tk po => hb W' pn xe (ct_try ct tk po)) hh) fun D σ H ⟨ρ, me, mh, at_, h⟩ => ?_
  unfold exS at h
  by_cases hc : me.ex.isSome = true
  · rw [if_pos hc] at h; exact h.elim
  · rw [if_neg hc] at h
    have hcalm := at_.cm (by simpa using hc)
    have hex : me.ex = none := by simpa using hc
    refine ⟨ρ, me, mh, at_.no hex, ?_⟩
    have keep := exB_ex (T := T) (C := C) b me mh
    rw [hex] at keep
    cases eb : exB T C b me mh with
    | ok f m =>
      rw [eb] at h keep
      have h' := aft_no (xi' := none) keep h
      cases f <;> exact h'
    | exc c n me' m =>
      rw [eb] at h keep
      have hex' : me'.ex = none := keep
      intro ρ' H' σ' d e A hr hg
      have h1 := AftS.ext h e
      exact wma_ok ct.c.g.st hcalm (by rcases ct.c.rh with r | ⟨_, _, z⟩; exact r; exact absurd (hcalm.symm.trans z) (by decide)) hs hex' A hr hg (aft_no (xi' := none) (exH_ex hs c n me' m hex') h1)
    | stuck => rw [eb] at h; exact h.elim
end
end Mi
end

section
/-! Mini, part 17: the theorem about statements. -/
namespace Mi
open PySem PySem.Spec PyProof.Rows L2

def isTupE : Expr → Bool
  | .Tuple _ _ _ => true
  | _ => false
def posOf : Expr → Pos
  | .Name _ p => p
  | .ListComp _ _ _ p => p
  | e => e.pos
def isLc : Expr → Bool
  | .ListComp _ _ _ _ => true
  | _ => false
/-- a comprehension to a name of its line -/
def ckLc (N : List Str) (sc : Scope) (i : Nat) : Expr → Expr → Bool
  | .Name y py, .ListComp _ _ scope pos => decide (N[i]? = some y) && (sc.names.lookup y == some .local) && (py.line == pos.line) && !(scope.names.any fun (n, k) => n == y && (k == .local || k == .cell))
  | _, _ => false
mutual
def ckS (T : Tab) (N : List Str) (sc : Scope) : MS → Stmt → Bool
  | .pass, st => match st with | .Pass _ => true | _ => false
  | .ret e, st => match st with | .Return (some e') _ => ckE T N sc e e' | _ => false
  | .retN, st => match st with | .Return none _ => true | _ => false
  | .expr e, st => match st with | .Expr e' _ => notComp e' && ckE T N sc e e' | _ => false
  | .asg (.nm i) e, st => match st with | .Assign [tg] e' _ => ckE T N sc e e' && ckNm N sc i tg && (notComp e' || ckLc N sc i tg e') | _ => false
  | .asg (.tp is) e, st => match st with | .Assign [.Tuple ts _ _] e' _ => ckNms N sc is ts && notComp e' && ckNoSw sc ts e' && ckE T N sc e e' | _ => false
  | .asg (.sw is) e, st => match st with | .Assign [.Tuple ts _ _] (.Tuple vs _ _) _ => ckSw N sc is ts vs && (match e with | .tup as => ckEs T N sc as vs | _ => false) | _ => false
  | .asg (.sub o i) e, st => match st with | .Assign [.Subscript o' i' _] e' _ => ckE T N sc o o' && ckE T N sc i i' && plainIx i' && ckE T N sc e e' && notComp e' | _ => false
  | .asg (.fld o f) e, st => match st with | .Assign [.Attribute o' f' _] e' _ => decide (f' = f) && ckE T N sc o o' && ckE T N sc e e' && notComp e' | _ => false
  | .ifs c a b, st => match st with | .If c' a' b' _ => ckT T N sc c c' && ckB T N sc a a' && ckB T N sc b b' | _ => false
  | .fors t it b, st => match st with | .For tg iter b' [] _ => ckCT N sc t tg && ckI T N sc it tg iter && ckB T N sc b b' | _ => false
  | .raise c es, st => match st with | .Raise (some (.Call (.Name x _) (e1 :: es') [] _)) none _ => decide (x = c) && glb sc x && T.own c && (T.exf c).isSome && ckEs T N sc es (e1 :: es') && decide (es.len ≤ 1000) | _ => false
  | .brk, st => match st with | .Break _ => true | _ => false
  | .cont, st => match st with | .Continue _ => true | _ => false
  | .trys b hs, st => match st with | .Try b' (h0 :: hds) [] [] _ => ckB T N sc b b' && ckH T N sc hs (h0 :: hds) | _ => false
def ckH (T : Tab) (N : List Str) (sc : Scope) : MHs → List ExceptHandler → Bool
  | .nil, [] => true
  | .cons c i b r, .ExceptHandler (some (.Name x _)) (some n) (b0 :: suite) _ :: hds => decide (x = c) && glb sc x && T.own c && decide (N[i]? = some n) && (sc.names.lookup n == some .local) && ckB T N sc b (b0 :: suite) && ckH T N sc r hds
  | _, _ => false
def ckB (T : Tab) (N : List Str) (sc : Scope) : MSs → List Stmt → Bool
  | .nil, [] => true
  | .cons s r, st :: sts => ckS T N sc s st && ckB T N sc r sts
  | _, _ => false
end

structure CtZ (T : Tab) (CA : Str → Addr) (N : List Str) (sc : Scope) (C : CallF) (X : Cx) (W : WX) (xi : Option (Nat × Addr × Addr)) : Prop where
  s : CtS T CA N sc C X W xi
  xc : X.calm = true → ∀ c fs, T.exf c = some fs → XC CA X c fs
  rx : X.calm = true → Room 2 X.A
section
variable {T : Tab} {CA : Str → Addr} {N : List Str} {sc : Scope} {C : CallF} {X : Cx} {W : WX} {xi : Option (Nat × Addr × Addr)}
theorem ctz_suite {a d : Addr} {oe : Obj} {c : Str} {i : Nat} {pn : List (Addr × Obj)} (ct : CtZ T CA N sc C X W xi) (hrm : RMH 2 X.A) (hz : L2N.Zn (.ref (CA c)) (some d) oe) (hd : ∃ vs, oe.data = .fields vs) (hx : (T.exf c).isSome = true) :
    CtZ T CA N sc T.hc (X.suite a ((a, oe) :: pn)) (fun _ _ _ _ => False) (some (i, a, d)) :=
  ⟨ct_suite ct.s hrm hz hd hx, fun z => absurd (show false = true from z) Bool.false_ne_true, fun z => absurd (show false = true from z) Bool.false_ne_true⟩
theorem sub_assign {o i : Expr} {pos : Pos} {env : PySem.Env} (h : plainIx i = true) (v : Value) : assign (.Subscript o i pos) env v = (do
      let ov ← holding [v] (eval o env)
      let iv ← holding [v, ov] (eval i env)
      standAt pos
      holding [v, ov, iv] (setItem ov iv v)
      release [v, ov, iv] []) := by
  cases i <;> first | rfl | (cases h; done) | (simp only [assign]; done)
theorem sub_swap {o i e : Expr} {pos : Pos} {env : PySem.Env} : swappedStores [.Subscript o i pos] e env = pure none := by
  cases e <;> rfl
mutual
theorem sndS : ∀ (m : MS) (st : Stmt) {N : List Str} {sc : Scope} {C : CallF} {X : Cx} {W : WX} {xi : Option (Nat × Addr × Addr)}, CtZ T CA N sc C X W xi → ckS T N sc m st = true → PS X st (tS T CA C X W xi m)
  | .pass, st, N, sc, C, X, W, xi, ct, h => by
    unfold ckS at h
    split at h
    · exact ps_passes
    · cases h
  | .ret e, st, N, sc, C, X, W, xi, ct, h => by
    unfold ckS at h
    split at h
    · exact ps_rets (sndE e _ ct.s.c h)
    · cases h
  | .retN, st, N, sc, C, X, W, xi, ct, h => by
    unfold ckS at h
    split at h
    · exact ps_retNs
    · cases h
  | .expr e, st, N, sc, C, X, W, xi, ct, h => by
    unfold ckS at h
    split at h
    · obtain ⟨h1, h2⟩ := ba h
      exact ps_exprs h1 (sndE e _ ct.s.c h2)
    · cases h
  | .asg (.nm i) e, st, N, sc, C, X, W, xi, ct, h => by
    unfold ckS at h
    split at h
    · rename_i tg e' pos
      obtain ⟨h, h3⟩ := ba h
      obtain ⟨h1, h2⟩ := ba h
      rw [Bool.or_eq_true] at h3
      rcases h3 with h3 | h3
      · exact ps_asgN ct.s h2 (fun x p _ => swaps_no h3) (sndE e _ ct.s.c h1)
      · unfold ckLc at h3
        split at h3
        · rename_i y py elt gens scope lpos
          obtain ⟨h3, g4⟩ := ba h3
          obtain ⟨h3, g3⟩ := ba h3
          obtain ⟨g1, g2⟩ := ba h3
          cases e <;> (unfold ckE at h1; try (cases h1; done))
          rename_i vs t it c v
          split at h1
          · rename_i elt' tg' iter' ifs' scope' pos' e1
            cases e1
            obtain ⟨h, f6⟩ := ba h1
            obtain ⟨h, f5⟩ := ba h
            obtain ⟨h, f4⟩ := ba h
            obtain ⟨h, f3⟩ := ba h
            obtain ⟨f1, f2⟩ := ba h
            have hk := (blkOk_by f1).kind
            refine ps_asgLc ct.s (dc g1) (beq_iff_eq.mp g2) g3 (by simpa using g4) f1 f2 f6 (sndI it _ _ ct.s.c f3).1 ((sndI it _ _ ct.s.c f3).2 _) (fun s H C0 cl fp => ?_) (fun s H C0 cl fp => sndE v _ (ct.s.c.blk hk) f5)
            cases ifs' with
            | nil =>
              have hcc : c = .bl true := isTru f4
              subst hcc
              refine ⟨fun pins s σ H Q I ⟨ρ, me, mh, at_, h⟩ => pts_nil.run pins s σ H Q I ?_⟩
              unfold evT at h
              exact Aft.now (z := true) h at_.rh rfl
            | cons c' r =>
              cases r with
              | nil => exact pts_one (sndT c c' (ct.s.c.blk hk) f4).1
              | cons _ _ => cases f4
          · cases h1
        · cases h3
    · cases h
  | .asg (.tp is) e, st, N, sc, C, X, W, xi, ct, h => by
    unfold ckS at h
    split at h
    · obtain ⟨h, h4⟩ := ba h
      obtain ⟨h, h3⟩ := ba h
      obtain ⟨h1, h2⟩ := ba h
      exact ps_asgT ct.s h1 h2 (noSw_of h3) (sndE e _ ct.s.c h4)
    · cases h
  | .asg (.sw is) e, st, N, sc, C, X, W, xi, ct, h => by
    unfold ckS at h
    split at h
    · obtain ⟨h1, h2⟩ := ba h
      split at h2
      · exact ps_asgSw ct.s h1 (sndEs _ _ ct.s.c h2)
      · cases h2
    · cases h
  | .asg (.sub o i) e, st, N, sc, C, X, W, xi, ct, h => by
    unfold ckS at h
    split at h
    · obtain ⟨h, h5⟩ := ba h
      obtain ⟨h, h4⟩ := ba h
      obtain ⟨h, h3⟩ := ba h
      obtain ⟨h1, h2⟩ := ba h
      exact ps_asgI h5 (sndE o _ ct.s.c h1) (sndE i _ ct.s.c h2) (sndE e _ ct.s.c h4) (sub_assign h3) sub_swap rfl
    · cases h
  | .asg (.fld o f) e, st, N, sc, C, X, W, xi, ct, h => by
    unfold ckS at h
    split at h
    · obtain ⟨h, h4⟩ := ba h
      obtain ⟨h, h3⟩ := ba h
      obtain ⟨h1, h2⟩ := ba h
      have hf := dc h1
      subst hf
      exact ps_asgF ct.s h4 (sndE o _ ct.s.c h2) (sndE e _ ct.s.c h3)
    · cases h
  | .ifs c a b, st, N, sc, C, X, W, xi, ct, h => by
    unfold ckS at h
    split at h
    · obtain ⟨h, h3⟩ := ba h
      obtain ⟨h1, h2⟩ := ba h
      exact ps_ifss (sndT c _ ct.s.c h1).1 (sndB a _ ct h2) (sndB b _ ct h3)
    · cases h
  | .fors t it b, st, N, sc, C, X, W, xi, ct, h => by
    unfold ckS at h
    split at h
    · obtain ⟨h, h3⟩ := ba h
      obtain ⟨h1, h2⟩ := ba h
      exact ps_forss ct.s h1 (sndI it _ _ ct.s.c h2).1 ((sndI it _ _ ct.s.c h2).2 _) (sndB b _ ct h3) fun a ea => by
        subst ea
        unfold ckI at h2
        exact sndE a _ ct.s.c (ba h2).1
    · cases h
  | .raise c es, st, N, sc, C, X, W, xi, ct, h => by
    unfold ckS at h
    split at h
    · rename_i x px e1 es' p1 p2
      obtain ⟨h, h6⟩ := ba h
      obtain ⟨h, h5⟩ := ba h
      obtain ⟨h, h4⟩ := ba h
      obtain ⟨h, h3⟩ := ba h
      obtain ⟨h1, h2⟩ := ba h
      have hx := dc h1
      subst hx
      obtain ⟨fs, hf⟩ := Option.isSome_iff_exists.mp h4
      by_cases hc : X.calm = true
      · exact ps_raises ct.s h2 h3 hf (ct.xc hc x fs hf) (noStars_of h5) (dc h6) (sndEs es _ ct.s.c h5) ct.rx
      · refine ⟨fun pins s σ H D I ⟨ρ, me, mh, at_, h⟩ => ?_⟩
        unfold exS at h
        by_cases hz : me.ex.isSome = true
        · rw [if_pos hz] at h; exact h.elim
        · exact absurd (at_.cm (by simpa using hz)) hc
    · cases h
  | .brk, st, N, sc, C, X, W, xi, ct, h => by
    unfold ckS at h
    split at h
    · exact ps_brks
    · cases h
  | .cont, st, N, sc, C, X, W, xi, ct, h => by
    unfold ckS at h
    split at h
    · exact ps_conts
    · cases h
  | .trys b hs, st, N, sc, C, X, W, xi, ct, h => by
    unfold ckS at h
    split at h
    · obtain ⟨h1, h2⟩ := ba h
      refine ps_trys ct.s (fun W' pn xe ct' => sndB b _ ⟨ct', fun hc c fs hf => ⟨(ct.xc hc c fs hf).ex⟩, ct.rx⟩ h1) (sndH hs _ ct h2)
    · cases h
theorem sndH : ∀ (m : MHs) (hds : List ExceptHandler) {N : List Str} {sc : Scope} {C : CallF} {X : Cx} {W : WX} {xi : Option (Nat × Addr × Addr)}, CtZ T CA N sc C X W xi → ckH T N sc m hds = true → HdA X hds (hdl T CA X m)
  | .nil, [], N, sc, C, X, W, xi, ct, h => .nil
  | .cons c i b r, hd :: hds, N, sc, C, X, W, xi, ct, h => by
    unfold ckH at h
    split at h
    · rename_i e1 e2; cases e1
    · rename_i e1 e2
      cases e1
      cases e2
      obtain ⟨h, h7⟩ := ba h
      obtain ⟨h, h6⟩ := ba h
      obtain ⟨h, h5⟩ := ba h
      obtain ⟨h, h4⟩ := ba h
      obtain ⟨h, h3⟩ := ba h
      obtain ⟨h1, h2⟩ := ba h
      have hx := dc h1
      subst hx
      obtain ⟨g1, g2, _⟩ := glb_of ct.s.c.g h2
      refine .cons ⟨g1, g2, .inl (ct.s.c.g.st.cls _ h3)⟩ (by rw [ct.s.c.g.nm]; exact dc h4) ((loc_of ct.s.c.g (.inl (beq_iff_eq.mp h5))).2 (beq_iff_eq.mp h5)) (fun a oe cls d pn hz hd => ?_) (sndH r _ ct h7)
      refine ⟨fun pins s σ H D I ⟨c, dd, e1, e2, hx, hrm, q⟩ => ?_⟩
      subst e1
      subst e2
      exact (sndB b _ (ctz_suite (i := i) (a := a) (pn := pn) ct hrm hz hd hx) h6).run pins s σ H D I q
    · cases h
  | .nil, _ :: _, _, _, _, _, _, _, _, h => by unfold ckH at h; cases h
  | .cons _ _ _ _, [], _, _, _, _, _, _, _, h => by unfold ckH at h; cases h
theorem sndB : ∀ (m : MSs) (sts : List Stmt) {N : List Str} {sc : Scope} {C : CallF} {X : Cx} {W : WX} {xi : Option (Nat × Addr × Addr)}, CtZ T CA N sc C X W xi → ckB T N sc m sts = true → PSs X sts (tB T CA C X W xi m)
  | .nil, [], N, sc, C, X, W, xi, ct, h => pss_nils
  | .cons s r, st :: sts, N, sc, C, X, W, xi, ct, h => by
    unfold ckB at h
    obtain ⟨h1, h2⟩ := ba h
    exact pss_conss (sndS s st ct h1) (sndB r sts ct h2)
  | .nil, _ :: _, _, _, _, _, _, _, _, h => by unfold ckB at h; cases h
  | .cons _ _, [], _, _, _, _, _, _, _, h => by unfold ckB at h; cases h
end
end
end Mi
end

section
/-! Mini, part 18: the defs of the text. -/
namespace Mi
open PySem PySem.Spec PyProof.Rows L2

/-- the def at f is fi -/
structure DefT (T : Tab) (K : PySem.W.Frag) (f : Addr) (fi : FnI) : Prop where
  ex : ∃ (fd : FuncData) (N ps : List Str) (body : List Stmt) (sc : Scope), FnT K f fd N ps body sc ∧ Pats fd ps fi ∧ N.length = fi.ns ∧ ckB T N sc fi.body body = true
/-- what is known of the text -/
structure TextOk (T : Tab) (CA : Str → Addr) (P : Program) (w : World) (K : PySem.W.Frag) (mg : Str → Option Value) (base : Heap) : Prop where
  st : Stat T CA K mg
  fn : ∀ g fi, T.fn g = some fi → ∃ f, mg g = some (.ref f) ∧ PySem.W.keepIn K (.ref f) = true ∧ DefT T K f fi
  me : ∀ c m fi, T.me c m = some fi → ∃ f, Cls K (CA c) ∧ Meth K (CA c) m f ∧ DefT T K f fi
  mkc : ∀ c fi, T.me c "__init__" = some fi → ∃ f, Mk K (CA c) f ∧ DefT T K f fi
  mp : ∀ c m fi p, T.me c m = some fi → T.mp m p = true → p.1 + p.2.1.length = fi.np → p ∈ fi.pats
  xc : ∀ c fs, T.exf c = some fs → ∃ (fI : Addr) (fd : FuncData) (ps : List Str), EC K (CA c) ∧ PySem.W.findIn K (.ref (CA c)) "__init__" = some (some (.ref fI)) ∧ PySem.W.typeIn K (.ref fI) = some (.type "function") ∧
    FnOk P w K mg base (L2N.CX P w) 1 fI fd ps (spX K (CA c) fs) ∧ Binds K fd ps []

def lev (n : Nat) : Nat := 2 * n + 1
/-- what the defs do while an exception is handled -/
def HotAll (T : Tab) (CA : Str → Addr) (P : Program) (w : World) (K : PySem.W.Frag) (mg : Str → Option Value) (base : Heap) : Prop :=
  ∀ g fi, T.fn g = some fi → ∃ f, mg g = some (.ref f) ∧ PySem.W.keepIn K (.ref f) = true ∧ ∃ (fd : FuncData) (ps : List Str), Pats fd ps fi ∧ FnMH T CA P w K mg base T.hc 2 f fd ps fi
section
variable {T : Tab} {CA : Str → Addr} {P : Program} {w : World} {K : PySem.W.Frag} {mg : Str → Option Value} {base : Heap} {C : CallF} {k : Nat} {f : Addr} {fi : FnI}
/-- a def that does its body, at one level more -/
theorem fnm_of {fd : FuncData} {N ps : List Str} {body : List Stmt} {sc : Scope} (tx : TextOk T CA P w K mg base) (th : HotAll T CA P w K mg base) (F : FnT K f fd N ps body sc) (pt : Pats fd ps fi) (hns : N.length = fi.ns) (hck : ckB T N sc fi.body body = true) (hk : 1 ≤ k) (n : Nat)
    (hC : ∀ (X : Cx), X.prog = P → X.w = w → X.K = K → X.mg = mg → X.base = base → Calls T CA (run T n) k X) : FnM CA P w K mg base (run T (n + 1)) (k + 2) f fd ps fi := by
  intro A outer s H args us vs mvs ρ mh Q E hr e0 hb rv rm hl rh h
  obtain ⟨name, qual, params, dV, kV, doc, pm, cdv, ct, oc, an, od, osl, lk, rfl, hcd⟩ := F.ex
  have S := F.sc
  have hvl : vs.length = ps.length := by rw [← rm.length, hl, pt.1]
  have KX : K.In s.heap := e0.mod.kin.keeps fun b o e => (e0.bs b o e).1
  have lim : s.heap.NoLimit := e0.mod.nolimit.keeps fun b o e => (e0.bs b o e).1
  have hkind : ∀ y ∈ ps.zip us, sc.names.lookup y.1 = some .local ∨ (sc.names.lookup y.1 = some .cell ∧ ((cellsFrom (s.heap.objs.size + 1) sc.names []).lookup y.1).isSome = true) := fun ⟨n, v⟩ hy => by
    rcases S.par n (List.of_mem_zip hy).1 with q | q
    · exact .inl q
    · exact .inr ⟨q, PySem.W.cellsFrom_some _ _ _ (.inl q)⟩
  refine codeAny_call_function hr.room.depth (KX _ _ lk) rfl S.co S.gen rfl (PySem.W.codeRec_of KX hcd) (hb _ _ _ _ ?_)
  refine wpAny_newFunctionEnv_cells S.kind hkind fun env he s1 x => ?_
  subst he
  refine ⟨lim.keeps x.toInCall.keep, codeAny_func ?_⟩
  have I : L2.Inv (cxOf (L2N.CX P w) P w K mg base N qual sc f cdv A outer s H E) [] (L2.start N vs) H s1 := inv_start S hr.hd e0 hvl rv x
  have hr1 : RM (k + 1) (A.deeper (envOfC qual sc s.heap.objs.size f cdv)) := hr.deeper _
  have hbk : (envOfC qual sc s.heap.objs.size f cdv).blockKind = .function := by
    unfold PySem.Env.blockKind
    show (if sc.kind.isAnnotationScope = true then ScopeKind.function else sc.kind) = .function
    rw [S.kind]; rfl
  have ctz : CtZ T CA N sc (run T n) (cxOf (L2N.CX P w) P w K mg base N qual sc f cdv A outer s H E) (fun cls d _ H' => E cls d H') none := by
    refine ⟨⟨⟨⟨rfl, S.nd, fun _ _ h => .inl h, tx.st, hr1.gd, ?_⟩, L2N.takes_of rfl rfl rfl rfl, fun _ => ⟨k, hr1, hC _ rfl rfl rfl rfl rfl⟩, fun j a d e => (by cases e), fun _ _ => rfl, fun g fi q => (by obtain ⟨f, h1, h2, h3⟩ := th g fi q; exact ⟨f, h1, h2, ⟨h3⟩⟩), .inl (hr1.rmh (by omega)), fun z => absurd (show true = false from z) (by decide), S.kind⟩, passes_of rfl, rfl, rfl, hbk⟩, fun _ c fs hf => ⟨tx.xc c fs hf⟩, fun _ => ?_⟩
    · have := hr1.un
      show (A.deeper (envOfC qual sc s.heap.objs.size f cdv)).units + 1250 < cLine
      omega
    · exact (hr1.mono (show 2 ≤ k + 1 by omega)).room
  refine wpAny_mono ((sndB fi.body body ctz hck).run [] s1 (L2.start N vs) H { nx := fun _ H' => Q .non H', rt := Q } I ?_) (fun fl s' hs => ?_) fun e s' hs => hs
  · refine ⟨ρ, { sl := mvs.map some ++ List.replicate (fi.ns - fi.np) none, ex := none }, mh, ⟨⟨?_, fun i v q => ?_, fun j n q => by cases q⟩, rh, fun _ => rfl⟩, ?_⟩
    · unfold L2.start
      have hpl : ps.length ≤ N.length := by have := congrArg List.length S.pre; rw [List.length_take] at this; omega
      have e1 := pt.1
      simp only [List.length_append, List.length_map, List.length_replicate]
      rw [rm.length]
      omega
    · have hi : i < mvs.length := by
        by_cases hi : i < mvs.length
        · exact hi
        · rw [List.getElem?_append_right (by simpa using hi), List.getElem?_replicate] at q
          split at q <;> cases q
      rw [List.getElem?_append_left (by simpa using hi), List.getElem?_map] at q
      cases e : mvs[i]? with
      | none => rw [e] at q; cases q
      | some m =>
        rw [e] at q
        cases q
        obtain ⟨u, h1, h2⟩ := rm.get e
        exact ⟨u, start_get h1, h2⟩
    · have h' : Aft K CA (RV CA) E ρ H ((if mvs.length = fi.np then (match exB T (run T n) fi.body { sl := mvs.map some ++ List.replicate (fi.ns - fi.np) none, ex := none } mh with
        | .ok (.ret v) h' => .ok v h'
        | .ok (.next _) h' => .ok .non h'
        | .exc c n _ h' => .exc c n h'
        | _ => .stuck) else .stuck : Res MV)) Q := h
      rw [if_pos hl] at h'
      cases eb : exB T (run T n) fi.body { sl := mvs.map some ++ List.replicate (fi.ns - fi.np) none, ex := none } mh with
      | ok fl m =>
        rw [eb] at h'
        cases fl with
        | next me' => exact fun ρ' H' σ' e a => h' ρ' H' .non e a.rh .non
        | ret v => exact fun ρ' H' x e r q => h' ρ' H' x e r q
        | brk me' => exact h'.elim
        | cont me' => exact h'.elim
      | exc c n me' m => rw [eb] at h'; exact fun ρ' H' σ' d e a q1 q2 => h' ρ' H' d e a.rh q1 q2
      | stuck => rw [eb] at h'; exact h'.elim
  · have fin : ∀ {σ' : L2.St} {H' : Hp} {v : V} {u : Value}, L2.Inv (cxOf (L2N.CX P w) P w K mg base N qual sc f cdv A outer s H E) [] σ' H' s' → RelV v u → Q v H' → CE outer P w H s Q u s' :=
      fun {σ' H' v u} J rv q => ⟨v, H', J.os, J.bare, J.base, J.hok, rv, q⟩
    cases fl with
    | ret u =>
      obtain ⟨v, σ', H', J, rv, q⟩ := hs
      exact fin J rv q
    | next =>
      obtain ⟨σ', H', J, q⟩ := hs
      exact fin (v := V.non) (u := Value.none) J rfl q
    | brk =>
      obtain ⟨_, _, _, q⟩ := hs
      exact False.elim q
    | cont =>
      obtain ⟨_, _, _, q⟩ := hs
      exact False.elim q
/-- a def that does its body while an exception is handled -/
theorem fnmh_of {fd : FuncData} {N ps : List Str} {body : List Stmt} {sc : Scope} (tx : TextOk T CA P w K mg base) (h0 : T.hc = noCall) (F : FnT K f fd N ps body sc) (pt : Pats fd ps fi) (hns : N.length = fi.ns) (hck : ckB T N sc fi.body body = true) : FnMH T CA P w K mg base (hotOf T) 2 f fd ps fi := by
  intro A outer s H args us vs mvs ρ mh Q E p d hr hp hpin e0 hb rv rm hl rh h
  obtain ⟨name, qual, params, dV, kV, doc, pm, cdv, ct, oc, an, od, osl, lk, rfl, hcd⟩ := F.ex
  have S := F.sc
  have hvl : vs.length = ps.length := by rw [← rm.length, hl, pt.1]
  have KX : K.In s.heap := e0.mod.kin.keeps fun b o e => (e0.bs b o e).1
  have lim : s.heap.NoLimit := e0.mod.nolimit.keeps fun b o e => (e0.bs b o e).1
  have hkind : ∀ y ∈ ps.zip us, sc.names.lookup y.1 = some .local ∨ (sc.names.lookup y.1 = some .cell ∧ ((cellsFrom (s.heap.objs.size + 1) sc.names []).lookup y.1).isSome = true) := fun ⟨n, v⟩ hy => by
    rcases S.par n (List.of_mem_zip hy).1 with q | q
    · exact .inl q
    · exact .inr ⟨q, PySem.W.cellsFrom_some _ _ _ (.inl q)⟩
  refine codeAny_call_function (by have := hr.dp; omega : A.depth < recursionLimit) (KX _ _ lk) rfl S.co S.gen rfl (PySem.W.codeRec_of KX hcd) (hb _ _ _ _ ?_)
  refine wpAny_newFunctionEnv_cells S.kind hkind fun env he s1 x => ?_
  subst he
  refine ⟨lim.keeps x.toInCall.keep, codeAny_func ?_⟩
  have I : L2.Inv (L2H.cxH (L2N.CX P w) P w K mg base N qual sc f cdv A outer s H E p) [] (L2.start N vs) H s1 := L2H.inv_startH S hpin e0 hvl rv x
  have hr1 : RMH 1 (A.deeper (envOfC qual sc s.heap.objs.size f cdv)) := hr.deeper _
  have hbk : (envOfC qual sc s.heap.objs.size f cdv).blockKind = .function := by
    unfold PySem.Env.blockKind
    show (if sc.kind.isAnnotationScope = true then ScopeKind.function else sc.kind) = .function
    rw [S.kind]; rfl
  have ctz : CtZ T CA N sc noCall (L2H.cxH (L2N.CX P w) P w K mg base N qual sc f cdv A outer s H E p) (fun cls d _ H' => E cls d H') (some (fi.ns, p.1, d)) := by
    obtain ⟨cc, vs0, z1, z2, z3, z4⟩ := hp.z
    refine ⟨⟨⟨⟨rfl, S.nd, fun _ _ h => .inl h, tx.st, hr1.gd, ?_⟩, L2N.takes_of rfl rfl rfl rfl, fun z => absurd (show false = true from z) Bool.false_ne_true, fun j a' d' e => ?_, fun _ _ => rfl, fun g fi q => ?_, .inr ⟨rfl, hr1, rfl⟩, fun _ => .inl rfl, S.kind⟩, passes_of rfl, rfl, rfl, hbk⟩, fun z => absurd (show false = true from z) Bool.false_ne_true, fun z => absurd (show false = true from z) Bool.false_ne_true⟩
    · have := hr1.un
      show (A.deeper (envOfC qual sc s.heap.objs.size f cdv)).units + 1250 < cLine
      omega
    · cases e
      exact ⟨p.2, cc, vs0, List.mem_cons_self, z1, z2, hp.h1.1, z3, z4⟩
    · obtain ⟨f, h1, h2, h3⟩ := tx.fn g fi q
      obtain ⟨fd, N, ps, body, sc, F, pt, _, _⟩ := h3.ex
      exact ⟨f, h1, h2, ⟨fd, ps, pt, by rw [h0]; exact fnmh_no⟩⟩
  refine wpAny_mono ((sndB fi.body body ctz hck).run [] s1 (L2.start N vs) H { nx := fun _ H' => Q .non H', rt := Q } I ?_) (fun fl s' hs => ?_) fun e s' hs => hs
  · refine ⟨ρ, { sl := mvs.map some ++ List.replicate (fi.ns - fi.np) none, ex := some (fi.ns, 0) }, mh, ⟨⟨?_, fun i v q => ?_, fun j n q => ?_⟩, rh, fun z => by cases z⟩, ?_⟩
    · unfold L2.start
      have hpl : ps.length ≤ N.length := by have := congrArg List.length S.pre; rw [List.length_take] at this; omega
      have e1 := pt.1
      simp only [List.length_append, List.length_map, List.length_replicate]
      rw [rm.length]
      omega
    · have hi : i < mvs.length := by
        by_cases hi : i < mvs.length
        · exact hi
        · rw [List.getElem?_append_right (by simpa using hi), List.getElem?_replicate] at q
          split at q <;> cases q
      rw [List.getElem?_append_left (by simpa using hi), List.getElem?_map] at q
      cases e : mvs[i]? with
      | none => rw [e] at q; cases q
      | some m =>
        rw [e] at q
        cases q
        obtain ⟨u, h1, h2⟩ := rm.get e
        exact ⟨u, start_get h1, h2⟩
    · cases q
      refine ⟨p.1, d, rfl, fun l => ?_⟩
      exfalso
      simp only [List.length_append, List.length_map, List.length_replicate] at l
      have e1 := pt.1
      have hpl : ps.length ≤ N.length := by have := congrArg List.length S.pre; rw [List.length_take] at this; omega
      omega
    · have h' : Aft K CA (RV CA) E ρ H ((if mvs.length = fi.np then (match exB T noCall fi.body { sl := mvs.map some ++ List.replicate (fi.ns - fi.np) none, ex := some (fi.ns, 0) } mh with
        | .ok (.ret v) h' => .ok v h'
        | .ok (.next _) h' => .ok .non h'
        | _ => .stuck) else .stuck : Res MV)) Q := h
      rw [if_pos hl] at h'
      cases eb : exB T noCall fi.body { sl := mvs.map some ++ List.replicate (fi.ns - fi.np) none, ex := some (fi.ns, 0) } mh with
      | ok fl m =>
        rw [eb] at h'
        cases fl with
        | next me' => exact fun ρ' H' σ' e a => h' ρ' H' .non e a.rh .non
        | ret v => exact fun ρ' H' x e r q => h' ρ' H' x e r q
        | brk me' => exact h'.elim
        | cont me' => exact h'.elim
      | exc c n me' m => rw [eb] at h'; exact h'.elim
      | stuck => rw [eb] at h'; exact h'.elim
  · have fin : ∀ {σ' : L2.St} {H' : Hp} {v : V} {u : Value}, L2.Inv (L2H.cxH (L2N.CX P w) P w K mg base N qual sc f cdv A outer s H E p) [] σ' H' s' → RelV v u → Q v H' → CE outer P w H s Q u s' :=
      fun {σ' H' v u} J rv q => ⟨v, H', J.os, J.bare, J.base, J.hok, rv, q⟩
    cases fl with
    | ret u =>
      obtain ⟨v, σ', H', J, rv, q⟩ := hs
      exact fin J rv q
    | next =>
      obtain ⟨σ', H', J, q⟩ := hs
      exact fin (v := V.non) (u := Value.none) J rfl q
    | brk =>
      obtain ⟨_, _, _, q⟩ := hs
      exact False.elim q
    | cont =>
      obtain ⟨_, _, _, q⟩ := hs
      exact False.elim q
theorem fnm_zero {fd : FuncData} {ps : List Str} : FnM CA P w K mg base (run T 0) k f fd ps fi := fun A outer s H args us vs mvs ρ mh Q E hr e0 hb rv rm hl rh h => h.elim
/-- every def of the text, as deep as one likes -/
theorem fnm_all (tx : TextOk T CA P w K mg base) (th : HotAll T CA P w K mg base) : ∀ (n : Nat) {f : Addr} {fi : FnI}, DefT T K f fi → ∃ (fd : FuncData) (ps : List Str), Pats fd ps fi ∧ FnM CA P w K mg base (run T n) (lev n) f fd ps fi
  | 0, f, fi, d => by
    obtain ⟨fd, N, ps, body, sc, F, pt, _, _⟩ := d.ex
    exact ⟨fd, ps, pt, fnm_zero⟩
  | n + 1, f, fi, d => by
    obtain ⟨fd, N, ps, body, sc, F, pt, hns, hck⟩ := d.ex
    refine ⟨fd, ps, pt, fnm_of (k := lev n) tx th F pt hns hck (by unfold lev; omega) n fun X e1 e2 e3 e4 e5 => ?_⟩
    refine ⟨fun g fi e => ?_, fun c m fi e => ?_, fun c fi e => ?_, tx.mp⟩
    · obtain ⟨f, a, b, d⟩ := tx.fn g fi e
      exact ⟨f, by rw [e4]; exact a, by rw [e3]; exact b, ⟨by rw [e1, e2, e3, e4, e5]; exact fnm_all tx th n d⟩⟩
    · obtain ⟨f, a, b, d⟩ := tx.me c m fi e
      exact ⟨f, by rw [e3]; exact a, by rw [e3]; exact b, ⟨by rw [e1, e2, e3, e4, e5]; exact fnm_all tx th n d⟩⟩
    · obtain ⟨f, a, d⟩ := tx.mkc c fi e
      exact ⟨f, by rw [e3]; exact a, ⟨by rw [e1, e2, e3, e4, e5]; exact fnm_all tx th n d⟩⟩
/-- all defs while an exception is handled -/
theorem hot_all {T0 : Tab} (tx : TextOk T0 CA P w K mg base) (h0 : T0.hc = noCall) (e1 : T.fn = T0.fn) (e2 : T.xat = T0.xat) (e3 : T.hc = hotOf T0) : HotAll T CA P w K mg base := fun g fi q => by
  rw [e1] at q
  obtain ⟨f, h1, h2, h3⟩ := tx.fn g fi q
  obtain ⟨fd, N, ps, body, sc, F, pt, hns, hck⟩ := h3.ex
  refine ⟨f, h1, h2, fd, ps, pt, ?_⟩
  rw [e3]
  exact fun A outer s H args us vs mvs ρ mh Q E p d hr hp hpin e0 hb rv rm hl rh h => fnmh_of tx h0 F pt hns hck A outer s H args us vs mvs ρ mh Q E p d hr ⟨hp.h1, by obtain ⟨c, vs, z1, z2, z3, z4⟩ := hp.z; exact ⟨c, vs, z1, z2, z3, by rw [← e2]; exact z4⟩⟩ hpin e0 hb rv rm hl rh h
end
end Mi
end

section
/-! Mini, part 19: the end of a law. -/
namespace Mi
open PySem PySem.Spec PyProof.Rows L2

/-- the heap at the law's call: the script at 0 -/
def scr (ns : List Int) : MH := { next := 1, get := fun m => if m = 0 then some (.frz (ns.map .int)) else none }
theorem rvs_ints {CA : Str → Addr} {ρ : Rho} {H : Hp} : ∀ ns : List Int, RVs CA ρ H (ns.map .int) (ns.map V.int)
  | [] => .nil
  | n :: ns => .cons (.int n) (rvs_ints ns)
theorem law_callM {T : Tab} {CA : Str → Addr} {P : Program} {w : World} {K : PySem.W.Frag} {mg mb : Str → Option Value} {fa a : Addr} {fi : FnI} {nn : Nat} {s₁ : Shared} {vs : List Value} {ns : List Int}
    (KX : K.In s₁.heap) (hns : s₁.heap.Ns mainGlobals mg) (hb : s₁.heap.Ns builtinsNs mb) (hbb : ∀ x : Str, x ≠ "__name__" → mb x = bootBuiltins x) (hlim : s₁.heap.NoLimit) (hg : s₁.gens = #[])
    (ha : s₁.heap.get? a = some { cls := .type "list", data := .seq vs.toArray }) (hi : IntsAre vs ns) (hl : ns.length ≤ sizeLine) (hr : RM (lev nn) callerA)
    (tx : ∀ base : Heap, K.In base → base.Ns mainGlobals mg → TextOk T CA P w K mg base ∧ HotAll T CA P w K mg base) (hd : DefT T K fa fi) (hp : (1, [], []) ∈ fi.pats) (hnp : fi.np = 1)
    (hrun : ∃ h', run T nn fi [.ref 0] (scr ns) = .ok (.bl true) h') :
    codeAny (model P w) callerA (.call (.ref fa) ⟨[.ref a], []⟩) (fun r s' => r = .ok (.ret (.bool true)) ∧ OldK s₁.heap s'.heap ∧ s'.os = s₁.os ∧ AllBare s'.gens) s₁ := by
  have rv := vals_ints hi
  have lenV := hi.length
  have core : ∀ H : Hp, Only H → ((∃ o, H a = some (.frz o (.lst (ns.map V.int)))) ∨ SqK K a (ns.map V.int)) → HOk P w H s₁.heap → (∀ b, H b ≠ none → b = a) → (H a ≠ none → K.lookup a = none) →
      codeAny (model P w) callerA (.call (.ref fa) ⟨[.ref a], []⟩) (fun r s' => r = .ok (.ret (.bool true)) ∧ OldK s₁.heap s'.heap ∧ s'.os = s₁.os ∧ AllBare s'.gens) s₁ := by
    intro H hO hS hok hA hK
    have base_of : ∀ {b : Addr} {o : Obj}, s₁.heap.get? b = some o → H b = none → (hidT s₁.heap H).get? b = some o := fun e n => hidT_get e n
    have noA : ∀ {b : Addr} {o : Obj} {es : Array DictEntry} {ep : Nat}, s₁.heap.get? b = some o → o.data = .dict es ep → H b = none := fun {b o es ep} e d => by
      cases q : H b with
      | none => rfl
      | some u =>
        have e' : b = a := hA b (by rw [q]; simp)
        subst e'
        rw [ha] at e; cases e
        have d' : Data.seq vs.toArray _ = Data.dict es ep := d
        cases d'
    have nsK : ∀ {b : Addr} {m : Str → Option Value}, s₁.heap.Ns b m → (hidT s₁.heap H).Ns b m := fun {b m} ⟨o, es, ep, e, d, r⟩ => ⟨o, es, ep, base_of e (noA e d), d, r⟩
    have hKb : K.In (hidT s₁.heap H) := fun b o e => base_of (KX b o e) (by
      cases q : H b with
      | none => rfl
      | some u =>
        have e' : b = a := hA b (by rw [q]; simp)
        subst e'
        rw [hK (by rw [q]; simp)] at e; cases e)
    have hM : Mod K mg (hidT s₁.heap H) := ⟨hKb, nsK hns, ⟨mb, nsK hb, hbb⟩, let ⟨mc, h1, h2⟩ := hlim; ⟨mc, nsK h1, h2⟩⟩
    have e0 : Env0 P w K mg (hidT s₁.heap H) callerA [] s₁ H := ⟨rfl, hM, fun b o e => of_hidT e, Nat.le_of_eq (hidT_size _ _), trivial, fun b hb => absurd (show b ∈ ([] : List Addr) from hb) (by simp), hok, .of_eq hg⟩
    obtain ⟨fd, ps, ⟨_, hbn⟩, F⟩ := fnm_all (tx _ hKb (nsK hns)).1 (tx _ hKb (nsK hns)).2 nn hd
    have hb1 := hbn _ hp [.ref a] [] rfl rfl s₁
    obtain ⟨h', hrun⟩ := hrun
    have rh : RH K CA (fun m => if m = 0 then some a else none) (scr ns) H := by
      refine ⟨fun n o e => ?_, fun n b e => ?_, fun n m b o o' e1 e2 e3 e4 w1 w2 => ?_⟩
      · by_cases hn : n = 0
        · subst hn
          have e' : some (MO.frz (ns.map .int)) = some o := e
          cases e'
          exact ⟨a, rfl, ns.map V.int, hS, rvs_ints ns⟩
        · have e' : (none : Option MO) = some o := by rw [← e]; exact (if_neg hn).symm
          cases e'
      · by_cases hn : n = 0
        · subst hn; exact ⟨Nat.one_pos, _, rfl⟩
        · have e' : (none : Option Addr) = some b := by rw [← e]; exact (if_neg hn).symm
          cases e'
      · by_cases hn : n = 0
        · subst hn
          have e' : some (MO.frz (ns.map .int)) = some o := e3
          cases e'
          cases w1
        · have e' : (none : Option MO) = some o := by rw [← e3]; exact (if_neg hn).symm
          cases e'
    refine codeAny_mono (F callerA [] s₁ H ⟨[.ref a], []⟩ [.ref a] [.ref a] [.ref 0] _ (scr ns) (fun v _ => v = .bl true) (fun _ _ _ => False) hr e0 (by simpa using hb1) (.cons rfl .nil) (.cons (.ref rfl) .nil) hnp.symm rh (by
      rw [hrun]; exact fun ρ' H' b e r q => by cases q; rfl)) fun r s' h => ?_
    cases r with
    | error e =>
      obtain ⟨_, _, _, _, _, _, _, _, _, _, _, _, z⟩ := h
      exact z.elim
    | ok fl =>
      cases fl with
      | next => exact False.elim h
      | brk => exact False.elim h
      | cont => exact False.elim h
      | ret u =>
        obtain ⟨v, H', os, bare, un, hok', r', q⟩ := h
        have q' : v = .bl true := q
        subst q'
        obtain rfl : u = Value.bool true := r'
        refine ⟨rfl, OldK.of_keep fun b o e => ?_, os, bare⟩
        cases q : H b with
        | none => exact un.keep b o e q (by intro z; exact absurd (show b ∈ ([] : List Addr) from z) (by simp)) (by simp)
        | some u =>
          rcases hO b with z | ⟨ob, xs, z⟩
          · rw [q] at z; cases z
          · have z2 := un.frzs b ob _ z
            obtain ⟨e1, _⟩ := hok b _ z
            obtain ⟨e2, _⟩ := hok' b _ z2
            rw [e] at e1; cases e1
            exact e2
  cases hk : K.lookup a with
  | some o =>
    have e := KX a o hk
    rw [ha] at e
    cases e
    exact core (fun _ => none) (fun _ => .inl rfl) (.inr ⟨_, vs.toArray, _, hk, rfl, rfl, rfl, by rw [List.size_toArray, lenV]; exact hl, by simpa using rv⟩) (fun b u z => by have z' : (none : Option HO) = some u := z; cases z') (fun b z => absurd rfl z) fun z => absurd rfl z
  | none =>
    refine core (fun b => if b = a then some (.frz { cls := .type "list", data := .seq vs.toArray } (.lst (ns.map V.int))) else none) (fun b => ?_) (.inl ⟨{ cls := .type "list", data := .seq vs.toArray }, if_pos rfl⟩) (fun b u z => ?_) (fun b z => ?_) fun _ => hk
    · by_cases hb : b = a
      · exact .inr ⟨_, _, if_pos hb⟩
      · exact .inl (if_neg hb)
    · by_cases hb : b = a
      · have z' := (if_pos hb).symm.trans z
        cases z'
        subst hb
        exact ⟨ha, by rw [List.length_map]; exact hl, vs, _, rv, ha⟩
      · have z' := (if_neg hb).symm.trans z
        cases z'
    · by_cases hb : b = a
      · exact hb
      · exact absurd (if_neg hb) z
theorem walk_ofM {l : PySem.W.OpenLaw} {n nn : Nat} {q : Program} {loose : List Str} {XP : (Str → Option Value) → Heap → Prop} {YP : World → Heap → Prop} {d : DefRec} {T : Tab} {fi : FnI}
    (hn : l.most = some n) (hn2 : n ≤ sizeLine) (hdf : d.params.defaults = []) (hr : RM (lev nn) callerA) (hp : (1, [], []) ∈ fi.pats) (hnp : fi.np = 1)
    (F : ∀ (w : World) (mg : Str → Option Value) (fa : Addr) (h : Heap), YP w h → h.Ns mainGlobals mg → mg d.name = some (.ref fa) →
      ∃ (K : PySem.W.Frag) (CA : Str → Addr), K.In h ∧ DefT T K fa fi ∧ ∀ base : Heap, K.In base → base.Ns mainGlobals mg → TextOk T CA l.prog w K mg base ∧ HotAll T CA l.prog w K mg base)
    (hrun : ∀ ns : List Int, ns.length ≤ n → (∀ z ∈ ns, Builtin.Int.intBits z ≤ 1048576) → ∃ h', run T nn fi [.ref 0] (scr ns) = .ok (.bl true) h') :
    PySem.W.WalkO q loose XP YP l.row.toRowW d [] (fun f vs => PySem.call f vs) := by
  refine Att.attach_callB hn hdf fun w s₀ s₁ mg mb fa o pm cd doc a vs ns G Y ho hd hcd hmg hobj hints hlen hbits hg => ?_
  obtain ⟨K, CA, KX, hD, tx⟩ := F w mg fa _ Y G.T.g hmg
  exact law_callM KX G.T.g G.T.b G.T.builtins G.T.nolimit hg hobj hints (Nat.le_trans hlen hn2) hr tx hD hp hnp (hrun ns hlen hbits)
end Mi
end

section
/-! Mini, part 20: a law's text as data; what the head tells of it. -/
namespace Mi
open PySem PySem.Spec PyProof.Rows L2

/-- a def of the text -/
structure DE where
  d : He.DefD
  N : List Str
  ps : List Str
/-- an exception: its fields, the class whose __init__ it calls, its own -/
structure XE1 where
  c : Str
  fs : List Str
  g : Str
  e : DE
inductive CK where | ty (n : String) | cl (c : Str)
  deriving DecidableEq
structure Txt where
  fns : List (Str × DE × FnI)
  mes : List (Str × Str × DE × FnI)
  xs : List XE1
  own : List Str
  free : List Str
  gi : List (Str × Int)
  noat : List (Str × Str)
  isc : List (Str × CK × Bool)
  sub : List (Str × Str × Bool)
  xat : List Str
  mp : List (Str × (Nat × List Str × List Nat))
def ckOf : MV → Option CK
  | .ty n => some (.ty n)
  | .cls c => some (.cl c)
  | _ => none
def find2 {α β γ : Type} [DecidableEq α] [DecidableEq β] : List (α × β × γ) → α → β → Option γ
  | [], _, _ => none
  | (a, b, c) :: r, x, y => if a = x ∧ b = y then some c else find2 r x y
theorem find2_mem {α β γ : Type} [DecidableEq α] [DecidableEq β] : ∀ {l : List (α × β × γ)} {x : α} {y : β} {z : γ}, find2 l x y = some z → (x, y, z) ∈ l
  | [], _, _, _, h => by cases h
  | (a, b, c) :: r, x, y, z, h => by
    unfold find2 at h
    split at h
    · rename_i hc
      cases h
      obtain ⟨rfl, rfl⟩ := hc
      exact List.mem_cons_self
    · exact List.mem_cons_of_mem _ (find2_mem h)
def find1 {α γ : Type} [DecidableEq α] : List (α × γ) → α → Option γ
  | [], _ => none
  | (a, c) :: r, x => if a = x then some c else find1 r x
theorem find1_mem {α γ : Type} [DecidableEq α] : ∀ {l : List (α × γ)} {x : α} {z : γ}, find1 l x = some z → (x, z) ∈ l
  | [], _, _, h => by cases h
  | (a, c) :: r, x, z, h => by
    unfold find1 at h
    split at h
    · rename_i hc
      cases h
      subst hc
      exact List.mem_cons_self
    · exact List.mem_cons_of_mem _ (find1_mem h)
/-- the table, by what the defs do while an exception is handled -/
def Txt.tabC (τ : Txt) (hc : CallF) : Tab where
  hc := hc
  fn := fun g => (find1 τ.fns g).map (·.2)
  me := fun c m => (find2 τ.mes c m).map (·.2)
  mp := fun m p => τ.mp.any fun q => decide (q.1 = m) && decide (q.2 = p)
  noat := fun c f => τ.noat.any fun q => decide (q.1 = c) && decide (q.2 = f)
  free := fun x => τ.free.any fun y => decide (y = x)
  own := fun x => τ.own.any fun y => decide (y = x)
  gi := fun x i => τ.gi.any fun q => decide (q.1 = x) && decide (q.2 = i)
  xat := fun x => τ.xat.any fun y => decide (y = x)
  exf := fun c => (find1 (τ.xs.map fun x => (x.c, x.fs)) c)
  sub := fun c d => find2 τ.sub c d
  isc := fun c v => (ckOf v).bind fun k => find2 τ.isc c k

def Txt.tab0 (τ : Txt) : Tab := τ.tabC noCall
def Txt.tab (τ : Txt) : Tab := τ.tabC (hotOf τ.tab0)

/-! ### what is asked of the head -/
def ecB (K : PySem.W.Frag) (C : Addr) : Bool := (match K.lookup C with
    | some ⟨.type t, _, .cls cd, sl⟩ => (match cd.mro, sl.toList with
      | .ref C' :: bm, [_, _, _, _, some (.builtin n), _] => decide (t = "type") && decide (C' = C) && decide (n = "Exception.__new__") && cd.hasDict && !cd.hasDel && refsEx bm
      | _, _ => false)
    | _ => false) && decide (PySem.W.findIn K (.ref C) "__setattr__" = some (some (.builtin "object.__setattr__"))) && decide (PySem.W.subIn K (.ref C) (.type "BaseException") = some true) &&
  decide (PySem.W.typeIn K (.ref C) = some (.type "type")) && PySem.W.keepIn K (.ref C)
theorem ecB_ok {K : PySem.W.Frag} {C : Addr} (h : ecB K C = true) : EC K C := by
  unfold ecB at h
  obtain ⟨h, h5⟩ := ba h
  obtain ⟨h, h4⟩ := ba h
  obtain ⟨h, h3⟩ := ba h
  obtain ⟨h1, h2⟩ := ba h
  refine ⟨?_, dc h2, dc h3, dc h4, h5⟩
  split at h1
  · rename_i t dd cd sl ho
    split at h1
    · rename_i C' bm k0 k1 k2 k3 n k5 hm hs
      obtain ⟨h1, g6⟩ := ba h1
      obtain ⟨h1, g5⟩ := ba h1
      obtain ⟨h1, g4⟩ := ba h1
      obtain ⟨h1, g3⟩ := ba h1
      obtain ⟨g1, g2⟩ := ba h1
      have e1 := dc g1
      have e2 := dc g2
      have e3 := dc g3
      subst e1; subst e2; subst e3
      obtain ⟨nm, bs, mro, ns, qn, hd, sn, sub, ab, col, del⟩ := cd
      dsimp only at hm g4 g5
      have g5' : del = false := by simpa using g5
      subst hm g4 g5'
      have hsl : sl = #[k0, k1, k2, k3, some (.builtin "Exception.__new__"), k5] := by
        obtain ⟨l⟩ := sl
        simp only at hs
        rw [hs]
      subst hsl
      exact ⟨nm, qn, ns, bs, bm, sn, sub, ab, col, dd, k0, k1, k2, k3, k5, ho, g6⟩
    · cases h1
  · cases h1
def xbB (K : PySem.W.Frag) (G : Addr) : Bool := decide (PySem.W.specialIn K (.ref G) "__getattribute__" = some (some (.builtin "type.__getattribute__"))) && decide (PySem.W.typeIn K (.ref G) = some (.type "type")) && PySem.W.readsIn K G (.type "type") &&
  (match PySem.W.findCls K (.ref G) (.type "type") "__init__" with
    | some (.val (.builtin n)) => decide (n = "Exception.__init__")
    | _ => false)
theorem xbB_ok {K : PySem.W.Frag} {G : Addr} (h : xbB K G = true) : XB K G := by
  unfold xbB at h
  obtain ⟨h, h4⟩ := ba h
  obtain ⟨h, h3⟩ := ba h
  obtain ⟨h1, h2⟩ := ba h
  refine ⟨dc h1, dc h2, h3, ?_⟩
  split at h4
  · rename_i n e
    rw [e, dc h4]
  · cases h4
def tyB (K : PySem.W.Frag) (C : Addr) : Bool := decide (PySem.W.findIn K (.ref C) "__class__" = some (some (.builtin "object.__class__"))) && decide (PySem.W.specialIn K (.builtin "object.__class__") "__get__" = some (some (.builtin "getset_descriptor.__get__"))) &&
  decide (PySem.W.takesIn K (.builtin "object.__class__") = some true) && decide (PySem.W.mroIn K C (.type "object") = some true)
theorem tyB_ok {K : PySem.W.Frag} {C : Addr} (cl : Cls K C) (h : tyB K C = true) (H : Hp) (a dx : Addr) (fs : List (Str × V)) (e : H a = some (.ins C dx fs)) : TyOf K H (.ref a) (.ref C) := by
  unfold tyB at h
  obtain ⟨h, h4⟩ := ba h
  obtain ⟨h, h3⟩ := ba h
  obtain ⟨h1, h2⟩ := ba h
  exact .ins e cl (dc h1) (dc h2) (dc h3) (dc h4)
def CK.u (K : PySem.W.Frag) : CK → Value
  | .ty n => .type n
  | .cl c => .ref (He.ga K c)
def Txt.parts (τ : Txt) : List (List He.Fa) := [τ.fns.map (fun f => .glo f.1), τ.own.map (fun c => .glo c), τ.free.map (fun x => .free x), τ.gi.map (fun q => .int q.1 q.2), τ.noat.map (fun q => .noat q.1 q.2), τ.noat.map (fun q => .cls q.1),
  τ.isc.map (fun q => .cls q.1), τ.sub.map (fun q => .exm q.1 q.2.1 q.2.2), τ.mes.map (fun q => .cls q.1), τ.mes.map (fun q => .meth q.1 q.2.1), (τ.mes.filter fun q => decide (q.2.1 = ("__init__" : Str))).map (fun q => .mkr q.1),
  τ.xs.map (fun x => .meth x.c "__init__"), τ.xs.map (fun x => .glo x.g), τ.xs.flatMap (fun x => x.fs.map fun f => .noat x.c f), τ.xs.flatMap (fun x => τ.xat.map fun f => .noat x.c f)]
def Txt.fa (τ : Txt) : List He.Fa := τ.parts.flatten
theorem fa_mem {τ : Txt} {f : He.Fa} (i : Nat) {l : List He.Fa} (h : τ.parts[i]? = some l) (hf : f ∈ l) : f ∈ τ.fa := List.mem_flatten.mpr ⟨l, List.mem_of_getElem? h, hf⟩
def Txt.dl (τ : Txt) : List He.DefD := τ.fns.map (fun f => f.2.1.d) ++ τ.mes.map (fun q => q.2.2.1.d) ++ τ.xs.map (fun x => x.e.d)
def Txt.ex (τ : Txt) (K : PySem.W.Frag) : Bool := (τ.isc.all fun q => tyB K (He.ga K q.1) && decide (PySem.W.kitOne K (.ref (He.ga K q.1)) (q.2.1.u K) = some q.2.2)) && (τ.xs.all fun x => ecB K (He.ga K x.c) && xbB K (He.ga K x.g) && xfB K (He.ga K x.c))

/-! ### what is asked of the text -/
def scB (N ps : List Str) (sc : Scope) : Bool := (match sc.kind with | .function => true | _ => false) && !sc.isCoroutine && !sc.isGenerator && decide N.Nodup && decide (N.take ps.length = ps) &&
  (ps.all fun x => sc.names.lookup x == some .local || sc.names.lookup x == some .cell) && (sc.names.all fun y => !(y.2 == .free))
theorem scB_ok {N ps : List Str} {sc : Scope} (h : scB N ps sc = true) : FnScope N ps sc := by
  unfold scB at h
  obtain ⟨h, h7⟩ := ba h
  obtain ⟨h, h6⟩ := ba h
  obtain ⟨h, h5⟩ := ba h
  obtain ⟨h, h4⟩ := ba h
  obtain ⟨h, h3⟩ := ba h
  obtain ⟨h1, h2⟩ := ba h
  refine ⟨?_, by simpa using h2, by simpa using h3, dc h4, dc h5, fun x hx => ?_, fun y hy z => ?_⟩
  · split at h1
    · assumption
    · cases h1
  · have := List.all_eq_true.mp h6 x hx
    simpa only [Bool.or_eq_true, beq_iff_eq] using this
  · have := List.all_eq_true.mp h7 y hy
    rw [z] at this
    cases this
def DE.scB (e : DE) : Bool := Mi.scB e.N e.ps e.d.scope && e.d.dfl.isEmpty && e.d.kwd.isEmpty
def DE.ok (T : Tab) (e : DE) (fi : FnI) : Bool := e.scB && decide (e.N.length = fi.ns) && ckB T e.N e.d.scope fi.body e.d.body
def Txt.ckAll (τ : Txt) (hc : CallF) : Bool := (τ.fns.all fun f => f.2.1.ok (τ.tabC hc) f.2.2) && (τ.mes.all fun q => q.2.2.1.ok (τ.tabC hc) q.2.2.2)
def Txt.stat (τ : Txt) : Bool := (τ.fns.all fun f => decide (f.2.1.d.at_ = (f.1, none))) && (τ.mes.all fun q => decide (q.2.2.1.d.at_ = (q.1, some q.2.1))) &&
  (τ.xs.all fun x => x.e.scB && decide (x.e.d.at_ = (x.c, some ("__init__" : Str))) && decide (x.e.ps.length = x.fs.length + 1) && decide (x.fs ≠ []) && decide (x.fs.length ≤ 900) && ckXI x.e.N x.e.d.scope x.g x.fs x.e.d.body) &&
  (τ.sub.all fun q => (τ.own.any fun y => decide (y = q.1))) && (τ.mp.all fun q => τ.mes.all fun m => if m.2.1 = q.1 ∧ q.2.1 + q.2.2.1.length = m.2.2.2.np then decide (q.2 ∈ m.2.2.2.pats) else true)
/-- how a def is called -/
def DE.Pt (e : DE) (fi : FnI) : Prop := ∀ (kV doc pm : Value) (an : Option Addr) (cdv ct : Value), Pats (PySem.W.fnOf e.d.name e.d.qual e.d.params e.d.body e.d.scope .none kV doc pm an cdv ct) e.ps fi
def DE.Bn (e : DE) : Prop := ∀ (kV doc pm : Value) (an : Option Addr) (cdv ct : Value) (us : List Value), us.length = e.ps.length → bindArgs (PySem.W.fnOf e.d.name e.d.qual e.d.params e.d.body e.d.scope .none kV doc pm an cdv ct) ⟨us, []⟩ = pure (e.ps.zip us)
structure Txt.Binds (τ : Txt) : Prop where
  fns : ∀ f ∈ τ.fns, f.2.1.Pt f.2.2
  mes : ∀ q ∈ τ.mes, q.2.2.1.Pt q.2.2.2
  xs : ∀ x ∈ τ.xs, x.e.Bn

section
variable {τ : Txt} {P : Program} {w : World} {K : PySem.W.Frag} {mg : Str → Option Value} {base h : Heap}
theorem fnt_of {e : DE} (hsc : e.scB = true) (F : ∃ fd, FunD K e.d.name e.d.qual e.d.params e.d.body e.d.scope (e.d.dvs K) (e.d.kws K) (He.fAd K e.d.at_) fd) :
    ∃ fd, FnT K (He.fAd K e.d.at_) fd e.N e.ps e.d.body e.d.scope ∧ PySem.W.keepIn K (.ref (He.fAd K e.d.at_)) = true ∧ ∃ kV doc pm an cdv ct, fd = PySem.W.fnOf e.d.name e.d.qual e.d.params e.d.body e.d.scope .none kV doc pm an cdv ct := by
  unfold DE.scB at hsc
  obtain ⟨hsc, h3⟩ := ba hsc
  obtain ⟨h1, h2⟩ := ba hsc
  obtain ⟨fd, F⟩ := F
  obtain ⟨oc, od, dV, kV, doc, pm, an, cdv, ct, osl, e1, lk, hcd, hD, hK⟩ := F.ex
  have ed : e.d.dvs K = [] := by
    unfold He.DefD.dvs
    rw [List.isEmpty_iff.mp h2]; rfl
  rcases hD with ⟨_, rfl⟩ | ⟨z, _⟩
  · exact ⟨fd, ⟨⟨_, _, _, _, _, _, _, _, _, _, _, _, _, lk, e1, hcd⟩, scB_ok h1⟩, F.kp, kV, doc, pm, an, cdv, ct, e1⟩
  · exact absurd ed z
theorem deft_of {e : DE} {fi : FnI} {T : Tab} (hok : e.ok T fi = true) (pt : e.Pt fi) (F : ∃ fd, FunD K e.d.name e.d.qual e.d.params e.d.body e.d.scope (e.d.dvs K) (e.d.kws K) (He.fAd K e.d.at_) fd) : DefT T K (He.fAd K e.d.at_) fi := by
  unfold DE.ok at hok
  obtain ⟨hok, h3⟩ := ba hok
  obtain ⟨h1, h2⟩ := ba hok
  obtain ⟨fd, F1, kp, kV, doc, pm, an, cdv, ct, e1⟩ := fnt_of h1 F
  refine ⟨fd, _, _, _, _, F1, ?_, dc h2, h3⟩
  rw [e1]
  exact pt kV doc pm an cdv ct
theorem text_ok {hc : CallF} (c1 : He.SaysD τ.fa τ.dl K) (c2 : τ.ex K = true) (hck : τ.ckAll hc = true) (hst : τ.stat = true) (hb : τ.Binds) (hK : K.In base) (hG : base.Ns mainGlobals mg) : TextOk (τ.tabC hc) (He.ga K) P w K mg base := by
  unfold Txt.ckAll at hck
  obtain ⟨hk1, hk2⟩ := ba hck
  unfold Txt.stat at hst
  obtain ⟨hst, s5⟩ := ba hst
  obtain ⟨hst, s4⟩ := ba hst
  obtain ⟨hst, s3⟩ := ba hst
  obtain ⟨s1, s2⟩ := ba hst
  unfold Txt.ex at c2
  obtain ⟨x1, x2⟩ := ba c2
  have fac : ∀ {f : He.Fa}, f ∈ τ.fa → f.ok K = true := fun hf => He.SaysD.facts c1 hf
  have any_mem : ∀ {l : List Str} {x : Str}, (l.any fun y => decide (y = x)) = true → x ∈ l := fun {l x} h => by
    obtain ⟨y, hy, e⟩ := List.any_eq_true.mp h
    rw [← dc e]; exact hy
  have xsin : ∀ {c : Str} {fs : List Str}, (τ.tabC hc).exf c = some fs → ∃ x ∈ τ.xs, x.c = c ∧ x.fs = fs := fun {c fs} h => by
    have := find1_mem h
    obtain ⟨x, hx, e⟩ := List.mem_map.mp this
    cases e
    exact ⟨x, hx, rfl, rfl⟩
  refine ⟨⟨fun x hx => ?_, fun c hc => ?_, fun x i hx => ?_, fun c f hcf => ?_, fun c v b hb' => ?_, fun c d b h => ?_, fun c hc => ?_⟩, fun g fi hg => ?_, fun c m fi hm => ?_, fun c fi hm => ?_, fun c m fi p hm hp hl => ?_, fun c fs hf => ?_⟩
  · have := any_mem hx
    exact He.free_ok hK hG (fac (f := .free x) (fa_mem 2 rfl (List.mem_map.mpr ⟨_, this, rfl⟩)))
  · have := any_mem hc
    exact He.glo_ok hK hG (fac (f := .glo c) (fa_mem 1 rfl (List.mem_map.mpr ⟨_, this, rfl⟩)))
  · obtain ⟨q, hq, e⟩ := List.any_eq_true.mp hx
    obtain ⟨e1, e2⟩ := ba e
    have h1 := dc e1
    have h2 := dc e2
    subst h1; subst h2
    exact He.int_ok hK hG (fac (f := .int q.1 q.2) (fa_mem 3 rfl (List.mem_map.mpr ⟨_, hq, rfl⟩)))
  · obtain ⟨q, hq, e⟩ := List.any_eq_true.mp hcf
    obtain ⟨e1, e2⟩ := ba e
    have h1 := dc e1
    have h2 := dc e2
    subst h1; subst h2
    exact ⟨He.noat_ok (fac (f := .noat q.1 q.2) (fa_mem 4 rfl (List.mem_map.mpr ⟨_, hq, rfl⟩))),
      He.cls_ok (fac (f := .cls q.1) (fa_mem 5 rfl (List.mem_map.mpr ⟨_, hq, rfl⟩)))⟩
  · have hb2 : (ckOf v).bind (fun k => find2 τ.isc c k) = some b := hb'
    obtain ⟨k, hk, hb3⟩ := Option.bind_eq_some_iff.mp hb2
    have hm := find2_mem hb3
    have hx := List.all_eq_true.mp x1 _ hm
    obtain ⟨y1, y2⟩ := ba hx
    have cl : Cls K (He.ga K c) := He.cls_ok (fac (f := .cls c) (fa_mem 6 rfl (List.mem_map.mpr ⟨_, hm, rfl⟩)))
    refine ⟨tyB_ok cl y1, ?_⟩
    cases v <;> try (cases hk; done)
    · cases hk
      exact .inl ⟨_, rfl, dc y2⟩
    · cases hk
      exact .inr ⟨_, rfl, dc y2⟩
  · have hm := find2_mem h
    exact He.exm_ok (fac (f := .exm c d b) (fa_mem 7 rfl (List.mem_map.mpr ⟨_, hm, rfl⟩)))
  · obtain ⟨fs, hf⟩ := Option.isSome_iff_exists.mp hc
    obtain ⟨x, hx, rfl, rfl⟩ := xsin hf
    have h1 := List.all_eq_true.mp x2 x hx
    obtain ⟨h1, h2⟩ := ba h1
    refine ⟨xfB_ok h2, fun f hf => ?_⟩
    have := any_mem hf
    exact He.noat_ok (fac (f := .noat x.c f) (fa_mem 14 rfl (List.mem_flatMap.mpr ⟨_, hx, List.mem_map.mpr ⟨_, this, rfl⟩⟩)))
  · obtain ⟨q, hq, e⟩ := Option.map_eq_some_iff.mp (show (find1 τ.fns g).map (·.2) = some fi from hg)
    subst e
    have hm := find1_mem hq
    have hat := dc (List.all_eq_true.mp s1 _ hm)
    have F := He.SaysD.defs c1 (d := q.1.d) (by unfold Txt.dl; simp only [List.mem_append, List.mem_map]; exact .inl (.inl ⟨_, hm, rfl⟩))
    have D := deft_of (List.all_eq_true.mp hk1 _ hm) (hb.fns _ hm) F
    obtain ⟨fd, F⟩ := F
    have kp := F.kp
    have e : He.fAd K q.1.d.at_ = He.ga K g := by
      have hat' : q.1.d.at_ = (g, none) := hat
      rw [hat']; rfl
    rw [e] at D kp
    exact ⟨He.ga K g, He.glo_ok hK hG (fac (f := .glo g) (fa_mem 0 rfl (List.mem_map.mpr ⟨_, hm, rfl⟩))), kp, D⟩
  · obtain ⟨q, hq, e⟩ := Option.map_eq_some_iff.mp (show (find2 τ.mes c m).map (·.2) = some fi from hm)
    subst e
    have hm := find2_mem hq
    have hat := dc (List.all_eq_true.mp s2 _ hm)
    have F := He.SaysD.defs c1 (d := q.1.d) (by unfold Txt.dl; simp only [List.mem_append, List.mem_map]; exact .inl (.inr ⟨_, hm, rfl⟩))
    have D := deft_of (List.all_eq_true.mp hk2 _ hm) (hb.mes _ hm) F
    have e : He.fAd K q.1.d.at_ = He.ma K (He.ga K c) m := by
      have hat' : q.1.d.at_ = (c, some m) := hat
      rw [hat']; rfl
    rw [e] at D
    exact ⟨_, He.cls_ok (fac (f := .cls c) (fa_mem 8 rfl (List.mem_map.mpr ⟨_, hm, rfl⟩))), He.meth_ok (fac (f := .meth c m) (fa_mem 9 rfl (List.mem_map.mpr ⟨_, hm, rfl⟩))), D⟩
  · obtain ⟨q, hq, e⟩ := Option.map_eq_some_iff.mp (show (find2 τ.mes c "__init__").map (·.2) = some fi from hm)
    subst e
    have hm := find2_mem hq
    have hat := dc (List.all_eq_true.mp s2 _ hm)
    have F := He.SaysD.defs c1 (d := q.1.d) (by unfold Txt.dl; simp only [List.mem_append, List.mem_map]; exact .inl (.inr ⟨_, hm, rfl⟩))
    have D := deft_of (List.all_eq_true.mp hk2 _ hm) (hb.mes _ hm) F
    have e : He.fAd K q.1.d.at_ = He.ma K (He.ga K c) "__init__" := by
      have hat' : q.1.d.at_ = (c, some ("__init__" : Str)) := hat
      rw [hat']; rfl
    rw [e] at D
    exact ⟨_, He.mkr_ok (fac (f := .mkr c) (fa_mem 10 rfl (List.mem_map.mpr ⟨_, List.mem_filter.mpr ⟨hm, decide_eq_true rfl⟩, rfl⟩))), D⟩
  · obtain ⟨q, hq, e⟩ := Option.map_eq_some_iff.mp (show (find2 τ.mes c m).map (·.2) = some fi from hm)
    subst e
    have hm := find2_mem hq
    obtain ⟨r, hr, e⟩ := List.any_eq_true.mp hp
    obtain ⟨e1, e2⟩ := ba e
    have e0 := dc e1
    have h2 := dc e2
    subst h2
    have h3 : (if m = r.1 ∧ r.2.1 + r.2.2.1.length = q.2.np then decide (r.2 ∈ q.2.pats) else true) = true := List.all_eq_true.mp (List.all_eq_true.mp s5 _ hr) _ hm
    rw [if_pos ⟨e0.symm, hl⟩] at h3
    exact dc h3
  · obtain ⟨x, hx, rfl, rfl⟩ := xsin hf
    have h1 := List.all_eq_true.mp x2 x hx
    obtain ⟨h1, h2⟩ := ba h1
    obtain ⟨h3, h4⟩ := ba h1
    have z := List.all_eq_true.mp s3 x hx
    obtain ⟨z, z6⟩ := ba z
    obtain ⟨z, z5⟩ := ba z
    obtain ⟨z, z4⟩ := ba z
    obtain ⟨z, z3⟩ := ba z
    obtain ⟨z1, z2⟩ := ba z
    have F := He.SaysD.defs c1 (d := x.e.d) (by unfold Txt.dl; simp only [List.mem_append, List.mem_map]; exact .inr ⟨_, hx, rfl⟩)
    obtain ⟨fd, F1, kp, kV, doc, pm, an, cdv, ct, e1⟩ := fnt_of z1 F
    have e : He.fAd K x.e.d.at_ = He.ma K (He.ga K x.c) "__init__" := by
      rw [dc z2]; rfl
    rw [e] at F1
    have M := He.meth_ok (fac (f := .meth x.c "__init__") (fa_mem 11 rfl (List.mem_map.mpr ⟨_, hx, rfl⟩)))
    have hmg := He.glo_ok hK hG (fac (f := .glo x.g) (fa_mem 12 rfl (List.mem_map.mpr ⟨_, hx, rfl⟩)))
    refine ⟨_, fd, x.e.ps, ecB_ok h3, M.at_, beq_iff_eq.mp M.fn, fn_xinit F1 (dc z3) (ecB_ok h3) (fun f hf => He.noat_ok (fac (f := .noat x.c f) (fa_mem 13 rfl (List.mem_flatMap.mpr ⟨_, hx, List.mem_map.mpr ⟨_, hf, rfl⟩⟩)))) (dc z4) (dc z5) (xbB_ok h4) hmg z6, ?_⟩
    rw [e1]
    exact Binds.all (hb.xs x hx kV doc pm an cdv ct)
end
end Mi
end

section
/-! Mini, part 21: what is looked at behind the top. -/
namespace Mi
open PySem PySem.Spec PyProof.Rows L2

def seenB (n : Nat) (τ : Txt) (g : Addr → Option Obj) : He.AlD × Bool := (fun K => (He.obsD τ.fa τ.dl K, τ.ex K)) (He.frT g (cStatics :: He.asD g n))
def hookM (n : Nat) (τ : Txt) : PySem.W.Hook where
  α := He.AlD × Bool
  obs := fun s => seenB n τ s.heap.get?
  val := fun _ => (He.valD τ.dl, true)
  says := fun _ h => ∃ K : PySem.W.Frag, K.In h ∧ He.SaysD τ.fa τ.dl K ∧ τ.ex K = true
  of := fun _ s e => ⟨_, He.frT_in (as := cStatics :: He.asD s.heap.get? n), congrArg (fun z : He.AlD × Bool => z.1) e, congrArg (fun z : He.AlD × Bool => z.2) e⟩
  keeps := fun _ _ _ ⟨K, hK, c⟩ k => ⟨K, PySem.W.Frag.In.keeps hK k, c⟩
theorem seenB_eq {n : Nat} {τ : Txt} {g : Addr → Option Obj} {s : Shared} (h : ∀ a, g a = s.heap.get? a) : seenB n τ g = (hookM n τ).obs s := by
  have e : g = s.heap.get? := funext h
  rw [e] <;> rfl
end Mi
end

section
namespace Lw
open Mi
section
variable {T : Tab} {C : CallF} {me : Mi.Env} {h : MH}
/-- lazy forms: simp looks at the first part alone -/
abbrev Rb {α β : Type} (_ : α → MH → Res β) : Type := Res α
/-- (a result's type names what follows: simp then leaves what follows alone) -/
def bnd {α β : Type} (f : α → MH → Res β) (r : Rb f) : Res β := match r with
  | .ok a h => f a h
  | .exc c n h => .exc c n h
  | .stuck => .stuck
theorem q_b1 {α β : Type} {a : α} {h : MH} {f : α → MH → Res β} : bnd f (.ok a h) = f a h := (rfl)
theorem q_b2 {α β : Type} {c : PySem.Str} {n : Nat} {h : MH} {f : α → MH → Res β} : bnd f (.exc c n h) = .exc c n h := (rfl)
theorem q_b3 {α β : Type} {f : α → MH → Res β} : bnd f .stuck = .stuck := (rfl)
theorem q_mb {α β : Type} (x : M α) (f : α → M β) (h : MH) : M.bind x f h = bnd (fun a h => f a h) (x h) := by unfold M.bind bnd; cases x h <;> rfl
abbrev Rs (_ : Mi.Env → MH → SR) : Type := SR
def sqn (k : Mi.Env → MH → SR) (r : Rs k) : SR := match r with
  | .ok (.next me) h => k me h
  | x => x
theorem q_s1 {me : Mi.Env} {h : MH} {k : Mi.Env → MH → SR} : sqn k (.ok (.next me) h) = k me h := (rfl)
theorem q_s2 {v : Mi.MV} {h : MH} {k : Mi.Env → MH → SR} : sqn k (.ok (.ret v) h) = .ok (.ret v) h := (rfl)
theorem q_s3 {me : Mi.Env} {h : MH} {k : Mi.Env → MH → SR} : sqn k (.ok (.brk me) h) = .ok (.brk me) h := (rfl)
theorem q_s4 {me : Mi.Env} {h : MH} {k : Mi.Env → MH → SR} : sqn k (.ok (.cont me) h) = .ok (.cont me) h := (rfl)
theorem q_s5 {c : PySem.Str} {n : Nat} {me : Mi.Env} {h : MH} {k : Mi.Env → MH → SR} : sqn k (.exc c n me h) = .exc c n me h := (rfl)
abbrev Ro {α : Type} (_ : Mi.Env) (_ : α → MH → SR) : Type := Res α
def ofF {α : Type} (me : Mi.Env) (k : α → MH → SR) (r : Ro me k) : SR := SR.of me r k
theorem of_F {α : Type} {me : Mi.Env} {k : α → MH → SR} {r : Res α} : SR.of me r k = ofF me k r := (rfl)
theorem q_exb0 : exB T C .nil me h = .ok (.next me) h := by simp only [exB]
theorem q_exb1 (s : MS) (r : MSs) : exB T C (.cons s r) me h = sqn (fun me h => exB T C r me h) (exS T C s me h) := by
  simp only [exB]
  unfold sqn
  split <;> simp_all
theorem q_mp {α : Type} (a : α) (h : MH) : (M.pure a : M α) h = .ok a h := (rfl)
theorem q_mst {α : Type} (h : MH) : (M.stuck : M α) h = .stuck := (rfl)
theorem q_of1 {α : Type} {me : Mi.Env} {a : α} {h : MH} {k : α → MH → SR} : ofF me k (.ok a h) = k a h := (rfl)
theorem q_of2 {α : Type} {me : Mi.Env} {c : PySem.Str} {n : Nat} {h : MH} {k : α → MH → SR} : ofF me k (.exc c n h) = .exc c n me h := (rfl)
theorem q_of3 {α : Type} {me : Mi.Env} {k : α → MH → SR} : ofF me k .stuck = .stuck := (rfl)
theorem q_opt {α : Type} {a : α} : opt (some a) h = .ok a h := (rfl)
theorem q_non : evE T C me .non h = .ok .non h := by simp only [evE] <;> rfl
theorem q_bl (b : Bool) : evE T C me (.bl b) h = .ok (.bl b) h := by simp only [evE] <;> rfl
theorem q_int (i : Int) : evE T C me (.int i) h = .ok (.int i) h := by simp only [evE] <;> rfl
theorem q_str (x : PySem.Str) : evE T C me (.str x) h = .ok (.str x) h := by simp only [evE] <;> rfl
theorem q_var (i : Nat) : evE T C me (.var i) h = opt (me.sl[i]?.getD none) h := by simp only [evE]
theorem q_ty (n : String) : evE T C me (.ty n) h = .ok (.ty n) h := by simp only [evE] <;> rfl
theorem q_cls (n : PySem.Str) : evE T C me (.cls n) h = .ok (.cls n) h := by simp only [evE] <;> rfl
theorem q_gint (x : PySem.Str) (i : Int) : evE T C me (.gint x i) h = .ok (.int i) h := by simp only [evE] <;> rfl
theorem q_bin (op : Mi.BOp) (a b : ME) : evE T C me (.bin op a b) h = M.bind (evE T C me a) (fun x => M.bind (evE T C me b) fun y => binM op x y) h := by simp only [evE]
theorem q_neg (a : ME) : evE T C me (.neg a) h = M.bind (evE T C me a) (fun x => match x with | .int i => M.pure (.int (-i)) | _ => M.stuck) h := by simp only [evE] <;> rfl
theorem q_not (a : ME) : evE T C me (.notE a) h = M.bind (evE T C me a) (fun x => M.bind (boolM x) fun b => M.pure (.bl (!b))) h := by simp only [evE]
theorem q_cmp (op : Mi.COp) (a b : ME) : evE T C me (.cmp op a b) h = M.bind (evE T C me a) (fun x => M.bind (evE T C me b) fun y => cmpM op x y) h := by simp only [evE]
theorem q_chain (op op' : Mi.COp) (a b c : ME) : evE T C me (.chain op op' a b c) h = M.bind (evE T C me a) (fun x => M.bind (evE T C me b) fun y => M.bind (cmpM op x y) fun z => M.bind (boolM z) fun k => if k = true then M.bind (evE T C me c) fun w => cmpM op' y w else M.pure (.bl false)) h := by simp only [evE]
theorem q_and (a b : ME) : evE T C me (.and a b) h = M.bind (evE T C me a) (fun x => M.bind (boolM x) fun k => if k = true then evE T C me b else M.pure (.bl false)) h := by simp only [evE]
theorem q_or (a b : ME) : evE T C me (.or a b) h = M.bind (evE T C me a) (fun x => M.bind (boolM x) fun k => if k = true then M.pure (.bl true) else evE T C me b) h := by simp only [evE]
theorem q_ife (c a b : ME) : evE T C me (.ife c a b) h = M.bind (evT T C me c) (fun k => if k = true then evE T C me a else evE T C me b) h := by simp only [evE]
theorem q_sub (a i : ME) : evE T C me (.sub a i) h = M.bind (evE T C me a) (fun x => M.bind (evE T C me i) fun y => subM x y) h := by simp only [evE]
theorem q_slc (a : ME) (lo hi : MOp) : evE T C me (.slc a lo hi) h = M.bind (evE T C me a) (fun x => M.bind (evO T C me lo) fun l => M.bind (evO T C me hi) fun u => slcM x l u) h := by simp only [evE]
theorem q_rev (a : ME) : evE T C me (.rev a) h = M.bind (evE T C me a) (fun x => revM x) h := by simp only [evE]
theorem q_lsi (a : ME) (e : me.ex = none) : evE T C me (.lsi a) h = M.bind (evE T C me a) (fun x => lsiM x) h := by simp [evE, e]
theorem q_tup (es : MEs) : evE T C me (.tup es) h = M.bind (evEs T C me es) (fun vs => if vs.length ≤ PySem.sizeLine then M.pure (.tup vs) else M.stuck) h := by simp only [evE]
theorem q_lst (es : MEs) : evE T C me (.lst es) h = M.bind (evEs T C me es) (fun vs => newL vs) h := by simp only [evE]
theorem q_call (f : PySem.Str) (es : MEs) (ks : List PySem.Str) (kes : MEs) (pm : List Nat) (e : me.ex = none) : evE T C me (.call f es ks kes pm) h = M.bind (evEs T C me es) (fun vs => M.bind (evEs T C me kes) fun ws => callM T C f vs ws pm) h := by simp [evE, e]
theorem q_mk (c : PySem.Str) (es : MEs) (e : me.ex = none) : evE T C me (.mk c es) h = M.bind (evEs T C me es) (fun vs => mkM T C c vs) h := by simp [evE, e]
theorem q_bi (b : Mi.BI) (es : MEs) (e : me.ex = none) : evE T C me (.bi b es) h = M.bind (evEs T C me es) (fun vs => biM T b vs) h := by simp [evE, e]
theorem q_bih (b : Mi.BI) (es : MEs) (e : calmB b = false) : evE T C me (.bi b es) h = M.bind (evEs T C me es) (fun vs => biM T b vs) h := by simp [evE, e]
theorem q_app (o e : ME) : evE T C me (.app o e) h = M.bind (evE T C me o) (fun x => M.bind (isLst x) fun _ => M.bind (evE T C me e) fun v => appM x v) h := by simp only [evE]
theorem q_fld (o : ME) (f : PySem.Str) : evE T C me (.fld o f) h = M.bind (evE T C me o) (fun x => fldM T f x) h := by simp only [evE]
theorem q_meth (o : ME) (m : PySem.Str) (es : MEs) (ks : List PySem.Str) (kes : MEs) (pm : List Nat) (e : me.ex = none) : evE T C me (.meth o m es ks kes pm) h = M.bind (evE T C me o) (fun x => methM T m x fun fi => M.bind (evEs T C me es) fun vs => M.bind (evEs T C me kes) fun ws => match argsOf fi.np (x :: vs) ws pm with
    | some as => C fi as
    | none => M.stuck) h := by simp [evE, e] <;> rfl
theorem q_nil : evEs T C me .nil h = .ok [] h := by simp only [evEs] <;> rfl
theorem q_cons (e : ME) (es : MEs) : evEs T C me (.cons e es) h = M.bind (evE T C me e) (fun v => M.bind (evEs T C me es) fun vs => M.pure (v :: vs)) h := by simp only [evEs]
theorem q_tand (a b : ME) : evT T C me (.and a b) h = M.bind (evT T C me a) (fun k => if k = true then evT T C me b else M.pure false) h := by simp only [evT]
theorem q_tor (a b : ME) : evT T C me (.or a b) h = M.bind (evT T C me a) (fun k => if k = true then M.pure true else evT T C me b) h := by simp only [evT]
theorem q_tnot (a : ME) : evT T C me (.notE a) h = M.bind (evT T C me a) (fun k => M.pure (!k)) h := by simp only [evT]
theorem q_tbl (b : Bool) : evT T C me (.bl b) h = .ok b h := by simp only [evT] <;> rfl
theorem q_tvar (i : Nat) : evT T C me (.var i) h = M.bind (opt (me.sl[i]?.getD none)) boolM h := by simp only [evT]
theorem q_tcmp (op : Mi.COp) (a b : ME) : evT T C me (.cmp op a b) h = M.bind (evE T C me (.cmp op a b)) boolM h := by simp only [evT, evE]
theorem q_tchain (op op' : Mi.COp) (a b c : ME) : evT T C me (.chain op op' a b c) h = M.bind (evE T C me (.chain op op' a b c)) boolM h := by simp only [evT, evE]
theorem q_tsub (a i : ME) : evT T C me (.sub a i) h = M.bind (evE T C me (.sub a i)) boolM h := by simp only [evT, evE]
theorem q_tcall (f : PySem.Str) (es : MEs) (ks : List PySem.Str) (kes : MEs) (pm : List Nat) : evT T C me (.call f es ks kes pm) h = M.bind (evE T C me (.call f es ks kes pm)) boolM h := by simp only [evT, evE]
theorem q_tbi (b : Mi.BI) (es : MEs) : evT T C me (.bi b es) h = M.bind (evE T C me (.bi b es)) boolM h := by simp only [evT, evE]
theorem q_tmeth (o : ME) (m : PySem.Str) (es : MEs) (ks : List PySem.Str) (kes : MEs) (pm : List Nat) : evT T C me (.meth o m es ks kes pm) h = M.bind (evE T C me (.meth o m es ks kes pm)) boolM h := by simp only [evT, evE]
theorem q_bool (b : Bool) : boolM (.bl b) h = .ok b h := (rfl)
theorem q_callM {f : PySem.Str} {fi : FnI} {vs ws as : List Mi.MV} {pm : List Nat} (e : T.fn f = some fi) (e2 : argsOf fi.np vs ws pm = some as) : callM T C f vs ws pm h = C fi as h := by unfold callM; rw [e]; simp only [e2]
/-! ### operators -/
theorem o_add (i j : Int) : binM .add (.int i) (.int j) h = .ok (.int (i + j)) h := (rfl)
theorem o_sub (i j : Int) : binM .sub (.int i) (.int j) h = .ok (.int (i - j)) h := (rfl)
theorem o_mul (i j : Int) (e : small i ∨ small j) : binM .mul (.int i) (.int j) h = .ok (.int (i * j)) h := by
  show (if small i ∨ small j ∨ i.natAbs.log2 + j.natAbs.log2 < 1000000 then M.pure (.int (i * j)) else M.stuck : M Mi.MV) h = _
  rw [if_pos (by rcases e with e | e <;> simp [e])]; rfl
theorem o_fdiv (i j : Int) (e : 0 < j) (e2 : j.natAbs.log2 < 9000) : binM .fdiv (.int i) (.int j) h = .ok (.int (i / j)) h := by
  show (if 0 < j ∧ j.natAbs.log2 < 9000 then M.pure (.int (i / j)) else M.stuck : M Mi.MV) h = _
  rw [if_pos ⟨e, e2⟩]; rfl
theorem o_mod (i j : Int) (e : 0 < j) : binM .mod (.int i) (.int j) h = .ok (.int (i % j)) h := by
  show (if 0 < j then M.pure (.int (i % j)) else M.stuck : M Mi.MV) h = _
  rw [if_pos e]; rfl
theorem o_pow (i j : Int) (e : 0 ≤ j ∧ j ≤ 1000000) (e2 : i.natAbs < 18446744073709551616) : binM .pow (.int i) (.int j) h = .ok (.int (i ^ j.toNat)) h := by
  show (if 0 ≤ j ∧ j ≤ 1000000 ∧ i.natAbs < 2 ^ 64 then M.pure (.int (i ^ j.toNat)) else M.stuck : M Mi.MV) h = _
  rw [if_pos ⟨e.1, e.2, e2⟩]; rfl
theorem c_eqi (i j : Int) : cmpM .eq (.int i) (.int j) h = .ok (.bl (decide (i = j))) h := (rfl)
theorem c_nei (i j : Int) : cmpM .ne (.int i) (.int j) h = .ok (.bl (!decide (i = j))) h := (rfl)
theorem c_eqs (i j : PySem.Str) : cmpM .eq (.str i) (.str j) h = .ok (.bl (decide (i = j))) h := (rfl)
theorem c_nes (i j : PySem.Str) : cmpM .ne (.str i) (.str j) h = .ok (.bl (!decide (i = j))) h := (rfl)
theorem c_lt (i j : Int) : cmpM .lt (.int i) (.int j) h = .ok (.bl (decide (i < j))) h := (rfl)
theorem c_le (i j : Int) : cmpM .le (.int i) (.int j) h = .ok (.bl (decide (i ≤ j))) h := (rfl)
theorem c_gt (i j : Int) : cmpM .gt (.int i) (.int j) h = .ok (.bl (decide (j < i))) h := (rfl)
theorem c_ge (i j : Int) : cmpM .ge (.int i) (.int j) h = .ok (.bl (decide (j ≤ i))) h := (rfl)
def isNon : Mi.MV → Bool
  | .non => true
  | _ => false
theorem c_isn (v : Mi.MV) : cmpM .isN v .non h = .ok (.bl (isNon v)) h := by cases v <;> rfl
theorem c_notn (v : Mi.MV) : cmpM .notN v .non h = .ok (.bl (!isNon v)) h := by cases v <;> rfl
theorem isNon_n : isNon .non = true := (rfl)
theorem isNon_i (i : Int) : isNon (.int i) = false := (rfl)
/-! ### statements -/
theorem t_ret (e : ME) : exS T C (.ret e) me h = ofF me (fun v h => .ok (.ret v) h) (evE T C me e h) := by simp only [exS] <;> rfl
theorem t_expr (e : ME) : exS T C (.expr e) me h = ofF me (fun _ h => .ok (.next me) h) (evE T C me e h) := by simp only [exS] <;> rfl
theorem t_asg (i : Nat) (e : ME) (hx : me.ex = none) : exS T C (.asg (.nm i) e) me h = ofF me (fun v h => .ok (.next (me.set i v)) h) (evE T C me e h) := by
  rw [← of_F]
  simp [exS, MT.hot, asgM, hx]; rfl
theorem t_ifs (c : ME) (a b : MSs) : exS T C (.ifs c a b) me h = ofF me (fun k h => if k = true then exB T C a me h else exB T C b me h) (evT T C me c h) := by simp only [exS] <;> rfl
end
/-! ### a wish at a result -/
/-- (the result's type names the wish: simp then leaves the wish alone) -/
abbrev Rz {α : Type} (_ : α → MH → Prop) (_ : PySem.Str → Nat → MH → Prop) : Type := Res α
def Wr {α : Type} (Q : α → MH → Prop) (E : PySem.Str → Nat → MH → Prop) (r : Rz Q E) : Prop := match r with
  | .ok a h => Q a h
  | .exc c n h => E c n h
  | .stuck => False
/-- wishes at the ends of a statement -/
structure Po where
  nx : Mi.Env → MH → Prop
  rt : Mi.MV → MH → Prop
  br : Mi.Env → MH → Prop
  ct : Mi.Env → MH → Prop
  ex : PySem.Str → Nat → Mi.Env → MH → Prop
def Po.wn (P : Po) (f : Mi.Env → MH → Prop) : Po := ⟨f, P.rt, P.br, P.ct, P.ex⟩
def Po.wx (P : Po) (f : PySem.Str → Nat → Mi.Env → MH → Prop) : Po := ⟨P.nx, P.rt, P.br, P.ct, f⟩
/-- a loop's turn -/
def Po.wl (P : Po) (f : Mi.Env → MH → Prop) : Po := ⟨f, P.rt, P.nx, f, P.ex⟩
/-- an except suite's -/
def Po.wh (P : Po) (i : Nat) : Po := ⟨fun me h => P.nx { sl := me.sl.set i none, ex := none } h, P.rt, fun me h => P.br { sl := me.sl.set i none, ex := none } h, fun me h => P.ct { sl := me.sl.set i none, ex := none } h, fun _ _ _ _ => False⟩
/-- a def's -/
def Po.fn (Q : Mi.MV → MH → Prop) (E : PySem.Str → Nat → MH → Prop) : Po := ⟨fun _ h => Q .non h, Q, fun _ _ => False, fun _ _ => False, fun c n _ h => E c n h⟩
abbrev Sz (_ : Po) : Type := SR
def Wt (P : Po) (r : Sz P) : Prop := match r with
  | .ok (.next me) h => P.nx me h
  | .ok (.ret v) h => P.rt v h
  | .ok (.brk me) h => P.br me h
  | .ok (.cont me) h => P.ct me h
  | .exc c n me h => P.ex c n me h
  | .stuck => False
/-- one way or the other -/
abbrev Bz {β : Sort _} (_ _ : β) : Type := Bool
def cnd {β : Sort _} (a b : β) (k : Bz a b) : β := if k = true then a else b
theorem x_ct {β : Sort _} {a b : β} : cnd a b true = a := (rfl)
theorem x_cf {β : Sort _} {a b : β} : cnd a b false = b := (rfl)
theorem cnd_w {p : Prop} {k : Bool} {a b : Prop} (ek : k = true ↔ p) (h1 : p → a) (h2 : ¬ p → b) : cnd a b k := by
  cases k with
  | true => exact h1 (ek.mp rfl)
  | false => exact h2 (fun z => by have := ek.mpr z; simp at this)
theorem cnd_d {p : Prop} [Decidable p] {a b : Prop} (h1 : p → a) (h2 : ¬ p → b) : cnd a b (decide p) := cnd_w (by simp) h1 h2
theorem cnd_dn {p : Prop} [Decidable p] {a b : Prop} (h1 : ¬ p → a) (h2 : p → b) : cnd a b (!decide p) := cnd_w (p := ¬ p) (by simp) h1 (fun z => h2 (Decidable.not_not.mp z))
theorem cnd_b {k : Bool} {a b : Prop} (h1 : k = true → a) (h2 : k = false → b) : cnd a b k := by cases k with | true => exact h1 rfl | false => exact h2 rfl
section
variable {α β : Type} {Q : α → MH → Prop} {E : PySem.Str → Nat → MH → Prop} {P : Po} {T : Tab} {C : CallF} {me : Mi.Env} {h : MH}
theorem y_ok {a : α} : Wr Q E (.ok a h) = Q a h := (rfl)
theorem y_exc {c : PySem.Str} {n : Nat} : Wr Q E (.exc c n h) = E c n h := (rfl)
theorem y_bind {x : M β} {f : β → M α} : Wr Q E (M.bind x f h) = Wr (fun b h => Wr Q E (f b h)) E (x h) := by unfold M.bind Wr; cases x h <;> rfl
theorem y_bnd {x : Res β} {f : β → MH → Res α} : Wr Q E (bnd f x) = Wr (fun b h => Wr Q E (f b h)) E x := by unfold bnd Wr; cases x <;> rfl
theorem y_cnd {k : Bool} {a b : M α} : Wr Q E (cnd a b k h) = cnd (Wr Q E (a h)) (Wr Q E (b h)) k := by cases k <;> rfl
theorem y_cndt {k : Bool} {a b : SR} : Wt P (cnd a b k) = cnd (Wt P a) (Wt P b) k := by cases k <;> rfl
theorem z_nx {me : Mi.Env} : Wt P (.ok (.next me) h) = P.nx me h := (rfl)
theorem z_rt {v : Mi.MV} : Wt P (.ok (.ret v) h) = P.rt v h := (rfl)
theorem z_br {me : Mi.Env} : Wt P (.ok (.brk me) h) = P.br me h := (rfl)
theorem z_ct {me : Mi.Env} : Wt P (.ok (.cont me) h) = P.ct me h := (rfl)
theorem z_ex {c : PySem.Str} {n : Nat} {me : Mi.Env} : Wt P (.exc c n me h) = P.ex c n me h := (rfl)
theorem z_ofs {r : Res α} {k : α → MH → SR} : Wt P (SR.of me r k) = Wr (fun a h => Wt P (k a h)) (fun c n h => P.ex c n me h) r := by unfold SR.of Wr Wt; cases r <;> rfl
theorem z_of {r : Res α} {k : α → MH → SR} : Wt P (ofF me k r) = Wr (fun a h => Wt P (k a h)) (fun c n h => P.ex c n me h) r := z_ofs
theorem z_sqn {r : SR} {k : Mi.Env → MH → SR} : Wt P (sqn k r) = Wt (P.wn fun me h => Wt P (k me h)) r := by
  unfold sqn Wt Po.wn
  cases r with
  | ok f h => cases f <;> rfl
  | exc => rfl
  | stuck => rfl
theorem z_exb0 : Wt P (exB T C .nil me h) = P.nx me h := by rw [q_exb0]; rfl
theorem z_exb1 {s : MS} {r : MSs} : Wt P (exB T C (.cons s r) me h) = Wt (P.wn fun me h => Wt P (exB T C r me h)) (exS T C s me h) := by rw [q_exb1, z_sqn]
theorem z_wnwn {P : Po} {f g : Mi.Env → MH → Prop} : (P.wn f).wn g = P.wn g := (rfl)
theorem z_wnnx {P : Po} {f : Mi.Env → MH → Prop} : (P.wn f).nx = f := (rfl)
theorem z_wnrt {P : Po} {f : Mi.Env → MH → Prop} : (P.wn f).rt = P.rt := (rfl)
theorem z_wnbr {P : Po} {f : Mi.Env → MH → Prop} : (P.wn f).br = P.br := (rfl)
theorem z_wnct {P : Po} {f : Mi.Env → MH → Prop} : (P.wn f).ct = P.ct := (rfl)
theorem z_wnex {P : Po} {f : Mi.Env → MH → Prop} : (P.wn f).ex = P.ex := (rfl)
theorem z_wxnx {P : Po} {f : PySem.Str → Nat → Mi.Env → MH → Prop} : (P.wx f).nx = P.nx := (rfl)
theorem z_wxrt {P : Po} {f : PySem.Str → Nat → Mi.Env → MH → Prop} : (P.wx f).rt = P.rt := (rfl)
theorem z_wxbr {P : Po} {f : PySem.Str → Nat → Mi.Env → MH → Prop} : (P.wx f).br = P.br := (rfl)
theorem z_wxct {P : Po} {f : PySem.Str → Nat → Mi.Env → MH → Prop} : (P.wx f).ct = P.ct := (rfl)
theorem z_wxex {P : Po} {f : PySem.Str → Nat → Mi.Env → MH → Prop} : (P.wx f).ex = f := (rfl)
theorem z_wlnx {P : Po} {f : Mi.Env → MH → Prop} : (P.wl f).nx = f := (rfl)
theorem z_wlrt {P : Po} {f : Mi.Env → MH → Prop} : (P.wl f).rt = P.rt := (rfl)
theorem z_wlbr {P : Po} {f : Mi.Env → MH → Prop} : (P.wl f).br = P.nx := (rfl)
theorem z_wlct {P : Po} {f : Mi.Env → MH → Prop} : (P.wl f).ct = f := (rfl)
theorem z_wlex {P : Po} {f : Mi.Env → MH → Prop} : (P.wl f).ex = P.ex := (rfl)
theorem z_fnnx {Q : Mi.MV → MH → Prop} {E : PySem.Str → Nat → MH → Prop} : (Po.fn Q E).nx = fun _ h => Q .non h := (rfl)
theorem z_fnrt {Q : Mi.MV → MH → Prop} {E : PySem.Str → Nat → MH → Prop} : (Po.fn Q E).rt = Q := (rfl)
theorem z_fnex {Q : Mi.MV → MH → Prop} {E : PySem.Str → Nat → MH → Prop} : (Po.fn Q E).ex = fun c n _ h => E c n h := (rfl)
/-! ### statements under a wish -/
theorem z_pass : Wt P (exS T C .pass me h) = P.nx me h := by simp only [exS] <;> rfl
theorem z_ret (e : ME) : Wt P (exS T C (.ret e) me h) = Wr (fun v h => P.rt v h) (fun c n h => P.ex c n me h) (evE T C me e h) := by rw [t_ret, z_of]; rfl
theorem z_retN : Wt P (exS T C .retN me h) = P.rt .non h := by simp only [exS] <;> rfl
theorem z_expr (e : ME) : Wt P (exS T C (.expr e) me h) = Wr (fun _ h => P.nx me h) (fun c n h => P.ex c n me h) (evE T C me e h) := by rw [t_expr, z_of]; rfl
theorem z_asg (i : Nat) (e : ME) (hx : me.ex = none) : Wt P (exS T C (.asg (.nm i) e) me h) = Wr (fun v h => P.nx (me.set i v) h) (fun c n h => P.ex c n me h) (evE T C me e h) := by rw [t_asg i e hx, z_of]; rfl
theorem z_asgsw (is : List Nat) (e : ME) (hx : me.ex = none) : Wt P (exS T C (.asg (.sw is) e) me h) = Wr (fun v h => Wr (fun me' h => P.nx me' h) (fun c n h => P.ex c n me h) (asgM T C me v (.sw is) h)) (fun c n h => P.ex c n me h) (evE T C me e h) := by
  have : exS T C (.asg (.sw is) e) me h = SR.of me (evE T C me e h) fun v h => SR.of me (asgM T C me v (.sw is) h) fun me' h => .ok (.next me') h := by simp [exS, MT.hot, hx]
  rw [this, z_ofs]
  congr 1; funext v h; rw [z_ofs]; rfl
theorem z_asgtp (is : List Nat) (e : ME) (hx : me.ex = none) : Wt P (exS T C (.asg (.tp is) e) me h) = Wr (fun v h => Wr (fun me' h => P.nx me' h) (fun c n h => P.ex c n me h) (setTL me v is h)) (fun c n h => P.ex c n me h) (evE T C me e h) := by
  have : exS T C (.asg (.tp is) e) me h = SR.of me (evE T C me e h) fun v h => SR.of me (setTL me v is h) fun me' h => .ok (.next me') h := by simp [exS, MT.hot, asgM, hx]
  rw [this, z_ofs]
  congr 1; funext v h; rw [z_ofs]; rfl
theorem z_asgsub (o i e : ME) : Wt P (exS T C (.asg (.sub o i) e) me h) = Wr (fun v h => Wr (fun x h => Wr (fun y h => Wr (fun _ h => P.nx me h) (fun c n h => P.ex c n me h) (setSubM x y v h)) (fun c n h => P.ex c n me h) (evE T C me i h)) (fun c n h => P.ex c n me h) (evE T C me o h)) (fun c n h => P.ex c n me h) (evE T C me e h) := by
  have : exS T C (.asg (.sub o i) e) me h = SR.of me (evE T C me e h) fun v h => SR.of me (M.bind (evE T C me o) (fun x => M.bind (evE T C me i) fun y => M.bind (setSubM x y v) fun _ => M.pure me) h) fun me' h => .ok (.next me') h := by simp [exS, MT.hot, asgM]
  rw [this, z_ofs]
  congr 1; funext v h; rw [z_ofs, y_bind]
  congr 1; funext x h; rw [y_bind]
  congr 1; funext y h; rw [y_bind]; rfl
theorem z_asgfld (o e : ME) (f : PySem.Str) : Wt P (exS T C (.asg (.fld o f) e) me h) = Wr (fun v h => Wr (fun x h => Wr (fun _ h => P.nx me h) (fun c n h => P.ex c n me h) (setFldM T f x v h)) (fun c n h => P.ex c n me h) (evE T C me o h)) (fun c n h => P.ex c n me h) (evE T C me e h) := by
  have : exS T C (.asg (.fld o f) e) me h = SR.of me (evE T C me e h) fun v h => SR.of me (M.bind (evE T C me o) (fun x => M.bind (setFldM T f x v) fun _ => M.pure me) h) fun me' h => .ok (.next me') h := by simp [exS, MT.hot, asgM]
  rw [this, z_ofs]
  congr 1; funext v h; rw [z_ofs, y_bind]
  congr 1; funext x h; rw [y_bind]; rfl
theorem z_ifs (c : ME) (a b : MSs) : Wt P (exS T C (.ifs c a b) me h) = Wr (fun k h => cnd (Wt P (exB T C a me h)) (Wt P (exB T C b me h)) k) (fun c n h => P.ex c n me h) (evT T C me c h) := by
  rw [t_ifs, z_of]
  congr 1; funext k h; cases k <;> rfl
def stepF (T : Tab) (C : CallF) (t : CT) (b : MSs) : Mi.MV → Mi.Env → MH → SR := fun v me h => match setT h me v t with
  | some me' => exB T C b me' h
  | none => .stuck
theorem z_fors (t : CT) (it : MI) (b : MSs) (e : me.ex = none) : Wt P (exS T C (.fors t it b) me h) = Wr (fun J h => Wt P (forL (stepF T C t b) J (J.size h) 0 me h)) (fun c n h => P.ex c n me h) (evI T C me it h) := by
  have hx : ¬ (me.ex.isSome = true) := by rw [e]; simp
  have : exS T C (.fors t it b) me h = SR.of me (evI T C me it h) fun J h => forL (stepF T C t b) J (J.size h) 0 me h := by
    unfold exS
    rw [if_neg hx]
    rfl
  rw [this, z_ofs]
theorem z_brk : Wt P (exS T C .brk me h) = P.br me h := by simp only [exS] <;> rfl
theorem z_cont : Wt P (exS T C .cont me h) = P.ct me h := by simp only [exS] <;> rfl
theorem z_raise (c : PySem.Str) (es : MEs) (fs : List PySem.Str) (e : me.ex = none) (hf : T.exf c = some fs) (hn : fs ≠ []) : Wt P (exS T C (.raise c es) me h) = Wr (fun vs h => fs.length = vs.length ∧ P.ex c h.next me (h.new (.exc c (fs.zip vs).reverse))) (fun c n h => P.ex c n me h) (evEs T C me es h) := by
  have hx : ¬ (me.ex.isSome = true) := by rw [e]; simp
  unfold exS
  rw [if_neg hx, z_ofs]
  congr 1; funext vs h
  simp only [hf]
  by_cases hl : fs.length = vs.length
  · rw [if_pos ⟨hl, hn⟩]; simp [hl, z_ex]
  · rw [if_neg (fun z => hl z.1)]; simp [hl, Wt]
theorem z_trys (b : MSs) (hs : MHs) (e : me.ex = none) : Wt P (exS T C (.trys b hs) me h) = Wt (P.wx fun c n me h => Wt P (exH T hs c n me h)) (exB T C b me h) := by
  have hx : ¬ (me.ex.isSome = true) := by rw [e]; simp
  unfold exS
  rw [if_neg hx]
  cases exB T C b me h with
  | ok f h => cases f <;> rfl
  | exc => rfl
  | stuck => rfl
theorem z_h1 {c c' : PySem.Str} {i n : Nat} {b : MSs} {r : MHs} (hs : T.sub c c' = some true) (hf : (T.exf c).isSome = true) (hi : i < me.sl.length) (H : Wt (P.wh i) (exB T T.hc b { sl := me.sl.set i none, ex := some (i, n) } h)) : Wt P (exH T (.cons c' i b r) c n me h) := by
  unfold exH
  simp only [hs]
  rw [if_pos ⟨hf, hi⟩]
  revert H
  cases exB T T.hc b { sl := me.sl.set i none, ex := some (i, n) } h with
  | ok f h => cases f <;> exact id
  | exc => exact False.elim
  | stuck => exact id
theorem z_h2 {c c' : PySem.Str} {i n : Nat} {b : MSs} {r : MHs} (hs : T.sub c c' = some false) : Wt P (exH T (.cons c' i b r) c n me h) = Wt P (exH T r c n me h) := by
  conv => lhs; unfold exH
  simp only [hs]
/-- a loop by an invariant -/
theorem forL_w {step : Mi.MV → Mi.Env → MH → SR} {it : Mi.It} {N : Nat} (items : Nat → Mi.MV) (I : Nat → Mi.Env → MH → Prop) (hat : ∀ i me h, I i me h → i < N → it.at h i = some (some (items i))) (hend : ∀ me h, I N me h → it.at h N = some none)
    (hst : ∀ i me h, i < N → I i me h → Wt (P.wl (I (i + 1))) (step (items i) me h)) (hnx : ∀ me h, I N me h → P.nx me h) : ∀ (k i : Nat) (me : Mi.Env) (h : MH), i + k = N → I i me h → Wt P (forL step it k i me h)
  | 0, i, me, h, hk, p => by
    have hi : i = N := by omega
    subst hi
    unfold forL
    rw [hend me h p]
    exact hnx me h p
  | k + 1, i, me, h, hk, p => by
    have hi : i < N := by omega
    have s := hst i me h hi p
    unfold forL
    rw [hat i me h p hi]
    simp only
    revert s
    cases step (items i) me h with
    | ok f h' =>
      cases f with
      | next me' => exact fun s => forL_w items I hat hend hst hnx k (i + 1) me' h' (by omega) s
      | cont me' => exact fun s => forL_w items I hat hend hst hnx k (i + 1) me' h' (by omega) s
      | brk me' => exact id
      | ret v => exact id
    | exc => exact id
    | stuck => exact id
/-- one turn of a loop, told -/
theorem forL_1 {step : Mi.MV → Mi.Env → MH → SR} {it : Mi.It} {k i : Nat} {v : Mi.MV} (hat : it.at h i = some (some v)) (H : Wt (P.wl fun me h => Wt P (forL step it k (i + 1) me h)) (step v me h)) : Wt P (forL step it (k + 1) i me h) := by
  unfold forL
  rw [hat]
  simp only
  revert H
  cases step v me h with
  | ok f h' => cases f <;> exact id
  | exc => exact id
  | stuck => exact id
theorem forL_0 {step : Mi.MV → Mi.Env → MH → SR} {it : Mi.It} {i : Nat} (hat : it.at h i = some none) : Wt P (forL step it 0 i me h) = P.nx me h := by
  unfold forL
  rw [hat]; rfl
/-- a def's run -/
theorem run_w {n : Nat} {fi : FnI} {vs : List Mi.MV} {Q : Mi.MV → MH → Prop} {E : PySem.Str → Nat → MH → Prop} (me : Mi.Env) (b : MSs) (hl : vs.length = fi.np) (hm : ({ sl := vs.map some ++ List.replicate (fi.ns - fi.np) none, ex := none } : Mi.Env) = me) (hb : fi.body = b)
    (H : Wt (Po.fn Q E) (exB T (Mi.run T n) b me h)) : Wr Q E (Mi.run T (n+1) fi vs h) := by
  subst hm hb
  unfold Mi.run
  rw [if_pos hl]
  revert H
  cases exB T (Mi.run T n) fi.body { sl := vs.map some ++ List.replicate (fi.ns - fi.np) none, ex := none } h with
  | ok f h => cases f <;> first | exact id | exact False.elim
  | exc => exact id
  | stuck => exact id
/-! ### what is known of a result -/
def Sp (r : Res α) (Φ : α → MH → Prop) : Prop := ∃ a h', r = .ok a h' ∧ Φ a h'
theorem Wr_of {r : Res α} {Φ : α → MH → Prop} (s : Sp r Φ) (H : ∀ a h', Φ a h' → Q a h') : Wr Q E r := by
  obtain ⟨a, h', e, p⟩ := s
  rw [e]; exact H a h' p
theorem Sp_of {r : Res α} {Φ : α → MH → Prop} (H : Wr Φ (fun _ _ _ => False) r) : Sp r Φ := by
  revert H
  unfold Wr Sp
  cases r with
  | ok a h => exact fun H => ⟨a, h, rfl, H⟩
  | exc => exact False.elim
  | stuck => exact False.elim
theorem Wr_eq {r r' : Res α} (e : r = r') (H : Wr Q E r') : Wr Q E r := e ▸ H
end
theorem Wt_mono {P P' : Po} {r : SR} (w : Wt P r) (hn : ∀ me h, P.nx me h → P'.nx me h) (hr : ∀ v h, P.rt v h → P'.rt v h) (hb : ∀ me h, P.br me h → P'.br me h) (hc : ∀ me h, P.ct me h → P'.ct me h) (hx : ∀ c n me h, P.ex c n me h → P'.ex c n me h) : Wt P' r := by
  revert w
  unfold Wt
  cases r with
  | ok f h => cases f <;> first | exact hn _ _ | exact hr _ _ | exact hb _ _ | exact hc _ _
  | exc => exact hx _ _ _ _
  | stuck => exact id
theorem Wt_j {P : Po} {k J : Mi.Env → MH → Prop} {r : SR} (w : Wt (P.wn J) r) (H : ∀ me h, J me h → k me h) : Wt (P.wn k) r := Wt_mono w H (fun _ _ => id) (fun _ _ => id) (fun _ _ => id) (fun _ _ _ _ => id)
/-- two ways that meet -/
theorem join_b {P : Po} {k : Mi.Env → MH → Prop} {c : Bool} {ra rb : SR} (J : Mi.Env → MH → Prop) (H1 : c = true → Wt (P.wn J) ra) (H2 : c = false → Wt (P.wn J) rb) (H : ∀ me h, J me h → k me h) : cnd (Wt (P.wn k) ra) (Wt (P.wn k) rb) c :=
  cnd_b (fun e => Wt_j (H1 e) H) (fun e => Wt_j (H2 e) H)
theorem join_d {P : Po} {k : Mi.Env → MH → Prop} {p : Prop} [Decidable p] {ra rb : SR} (J : Mi.Env → MH → Prop) (H1 : p → Wt (P.wn J) ra) (H2 : ¬ p → Wt (P.wn J) rb) (H : ∀ me h, J me h → k me h) : cnd (Wt (P.wn k) ra) (Wt (P.wn k) rb) (decide p) :=
  cnd_d (fun e => Wt_j (H1 e) H) (fun e => Wt_j (H2 e) H)
theorem join_dn {P : Po} {k : Mi.Env → MH → Prop} {p : Prop} [Decidable p] {ra rb : SR} (J : Mi.Env → MH → Prop) (H1 : ¬ p → Wt (P.wn J) ra) (H2 : p → Wt (P.wn J) rb) (H : ∀ me h, J me h → k me h) : cnd (Wt (P.wn k) ra) (Wt (P.wn k) rb) (!decide p) :=
  cnd_dn (fun e => Wt_j (H1 e) H) (fun e => Wt_j (H2 e) H)
theorem x_callM {T : Tab} {C : CallF} {h : MH} {f : PySem.Str} {fi : FnI} {vs ws as : List Mi.MV} {pm : List Nat} (e : T.fn f = some fi) (e2 : argsOf fi.np vs ws pm = some as) : callM T C f vs ws pm h = C fi as h := q_callM e e2
theorem x_methM {T : Tab} {m : PySem.Str} {r : Nat} {k : FnI → M Mi.MV} {h : MH} {c : PySem.Str} {fs : List (PySem.Str × Mi.MV)} {fi : FnI} (e : h.get r = some (.ins c fs)) (e1 : fs.lookup m = none) (e2 : T.me c m = some fi) : methM T m (.ref r) k h = k fi h := by
  unfold methM
  simp only [e, e1, e2]
theorem x_newL {h : MH} {xs : List Mi.MV} (hz : xs.length ≤ 16777216) : newL xs h = .ok (.ref h.next) (h.new (.lst xs)) := by
  unfold newL
  rw [if_pos (by rw [PySem.sizeLine_eq]; exact hz)]
end Lw
end

section
namespace Lw
open Mi
open PySem (PyData)
/-! ### frames -/
/-- all that stood stays, but what S names -/
structure Fr (S : List Nat) (h h' : MH) : Prop where
  nx : h.next ≤ h'.next
  st : ∀ m, m < h.next → m ∉ S → h'.get m = h.get m
section
variable {S S' : List Nat} {h h1 h2 h' : MH} {o : MO}
theorem Fr.refl : Fr S h h := ⟨Nat.le_refl _, fun _ _ _ => rfl⟩
theorem Fr.trans (a : Fr S h h1) (c : Fr S h1 h2) : Fr S h h2 := ⟨Nat.le_trans a.nx c.nx, fun m l n => (c.st m (Nat.lt_of_lt_of_le l a.nx) n).trans (a.st m l n)⟩
theorem Fr.comp (a : Fr S h h1) (c : Fr S' h1 h2) (hs : ∀ m ∈ S', m ∈ S ∨ h.next ≤ m) : Fr S h h2 := ⟨Nat.le_trans a.nx c.nx, fun m l n => (c.st m (Nat.lt_of_lt_of_le l a.nx) (fun z => (hs m z).elim n (fun q => Nat.lt_irrefl _ (Nat.lt_of_lt_of_le l q)))).trans (a.st m l n)⟩
theorem Fr.mono (a : Fr S h h1) (hs : ∀ m ∈ S, m ∈ S' ∨ h.next ≤ m) : Fr S' h h1 := ⟨a.nx, fun m l n => a.st m l (fun z => (hs m z).elim n (fun q => Nat.lt_irrefl _ (Nat.lt_of_lt_of_le l q)))⟩
theorem Fr.new : Fr S h (h.new o) := ⟨Nat.le_succ _, fun m l _ => MH.new_ne (by omega)⟩
theorem Fr.put {n : Nat} (i : n ∈ S) : Fr S h (h.put n o) := ⟨Nat.le_refl _, fun m _ s => MH.put_ne (fun z => s (z ▸ i))⟩
theorem Fr.putnew {n : Nat} (i : h.next ≤ n) : Fr S h (h.put n o) := ⟨Nat.le_refl _, fun m l s => MH.put_ne (by omega)⟩
/-- an object that stands -/
structure At (h : MH) (n : Nat) (o : MO) : Prop where
  lt : n < h.next
  get : h.get n = some o
theorem At.fr {n : Nat} (a : At h n o) (f : Fr S h h') (s : n ∉ S) : At h' n o := ⟨Nat.lt_of_lt_of_le a.lt f.nx, (f.st n a.lt s).trans a.get⟩
theorem At.new : At (h.new o) h.next o := ⟨Nat.lt_succ_self _, MH.new_same⟩
theorem At.put {n : Nat} (l : n < h.next) : At (h.put n o) n o := ⟨l, MH.put_same⟩
end
/-! ### data, apart from the objects S -/
mutual
inductive V (S : List Nat) (h : MH) : Mi.MV → PyData → Prop
  | non : V S h .non .none
  | bl (b : Bool) : V S h (.bl b) (.bool b)
  | int (i : Int) : V S h (.int i) (.int i)
  | str (x : PySem.Str) : V S h (.str x) (.str x)
  | tup {xs : List Mi.MV} {ds : List PyData} (r : Vs S h xs ds) : V S h (.tup xs) (.tuple ds)
  | lst {n : Nat} {xs : List Mi.MV} {ds : List PyData} (l : n < h.next) (s : n ∉ S) (e : h.get n = some (.lst xs)) (r : Vs S h xs ds) : V S h (.ref n) (.list ds)
inductive Vs (S : List Nat) (h : MH) : List Mi.MV → List PyData → Prop
  | nil : Vs S h [] []
  | cons {x : Mi.MV} {d : PyData} {xs : List Mi.MV} {ds : List PyData} (r : V S h x d) (t : Vs S h xs ds) : Vs S h (x :: xs) (d :: ds)
end
section
variable {S S' : List Nat} {h h' : MH}
mutual
theorem V.go (f : ∀ n, n < h.next → n ∉ S → n < h'.next ∧ n ∉ S' ∧ h'.get n = h.get n) : ∀ {v : Mi.MV} {d : PyData}, V S h v d → V S' h' v d
  | _, _, .non => .non
  | _, _, .bl b => .bl b
  | _, _, .int i => .int i
  | _, _, .str x => .str x
  | _, _, .tup r => .tup (Vs.go f r)
  | _, _, .lst l s e r => .lst (f _ l s).1 (f _ l s).2.1 ((f _ l s).2.2.trans e) (Vs.go f r)
theorem Vs.go (f : ∀ n, n < h.next → n ∉ S → n < h'.next ∧ n ∉ S' ∧ h'.get n = h.get n) : ∀ {v : List Mi.MV} {d : List PyData}, Vs S h v d → Vs S' h' v d
  | _, _, .nil => .nil
  | _, _, .cons r t => .cons (V.go f r) (Vs.go f t)
end
theorem V.fr {v : Mi.MV} {d : PyData} (a : V S h v d) (f : Fr S h h') : V S h' v d := a.go fun n l s => ⟨Nat.lt_of_lt_of_le l f.nx, s, f.st n l s⟩
theorem Vs.fr {v : List Mi.MV} {d : List PyData} (a : Vs S h v d) (f : Fr S h h') : Vs S h' v d := a.go fun n l s => ⟨Nat.lt_of_lt_of_le l f.nx, s, f.st n l s⟩
theorem V.frw {v : Mi.MV} {d : PyData} (a : V S h v d) (f : Fr S' h h') (hs : ∀ m ∈ S', m ∈ S ∨ h.next ≤ m) : V S h' v d := a.fr (f.mono hs)
theorem Vs.frw {v : List Mi.MV} {d : List PyData} (a : Vs S h v d) (f : Fr S' h h') (hs : ∀ m ∈ S', m ∈ S ∨ h.next ≤ m) : Vs S h' v d := a.fr (f.mono hs)
/-- apart from fewer or newer ones -/
theorem V.weak {v : Mi.MV} {d : PyData} (a : V S h v d) (hs : ∀ m ∈ S', m ∈ S ∨ h.next ≤ m) : V S' h v d := a.go fun n l s => ⟨l, fun z => (hs n z).elim s (by omega), rfl⟩
theorem Vs.weak {v : List Mi.MV} {d : List PyData} (a : Vs S h v d) (hs : ∀ m ∈ S', m ∈ S ∨ h.next ≤ m) : Vs S' h v d := a.go fun n l s => ⟨l, fun z => (hs n z).elim s (by omega), rfl⟩
theorem Fr.up {h h' : MH} {S : List Nat} (F : Fr [] h h') : Fr S h h' := F.mono (fun m z => by simp at z)
theorem V.fr0 {v : Mi.MV} {d : PyData} (a : V S h v d) (f : Fr [] h h') : V S h' v d := a.fr f.up
theorem Vs.fr0 {v : List Mi.MV} {d : List PyData} (a : Vs S h v d) (f : Fr [] h h') : Vs S h' v d := a.fr f.up
theorem At.fr0 {n : Nat} {o : MO} (a : At h n o) (f : Fr [] h h') : At h' n o := a.fr f (by simp)
theorem V.new {v : Mi.MV} {d : PyData} {o : MO} (a : V S h v d) : V S (h.new o) v d := a.fr Fr.new
theorem Vs.new {v : List Mi.MV} {d : List PyData} {o : MO} (a : Vs S h v d) : Vs S (h.new o) v d := a.fr Fr.new
theorem Vs.len {v : List Mi.MV} {d : List PyData} : Vs S h v d → v.length = d.length
  | .nil => rfl
  | .cons _ t => by simp [Vs.len t]
theorem Vs.at {i : Nat} : ∀ {v : List Mi.MV} {d : List PyData}, Vs S h v d → i < d.length → ∃ x y, v[i]? = some x ∧ d[i]? = some y ∧ V S h x y := by
  induction i with
  | zero =>
    intro v d a hi
    cases a with
    | nil => simp at hi
    | cons r t => exact ⟨_, _, rfl, rfl, r⟩
  | succ i ih =>
    intro v d a hi
    cases a with
    | nil => simp at hi
    | cons r t => simpa using ih t (by simpa using hi)
theorem Vs.app {v w : List Mi.MV} {d e : List PyData} : Vs S h v d → Vs S h w e → Vs S h (v ++ w) (d ++ e)
  | .nil, b => b
  | .cons r t, b => .cons r (Vs.app t b)
theorem V.ok {v : Mi.MV} {d : PyData} (a : V S h v d) : d = d := rfl
theorem V.newL {xs : List Mi.MV} {ds : List PyData} (a : Vs S h xs ds) (hs : h.next ∉ S) : V S (h.new (.lst xs)) (.ref h.next) (.list ds) := .lst (Nat.lt_succ_self _) hs MH.new_same a.new
/-- a value without lists -/
def flat : PyData → Bool
  | .list _ => false
  | .tuple _ => false
  | .dict _ => false
  | _ => true
def tyOf : PyData → String
  | .none => "NoneType"
  | .bool _ => "bool"
  | .int _ => "int"
  | .str _ => "str"
  | .list _ => "list"
  | .tuple _ => "tuple"
  | .dict _ => "dict"
theorem V.isi1 {T : Tab} {v : Mi.MV} {d : PyData} (a : V S h v d) (b : String) : Mi.isi1 T h v (.ty b) = subTy (tyOf d) b := by
  cases a <;> first | rfl | skip
  rename_i l s e r
  unfold Mi.isi1
  simp only [e, tyOf]
theorem V.isi {T : Tab} {v : Mi.MV} {d : PyData} {b : String} {k : Bool} (a : V S h v d) (e : subTy (tyOf d) b = some k) : biM T .isi [v, .ty b] h = .ok (.bl k) h := by
  have e1 := a.isi1 (T := T) b
  rw [e] at e1
  have : biM T .isi [v, .ty b] h = (match Mi.isi1 T h v (.ty b) with | some b => .ok (.bl b) h | none => .stuck) := by
    cases v <;> rfl
  rw [this, e1]
/-! ### repr -/
mutual
def fz : PyData → Nat
  | .tuple ds => fzs ds + 1
  | .list ds => fzs ds + 1
  | _ => 1
def fzs : List PyData → Nat
  | [] => 0
  | d :: ds => max (fz d) (fzs ds) + 1
end
mutual
theorem V.toD : ∀ {v : Mi.MV} {d : PyData} {k : Nat}, V S h v d → fz d ≤ k → toD h k v = some d
  | _, _, 0, a, q => by cases a <;> (simp only [fz] at q; omega)
  | _, _, k + 1, .non, q => by unfold Mi.toD; rfl
  | _, _, k + 1, .bl b, q => by unfold Mi.toD; rfl
  | _, _, k + 1, .int i, q => by unfold Mi.toD; rfl
  | _, _, k + 1, .str x, q => by unfold Mi.toD; rfl
  | _, _, k + 1, .tup r, q => by
    unfold Mi.toD
    simp only [fz] at q
    rw [Vs.toDs r (by omega)]; rfl
  | _, _, k + 1, .lst l s e r, q => by
    unfold Mi.toD
    simp only [fz] at q
    simp only [e]
    rw [Vs.toDs r (by omega)]; rfl
theorem Vs.toDs : ∀ {v : List Mi.MV} {d : List PyData} {k : Nat}, Vs S h v d → fzs d ≤ k → toDs h k v = some d
  | _, _, k, .nil, q => by cases k <;> (unfold Mi.toDs; rfl)
  | _, _, 0, .cons r t, q => by simp only [fzs] at q; omega
  | _, _, k + 1, .cons r t, q => by
    simp only [fzs] at q
    unfold Mi.toDs
    rw [V.toD r (by omega), Vs.toDs t (by omega)]
end
/-- data that can be shown: no long ints, plain signs; at most w parts, z deep -/
structure Sh (d : PyData) (w z : Nat) : Prop where
  sh : d.showable = true
  ls : d.leavesShort 30 = true
  wt : d.weight ≤ w
  dp : d.depth ≤ z
  fz : fz d ≤ w + z + 1
structure Shs (ds : List PyData) (w z : Nat) : Prop where
  sh : PyData.showableAll ds = true
  ls : PyData.leavesShortAll 30 ds = true
  wt : PyData.weightAll ds ≤ w
  dp : PyData.depthAll ds ≤ z
  fz : fzs ds ≤ w + z + 1
theorem Sh.up {d : PyData} {w z w' z' : Nat} (a : Sh d w z) (hw : w ≤ w') (hz : z ≤ z') : Sh d w' z' := ⟨a.sh, a.ls, Nat.le_trans a.wt hw, Nat.le_trans a.dp hz, by have := a.fz; omega⟩
theorem Shs.up {d : List PyData} {w z w' z' : Nat} (a : Shs d w z) (hw : w ≤ w') (hz : z ≤ z') : Shs d w' z' := ⟨a.sh, a.ls, Nat.le_trans a.wt hw, Nat.le_trans a.dp hz, by have := a.fz; omega⟩
theorem sh_non : Sh .none 0 0 := ⟨rfl, rfl, Nat.le_refl _, Nat.le_refl _, Nat.le_refl _⟩
theorem sh_bl (b : Bool) : Sh (.bool b) 0 0 := ⟨rfl, rfl, Nat.le_refl _, Nat.le_refl _, Nat.le_refl _⟩
theorem sh_int {i : Int} (hi : i.natAbs < 10 ^ 28) : Sh (.int i) 96 0 := by
  have hlog : i.natAbs.log2 < 95 := by
    by_cases hz : i.natAbs = 0
    · rw [hz]; decide
    · refine (Nat.log2_lt hz).mpr (Nat.lt_of_lt_of_le hi ?_)
      decide
  refine ⟨?_, ?_, ?_, Nat.le_refl _, by simp [Lw.fz]⟩
  · simp only [PyData.showable, decide_eq_true_eq]; omega
  · have e := PySem.int_text_length_le10 (k := 28) (by decide) hi
    simp only [PyData.leavesShort, decide_eq_true_eq]
    show (PySem.Str.ofString (toString i)).length ≤ 30
    rw [PySem.ofString_length]
    omega
  · simp only [PyData.weight]; split <;> omega
theorem sh_str {x : PySem.Str} {w : Nat} (hx : ∀ c ∈ x.cps.toList, c < 16 ^ 8) (hw : x.cps.size ≤ w) : Sh (.str x) w 0 :=
  ⟨rfl, by simpa only [PyData.leavesShort, List.all_eq_true, decide_eq_true_eq] using hx, hw, Nat.le_refl _, by simp [Lw.fz]⟩
theorem shs_nil {z : Nat} : Shs [] 0 z := ⟨rfl, rfl, Nat.le_refl _, Nat.zero_le _, Nat.zero_le _⟩
theorem shs_cons {d : PyData} {ds : List PyData} {w w' z : Nat} (a : Sh d w z) (b : Shs ds w' z) : Shs (d :: ds) (w + 1 + w') z := by
  refine ⟨by simp only [PyData.showableAll, a.sh, b.sh, Bool.and_self], by simp only [PyData.leavesShortAll, a.ls, b.ls, Bool.and_self], ?_, ?_, ?_⟩
  · simp only [PyData.weightAll]; have := a.wt; have := b.wt; omega
  · simp only [PyData.depthAll]; have := a.dp; have := b.dp; omega
  · simp only [fzs]; have := a.fz; have := b.fz; omega
theorem sh_lst {ds : List PyData} {w z : Nat} (a : Shs ds w z) : Sh (.list ds) w (z + 1) :=
  ⟨by simp only [PyData.showable, a.sh], by simp only [PyData.leavesShort, a.ls], by simp only [PyData.weight]; exact a.wt, by simp only [PyData.depth]; have := a.dp; omega, by simp only [Lw.fz]; have := a.fz; omega⟩
theorem sh_tup {ds : List PyData} {w z : Nat} (a : Shs ds w z) : Sh (.tuple ds) w (z + 1) :=
  ⟨by simp only [PyData.showable, a.sh], by simp only [PyData.leavesShort, a.ls], by simp only [PyData.weight]; exact a.wt, by simp only [PyData.depth]; have := a.dp; omega, by simp only [Lw.fz]; have := a.fz; omega⟩
theorem small_int (i : Int) : ∀ c ∈ (PyData.int i).shown.cps.toList, c < 16 ^ 8 := fun c hc => by
  apply Classical.byContradiction
  intro z
  exact PyProof.Rows.shown_int_free' (k := c) ⟨by omega, by omega⟩ i hc
theorem len_int {i : Int} (hi : i.natAbs < 10 ^ 28) : (PyData.int i).shown.cps.size ≤ 29 := by
  have e := PySem.int_text_length_le10 (k := 28) (by decide) hi
  show (PySem.Str.ofString (toString i)).length ≤ 29
  rw [PySem.ofString_length]
  omega
theorem V.rep {T : Tab} {v : Mi.MV} {d : PyData} {w z : Nat} (a : V S h v d) (s : Sh d w z) (hw : w ≤ 3000) (hz : z ≤ 1000) : biM T .repr [v] h = .ok (.str d.shown) h := by
  have e := a.toD (k := dpt) (by have := s.fz; unfold dpt; omega)
  have hl := PyData.shown_le 30 (by decide) d s.ls
  have h1 := s.wt
  have h2 := s.dp
  have hx : d.shown.length ≤ PySem.sizeLine := by rw [PySem.sizeLine_eq]; omega
  show (match Mi.toD h dpt v with
    | some d => if d.showable = true ∧ d.shown.length ≤ PySem.sizeLine ∧ d.depth ≤ 1000 then Res.ok (Mi.MV.str d.shown) h else Res.stuck
    | none => Res.stuck) = _
  rw [e]
  simp only [s.sh, hx, show d.depth ≤ 1000 by omega, and_self, if_true]
end
/-! ### objects, loops -/
section
variable {T : Tab} {C : CallF} {P : Po} {me : Mi.Env} {h : MH} {Q : Mi.MV → MH → Prop} {E : PySem.Str → Nat → MH → Prop} {S : List Nat}
theorem asA {l : Nat} {xs : List Mi.MV} (a : At h l (.lst xs)) : asList h (.ref l) = some xs := by
  unfold asList
  simp only [a.get]
theorem it_lst {l : Nat} {xs : List Mi.MV} (a : At h l (.lst xs)) : itOf (.ref l) h = .ok (.lst l) h := by
  show (match asList h (.ref l) with | some _ => Res.ok (Mi.It.lst l) h | none => Res.stuck) = _
  rw [asA a]
theorem it_tup {xs : List Mi.MV} : itOf (.tup xs) h = .ok (.tup xs) h := (rfl)
theorem sz_lst {l : Nat} {xs : List Mi.MV} (a : At h l (.lst xs)) : Mi.It.size h (.lst l) = xs.length := by
  show ((asList h (.ref l)).getD []).length = _
  rw [asA a]; rfl
theorem sz_tup {xs : List Mi.MV} : Mi.It.size h (.tup xs) = xs.length := (rfl)
theorem sz_rg {lo : Int} {n : Nat} : Mi.It.size h (.rng lo n) = n := (rfl)
theorem q_iof (e : ME) : evI T C me (.of e) h = M.bind (evE T C me e) itOf h := by simp only [evI]
theorem stepF_nm {i : Nat} {b : MSs} {v : Mi.MV} : stepF T C (.nm i) b v me h = exB T C b (me.set i v) h := (rfl)
theorem at_lst {l : Nat} {xs : List Mi.MV} {i : Nat} (a : At h l (.lst xs)) : Mi.It.at h i (.lst l) = some xs[i]? := by
  show (asList h (.ref l)).map (fun xs => xs[i]?) = _
  rw [asA a]; rfl
/-- a loop over a list of data -/
theorem for_v {l : Nat} {xs : List Mi.MV} {ds : List PyData} {step : Mi.MV → Mi.Env → MH → SR} (J : Nat → Mi.Env → MH → Prop) (a : At h l (.lst xs)) (v : Vs S h xs ds) (hl : l ∉ S) (j0 : J 0 me h)
    (st : ∀ i x d me1 h1, i < ds.length → ds[i]? = some d → Fr S h h1 → V S h1 x d → J i me1 h1 → Wt (P.wl fun me2 h2 => J (i + 1) me2 h2 ∧ Fr S h1 h2) (step x me1 h1))
    (fin : ∀ me1 h1, Fr S h h1 → J ds.length me1 h1 → P.nx me1 h1) : Wt P (forL step (.lst l) xs.length 0 me h) := by
  refine forL_w (N := xs.length) (items := fun i => xs[i]?.getD .non) (I := fun i me1 h1 => J i me1 h1 ∧ Fr S h h1) ?_ ?_ ?_ ?_ xs.length 0 me h (by omega) ⟨j0, Fr.refl⟩
  · rintro i me1 h1 ⟨_, f⟩ hi
    rw [at_lst (a.fr f hl)]
    simp [hi]
  · rintro me1 h1 ⟨_, f⟩
    rw [at_lst (a.fr f hl)]
    simp
  · rintro i me1 h1 hi ⟨j, f⟩
    have hi2 : i < ds.length := v.len ▸ hi
    obtain ⟨x, y, e1, e2, w⟩ := Vs.at v hi2
    rw [e1]
    exact Wt_mono (st i x y me1 h1 hi2 e2 f (w.fr f) j) (fun _ _ z => ⟨z.1, f.trans z.2⟩) (fun _ _ => id) (fun _ _ => id) (fun _ _ z => ⟨z.1, f.trans z.2⟩) (fun _ _ _ _ => id)
  · rintro me1 h1 ⟨j, f⟩
    exact fin me1 h1 f (v.len ▸ j)
/-- a loop over a range -/
theorem for_rg {lo : Int} {N : Nat} {step : Mi.MV → Mi.Env → MH → SR} (J : Nat → Mi.Env → MH → Prop) (j0 : J 0 me h) (st : ∀ i me1 h1, i < N → J i me1 h1 → Wt (P.wl (J (i + 1))) (step (.int (lo + i)) me1 h1)) (fin : ∀ me1 h1, J N me1 h1 → P.nx me1 h1) : Wt P (forL step (.rng lo N) N 0 me h) := by
  refine forL_w (N := N) (items := fun i => .int (lo + i)) (I := J) (fun i me1 h1 _ hi => ?_) (fun me1 h1 _ => ?_) st fin N 0 me h (by omega) j0
  · show some (if i < N then _ else _) = _
    rw [if_pos hi]
  · show some (if N < N then _ else _) = _
    rw [if_neg (Nat.lt_irrefl _)]
theorem add_lst {a b : Nat} {xs ys : List Mi.MV} (e1 : At h a (.lst xs)) (e2 : At h b (.lst ys)) (hz : xs.length + ys.length ≤ 16777216) : binM .add (.ref a) (.ref b) h = .ok (.ref h.next) (h.new (.lst (xs ++ ys))) := by
  show (match h.get a, h.get b with
    | some (.lst xs), some (.lst ys) => newL (xs ++ ys) h
    | _, _ => .stuck) = _
  simp only [e1.get, e2.get]
  exact x_newL (by simpa using hz)
theorem V.at_ {x : Mi.MV} {ds : List PyData} (a : V S h x (.list ds)) : ∃ n xs, x = .ref n ∧ n ∉ S ∧ At h n (.lst xs) ∧ Vs S h xs ds := by
  cases a with
  | lst l s e r => exact ⟨_, _, rfl, s, ⟨l, e⟩, r⟩
theorem newL_v {xs : List Mi.MV} {ds : List PyData} (a : Vs S h xs ds) (hS : h.next ∉ S) (hz : xs.length ≤ 16777216) (H : ∀ v h', V S h' v (.list ds) → Fr [] h h' → Q v h') : Wr Q E (newL xs h) := by
  rw [x_newL hz]
  exact H _ _ (V.newL a hS) Fr.new
theorem newL_r {xs : List Mi.MV} {ds : List PyData} (a : Vs S h xs ds) (hS : h.next ∉ S) (hz : xs.length ≤ 16777216) (H : ∀ h', V S h' (.ref h.next) (.list ds) → At h' h.next (.lst xs) → Fr [] h h' → h'.next = h.next + 1 → Q (.ref h.next) h') : Wr Q E (newL xs h) := by
  rw [x_newL hz]
  exact H _ (V.newL a hS) At.new Fr.new rfl
theorem add_v {x y : Mi.MV} {ds es : List PyData} (a : V S h x (.list ds)) (b : V S h y (.list es)) (hz : ds.length + es.length ≤ 16777216) (hS : h.next ∉ S) (H : ∀ v h', V S h' v (.list (ds ++ es)) → Fr [] h h' → Q v h') : Wr Q E (binM .add x y h) := by
  obtain ⟨n, xs, rfl, _, e1, r1⟩ := a.at_
  obtain ⟨m, ys, rfl, _, e2, r2⟩ := b.at_
  rw [add_lst e1 e2 (by rw [r1.len, r2.len]; exact hz)]
  exact H _ _ (V.newL (r1.app r2) hS) Fr.new
end
end Lw
end

section
namespace Lw
open PySem PySem.Spec PyProof.Rows L2 Mi
def top (i : Nat) : Stmt := PySem.Challenge.pw_everygrain_k21_pieces_of_windows.main.body.getD i (.Pass ⟨0, 0, 0, 0⟩)
def e_law : DE := ⟨⟨("law", none), "law", "law", defArgs (top 39), defBody (top 39), defScope (top 39), [], []⟩, ["_law_script", "_law_k"], ["_law_script"]⟩
def body_law : MSs := (.cons (.fors (.nm 1) (.rng1 (.bi .max2 (.cons (.int 2) (.cons (.bi .min2 (.cons (.int 4) (.cons (.bi .len (.cons (.var 0) .nil)) .nil))) .nil)))) (.cons (.ifs (.notE (.call "_law_right" (.cons (.call "_law_box" (.cons (.call "_law_cell" (.cons (.var 0) (.cons (.var 1) .nil)) [] .nil []) .nil) [] .nil []) .nil) [] .nil [])) (.cons (.ret (.bl false)) .nil) .nil) .nil)) (.cons (.ret (.bl true)) .nil))
def f_law : FnI := ⟨1, 2, [(1, [], [])], body_law⟩
theorem fnp_law : f_law.np = 1 := rfl
theorem fns_law : f_law.ns = 2 := rfl
theorem fbo_law : f_law.body = body_law := rfl
def e_law_cell : DE := ⟨⟨("_law_cell", none), "_law_cell", "_law_cell", defArgs (top 21), defBody (top 21), defScope (top 21), [], []⟩, ["_law_script", "_law_k"], ["_law_script", "_law_k"]⟩
def body_law_cell : MSs := (.cons (.ret (.ife (.cmp .lt (.var 1) (.bi .len (.cons (.var 0) .nil))) (.sub (.var 0) (.var 1)) (.bin .add (.bin .mul (.int 6007) (.var 1)) (.bin .mod (.bi .sum (.cons (.slc (.var 0) .no (.yes (.int 1))) .nil)) (.int 1000033))))) .nil)
def f_law_cell : FnI := ⟨2, 2, [(2, [], [])], body_law_cell⟩
theorem fnp_law_cell : f_law_cell.np = 2 := rfl
theorem fns_law_cell : f_law_cell.ns = 2 := rfl
theorem fbo_law_cell : f_law_cell.body = body_law_cell := rfl
def e_law_box : DE := ⟨⟨("_law_box", none), "_law_box", "_law_box", defArgs (top 22), defBody (top 22), defScope (top 22), [], []⟩, ["_law_great"], ["_law_great"]⟩
def body_law_box : MSs := (.cons (.ret (.lst (.cons (.bi .abs (.cons (.var 0) .nil)) (.cons (.cmp .ge (.bi .abs (.cons (.var 0) .nil)) (.bin .pow (.int 10) (.int 18))) (.cons (.bin .mod (.bi .int1 (.cons (.bi .abs (.cons (.var 0) .nil)) .nil)) (.int 2147483629)) (.cons (.int 0) .nil)))))) .nil)
def f_law_box : FnI := ⟨1, 1, [(1, [], [])], body_law_box⟩
theorem fnp_law_box : f_law_box.np = 1 := rfl
theorem fns_law_box : f_law_box.ns = 1 := rfl
theorem fbo_law_box : f_law_box.body = body_law_box := rfl
def e_law_right : DE := ⟨⟨("_law_right", none), "_law_right", "_law_right", defArgs (top 38), defBody (top 38), defScope (top 38), [], []⟩, ["_law_box_here", "_law_rows_here", "_law_rules", "_law_asked", "_law_turn", "_law_k", "_law_args", "_law_way"], ["_law_box_here"]⟩
def body_law_right : MSs := (.cons (.asg (.nm 1) (.lst (.cons (.call "_law_rows" (.cons (.var 0) .nil) [] .nil []) (.cons (.call "_law_rows" (.cons (.var 0) .nil) [] .nil []) .nil)))) (.cons (.asg (.sw [2, 3]) (.tup (.cons (.lst (.cons (.mk "Rules" (.cons (.bi .list1 (.cons (.sub (.var 1) (.int 0)) .nil)) .nil)) (.cons (.mk "Rules" (.cons (.bi .tuple1 (.cons (.sub (.var 1) (.int 1)) .nil)) .nil)) .nil))) (.cons (.lst .nil) .nil)))) (.cons (.fors (.nm 4) (.rng1 (.int 20)) (.cons (.asg (.nm 5) (.bin .mod (.var 4) (.int 2))) (.cons (.asg (.sw [6, 7]) (.tup (.cons (.call "_law_asks" (.cons (.var 0) (.cons (.sub (.var 1) (.var 5)) .nil)) [] .nil []) (.cons (.bin .mod (.bin .fdiv (.var 4) (.int 2)) (.int 2)) .nil)))) (.cons (.expr (.app (.var 3) (.lst (.cons (.var 5) (.cons (.var 6) (.cons (.var 7) .nil)))))) (.cons (.ifs (.notE (.call "_law_asked_right" (.cons (.sub (.var 2) (.var 5)) (.cons (.sub (.var 1) (.var 5)) (.cons (.var 6) (.cons (.var 7) .nil)))) [] .nil [])) (.cons (.ret (.bl false)) .nil) .nil) .nil))))) (.cons (.fors (.nm 5) (.of (.lst (.cons (.int 0) (.cons (.int 1) .nil)))) (.cons (.fors (.nm 6) (.of (.call "_law_odd_asks" (.cons (.var 0) (.cons (.sub (.var 1) (.var 5)) .nil)) [] .nil [])) (.cons (.ifs (.notE (.call "_law_asked_right" (.cons (.sub (.var 2) (.var 5)) (.cons (.sub (.var 1) (.var 5)) (.cons (.var 6) (.cons (.var 5) .nil)))) [] .nil [])) (.cons (.ret (.bl false)) .nil) .nil) .nil)) .nil)) (.cons (.fors (.tp [5, 6, 7]) (.of (.var 3)) (.cons (.ifs (.notE (.call "_law_asked_right" (.cons (.sub (.var 2) (.var 5)) (.cons (.sub (.var 1) (.var 5)) (.cons (.var 6) (.cons (.bin .sub (.int 1) (.var 7)) .nil)))) [] .nil [])) (.cons (.ret (.bl false)) .nil) .nil) .nil)) (.cons (.ret (.bl true)) .nil))))))
def f_law_right : FnI := ⟨1, 8, [(1, [], [])], body_law_right⟩
theorem fnp_law_right : f_law_right.np = 1 := rfl
theorem fns_law_right : f_law_right.ns = 8 := rfl
theorem fbo_law_right : f_law_right.body = body_law_right := rfl
def e_law_asked_right : DE := ⟨⟨("_law_asked_right", none), "_law_asked_right", "_law_asked_right", defArgs (top 37), defBody (top 37), defScope (top 37), [], []⟩, ["_law_rules", "_law_rows_here", "_law_args", "_law_way", "_law_low", "_law_step_here", "_law_clock", "_law_told", "_law_fits_here", "_law_telling", "_law_one", "_law_k"], ["_law_rules", "_law_rows_here", "_law_args", "_law_way"]⟩
def body_law_asked_right : MSs := (.cons (.asg (.tp [4, 5, 6]) (.var 2)) (.cons (.asg (.nm 7) (.call "_law_call" (.cons (.var 0) (.cons (.comp [10] (.nm 10) (.of (.var 2)) (.bl true) (.ife (.bi .isi (.cons (.var 10) (.cons (.ty "list") .nil))) (.bi .list1 (.cons (.var 10) .nil)) (.var 10))) (.cons (.var 3) .nil))) [] .nil [])) (.cons (.ifs (.or (.notE (.call "_law_is_count" (.cons (.var 4) .nil) [] .nil [])) (.or (.notE (.call "_law_is_count" (.cons (.var 5) .nil) [] .nil [])) (.cmp .eq (.var 5) (.int 0)))) (.cons (.ret (.cmp .eq (.bi .repr (.cons (.var 7) .nil)) (.bi .repr (.cons (.lst (.cons (.str "window") (.cons (.bi .repr (.cons (.tup (.cons (.call "_law_grown" (.cons (.var 4) .nil) [] .nil []) (.cons (.call "_law_grown" (.cons (.var 5) .nil) [] .nil []) .nil))) .nil)) .nil))) .nil)))) .nil) .nil) (.cons (.ifs (.notE (.call "_law_is_count" (.cons (.var 6) .nil) [] .nil [])) (.cons (.ret (.cmp .eq (.bi .repr (.cons (.var 7) .nil)) (.bi .repr (.cons (.lst (.cons (.str "time") (.cons (.bi .repr (.cons (.call "_law_grown" (.cons (.var 6) .nil) [] .nil []) .nil)) .nil))) .nil)))) .nil) .nil) (.cons (.asg (.nm 8) (.call "_law_fits" (.cons (.var 1) (.cons (.var 4) (.cons (.var 5) .nil))) [] .nil [])) (.cons (.asg (.nm 9) (.comp [11] (.nm 11) (.of (.var 8)) (.cmp .ge (.var 4) (.call "_law_edge" (.cons (.var 1) (.cons (.var 11) (.cons (.var 6) .nil))) [] .nil [])) (.var 11))) (.cons (.ifs (.cmp .eq (.var 9) (.lst .nil)) (.cons (.ret (.cmp .eq (.bi .repr (.cons (.var 7) .nil)) (.bi .repr (.cons (.lst (.cons (.str "gone") (.cons (.bi .repr (.cons (.lst (.cons (.var 4) (.cons (.bi .max1 (.cons (.var 8) .nil)) .nil))) .nil)) .nil))) .nil)))) .nil) .nil) (.cons (.ifs (.or (.cmp .ne (.sub (.var 7) (.int 0)) (.str "told")) (.or (.notE (.call "_law_tiled" (.cons (.var 1) (.cons (.var 2) (.cons (.sub (.var 7) (.int 1)) .nil))) [] .nil [])) (.cmp .gt (.bi .max1 (.cons (.comp [10] (.nm 10) (.of (.sub (.var 7) (.int 1))) (.bl true) (.sub (.var 10) (.int 0))) .nil)) (.bi .min1 (.cons (.var 9) .nil))))) (.cons (.ret (.bl false)) .nil) .nil) (.cons (.expr (.app (.sub (.var 7) (.int 1)) (.tup (.cons (.int 0) (.cons (.int 0) (.cons (.int 1) .nil)))))) (.cons (.ret (.bl true)) .nil))))))))))
def f_law_asked_right : FnI := ⟨4, 12, [(4, [], [])], body_law_asked_right⟩
theorem fnp_law_asked_right : f_law_asked_right.np = 4 := rfl
theorem fns_law_asked_right : f_law_asked_right.ns = 12 := rfl
theorem fbo_law_asked_right : f_law_asked_right.body = body_law_asked_right := rfl
def e_law_tiled : DE := ⟨⟨("_law_tiled", none), "_law_tiled", "_law_tiled", defArgs (top 36), defBody (top 36), defScope (top 36), [], []⟩, ["_law_rows_here", "_law_args", "_law_told", "_law_low", "_law_step_here", "_law_clock", "_law_at", "_law_grain", "_law_begin", "_law_end", "_law_time", "_law_grains", "_law_one"], ["_law_rows_here", "_law_args", "_law_told"]⟩
def body_law_tiled : MSs := (.cons (.asg (.tp [3, 4, 5]) (.var 1)) (.cons (.ifs (.or (.notE (.bi .isi (.cons (.var 2) (.cons (.ty "list") .nil)))) (.cmp .ne (.comp [12] (.nm 12) (.of (.var 2)) (.notE (.call "_law_is_piece" (.cons (.var 0) (.cons (.var 12) .nil)) [] .nil [])) (.var 12)) (.lst .nil))) (.cons (.ret (.bl false)) .nil) .nil) (.cons (.asg (.nm 6) (.var 3)) (.cons (.fors (.tp [7, 8, 9]) (.of (.var 2)) (.cons (.ifs (.or (.cmp .ne (.var 8) (.var 6)) (.or (.cmp .ne (.call "_law_shortest" (.cons (.var 0) (.cons (.var 8) (.cons (.var 5) .nil))) [] .nil []) (.var 7)) (.cmp .ne (.call "_law_shortest" (.cons (.var 0) (.cons (.bin .sub (.var 9) (.int 1)) (.cons (.var 5) .nil))) [] .nil []) (.var 7)))) (.cons (.ret (.bl false)) .nil) .nil) (.cons (.fors (.nm 10) (.rng2 (.var 8) (.bi .min2 (.cons (.var 9) (.cons (.bin .add (.var 8) (.int 60)) .nil)))) (.cons (.ifs (.cmp .ne (.call "_law_shortest" (.cons (.var 0) (.cons (.var 10) (.cons (.var 5) .nil))) [] .nil []) (.var 7)) (.cons (.ret (.bl false)) .nil) .nil) .nil)) (.cons (.asg (.nm 6) (.var 9)) .nil)))) (.cons (.asg (.nm 11) (.comp [12] (.nm 12) (.of (.var 2)) (.bl true) (.sub (.var 12) (.int 0)))) (.cons (.ret (.and (.cmp .eq (.var 6) (.bin .add (.var 3) (.var 4))) (.cmp .eq (.lsi (.var 11)) (.bi .len (.cons (.var 11) .nil))))) .nil))))))
def f_law_tiled : FnI := ⟨3, 13, [(3, [], [])], body_law_tiled⟩
theorem fnp_law_tiled : f_law_tiled.np = 3 := rfl
theorem fns_law_tiled : f_law_tiled.ns = 13 := rfl
theorem fbo_law_tiled : f_law_tiled.body = body_law_tiled := rfl
def e_law_shortest : DE := ⟨⟨("_law_shortest", none), "_law_shortest", "_law_shortest", defArgs (top 34), defBody (top 34), defScope (top 34), [], []⟩, ["_law_rows_here", "_law_time", "_law_clock", "_law_stand", "_law_k"], ["_law_rows_here", "_law_time", "_law_clock"]⟩
def body_law_shortest : MSs := (.cons (.asg (.nm 3) (.comp [4] (.nm 4) (.rng1 (.bi .len (.cons (.var 0) .nil))) (.cmp .ge (.var 1) (.call "_law_edge" (.cons (.var 0) (.cons (.var 4) (.cons (.var 2) .nil))) [] .nil [])) (.var 4))) (.cons (.ret (.ife (.cmp .ne (.var 3) (.lst .nil)) (.bi .min1 (.cons (.var 3) .nil)) .non)) .nil))
def f_law_shortest : FnI := ⟨3, 5, [(3, [], [])], body_law_shortest⟩
theorem fnp_law_shortest : f_law_shortest.np = 3 := rfl
theorem fns_law_shortest : f_law_shortest.ns = 5 := rfl
theorem fbo_law_shortest : f_law_shortest.body = body_law_shortest := rfl
def e_law_edge : DE := ⟨⟨("_law_edge", none), "_law_edge", "_law_edge", defArgs (top 27), defBody (top 27), defScope (top 27), [], []⟩, ["_law_rows_here", "_law_grain", "_law_clock", "_law_keep", "_law_step_here"], ["_law_rows_here", "_law_grain", "_law_clock"]⟩
def body_law_edge : MSs := (.cons (.asg (.sw [3, 4]) (.tup (.cons (.sub (.sub (.var 0) (.var 1)) (.int 1)) (.cons (.call "_law_step" (.cons (.var 0) (.cons (.var 1) .nil)) [] .nil []) .nil)))) (.cons (.ret (.ife (.or (.cmp .isN (.var 3) .non) (.cmp .lt (.var 2) (.var 3))) (.int 0) (.bin .mul (.bin .fdiv (.bin .sub (.var 2) (.var 3)) (.var 4)) (.var 4)))) .nil))
def f_law_edge : FnI := ⟨3, 5, [(3, [], [])], body_law_edge⟩
theorem fnp_law_edge : f_law_edge.np = 3 := rfl
theorem fns_law_edge : f_law_edge.ns = 5 := rfl
theorem fbo_law_edge : f_law_edge.body = body_law_edge := rfl
def e_law_step : DE := ⟨⟨("_law_step", none), "_law_step", "_law_step", defArgs (top 26), defBody (top 26), defScope (top 26), [], []⟩, ["_law_rows_here", "_law_grain"], ["_law_rows_here", "_law_grain"]⟩
def body_law_step : MSs := (.cons (.ret (.sub (.sub (.var 0) (.bi .min2 (.cons (.bin .add (.var 1) (.int 1)) (.cons (.bin .sub (.bi .len (.cons (.var 0) .nil)) (.int 1)) .nil)))) (.int 0))) .nil)
def f_law_step : FnI := ⟨2, 2, [(2, [], [])], body_law_step⟩
theorem fnp_law_step : f_law_step.np = 2 := rfl
theorem fns_law_step : f_law_step.ns = 2 := rfl
theorem fbo_law_step : f_law_step.body = body_law_step := rfl
def e_law_is_piece : DE := ⟨⟨("_law_is_piece", none), "_law_is_piece", "_law_is_piece", defArgs (top 35), defBody (top 35), defScope (top 35), [], []⟩, ["_law_rows_here", "_law_piece", "_law_grain", "_law_begin", "_law_end", "_law_one"], ["_law_rows_here", "_law_piece"]⟩
def body_law_is_piece : MSs := (.cons (.ifs (.or (.notE (.bi .isi (.cons (.var 1) (.cons (.ty "tuple") .nil)))) (.or (.cmp .ne (.bi .len (.cons (.var 1) .nil)) (.int 3)) (.cmp .ne (.comp [5] (.nm 5) (.of (.var 1)) (.notE (.call "_law_is_count" (.cons (.var 5) .nil) [] .nil [])) (.var 5)) (.lst .nil)))) (.cons (.ret (.bl false)) .nil) .nil) (.cons (.asg (.tp [2, 3, 4]) (.var 1)) (.cons (.ifs (.or (.cmp .ge (.var 2) (.bi .len (.cons (.var 0) .nil))) (.cmp .ge (.var 3) (.var 4))) (.cons (.ret (.bl false)) .nil) .nil) (.cons (.ret (.and (.cmp .eq (.bin .mod (.bi .int1 (.cons (.var 3) .nil)) (.sub (.sub (.var 0) (.var 2)) (.int 0))) (.int 0)) (.cmp .eq (.bin .mod (.bi .int1 (.cons (.var 4) .nil)) (.sub (.sub (.var 0) (.var 2)) (.int 0))) (.int 0)))) .nil))))
def f_law_is_piece : FnI := ⟨2, 6, [(2, [], [])], body_law_is_piece⟩
theorem fnp_law_is_piece : f_law_is_piece.np = 2 := rfl
theorem fns_law_is_piece : f_law_is_piece.ns = 6 := rfl
theorem fbo_law_is_piece : f_law_is_piece.body = body_law_is_piece := rfl
def e_law_is_count : DE := ⟨⟨("_law_is_count", none), "_law_is_count", "_law_is_count", defArgs (top 25), defBody (top 25), defScope (top 25), [], []⟩, ["_law_value"], ["_law_value"]⟩
def body_law_is_count : MSs := (.cons (.ret (.and (.bi .isi (.cons (.var 0) (.cons (.ty "int") .nil))) (.and (.notE (.bi .isi (.cons (.var 0) (.cons (.ty "bool") .nil)))) (.cmp .ge (.var 0) (.int 0))))) .nil)
def f_law_is_count : FnI := ⟨1, 1, [(1, [], [])], body_law_is_count⟩
theorem fnp_law_is_count : f_law_is_count.np = 1 := rfl
theorem fns_law_is_count : f_law_is_count.ns = 1 := rfl
theorem fbo_law_is_count : f_law_is_count.body = body_law_is_count := rfl
def e_law_fits : DE := ⟨⟨("_law_fits", none), "_law_fits", "_law_fits", defArgs (top 28), defBody (top 28), defScope (top 28), [], []⟩, ["_law_rows_here", "_law_low", "_law_step_here", "_law_k"], ["_law_rows_here", "_law_low", "_law_step_here"]⟩
def body_law_fits : MSs := (.cons (.ret (.comp [3] (.nm 3) (.rng1 (.bi .len (.cons (.var 0) .nil))) (.and (.cmp .eq (.bin .mod (.bi .int1 (.cons (.var 1) .nil)) (.sub (.sub (.var 0) (.var 3)) (.int 0))) (.int 0)) (.cmp .eq (.bin .mod (.bi .int1 (.cons (.var 2) .nil)) (.sub (.sub (.var 0) (.var 3)) (.int 0))) (.int 0))) (.var 3))) .nil)
def f_law_fits : FnI := ⟨3, 4, [(3, [], [])], body_law_fits⟩
theorem fnp_law_fits : f_law_fits.np = 3 := rfl
theorem fns_law_fits : f_law_fits.ns = 4 := rfl
theorem fbo_law_fits : f_law_fits.body = body_law_fits := rfl
def e_law_grown : DE := ⟨⟨("_law_grown", none), "_law_grown", "_law_grown", defArgs (top 31), defBody (top 31), defScope (top 31), [], []⟩, ["_law_value"], ["_law_value"]⟩
def body_law_grown : MSs := (.cons (.ret (.ife (.bi .isi (.cons (.var 0) (.cons (.ty "list") .nil))) (.bin .add (.var 0) (.lst (.cons (.str "more") .nil))) (.var 0))) .nil)
def f_law_grown : FnI := ⟨1, 1, [(1, [], [])], body_law_grown⟩
theorem fnp_law_grown : f_law_grown.np = 1 := rfl
theorem fns_law_grown : f_law_grown.ns = 1 := rfl
theorem fbo_law_grown : f_law_grown.body = body_law_grown := rfl
def e_law_call : DE := ⟨⟨("_law_call", none), "_law_call", "_law_call", defArgs (top 33), defBody (top 33), defScope (top 33), [], []⟩, ["_law_rules", "_law_args", "_law_way", "_law_low", "_law_step_here", "_law_clock", "e"], ["_law_rules", "_law_args", "_law_way"]⟩
def body_law_call : MSs := (.cons (.asg (.tp [3, 4, 5]) (.var 1)) (.cons (.trys (.cons (.ifs (.cmp .eq (.var 2) (.int 0)) (.cons (.ret (.lst (.cons (.str "told") (.cons (.meth (.var 0) "pieces" (.cons (.var 3) (.cons (.var 4) (.cons (.var 5) .nil))) [] .nil []) .nil)))) .nil) .nil) (.cons (.ret (.lst (.cons (.str "told") (.cons (.meth (.var 0) "pieces" .nil ["clock", "step", "low"] (.cons (.var 5) (.cons (.var 4) (.cons (.var 3) .nil))) [2, 1, 0]) .nil)))) .nil)) (.cons "InvalidWindow" 6 (.cons (.expr (.call "_law_grow" (.cons (.var 1) .nil) [] .nil [])) (.cons (.ret (.lst (.cons (.str "window") (.cons (.bi .repr (.cons (.efld 6 "given") .nil)) .nil)))) .nil)) (.cons "InvalidTime" 6 (.cons (.expr (.call "_law_grow" (.cons (.var 1) .nil) [] .nil [])) (.cons (.ret (.lst (.cons (.str "time") (.cons (.bi .repr (.cons (.efld 6 "given") .nil)) .nil)))) .nil)) (.cons "Gone" 6 (.cons (.ret (.lst (.cons (.str "gone") (.cons (.bi .repr (.cons (.lst (.cons (.efld 6 "time") (.cons (.efld 6 "grain") .nil))) .nil)) .nil)))) .nil) .nil)))) .nil))
def f_law_call : FnI := ⟨3, 7, [(3, [], [])], body_law_call⟩
theorem fnp_law_call : f_law_call.np = 3 := rfl
theorem fns_law_call : f_law_call.ns = 7 := rfl
theorem fbo_law_call : f_law_call.body = body_law_call := rfl
def e_law_grow : DE := ⟨⟨("_law_grow", none), "_law_grow", "_law_grow", defArgs (top 32), defBody (top 32), defScope (top 32), [], []⟩, ["_law_args", "_law_one"], ["_law_args"]⟩
def body_law_grow : MSs := (.cons (.fors (.nm 1) (.of (.var 0)) (.cons (.ifs (.bi .isi (.cons (.var 1) (.cons (.ty "list") .nil))) (.cons (.expr (.app (.var 1) (.str "more"))) .nil) .nil) .nil)) .nil)
def f_law_grow : FnI := ⟨1, 2, [(1, [], [])], body_law_grow⟩
theorem fnp_law_grow : f_law_grow.np = 1 := rfl
theorem fns_law_grow : f_law_grow.ns = 2 := rfl
theorem fbo_law_grow : f_law_grow.body = body_law_grow := rfl
def e_Rules_pieces : DE := ⟨⟨("Rules", some "pieces"), "pieces", "Rules.pieces", defArgs (inClass (top 19) 14), defBody (inClass (top 19) 14), defScope (inClass (top 19) 14), [], []⟩, ["self", "low", "step", "clock", "last", "found", "end", "grain", "begin"], ["self", "low", "step", "clock"]⟩
def body_Rules_pieces : MSs := (.cons (.asg (.nm 4) (.meth (.var 0) "teller" (.cons (.var 1) (.cons (.var 2) (.cons (.var 3) .nil))) [] .nil [])) (.cons (.asg (.sw [5, 6]) (.tup (.cons (.lst .nil) (.cons (.bin .add (.var 1) (.var 2)) .nil)))) (.cons (.fors (.nm 7) (.rng1 (.bin .add (.var 4) (.int 1))) (.cons (.asg (.nm 8) (.bi .max2 (.cons (.var 1) (.cons (.meth (.var 0) "edge" (.cons (.var 7) (.cons (.var 3) .nil)) [] .nil []) .nil)))) (.cons (.ifs (.cmp .lt (.var 8) (.var 6)) (.cons (.expr (.app (.var 5) (.tup (.cons (.var 7) (.cons (.var 8) (.cons (.var 6) .nil)))))) (.cons (.asg (.nm 6) (.var 8)) .nil)) .nil) .nil))) (.cons (.ret (.rev (.var 5))) .nil))))
def f_Rules_pieces : FnI := ⟨4, 9, [(1, ["clock", "step", "low"], [2, 1, 0]), (4, [], [])], body_Rules_pieces⟩
theorem fnp_Rules_pieces : f_Rules_pieces.np = 4 := rfl
theorem fns_Rules_pieces : f_Rules_pieces.ns = 9 := rfl
theorem fbo_Rules_pieces : f_Rules_pieces.body = body_Rules_pieces := rfl
def e_Rules_edge : DE := ⟨⟨("Rules", some "edge"), "edge", "Rules.edge", defArgs (inClass (top 19) 7), defBody (inClass (top 19) 7), defScope (inClass (top 19) 7), [], []⟩, ["self", "grain", "clock", "keep", "step"], ["self", "grain", "clock"]⟩
def body_Rules_edge : MSs := (.cons (.asg (.sw [3, 4]) (.tup (.cons (.meth (.var 0) "keep" (.cons (.var 1) .nil) [] .nil []) (.cons (.meth (.var 0) "step" (.cons (.var 1) .nil) [] .nil []) .nil)))) (.cons (.expr (.call "check_time" (.cons (.var 2) .nil) [] .nil [])) (.cons (.ifs (.or (.cmp .isN (.var 3) .non) (.cmp .gt (.var 3) (.var 2))) (.cons (.ret (.int 0)) .nil) .nil) (.cons (.ret (.bin .mul (.bin .fdiv (.bin .sub (.var 2) (.var 3)) (.var 4)) (.var 4))) .nil))))
def f_Rules_edge : FnI := ⟨3, 5, [(3, [], [])], body_Rules_edge⟩
theorem fnp_Rules_edge : f_Rules_edge.np = 3 := rfl
theorem fns_Rules_edge : f_Rules_edge.ns = 5 := rfl
theorem fbo_Rules_edge : f_Rules_edge.body = body_Rules_edge := rfl
def e_check_time : DE := ⟨⟨("check_time", none), "check_time", "check_time", defArgs (top 17), defBody (top 17), defScope (top 17), [], []⟩, ["time"], ["time"]⟩
def body_check_time : MSs := (.cons (.ifs (.notE (.call "is_count" (.cons (.var 0) .nil) [] .nil [])) (.cons (.raise "InvalidTime" (.cons (.var 0) .nil)) .nil) .nil) .nil)
def f_check_time : FnI := ⟨1, 1, [(1, [], [])], body_check_time⟩
theorem fnp_check_time : f_check_time.np = 1 := rfl
theorem fns_check_time : f_check_time.ns = 1 := rfl
theorem fbo_check_time : f_check_time.body = body_check_time := rfl
def e_is_count : DE := ⟨⟨("is_count", none), "is_count", "is_count", defArgs (top 11), defBody (top 11), defScope (top 11), [], []⟩, ["value"], ["value"]⟩
def body_is_count : MSs := (.cons (.ret (.and (.call "is_integer" (.cons (.var 0) .nil) [] .nil []) (.cmp .ge (.var 0) (.int 0)))) .nil)
def f_is_count : FnI := ⟨1, 1, [(1, [], [])], body_is_count⟩
theorem fnp_is_count : f_is_count.np = 1 := rfl
theorem fns_is_count : f_is_count.ns = 1 := rfl
theorem fbo_is_count : f_is_count.body = body_is_count := rfl
def e_is_integer : DE := ⟨⟨("is_integer", none), "is_integer", "is_integer", defArgs (top 10), defBody (top 10), defScope (top 10), [], []⟩, ["value"], ["value"]⟩
def body_is_integer : MSs := (.cons (.ret (.and (.bi .isi (.cons (.var 0) (.cons (.ty "int") .nil))) (.notE (.bi .isi (.cons (.var 0) (.cons (.ty "bool") .nil)))))) .nil)
def f_is_integer : FnI := ⟨1, 1, [(1, [], [])], body_is_integer⟩
theorem fnp_is_integer : f_is_integer.np = 1 := rfl
theorem fns_is_integer : f_is_integer.ns = 1 := rfl
theorem fbo_is_integer : f_is_integer.body = body_is_integer := rfl
def e_Rules_step : DE := ⟨⟨("Rules", some "step"), "step", "Rules.step", defArgs (inClass (top 19) 6), defBody (inClass (top 19) 6), defScope (inClass (top 19) 6), [], []⟩, ["self", "grain"], ["self", "grain"]⟩
def body_Rules_step : MSs := (.cons (.expr (.meth (.var 0) "check_grain" (.cons (.var 1) .nil) [] .nil [])) (.cons (.ret (.sub (.sub (.fld (.var 0) "rows") (.bi .min2 (.cons (.bin .add (.var 1) (.int 1)) (.cons (.bin .sub (.bi .len (.cons (.fld (.var 0) "rows") .nil)) (.int 1)) .nil)))) (.int 0))) .nil))
def f_Rules_step : FnI := ⟨2, 2, [(2, [], [])], body_Rules_step⟩
theorem fnp_Rules_step : f_Rules_step.np = 2 := rfl
theorem fns_Rules_step : f_Rules_step.ns = 2 := rfl
theorem fbo_Rules_step : f_Rules_step.body = body_Rules_step := rfl
def e_Rules_check_grain : DE := ⟨⟨("Rules", some "check_grain"), "check_grain", "Rules.check_grain", defArgs (inClass (top 19) 3), defBody (inClass (top 19) 3), defScope (inClass (top 19) 3), [], []⟩, ["self", "grain"], ["self", "grain"]⟩
def body_Rules_check_grain : MSs := (.cons (.ifs (.or (.notE (.call "is_count" (.cons (.var 1) .nil) [] .nil [])) (.cmp .ge (.var 1) (.bi .len (.cons (.fld (.var 0) "rows") .nil)))) (.cons (.raise "NoGrain" (.cons (.var 1) .nil)) .nil) .nil) .nil)
def f_Rules_check_grain : FnI := ⟨2, 2, [(2, [], [])], body_Rules_check_grain⟩
theorem fnp_Rules_check_grain : f_Rules_check_grain.np = 2 := rfl
theorem fns_Rules_check_grain : f_Rules_check_grain.ns = 2 := rfl
theorem fbo_Rules_check_grain : f_Rules_check_grain.body = body_Rules_check_grain := rfl
def e_Rules_keep : DE := ⟨⟨("Rules", some "keep"), "keep", "Rules.keep", defArgs (inClass (top 19) 5), defBody (inClass (top 19) 5), defScope (inClass (top 19) 5), [], []⟩, ["self", "grain"], ["self", "grain"]⟩
def body_Rules_keep : MSs := (.cons (.expr (.meth (.var 0) "check_grain" (.cons (.var 1) .nil) [] .nil [])) (.cons (.ret (.sub (.sub (.fld (.var 0) "rows") (.var 1)) (.int 1))) .nil))
def f_Rules_keep : FnI := ⟨2, 2, [(2, [], [])], body_Rules_keep⟩
theorem fnp_Rules_keep : f_Rules_keep.np = 2 := rfl
theorem fns_Rules_keep : f_Rules_keep.ns = 2 := rfl
theorem fbo_Rules_keep : f_Rules_keep.body = body_Rules_keep := rfl
def e_Rules_teller : DE := ⟨⟨("Rules", some "teller"), "teller", "Rules.teller", defArgs (inClass (top 19) 12), defBody (inClass (top 19) 12), defScope (inClass (top 19) 12), [], []⟩, ["self", "low", "step", "clock", "fits", "grain"], ["self", "low", "step", "clock"]⟩
def body_Rules_teller : MSs := (.cons (.expr (.call "check_window" (.cons (.var 1) (.cons (.var 2) .nil)) [] .nil [])) (.cons (.expr (.call "check_time" (.cons (.var 3) .nil) [] .nil [])) (.cons (.asg (.nm 4) (.meth (.var 0) "fitting" (.cons (.var 1) (.cons (.var 2) .nil)) [] .nil [])) (.cons (.fors (.nm 5) (.of (.var 4)) (.cons (.ifs (.meth (.var 0) "stands" (.cons (.var 5) (.cons (.var 1) (.cons (.var 3) .nil))) [] .nil []) (.cons (.ret (.var 5)) .nil) .nil) .nil)) (.cons (.raise "Gone" (.cons (.var 1) (.cons (.sub (.var 4) (.neg (.int 1))) .nil))) .nil)))))
def f_Rules_teller : FnI := ⟨4, 6, [(4, [], [])], body_Rules_teller⟩
theorem fnp_Rules_teller : f_Rules_teller.np = 4 := rfl
theorem fns_Rules_teller : f_Rules_teller.ns = 6 := rfl
theorem fbo_Rules_teller : f_Rules_teller.body = body_Rules_teller := rfl
def e_Rules_stands : DE := ⟨⟨("Rules", some "stands"), "stands", "Rules.stands", defArgs (inClass (top 19) 8), defBody (inClass (top 19) 8), defScope (inClass (top 19) 8), [], []⟩, ["self", "grain", "time", "clock"], ["self", "grain", "time", "clock"]⟩
def body_Rules_stands : MSs := (.cons (.expr (.meth (.var 0) "check_grain" (.cons (.var 1) .nil) [] .nil [])) (.cons (.expr (.call "check_time" (.cons (.var 2) .nil) [] .nil [])) (.cons (.ret (.cmp .ge (.var 2) (.meth (.var 0) "edge" (.cons (.var 1) (.cons (.var 3) .nil)) [] .nil []))) .nil)))
def f_Rules_stands : FnI := ⟨4, 4, [(4, [], [])], body_Rules_stands⟩
theorem fnp_Rules_stands : f_Rules_stands.np = 4 := rfl
theorem fns_Rules_stands : f_Rules_stands.ns = 4 := rfl
theorem fbo_Rules_stands : f_Rules_stands.body = body_Rules_stands := rfl
def e_Rules_fitting : DE := ⟨⟨("Rules", some "fitting"), "fitting", "Rules.fitting", defArgs (inClass (top 19) 11), defBody (inClass (top 19) 11), defScope (inClass (top 19) 11), [], []⟩, ["self", "low", "step", "grain", "row"], ["self", "low", "step"]⟩
def body_Rules_fitting : MSs := (.cons (.ret (.comp [3, 4] (.tp [3, 4]) (.enum (.fld (.var 0) "rows")) (.and (.cmp .eq (.bin .mod (.var 1) (.sub (.var 4) (.int 0))) (.int 0)) (.cmp .eq (.bin .mod (.var 2) (.sub (.var 4) (.int 0))) (.int 0))) (.var 3))) .nil)
def f_Rules_fitting : FnI := ⟨3, 5, [(3, [], [])], body_Rules_fitting⟩
theorem fnp_Rules_fitting : f_Rules_fitting.np = 3 := rfl
theorem fns_Rules_fitting : f_Rules_fitting.ns = 5 := rfl
theorem fbo_Rules_fitting : f_Rules_fitting.body = body_Rules_fitting := rfl
def e_check_window : DE := ⟨⟨("check_window", none), "check_window", "check_window", defArgs (top 18), defBody (top 18), defScope (top 18), [], []⟩, ["low", "step"], ["low", "step"]⟩
def body_check_window : MSs := (.cons (.ifs (.or (.notE (.call "is_count" (.cons (.var 0) .nil) [] .nil [])) (.or (.notE (.call "is_count" (.cons (.var 1) .nil) [] .nil [])) (.cmp .eq (.var 1) (.int 0)))) (.cons (.raise "InvalidWindow" (.cons (.tup (.cons (.var 0) (.cons (.var 1) .nil))) .nil)) .nil) .nil) .nil)
def f_check_window : FnI := ⟨2, 2, [(2, [], [])], body_check_window⟩
theorem fnp_check_window : f_check_window.np = 2 := rfl
theorem fns_check_window : f_check_window.ns = 2 := rfl
theorem fbo_check_window : f_check_window.body = body_check_window := rfl
def e_law_odd_asks : DE := ⟨⟨("_law_odd_asks", none), "_law_odd_asks", "_law_odd_asks", defArgs (top 30), defBody (top 30), defScope (top 30), [], []⟩, ["_law_box_here", "_law_rows_here", "_law_low", "_law_step_here", "_law_clock", "_law_found", "_law_odd"], ["_law_box_here", "_law_rows_here"]⟩
def body_law_odd_asks : MSs := (.cons (.asg (.tp [2, 3, 4]) (.call "_law_asks" (.cons (.var 0) (.cons (.var 1) .nil)) [] .nil [])) (.cons (.asg (.nm 5) (.lst (.cons (.lst (.cons (.var 2) (.cons (.int 0) (.cons (.var 4) .nil)))) (.cons (.lst (.cons (.var 2) (.cons (.int 0) (.cons (.neg (.int 1)) .nil)))) (.cons (.lst (.cons (.neg (.int 1)) (.cons (.int 0) (.cons .non .nil)))) .nil))))) (.cons (.fors (.nm 6) (.of (.lst (.cons (.neg (.int 1)) (.cons (.neg (.var 3)) (.cons (.bl true) (.cons (.bl false) (.cons .non (.cons (.str "3") (.cons (.lst (.cons (.int 3) .nil)) (.cons (.tup (.cons (.int 3) .nil)) (.cons (.tup (.cons (.var 2) (.cons (.var 3) .nil))) .nil))))))))))) (.cons (.asg (.nm 5) (.bin .add (.var 5) (.lst (.cons (.lst (.cons (.var 6) (.cons (.var 3) (.cons (.var 4) .nil)))) (.cons (.lst (.cons (.var 2) (.cons (.var 6) (.cons (.var 4) .nil)))) (.cons (.lst (.cons (.var 2) (.cons (.var 3) (.cons (.var 6) .nil)))) (.cons (.lst (.cons (.var 6) (.cons (.lst (.cons (.int 1) .nil)) (.cons (.var 6) .nil)))) (.cons (.lst (.cons (.var 6) (.cons (.var 3) (.cons (.lst (.cons (.neg (.int 1)) .nil)) .nil)))) .nil)))))))) .nil)) (.cons (.ret (.var 5)) .nil))))
def f_law_odd_asks : FnI := ⟨2, 7, [(2, [], [])], body_law_odd_asks⟩
theorem fnp_law_odd_asks : f_law_odd_asks.np = 2 := rfl
theorem fns_law_odd_asks : f_law_odd_asks.ns = 7 := rfl
theorem fbo_law_odd_asks : f_law_odd_asks.body = body_law_odd_asks := rfl
def e_law_asks : DE := ⟨⟨("_law_asks", none), "_law_asks", "_law_asks", defArgs (top 29), defBody (top 29), defScope (top 29), [], []⟩, ["_law_box_here", "_law_rows_here", "_law_grain", "_law_other", "_law_length", "_law_held", "_law_clock", "_law_spot", "_law_low", "_law_step_here"], ["_law_box_here", "_law_rows_here"]⟩
def body_law_asks : MSs := (.cons (.asg (.sw [2, 3]) (.tup (.cons (.call "_law_take" (.cons (.var 0) (.cons (.bi .len (.cons (.var 1) .nil)) .nil)) [] .nil []) (.cons (.call "_law_take" (.cons (.var 0) (.cons (.bi .len (.cons (.var 1) .nil)) .nil)) [] .nil []) .nil)))) (.cons (.asg (.nm 4) (.sub (.sub (.var 1) (.var 2)) (.int 0))) (.cons (.asg (.nm 5) (.sub (.lst (.cons (.sub (.sub (.var 1) (.var 3)) (.int 1)) (.cons (.bin .mul (.int 3) (.var 4)) .nil))) (.bi .int1 (.cons (.cmp .isN (.sub (.sub (.var 1) (.var 3)) (.int 1)) .non) .nil)))) (.cons (.asg (.nm 6) (.bi .max2 (.cons (.int 0) (.cons (.bin .add (.bin .add (.var 5) (.bin .mul (.call "_law_take" (.cons (.var 0) (.cons (.int 7) .nil)) [] .nil []) (.call "_law_step" (.cons (.var 1) (.cons (.var 3) .nil)) [] .nil []))) (.sub (.lst (.cons (.int 0) (.cons (.neg (.int 1)) (.cons (.int 1) (.cons (.var 4) .nil))))) (.call "_law_take" (.cons (.var 0) (.cons (.int 4) .nil)) [] .nil []))) .nil)))) (.cons (.ifs (.cmp .eq (.call "_law_take" (.cons (.var 0) (.cons (.int 9) .nil)) [] .nil []) (.int 0)) (.cons (.asg (.nm 6) (.bin .add (.bin .pow (.int 10) (.int 11)) (.bin .mul (.call "_law_take" (.cons (.var 0) (.cons (.int 900) .nil)) [] .nil []) (.bin .pow (.int 10) (.int 9))))) .nil) .nil) (.cons (.asg (.nm 7) (.bin .mul (.bin .fdiv (.call "_law_edge" (.cons (.var 1) (.cons (.var 3) (.cons (.var 6) .nil))) [] .nil []) (.var 4)) (.var 4))) (.cons (.asg (.nm 8) (.bi .max2 (.cons (.int 0) (.cons (.bin .add (.bin .sub (.var 7) (.bin .mul (.call "_law_take" (.cons (.var 0) (.cons (.int 6) .nil)) [] .nil []) (.var 4))) (.bin .mul (.call "_law_take" (.cons (.var 0) (.cons (.int 2) .nil)) [] .nil []) (.var 4))) .nil)))) (.cons (.asg (.nm 9) (.bin .mul (.sub (.lst (.cons (.int 1) (.cons (.int 2) (.cons (.int 3) (.cons (.int 5) (.cons (.int 7) (.cons (.int 4) .nil))))))) (.call "_law_take" (.cons (.var 0) (.cons (.int 6) .nil)) [] .nil [])) (.var 4))) (.cons (.ifs (.cmp .eq (.call "_law_take" (.cons (.var 0) (.cons (.int 9) .nil)) [] .nil []) (.int 0)) (.cons (.asg (.nm 8) (.bin .add (.var 8) (.int 1))) .nil) .nil) (.cons (.ret (.lst (.cons (.var 8) (.cons (.var 9) (.cons (.var 6) .nil))))) .nil))))))))))
def f_law_asks : FnI := ⟨2, 10, [(2, [], [])], body_law_asks⟩
theorem fnp_law_asks : f_law_asks.np = 2 := rfl
theorem fns_law_asks : f_law_asks.ns = 10 := rfl
theorem fbo_law_asks : f_law_asks.body = body_law_asks := rfl
def e_law_take : DE := ⟨⟨("_law_take", none), "_law_take", "_law_take", defArgs (top 23), defBody (top 23), defScope (top 23), [], []⟩, ["_law_box_here", "_law_many", "_law_digit", "_law_mixed"], ["_law_box_here", "_law_many"]⟩
def body_law_take : MSs := (.cons (.ifs (.and (.sub (.var 0) (.int 1)) (.cmp .gt (.sub (.var 0) (.int 0)) (.int 0))) (.cons (.asg (.nm 2) (.bin .mod (.bi .int1 (.cons (.sub (.var 0) (.int 0)) .nil)) (.var 1))) (.cons (.asg (.sub (.var 0) (.int 0)) (.bin .fdiv (.sub (.var 0) (.int 0)) (.var 1))) (.cons (.ret (.var 2)) .nil))) .nil) (.cons (.asg (.sub (.var 0) (.int 3)) (.bin .add (.sub (.var 0) (.int 3)) (.int 1))) (.cons (.asg (.nm 3) (.bin .mod (.bi .int1 (.cons (.bin .pow (.bin .add (.bin .add (.sub (.var 0) (.int 2)) (.bin .mul (.int 15485863) (.sub (.var 0) (.int 3)))) (.int 179424673)) (.int 5)) .nil)) (.int 2147483647))) (.cons (.ret (.bin .mod (.bin .fdiv (.bin .mod (.bi .int1 (.cons (.bin .pow (.bin .add (.bin .mul (.var 3) (.int 48271)) (.bin .mul (.int 104729) (.sub (.var 0) (.int 3)))) (.int 3)) .nil)) (.int 2147483587)) (.int 64)) (.var 1))) .nil))))
def f_law_take : FnI := ⟨2, 4, [(2, [], [])], body_law_take⟩
theorem fnp_law_take : f_law_take.np = 2 := rfl
theorem fns_law_take : f_law_take.ns = 4 := rfl
theorem fbo_law_take : f_law_take.body = body_law_take := rfl
def e_Rules_init : DE := ⟨⟨("Rules", some "__init__"), "__init__", "Rules.__init__", defArgs (inClass (top 19) 0), defBody (inClass (top 19) 0), defScope (inClass (top 19) 0), [], []⟩, ["self", "rows"], ["self", "rows"]⟩
def body_Rules_init : MSs := (.cons (.ifs (.notE (.call "are_rules" (.cons (.var 1) .nil) [] .nil [])) (.cons (.raise "InvalidRules" (.cons (.var 1) .nil)) .nil) .nil) (.cons (.asg (.fld (.var 0) "rows") (.bi .tuple1 (.cons (.var 1) .nil))) .nil))
def f_Rules_init : FnI := ⟨2, 2, [(2, [], [])], body_Rules_init⟩
theorem fnp_Rules_init : f_Rules_init.np = 2 := rfl
theorem fns_Rules_init : f_Rules_init.ns = 2 := rfl
theorem fbo_Rules_init : f_Rules_init.body = body_Rules_init := rfl
def e_are_rules : DE := ⟨⟨("are_rules", none), "are_rules", "are_rules", defArgs (top 16), defBody (top 16), defScope (top 16), [], []⟩, ["value", "at", "row"], ["value"]⟩
def body_are_rules : MSs := (.cons (.ifs (.or (.notE (.call "is_list" (.cons (.var 0) .nil) [] .nil [])) (.notE (.chain .le .le (.int 1) (.bi .len (.cons (.var 0) .nil)) (.gint "MOST_GRAINS" 4)))) (.cons (.ret (.bl false)) .nil) .nil) (.cons (.ifs (.or (.notE (.bi .all (.cons (.comp [1, 2] (.tp [1, 2]) (.enum (.var 0)) (.bl true) (.call "is_row" (.cons (.var 2) (.cons (.cmp .eq (.var 1) (.bin .sub (.bi .len (.cons (.var 0) .nil)) (.int 1))) .nil)) [] .nil [])) .nil))) (.cmp .ne (.sub (.sub (.var 0) (.int 0)) (.int 0)) (.int 1))) (.cons (.ret (.bl false)) .nil) .nil) (.cons (.ret (.bi .all (.cons (.comp [1] (.nm 1) (.rng2 (.int 1) (.bi .len (.cons (.var 0) .nil))) (.bl true) (.call "may_follow" (.cons (.sub (.var 0) (.var 1)) (.cons (.sub (.var 0) (.bin .sub (.var 1) (.int 1))) .nil)) [] .nil [])) .nil))) .nil)))
def f_are_rules : FnI := ⟨1, 3, [(1, [], [])], body_are_rules⟩
theorem fnp_are_rules : f_are_rules.np = 1 := rfl
theorem fns_are_rules : f_are_rules.ns = 3 := rfl
theorem fbo_are_rules : f_are_rules.body = body_are_rules := rfl
def e_may_follow : DE := ⟨⟨("may_follow", none), "may_follow", "may_follow", defArgs (top 15), defBody (top 15), defScope (top 15), [], []⟩, ["row", "ahead"], ["row", "ahead"]⟩
def body_may_follow : MSs := (.cons (.ifs (.or (.cmp .ne (.bin .mod (.sub (.var 0) (.int 0)) (.sub (.var 1) (.int 0))) (.int 0)) (.cmp .lt (.sub (.var 0) (.int 0)) (.bin .mul (.int 2) (.sub (.var 1) (.int 0))))) (.cons (.ret (.bl false)) .nil) .nil) (.cons (.ret (.or (.cmp .isN (.sub (.var 0) (.int 1)) .non) (.cmp .ge (.sub (.var 0) (.int 1)) (.bin .add (.sub (.var 1) (.int 1)) (.sub (.var 0) (.int 0)))))) .nil))
def f_may_follow : FnI := ⟨2, 2, [(2, [], [])], body_may_follow⟩
theorem fnp_may_follow : f_may_follow.np = 2 := rfl
theorem fns_may_follow : f_may_follow.ns = 2 := rfl
theorem fbo_may_follow : f_may_follow.body = body_may_follow := rfl
def e_is_row : DE := ⟨⟨("is_row", none), "is_row", "is_row", defArgs (top 14), defBody (top 14), defScope (top 14), [], []⟩, ["value", "is_last"], ["value", "is_last"]⟩
def body_is_row : MSs := (.cons (.ifs (.or (.notE (.bi .isi (.cons (.var 0) (.cons (.ty "tuple") .nil)))) (.or (.cmp .ne (.bi .len (.cons (.var 0) .nil)) (.int 2)) (.or (.notE (.call "is_count" (.cons (.sub (.var 0) (.int 0)) .nil) [] .nil [])) (.cmp .eq (.sub (.var 0) (.int 0)) (.int 0))))) (.cons (.ret (.bl false)) .nil) .nil) (.cons (.ret (.or (.and (.var 1) (.cmp .isN (.sub (.var 0) (.int 1)) .non)) (.and (.call "is_count" (.cons (.sub (.var 0) (.int 1)) .nil) [] .nil []) (.cmp .gt (.sub (.var 0) (.int 1)) (.int 0))))) .nil))
def f_is_row : FnI := ⟨2, 2, [(2, [], [])], body_is_row⟩
theorem fnp_is_row : f_is_row.np = 2 := rfl
theorem fns_is_row : f_is_row.ns = 2 := rfl
theorem fbo_is_row : f_is_row.body = body_is_row := rfl
def e_is_list : DE := ⟨⟨("is_list", none), "is_list", "is_list", defArgs (top 9), defBody (top 9), defScope (top 9), [], []⟩, ["value"], ["value"]⟩
def body_is_list : MSs := (.cons (.ret (.bi .isi (.cons (.var 0) (.cons (.tup (.cons (.ty "list") (.cons (.ty "tuple") .nil))) .nil)))) .nil)
def f_is_list : FnI := ⟨1, 1, [(1, [], [])], body_is_list⟩
theorem fnp_is_list : f_is_list.np = 1 := rfl
theorem fns_is_list : f_is_list.ns = 1 := rfl
theorem fbo_is_list : f_is_list.body = body_is_list := rfl
def e_law_rows : DE := ⟨⟨("_law_rows", none), "_law_rows", "_law_rows", defArgs (top 24), defBody (top 24), defScope (top 24), [], []⟩, ["_law_box_here", "_law_grains", "_law_great", "_law_length", "_law_keep", "_law_rows_here", "_law_turn", "_law_more"], ["_law_box_here"]⟩
def body_law_rows : MSs := (.cons (.asg (.sw [1, 2]) (.tup (.cons (.bin .add (.int 1) (.call "_law_take" (.cons (.var 0) (.cons (.int 4) .nil)) [] .nil [])) (.cons (.cmp .eq (.call "_law_take" (.cons (.var 0) (.cons (.int 5) .nil)) [] .nil []) (.int 0)) .nil)))) (.cons (.asg (.sw [3, 4]) (.tup (.cons (.int 1) (.cons (.bin .add (.int 1) (.call "_law_take" (.cons (.var 0) (.cons (.int 12) .nil)) [] .nil [])) .nil)))) (.cons (.asg (.nm 5) (.lst (.cons (.tup (.cons (.var 3) (.cons (.var 4) .nil))) .nil))) (.cons (.fors (.nm 6) (.rng1 (.bin .sub (.var 1) (.int 1))) (.cons (.asg (.nm 3) (.bin .mul (.var 3) (.bin .add (.sub (.lst (.cons (.int 2) (.cons (.int 3) (.cons (.int 2) (.cons (.int 4) (.cons (.int 5) (.cons (.int 7) .nil))))))) (.call "_law_take" (.cons (.var 0) (.cons (.int 6) .nil)) [] .nil [])) (.sub (.lst (.cons (.int 0) (.cons (.int 995) .nil))) (.bi .int1 (.cons (.var 2) .nil)))))) (.cons (.asg (.nm 7) (.sub (.lst (.cons (.int 0) (.cons (.int 0) (.cons (.int 1) (.cons (.int 3) (.cons (.int 11) (.cons (.bin .pow (.int 10) (.int 10)) .nil))))))) (.call "_law_take" (.cons (.var 0) (.cons (.bin .add (.int 5) (.bi .int1 (.cons (.var 2) .nil))) .nil)) [] .nil []))) (.cons (.asg (.nm 4) (.bin .add (.bin .add (.var 4) (.var 3)) (.var 7))) (.cons (.expr (.app (.var 5) (.tup (.cons (.var 3) (.cons (.var 4) .nil))))) .nil))))) (.cons (.ifs (.cmp .eq (.call "_law_take" (.cons (.var 0) (.cons (.int 2) .nil)) [] .nil []) (.int 0)) (.cons (.asg (.sub (.var 5) (.neg (.int 1))) (.tup (.cons (.var 3) (.cons .non .nil)))) .nil) .nil) (.cons (.ret (.var 5)) .nil))))))
def f_law_rows : FnI := ⟨1, 8, [(1, [], [])], body_law_rows⟩
theorem fnp_law_rows : f_law_rows.np = 1 := rfl
theorem fns_law_rows : f_law_rows.ns = 8 := rfl
theorem fbo_law_rows : f_law_rows.body = body_law_rows := rfl
def e_Gone_init : DE := ⟨⟨("Gone", some "__init__"), "__init__", "Gone.__init__", defArgs (inClass (top 7) 0), defBody (inClass (top 7) 0), defScope (inClass (top 7) 0), [], []⟩, ["self", "time", "grain"], ["self", "time", "grain"]⟩
def e_InvalidRules_init : DE := ⟨⟨("InvalidRules", some "__init__"), "__init__", "InvalidRules.__init__", defArgs (inClass (top 3) 0), defBody (inClass (top 3) 0), defScope (inClass (top 3) 0), [], []⟩, ["self", "given"], ["self", "given"]⟩
def e_InvalidTime_init : DE := ⟨⟨("InvalidTime", some "__init__"), "__init__", "InvalidTime.__init__", defArgs (inClass (top 5) 0), defBody (inClass (top 5) 0), defScope (inClass (top 5) 0), [], []⟩, ["self", "given"], ["self", "given"]⟩
def e_InvalidWindow_init : DE := ⟨⟨("InvalidWindow", some "__init__"), "__init__", "InvalidWindow.__init__", defArgs (inClass (top 4) 0), defBody (inClass (top 4) 0), defScope (inClass (top 4) 0), [], []⟩, ["self", "given"], ["self", "given"]⟩
def e_NoGrain_init : DE := ⟨⟨("NoGrain", some "__init__"), "__init__", "NoGrain.__init__", defArgs (inClass (top 6) 0), defBody (inClass (top 6) 0), defScope (inClass (top 6) 0), [], []⟩, ["self", "grain"], ["self", "grain"]⟩
def τ : Txt where
  fns := [("law", e_law, f_law), ("_law_cell", e_law_cell, f_law_cell), ("_law_box", e_law_box, f_law_box), ("_law_right", e_law_right, f_law_right), ("_law_asked_right", e_law_asked_right, f_law_asked_right), ("_law_tiled", e_law_tiled, f_law_tiled), ("_law_shortest", e_law_shortest, f_law_shortest), ("_law_edge", e_law_edge, f_law_edge), ("_law_step", e_law_step, f_law_step), ("_law_is_piece", e_law_is_piece, f_law_is_piece), ("_law_is_count", e_law_is_count, f_law_is_count), ("_law_fits", e_law_fits, f_law_fits), ("_law_grown", e_law_grown, f_law_grown), ("_law_call", e_law_call, f_law_call), ("_law_grow", e_law_grow, f_law_grow), ("check_time", e_check_time, f_check_time), ("is_count", e_is_count, f_is_count), ("is_integer", e_is_integer, f_is_integer), ("check_window", e_check_window, f_check_window), ("_law_odd_asks", e_law_odd_asks, f_law_odd_asks), ("_law_asks", e_law_asks, f_law_asks), ("_law_take", e_law_take, f_law_take), ("are_rules", e_are_rules, f_are_rules), ("may_follow", e_may_follow, f_may_follow), ("is_row", e_is_row, f_is_row), ("is_list", e_is_list, f_is_list), ("_law_rows", e_law_rows, f_law_rows)]
  mes := [("Rules", "pieces", e_Rules_pieces, f_Rules_pieces), ("Rules", "edge", e_Rules_edge, f_Rules_edge), ("Rules", "step", e_Rules_step, f_Rules_step), ("Rules", "check_grain", e_Rules_check_grain, f_Rules_check_grain), ("Rules", "keep", e_Rules_keep, f_Rules_keep), ("Rules", "teller", e_Rules_teller, f_Rules_teller), ("Rules", "stands", e_Rules_stands, f_Rules_stands), ("Rules", "fitting", e_Rules_fitting, f_Rules_fitting), ("Rules", "__init__", e_Rules_init, f_Rules_init)]
  xs := [⟨"Gone", ["time", "grain"], "GrainError", e_Gone_init⟩, ⟨"InvalidRules", ["given"], "GrainError", e_InvalidRules_init⟩, ⟨"InvalidTime", ["given"], "GrainError", e_InvalidTime_init⟩, ⟨"InvalidWindow", ["given"], "GrainError", e_InvalidWindow_init⟩, ⟨"NoGrain", ["grain"], "GrainError", e_NoGrain_init⟩]
  own := ["InvalidRules", "InvalidWindow", "InvalidTime", "NoGrain", "Gone", "Rules"]
  free := ["abs", "all", "bool", "enumerate", "int", "isinstance", "len", "list", "max", "min", "range", "repr", "set", "sum", "tuple"]
  gi := [("MOST_GRAINS", 4)]
  noat := [("Rules", "rows")]
  isc := [("Rules", .ty "bool", false), ("Rules", .ty "int", false), ("Rules", .ty "list", false), ("Rules", .ty "tuple", false)]
  sub := [("Gone", "Gone", true), ("Gone", "InvalidTime", false), ("Gone", "InvalidWindow", false), ("InvalidRules", "Gone", false), ("InvalidRules", "InvalidTime", false), ("InvalidRules", "InvalidWindow", false), ("InvalidTime", "Gone", false), ("InvalidTime", "InvalidTime", true), ("InvalidTime", "InvalidWindow", false), ("InvalidWindow", "Gone", false), ("InvalidWindow", "InvalidTime", false), ("InvalidWindow", "InvalidWindow", true), ("NoGrain", "Gone", false), ("NoGrain", "InvalidTime", false), ("NoGrain", "InvalidWindow", false)]
  xat := ["given", "grain", "time"]
  mp := [("check_grain", (2, [], [])), ("edge", (3, [], [])), ("fitting", (3, [], [])), ("keep", (2, [], [])), ("pieces", (1, ["clock", "step", "low"], [2, 1, 0])), ("pieces", (4, [], [])), ("stands", (4, [], [])), ("step", (2, [], [])), ("teller", (4, [], []))]
theorem tfn_law : τ.tab.fn "law" = some f_law := by kernel_rfl
theorem tfn_law_cell : τ.tab.fn "_law_cell" = some f_law_cell := by kernel_rfl
theorem tfn_law_box : τ.tab.fn "_law_box" = some f_law_box := by kernel_rfl
theorem tfn_law_right : τ.tab.fn "_law_right" = some f_law_right := by kernel_rfl
theorem tfn_law_asked_right : τ.tab.fn "_law_asked_right" = some f_law_asked_right := by kernel_rfl
theorem tfn_law_tiled : τ.tab.fn "_law_tiled" = some f_law_tiled := by kernel_rfl
theorem tfn_law_shortest : τ.tab.fn "_law_shortest" = some f_law_shortest := by kernel_rfl
theorem tfn_law_edge : τ.tab.fn "_law_edge" = some f_law_edge := by kernel_rfl
theorem tfn_law_step : τ.tab.fn "_law_step" = some f_law_step := by kernel_rfl
theorem tfn_law_is_piece : τ.tab.fn "_law_is_piece" = some f_law_is_piece := by kernel_rfl
theorem tfn_law_is_count : τ.tab.fn "_law_is_count" = some f_law_is_count := by kernel_rfl
theorem tfn_law_fits : τ.tab.fn "_law_fits" = some f_law_fits := by kernel_rfl
theorem tfn_law_grown : τ.tab.fn "_law_grown" = some f_law_grown := by kernel_rfl
theorem tfn_law_call : τ.tab.fn "_law_call" = some f_law_call := by kernel_rfl
theorem tfn_law_grow : τ.tab.fn "_law_grow" = some f_law_grow := by kernel_rfl
theorem tme_Rules_pieces : τ.tab.me "Rules" "pieces" = some f_Rules_pieces := by kernel_rfl
theorem tme_Rules_edge : τ.tab.me "Rules" "edge" = some f_Rules_edge := by kernel_rfl
theorem tfn_check_time : τ.tab.fn "check_time" = some f_check_time := by kernel_rfl
theorem tfn_is_count : τ.tab.fn "is_count" = some f_is_count := by kernel_rfl
theorem tfn_is_integer : τ.tab.fn "is_integer" = some f_is_integer := by kernel_rfl
theorem tme_Rules_step : τ.tab.me "Rules" "step" = some f_Rules_step := by kernel_rfl
theorem tme_Rules_check_grain : τ.tab.me "Rules" "check_grain" = some f_Rules_check_grain := by kernel_rfl
theorem tme_Rules_keep : τ.tab.me "Rules" "keep" = some f_Rules_keep := by kernel_rfl
theorem tme_Rules_teller : τ.tab.me "Rules" "teller" = some f_Rules_teller := by kernel_rfl
theorem tme_Rules_stands : τ.tab.me "Rules" "stands" = some f_Rules_stands := by kernel_rfl
theorem tme_Rules_fitting : τ.tab.me "Rules" "fitting" = some f_Rules_fitting := by kernel_rfl
theorem tfn_check_window : τ.tab.fn "check_window" = some f_check_window := by kernel_rfl
theorem tfn_law_odd_asks : τ.tab.fn "_law_odd_asks" = some f_law_odd_asks := by kernel_rfl
theorem tfn_law_asks : τ.tab.fn "_law_asks" = some f_law_asks := by kernel_rfl
theorem tfn_law_take : τ.tab.fn "_law_take" = some f_law_take := by kernel_rfl
theorem tme_Rules_init : τ.tab.me "Rules" "__init__" = some f_Rules_init := by kernel_rfl
theorem tfn_are_rules : τ.tab.fn "are_rules" = some f_are_rules := by kernel_rfl
theorem tfn_may_follow : τ.tab.fn "may_follow" = some f_may_follow := by kernel_rfl
theorem tfn_is_row : τ.tab.fn "is_row" = some f_is_row := by kernel_rfl
theorem tfn_is_list : τ.tab.fn "is_list" = some f_is_list := by kernel_rfl
theorem tfn_law_rows : τ.tab.fn "_law_rows" = some f_law_rows := by kernel_rfl
theorem txf_Gone : τ.tab.exf "Gone" = some (["time", "grain"] : List PySem.Str) := by kernel_rfl
theorem txf_InvalidRules : τ.tab.exf "InvalidRules" = some (["given"] : List PySem.Str) := by kernel_rfl
theorem txf_InvalidTime : τ.tab.exf "InvalidTime" = some (["given"] : List PySem.Str) := by kernel_rfl
theorem txf_InvalidWindow : τ.tab.exf "InvalidWindow" = some (["given"] : List PySem.Str) := by kernel_rfl
theorem txf_NoGrain : τ.tab.exf "NoGrain" = some (["grain"] : List PySem.Str) := by kernel_rfl
theorem tsub_Gone_Gone : τ.tab.sub "Gone" "Gone" = some true := by kernel_rfl
theorem tsub_Gone_InvalidTime : τ.tab.sub "Gone" "InvalidTime" = some false := by kernel_rfl
theorem tsub_Gone_InvalidWindow : τ.tab.sub "Gone" "InvalidWindow" = some false := by kernel_rfl
theorem tsub_InvalidRules_Gone : τ.tab.sub "InvalidRules" "Gone" = some false := by kernel_rfl
theorem tsub_InvalidRules_InvalidTime : τ.tab.sub "InvalidRules" "InvalidTime" = some false := by kernel_rfl
theorem tsub_InvalidRules_InvalidWindow : τ.tab.sub "InvalidRules" "InvalidWindow" = some false := by kernel_rfl
theorem tsub_InvalidTime_Gone : τ.tab.sub "InvalidTime" "Gone" = some false := by kernel_rfl
theorem tsub_InvalidTime_InvalidTime : τ.tab.sub "InvalidTime" "InvalidTime" = some true := by kernel_rfl
theorem tsub_InvalidTime_InvalidWindow : τ.tab.sub "InvalidTime" "InvalidWindow" = some false := by kernel_rfl
theorem tsub_InvalidWindow_Gone : τ.tab.sub "InvalidWindow" "Gone" = some false := by kernel_rfl
theorem tsub_InvalidWindow_InvalidTime : τ.tab.sub "InvalidWindow" "InvalidTime" = some false := by kernel_rfl
theorem tsub_InvalidWindow_InvalidWindow : τ.tab.sub "InvalidWindow" "InvalidWindow" = some true := by kernel_rfl
theorem tsub_NoGrain_Gone : τ.tab.sub "NoGrain" "Gone" = some false := by kernel_rfl
theorem tsub_NoGrain_InvalidTime : τ.tab.sub "NoGrain" "InvalidTime" = some false := by kernel_rfl
theorem tsub_NoGrain_InvalidWindow : τ.tab.sub "NoGrain" "InvalidWindow" = some false := by kernel_rfl
theorem tno_Rules_rows : τ.tab.noat "Rules" "rows" = true := by kernel_rfl
theorem txa_given : τ.tab.xat "given" = true := by kernel_rfl
theorem txa_grain : τ.tab.xat "grain" = true := by kernel_rfl
theorem txa_time : τ.tab.xat "time" = true := by kernel_rfl
end Lw
end

section
namespace Lw
open Mi
abbrev rn (n : Nat) (fi : FnI) (vs : List Mi.MV) (h : MH) : Res Mi.MV := Mi.run τ.tab n fi vs h
theorem mb {α β : Type} (x : M α) (f : α → M β) (h : MH) : M.bind x f h = (match x h with | .ok a h' => f a h' | .exc c n h' => .exc c n h' | .stuck => .stuck) := rfl
theorem mp {α : Type} (a : α) (h : MH) : (M.pure a : M α) h = .ok a h := rfl
theorem mst {α : Type} (h : MH) : (M.stuck : M α) h = .stuck := rfl
theorem run1 (n : Nat) (fi : FnI) (vs : List Mi.MV) (h : MH) : Mi.run τ.tab (n+1) fi vs h = (if vs.length = fi.np then (match exB τ.tab (Mi.run τ.tab n) fi.body { sl := vs.map some ++ List.replicate (fi.ns - fi.np) none, ex := none } h with
    | .ok (.ret v) h' => .ok v h'
    | .ok (.next _) h' => .ok .non h'
    | .exc c n _ h' => .exc c n h'
    | _ => .stuck) else .stuck) := rfl
/-- a value that isinstance may be asked of -/
def okV (h : MH) : Mi.MV → Prop
  | .int _ => True
  | .bl _ => True
  | .non => True
  | .str _ => True
  | .tup _ => True
  | .ref n => ∃ xs, h.get n = some (.lst xs)
  | _ => False
def cnt : Mi.MV → Bool
  | .int i => decide (0 ≤ i)
  | _ => false
def isIn : Mi.MV → Bool
  | .int _ => true
  | _ => false
theorem s14 (n : Nat) (v : Mi.MV) (h : MH) (o : okV h v) : rn (n+1) f_is_integer [v] h = .ok (.bl (isIn v)) h := by
  unfold rn
  cases v with
  | ref m => obtain ⟨xs, e⟩ := o; simp [run1, exB, exS, exH, evE, evEs, evT, evO, evI, mb, mp, mst, SR.of, opt, biM, isi1, isiAny, isCl, subTy, boolM, calmB, binM, cmpM, eqM, callM, argsOf, MEs.len, Env.set, PySem.sizeLine_eq, asgM, MT.hot, fnp_is_integer, fns_is_integer, fbo_is_integer, body_is_integer, isIn, e]
  | ty _ => exact o.elim
  | cls _ => exact o.elim
  | _ => simp [run1, exB, exS, exH, evE, evEs, evT, evO, evI, mb, mp, mst, SR.of, opt, biM, isi1, isiAny, isCl, subTy, boolM, calmB, binM, cmpM, eqM, callM, argsOf, MEs.len, Env.set, PySem.sizeLine_eq, asgM, MT.hot, fnp_is_integer, fns_is_integer, fbo_is_integer, body_is_integer, isIn]
theorem s13 (n : Nat) (v : Mi.MV) (h : MH) (o : okV h v) : rn (n+2) f_is_count [v] h = .ok (.bl (cnt v)) h := by
  have e := s14 n v h o
  unfold rn at e ⊢
  cases v with
  | ty _ => exact o.elim
  | cls _ => exact o.elim
  | _ => simp [run1, exB, exS, exH, evE, evEs, evT, evO, evI, mb, mp, mst, SR.of, opt, biM, isi1, isiAny, isCl, subTy, boolM, calmB, binM, cmpM, eqM, callM, argsOf, MEs.len, Env.set, PySem.sizeLine_eq, asgM, MT.hot, fnp_is_count, fns_is_count, fbo_is_count, body_is_count, tfn_is_integer, fnp_is_integer, e, isIn, cnt]
theorem s5 (n : Nat) (v : Mi.MV) (h : MH) (o : okV h v) : rn (n+1) f_law_is_count [v] h = .ok (.bl (cnt v)) h := by
  unfold rn
  cases v with
  | ref m => obtain ⟨xs, e⟩ := o; simp [run1, exB, exS, exH, evE, evEs, evT, evO, evI, mb, mp, mst, SR.of, opt, biM, isi1, isiAny, isCl, subTy, boolM, calmB, binM, cmpM, eqM, callM, argsOf, MEs.len, Env.set, PySem.sizeLine_eq, asgM, MT.hot, fnp_law_is_count, fns_law_is_count, fbo_law_is_count, body_law_is_count, cnt, e]
  | ty _ => exact o.elim
  | cls _ => exact o.elim
  | _ => simp [run1, exB, exS, exH, evE, evEs, evT, evO, evI, mb, mp, mst, SR.of, opt, biM, isi1, isiAny, isCl, subTy, boolM, calmB, binM, cmpM, eqM, callM, argsOf, MEs.len, Env.set, PySem.sizeLine_eq, asgM, MT.hot, fnp_law_is_count, fns_law_is_count, fbo_law_is_count, body_law_is_count, cnt]
/-- check_time -/
theorem s12 (n : Nat) (v : Mi.MV) (h : MH) (o : okV h v) : rn (n+3) f_check_time [v] h = (if cnt v = true then .ok .non h else .exc "InvalidTime" h.next (h.new (.exc "InvalidTime" [("given", v)]))) := by
  have e := s13 n v h o
  unfold rn at e ⊢
  cases c : cnt v <;> simp [run1, exB, exS, exH, evE, evEs, evT, evO, evI, mb, mp, mst, SR.of, opt, biM, isi1, isiAny, isCl, subTy, boolM, calmB, binM, cmpM, eqM, callM, argsOf, MEs.len, Env.set, PySem.sizeLine_eq, asgM, MT.hot, fnp_check_time, fns_check_time, fbo_check_time, body_check_time, tfn_is_count, fnp_is_count, e, c, txf_InvalidTime]

/-! ### the rules' object -/
def kv : Option Int → Mi.MV
  | none => .non
  | some k => .int k
def enc (p : Int × Option Int) : Mi.MV := .tup [.int p.1, kv p.2]
def isR (h : MH) (r : Nat) (R : List (Int × Option Int)) : Prop := h.get r = some (.ins "Rules" [("rows", .tup (R.map enc))])
def gok (R : List (Int × Option Int)) : Mi.MV → Bool
  | .int i => decide (0 ≤ i) && decide (i < R.length)
  | _ => false
theorem lk_cg (x : Mi.MV) : List.lookup ("check_grain" : PySem.Str) [("rows", x)] = none := by
  rw [List.lookup_cons, show (("check_grain" : PySem.Str) == "rows") = false by decide +kernel]; rfl
theorem lk_len (x : Mi.MV) : List.lookup ("length" : PySem.Str) [("rows", x)] = none := by
  rw [List.lookup_cons, show (("length" : PySem.Str) == "rows") = false by decide +kernel]; rfl
theorem lk_keep (x : Mi.MV) : List.lookup ("keep" : PySem.Str) [("rows", x)] = none := by
  rw [List.lookup_cons, show (("keep" : PySem.Str) == "rows") = false by decide +kernel]; rfl
theorem lk_step (x : Mi.MV) : List.lookup ("step" : PySem.Str) [("rows", x)] = none := by
  rw [List.lookup_cons, show (("step" : PySem.Str) == "rows") = false by decide +kernel]; rfl
theorem lk_edge (x : Mi.MV) : List.lookup ("edge" : PySem.Str) [("rows", x)] = none := by
  rw [List.lookup_cons, show (("edge" : PySem.Str) == "rows") = false by decide +kernel]; rfl
theorem s16 (n r : Nat) (g : Mi.MV) (R : List (Int × Option Int)) (h : MH) (hr : isR h r R) (o : okV h g) :
    rn (n+3) f_Rules_check_grain [.ref r, g] h = (if gok R g = true then .ok .non h else .exc "NoGrain" h.next (h.new (.exc "NoGrain" [("grain", g)]))) := by
  have e := s13 n g h o
  unfold isR at hr
  unfold rn at e ⊢
  cases c : cnt g with
  | false =>
    have hg : gok R g = false := by
      cases g <;> first | rfl | (simp [cnt] at c; simp [gok]; omega)
    simp [run1, exB, exS, exH, evE, evEs, evT, evO, evI, mb, mp, mst, SR.of, opt, biM, isi1, isiAny, isCl, subTy, boolM, calmB, binM, cmpM, eqM, callM, argsOf, MEs.len, Env.set, PySem.sizeLine_eq, asgM, MT.hot, fnp_Rules_check_grain, fns_Rules_check_grain, fbo_Rules_check_grain, body_Rules_check_grain, tfn_is_count, fnp_is_count, e, c, txf_NoGrain, hg]
  | true =>
    cases g <;> try (simp [cnt] at c; done)
    rename_i i
    have c' : 0 ≤ i := by simpa [cnt] using c
    by_cases hi : i < R.length
    · have hg : gok R (.int i) = true := by simp [gok, c', hi]
      have hn : ¬ (R.length : Int) ≤ i := by omega
      simp [run1, exB, exS, exH, evE, evEs, evT, evO, evI, mb, mp, mst, SR.of, opt, biM, isi1, isiAny, isCl, subTy, boolM, calmB, binM, cmpM, eqM, callM, argsOf, MEs.len, Env.set, PySem.sizeLine_eq, asgM, MT.hot, fnp_Rules_check_grain, fns_Rules_check_grain, fbo_Rules_check_grain, body_Rules_check_grain, tfn_is_count, fnp_is_count, e, c, txf_NoGrain, hg, fldM, hr, tno_Rules_rows, asSeq, hn, hi]
    · have hg : gok R (.int i) = false := by simp [gok, c', hi]
      have hn : (R.length : Int) ≤ i := by omega
      simp [run1, exB, exS, exH, evE, evEs, evT, evO, evI, mb, mp, mst, SR.of, opt, biM, isi1, isiAny, isCl, subTy, boolM, calmB, binM, cmpM, eqM, callM, argsOf, MEs.len, Env.set, PySem.sizeLine_eq, asgM, MT.hot, fnp_Rules_check_grain, fns_Rules_check_grain, fbo_Rules_check_grain, body_Rules_check_grain, tfn_is_count, fnp_is_count, e, c, txf_NoGrain, hg, fldM, hr, tno_Rules_rows, asSeq, hn, hi]
theorem idx_ok {n : Nat} {i : Int} (h0 : 0 ≤ i) (h1 : i < n) : Mi.idx n i = some i.toNat := by
  unfold Mi.idx L2.ixN
  rw [if_pos h0, if_pos h1]
abbrev row (R : List (Int × Option Int)) (i : Int) : Int × Option Int := (R[i.toNat]?).getD (1, none)
theorem sb {R : List (Int × Option Int)} {i : Int} {h : MH} (h0 : 0 ≤ i) (h1 : i < R.length) : subM (.tup (R.map enc)) (.int i) h = .ok (enc (row R i)) h := by
  have hl : i.toNat < R.length := by omega
  have e : (Mi.idx (R.map enc).length i).bind (fun j => (R.map enc)[j]?) = some (enc (row R i)) := by
    rw [List.length_map, idx_ok h0 h1]
    simp [hl, row]
  unfold subM asSeq
  simp only [e]
theorem sb0 {p : Int × Option Int} {h : MH} : subM (enc p) (.int 0) h = .ok (.int p.1) h := rfl
theorem sb1 {p : Int × Option Int} {h : MH} : subM (enc p) (.int 1) h = .ok (kv p.2) h := rfl
theorem gok_int {R : List (Int × Option Int)} {i : Int} (h : gok R (.int i) = true) : 0 ≤ i ∧ i < R.length := by simpa [gok] using h
theorem gok_ex {R : List (Int × Option Int)} {g : Mi.MV} (h : gok R g = true) : ∃ i, g = .int i ∧ 0 ≤ i ∧ i < R.length := by
  cases g <;> try (simp [gok] at h; done)
  exact ⟨_, rfl, gok_int h⟩
theorem ix0 {a b : Mi.MV} : (Mi.idx ([a, b] : List Mi.MV).length 0).bind (fun j => ([a, b] : List Mi.MV)[j]?) = some a := rfl
theorem ix1 {a b : Mi.MV} : (Mi.idx ([a, b] : List Mi.MV).length 1).bind (fun j => ([a, b] : List Mi.MV)[j]?) = some b := rfl
def vi : Mi.MV → Int
  | .int i => i
  | _ => 0
theorem vi_int (k : Int) : vi (.int k) = k := rfl
def noG (h : MH) (g : Mi.MV) : Res Mi.MV := .exc "NoGrain" h.next (h.new (.exc "NoGrain" [("grain", g)]))
def noT (h : MH) (g : Mi.MV) : Res Mi.MV := .exc "InvalidTime" h.next (h.new (.exc "InvalidTime" [("given", g)]))
section
variable {n r : Nat} {g : Mi.MV} {R : List (Int × Option Int)} {h : MH}
theorem s19 (hr : isR h r R) (o : okV h g) : rn (n+4) f_Rules_keep [.ref r, g] h = (if gok R g = true then .ok (kv (row R (vi g)).2) h else noG h g) := by
  have e := s16 n r g R h hr o
  unfold isR at hr
  unfold rn at e ⊢
  cases c : gok R g with
  | true =>
    obtain ⟨i, rfl, h0, h1⟩ := gok_ex c
    have a := sb (h := h) h0 h1
    rw [c] at e
    simp [run1, exB, exS, exH, evE, evEs, evT, evO, evI, mb, mp, mst, SR.of, opt, biM, isi1, isiAny, isCl, subTy, boolM, calmB, binM, cmpM, eqM, callM, argsOf, MEs.len, Env.set, PySem.sizeLine_eq, asgM, MT.hot, fnp_Rules_keep, fns_Rules_keep, fbo_Rules_keep, body_Rules_keep, tme_Rules_check_grain, fnp_Rules_check_grain, methM, hr, lk_cg, e, fldM, tno_Rules_rows, a, sb1, vi_int]
  | false =>
    rw [c] at e
    simp [run1, exB, exS, exH, evE, evEs, evT, evO, evI, mb, mp, mst, SR.of, opt, biM, isi1, isiAny, isCl, subTy, boolM, calmB, binM, cmpM, eqM, callM, argsOf, MEs.len, Env.set, PySem.sizeLine_eq, asgM, MT.hot, fnp_Rules_keep, fns_Rules_keep, fbo_Rules_keep, body_Rules_keep, tme_Rules_check_grain, fnp_Rules_check_grain, methM, hr, lk_cg, e, noG, c]
def stp (R : List (Int × Option Int)) (i : Int) : Int := (row R (if (R.length : Int) - 1 < i + 1 then (R.length : Int) - 1 else i + 1)).1
theorem s18 (hr : isR h r R) (o : okV h g) : rn (n+4) f_Rules_step [.ref r, g] h = (if gok R g = true then .ok (.int (stp R (vi g))) h else noG h g) := by
  have e := s16 n r g R h hr o
  unfold isR at hr
  unfold rn at e ⊢
  cases c : gok R g with
  | true =>
    obtain ⟨i, rfl, h0, h1⟩ := gok_ex c
    have a := sb (R := R) (h := h) (i := if (R.length : Int) - 1 < i + 1 then (R.length : Int) - 1 else i + 1) (by split <;> omega) (by split <;> omega)
    rw [c] at e
    simp [run1, exB, exS, exH, evE, evEs, evT, evO, evI, mb, mp, mst, SR.of, opt, biM, isi1, isiAny, isCl, subTy, boolM, calmB, binM, cmpM, eqM, callM, argsOf, MEs.len, Env.set, PySem.sizeLine_eq, asgM, MT.hot, fnp_Rules_step, fns_Rules_step, fbo_Rules_step, body_Rules_step, tme_Rules_check_grain, fnp_Rules_check_grain, methM, hr, lk_cg, e, fldM, tno_Rules_rows, asSeq, a, sb0, stp, vi_int] <;> rfl
  | false =>
    rw [c] at e
    simp [run1, exB, exS, exH, evE, evEs, evT, evO, evI, mb, mp, mst, SR.of, opt, biM, isi1, isiAny, isCl, subTy, boolM, calmB, binM, cmpM, eqM, callM, argsOf, MEs.len, Env.set, PySem.sizeLine_eq, asgM, MT.hot, fnp_Rules_step, fns_Rules_step, fbo_Rules_step, body_Rules_step, tme_Rules_check_grain, fnp_Rules_check_grain, methM, hr, lk_cg, e, noG, c]

def edg (R : List (Int × Option Int)) (i c : Int) : Int := match (row R i).2 with
  | none => 0
  | some k => if c < k then 0 else (c - k) / stp R i * stp R i
structure GP (R : List (Int × Option Int)) : Prop where
  pos : ∀ p ∈ R, 0 < p.1 ∧ p.1 < 2 ^ 60
theorem row_mem {i : Int} (h0 : 0 ≤ i) (h1 : i < R.length) : row R i ∈ R := by
  have hl : i.toNat < R.length := by omega
  simp [row, hl]
theorem small_of {i : Int} (h : 0 < i ∧ i < 2 ^ 60) : small i := by unfold small; omega
theorem log_of {i : Int} (h : 0 < i ∧ i < 2 ^ 60) : i.natAbs.log2 < 9000 := by
  have h1 : i.natAbs < 2 ^ 60 := by omega
  have h2 : i.natAbs ≠ 0 := by omega
  have : i.natAbs.log2 < 60 := (Nat.log2_lt h2).mpr h1
  omega
theorem stp_pos (gp : GP R) {i : Int} (h0 : 0 ≤ i) (h1 : i < R.length) : 0 < stp R i ∧ stp R i < 2 ^ 60 := by
  unfold stp
  exact gp.pos _ (row_mem (by split <;> omega) (by split <;> omega))
theorem s21 (gp : GP R) (hr : isR h r R) (o : okV h g) {c : Mi.MV} (oc : okV h c) : rn (n+5) f_Rules_edge [.ref r, g, c] h =
    (if gok R g = true then (if cnt c = true then .ok (.int (edg R (vi g) (vi c))) h else noT h c) else noG h g) := by
  have e1 := s19 (n := n) hr o
  have e2 := s18 (n := n) hr o
  have e3 := s12 (n+1) c h oc
  unfold isR at hr
  unfold rn at e1 e2 e3 ⊢
  cases gg : gok R g with
  | false =>
    rw [gg] at e1
    simp [run1, exB, exS, exH, evE, evEs, evT, evO, evI, mb, mp, mst, SR.of, opt, biM, isi1, isiAny, isCl, subTy, boolM, calmB, binM, cmpM, eqM, callM, argsOf, MEs.len, Env.set, PySem.sizeLine_eq, asgM, MT.hot, fnp_Rules_edge, fns_Rules_edge, fbo_Rules_edge, body_Rules_edge, tme_Rules_keep, fnp_Rules_keep, tme_Rules_step, fnp_Rules_step, methM, hr, lk_keep, lk_step, e1, e2, noG]
  | true =>
    obtain ⟨i, rfl, h0, h1⟩ := gok_ex gg
    rw [gg] at e1 e2
    simp only [if_true, vi_int] at e1 e2
    obtain ⟨p1, p2⟩ := stp_pos gp h0 h1
    have hs := small_of ⟨p1, p2⟩
    have hlg := log_of ⟨p1, p2⟩
    cases cc : cnt c with
    | false =>
      rw [cc] at e3
      simp [run1, exB, exS, exH, evE, evEs, evT, evO, evI, mb, mp, mst, SR.of, opt, biM, isi1, isiAny, isCl, subTy, boolM, calmB, binM, cmpM, eqM, callM, argsOf, MEs.len, Env.set, PySem.sizeLine_eq, asgM, MT.hot, fnp_Rules_edge, fns_Rules_edge, fbo_Rules_edge, body_Rules_edge, tme_Rules_keep, fnp_Rules_keep, tme_Rules_step, fnp_Rules_step, methM, hr, lk_keep, lk_step, e1, e2, tfn_check_time, fnp_check_time, e3, noT, noG, cc]
    | true =>
      cases c <;> try (simp [cnt] at cc; done)
      rename_i k
      rw [cc] at e3
      cases hk : (row R i).2 with
      | none => simp [run1, exB, exS, exH, evE, evEs, evT, evO, evI, mb, mp, mst, SR.of, opt, biM, isi1, isiAny, isCl, subTy, boolM, calmB, binM, cmpM, eqM, callM, argsOf, MEs.len, Env.set, PySem.sizeLine_eq, asgM, MT.hot, fnp_Rules_edge, fns_Rules_edge, fbo_Rules_edge, body_Rules_edge, tme_Rules_keep, fnp_Rules_keep, tme_Rules_step, fnp_Rules_step, methM, hr, lk_keep, lk_step, e1, e2, tfn_check_time, fnp_check_time, e3, kv, hk, edg, vi_int]
      | some q =>
        by_cases hq : k < q
        · simp [run1, exB, exS, exH, evE, evEs, evT, evO, evI, mb, mp, mst, SR.of, opt, biM, isi1, isiAny, isCl, subTy, boolM, calmB, binM, cmpM, eqM, callM, argsOf, MEs.len, Env.set, PySem.sizeLine_eq, asgM, MT.hot, fnp_Rules_edge, fns_Rules_edge, fbo_Rules_edge, body_Rules_edge, tme_Rules_keep, fnp_Rules_keep, tme_Rules_step, fnp_Rules_step, methM, hr, lk_keep, lk_step, e1, e2, tfn_check_time, fnp_check_time, e3, kv, hk, edg, hq, vi_int]
        · simp [run1, exB, exS, exH, evE, evEs, evT, evO, evI, mb, mp, mst, SR.of, opt, biM, isi1, isiAny, isCl, subTy, boolM, calmB, binM, cmpM, eqM, callM, argsOf, MEs.len, Env.set, PySem.sizeLine_eq, asgM, MT.hot, fnp_Rules_edge, fns_Rules_edge, fbo_Rules_edge, body_Rules_edge, tme_Rules_keep, fnp_Rules_keep, tme_Rules_step, fnp_Rules_step, methM, hr, lk_keep, lk_step, e1, e2, tfn_check_time, fnp_check_time, e3, kv, hk, edg, hq, p1, hlg, hs, vi_int]
theorem cnt_ex {v : Mi.MV} (h : cnt v = true) : ∃ k, v = .int k ∧ 0 ≤ k := by
  cases v <;> try (simp [cnt] at h; done)
  exact ⟨_, rfl, by simpa [cnt] using h⟩
theorem s20 (gp : GP R) (hr : isR h r R) (o : okV h g) {t c : Mi.MV} (ot : okV h t) (oc : okV h c) : rn (n+6) f_Rules_stands [.ref r, g, t, c] h =
    (if gok R g = true then (if cnt t = true then (if cnt c = true then .ok (.bl (decide (edg R (vi g) (vi c) ≤ vi t))) h else noT h c) else noT h t) else noG h g) := by
  have e1 := s16 (n+2) r g R h hr o
  have e2 := s12 (n+2) t h ot
  have e3 := s21 (n := n) gp hr o oc
  unfold isR at hr
  unfold rn at e1 e2 e3 ⊢
  cases gg : gok R g with
  | false =>
    rw [gg] at e1
    simp [run1, exB, exS, exH, evE, evEs, evT, evO, evI, mb, mp, mst, SR.of, opt, biM, isi1, isiAny, isCl, subTy, boolM, calmB, binM, cmpM, eqM, callM, argsOf, MEs.len, Env.set, PySem.sizeLine_eq, asgM, MT.hot, fnp_Rules_stands, fns_Rules_stands, fbo_Rules_stands, body_Rules_stands, tme_Rules_check_grain, fnp_Rules_check_grain, methM, hr, lk_cg, e1, noG]
  | true =>
    rw [gg] at e1 e3
    cases ct : cnt t with
    | false =>
      rw [ct] at e2
      simp [run1, exB, exS, exH, evE, evEs, evT, evO, evI, mb, mp, mst, SR.of, opt, biM, isi1, isiAny, isCl, subTy, boolM, calmB, binM, cmpM, eqM, callM, argsOf, MEs.len, Env.set, PySem.sizeLine_eq, asgM, MT.hot, fnp_Rules_stands, fns_Rules_stands, fbo_Rules_stands, body_Rules_stands, tme_Rules_check_grain, fnp_Rules_check_grain, methM, hr, lk_cg, e1, noG, noT, tfn_check_time, fnp_check_time, e2]
    | true =>
      rw [ct] at e2
      obtain ⟨k, rfl, hk⟩ := cnt_ex ct
      cases cc : cnt c with
      | false =>
        rw [cc] at e3
        simp only [if_true, Bool.false_eq_true, if_false, noT] at e3
        simp [run1, exB, exS, exH, evE, evEs, evT, evO, evI, mb, mp, mst, SR.of, opt, biM, isi1, isiAny, isCl, subTy, boolM, calmB, binM, cmpM, eqM, callM, argsOf, MEs.len, Env.set, PySem.sizeLine_eq, asgM, MT.hot, fnp_Rules_stands, fns_Rules_stands, fbo_Rules_stands, body_Rules_stands, tme_Rules_check_grain, fnp_Rules_check_grain, methM, hr, lk_cg, e1, noG, noT, tfn_check_time, fnp_check_time, e2, tme_Rules_edge, fnp_Rules_edge, lk_edge, e3]
      | true =>
        rw [cc] at e3
        simp only [if_true] at e3
        simp [run1, exB, exS, exH, evE, evEs, evT, evO, evI, mb, mp, mst, SR.of, opt, biM, isi1, isiAny, isCl, subTy, boolM, calmB, binM, cmpM, eqM, callM, argsOf, MEs.len, Env.set, PySem.sizeLine_eq, asgM, MT.hot, fnp_Rules_stands, fns_Rules_stands, fbo_Rules_stands, body_Rules_stands, tme_Rules_check_grain, fnp_Rules_check_grain, methM, hr, lk_cg, e1, noG, noT, tfn_check_time, fnp_check_time, e2, tme_Rules_edge, fnp_Rules_edge, lk_edge, e3, vi_int] <;> rfl
def gonev (R : List (Int × Option Int)) (i t : Int) : Mi.MV := match (row R i).2 with
  | none => .non
  | some k => .int (k + (t / stp R i + 1) * stp R i)
end
end Lw
end

section
namespace Lw
open Mi
/-! ### draws -/
structure isB (h : MH) (b : Nat) (N : Int) : Prop where
  lt : b < h.next
  ex : ∃ (g : Int) (big : Bool) (m c : Int), h.get b = some (.lst [.int g, .bl big, .int m, .int c]) ∧ 0 ≤ m ∧ m < 2147483629 ∧ 0 ≤ c ∧ c ≤ N
/-- all but b stays -/
structure Kp (b : Nat) (h h' : MH) : Prop where
  nx : h.next ≤ h'.next
  st : ∀ m, m < h.next → m ≠ b → h'.get m = h.get m
theorem Kp.refl {b : Nat} {h : MH} : Kp b h h := ⟨Nat.le_refl _, fun _ _ _ => rfl⟩
theorem Kp.trans {b : Nat} {h h1 h2 : MH} (a : Kp b h h1) (c : Kp b h1 h2) : Kp b h h2 := ⟨Nat.le_trans a.nx c.nx, fun m l n => (c.st m (Nat.lt_of_lt_of_le l a.nx) n).trans (a.st m l n)⟩
theorem Kp.put {b : Nat} {h : MH} {o : MO} : Kp b h (h.put b o) := ⟨Nat.le_refl _, fun m _ n => MH.put_ne n⟩
theorem mg {b : Nat} {o : MO} {h : MH} : (h.put b o).next = h.next := rfl
theorem s24 {n b : Nat} {h : MH} {N many : Int} (B : isB h b N) (hN : N < 2 ^ 32) (h0 : 0 < many) (h1 : many < 2 ^ 60) : ∃ d h', rn (n+1) f_law_take [.ref b, .int many] h = .ok (.int d) h' ∧ 0 ≤ d ∧ d < many ∧ isB h' b (N + 1) ∧ Kp b h h' := by
  obtain ⟨hl, g, big, m, c, e, m0, m1, c0, c1⟩ := B
  have hlg := log_of ⟨h0, h1⟩
  by_cases hb : big = true ∧ 0 < g
  · obtain ⟨rfl, hg⟩ := hb
    refine ⟨g % many, h.put b (.lst [.int (g / many), .bl true, .int m, .int c]), ?_, Int.emod_nonneg _ (by omega), Int.emod_lt_of_pos _ h0, ⟨hl, _, _, _, _, MH.put_same, m0, m1, c0, by omega⟩, Kp.put⟩
    unfold rn
    simp [run1, exB, exS, exH, evE, evEs, evT, evO, evI, mb, mp, mst, SR.of, opt, biM, isi1, isiAny, isCl, subTy, boolM, calmB, binM, cmpM, eqM, callM, argsOf, MEs.len, Env.set, PySem.sizeLine_eq, asgM, MT.hot, fnp_law_take, fns_law_take, fbo_law_take, body_law_take, subM, setSubM, asSeq, asList, e, Mi.idx, L2.ixN, hg, h0, hlg]
  · have q5 : (m + 15485863 * (c + 1) + 179424673).natAbs < 18446744073709551616 := by omega
    generalize hx : (m + 15485863 * (c + 1) + 179424673) ^ 5 % 2147483647 = x
    have x0 : 0 ≤ x := by rw [← hx]; exact Int.emod_nonneg _ (by decide)
    have x1 : x < 2147483647 := by rw [← hx]; exact Int.emod_lt_of_pos _ (by decide)
    have q3 : (x * 48271 + 104729 * (c + 1)).natAbs < 18446744073709551616 := by omega
    refine ⟨(x * 48271 + 104729 * (c + 1)) ^ 3 % 2147483587 / 64 % many, h.put b (.lst [.int g, .bl big, .int m, .int (c + 1)]), ?_, Int.emod_nonneg _ (by omega), Int.emod_lt_of_pos _ h0, ⟨hl, _, _, _, _, MH.put_same, m0, m1, by omega, by omega⟩, Kp.put⟩
    have l64 : Nat.log2 64 = 6 := by decide +kernel
    unfold rn
    cases big with
    | false => simp [run1, exB, exS, exH, evE, evEs, evT, evO, evI, mb, mp, mst, SR.of, opt, biM, isi1, isiAny, isCl, subTy, boolM, calmB, binM, cmpM, eqM, callM, argsOf, MEs.len, Env.set, PySem.sizeLine_eq, asgM, MT.hot, fnp_law_take, fns_law_take, fbo_law_take, body_law_take, subM, setSubM, asSeq, asList, e, Mi.idx, L2.ixN, h0, hlg, q5, small, q3, hx, l64]
    | true =>
      have hg : ¬ 0 < g := fun z => hb ⟨rfl, z⟩
      simp [run1, exB, exS, exH, evE, evEs, evT, evO, evI, mb, mp, mst, SR.of, opt, biM, isi1, isiAny, isCl, subTy, boolM, calmB, binM, cmpM, eqM, callM, argsOf, MEs.len, Env.set, PySem.sizeLine_eq, asgM, MT.hot, fnp_law_take, fns_law_take, fbo_law_take, body_law_take, subM, setSubM, asSeq, asList, e, Mi.idx, L2.ixN, h0, hlg, q5, small, q3, hx, l64, hg]
end Lw
end

section
namespace Lw
open Mi
/-! ### cells, boxes -/
theorem cut1 (xs : List Mi.MV) : Mi.cut xs none (some 1) = xs.take 1 := by
  unfold Mi.cut HT.sIx
  cases xs <;> simp
theorem s2 {n : Nat} {h : MH} (g : Int) : ∃ h', rn (n+1) f_law_box [.int g] h = .ok (.ref h.next) h' ∧ isB h' h.next 0 ∧ h'.next = h.next + 1 ∧ ∀ m, m < h.next → h'.get m = h.get m := by
  refine ⟨h.new (.lst [.int (if g < 0 then -g else g), .bl (decide (10 ^ 18 ≤ (if g < 0 then -g else g))), .int ((if g < 0 then -g else g) % 2147483629), .int 0]), ?_, ⟨Nat.lt_succ_self _, _, _, _, _, MH.new_same, Int.emod_nonneg _ (by decide), Int.emod_lt_of_pos _ (by decide), by decide, by decide⟩, rfl, fun m hm => MH.new_ne (by omega)⟩
  unfold rn
  simp [run1, exB, exS, exH, evE, evEs, evT, evO, evI, mb, mp, mst, SR.of, opt, biM, isi1, isiAny, isCl, subTy, boolM, calmB, binM, cmpM, eqM, callM, argsOf, MEs.len, Env.set, PySem.sizeLine_eq, asgM, MT.hot, fnp_law_box, fns_law_box, fbo_law_box, body_law_box, newL]
/-! ### edges over the plain rows -/
def isL (h : MH) (l : Nat) (R : List (Int × Option Int)) : Prop := h.get l = some (.lst (R.map enc))
theorem sbl {h : MH} {l : Nat} {R : List (Int × Option Int)} {i : Int} (hl : isL h l R) (h0 : 0 ≤ i) (h1 : i < R.length) : subM (.ref l) (.int i) h = .ok (enc (row R i)) h := by
  have hz : i.toNat < R.length := by omega
  have e : (Mi.idx (R.map enc).length i).bind (fun j => (R.map enc)[j]?) = some (enc (row R i)) := by
    rw [List.length_map, idx_ok h0 h1]
    simp [hz, row]
  unfold isL at hl
  unfold subM asSeq asList
  simp only [hl, e]
section
variable {n l : Nat} {R : List (Int × Option Int)} {h : MH} {i : Int}
theorem s8 (hl : isL h l R) (h0 : 0 ≤ i) (h1 : i < R.length) : rn (n+1) f_law_step [.ref l, .int i] h = .ok (.int (stp R i)) h := by
  have a := sbl (i := if (R.length : Int) - 1 < i + 1 then (R.length : Int) - 1 else i + 1) hl (by split <;> omega) (by split <;> omega)
  unfold isL at hl
  unfold rn
  simp [run1, exB, exS, exH, evE, evEs, evT, evO, evI, mb, mp, mst, SR.of, opt, biM, isi1, isiAny, isCl, subTy, boolM, calmB, binM, cmpM, eqM, callM, argsOf, MEs.len, Env.set, PySem.sizeLine_eq, asgM, MT.hot, fnp_law_step, fns_law_step, fbo_law_step, body_law_step, asSeq, asList, hl, a, sb0, stp] <;> rfl
theorem s7 (gp : GP R) (hl : isL h l R) (h0 : 0 ≤ i) (h1 : i < R.length) (c : Int) : rn (n+2) f_law_edge [.ref l, .int i, .int c] h = .ok (.int (edg R i c)) h := by
  have e := s8 (n := n) hl h0 h1
  have a := sbl hl h0 h1
  obtain ⟨p1, p2⟩ := stp_pos gp h0 h1
  have hs := small_of ⟨p1, p2⟩
  have hlg := log_of ⟨p1, p2⟩
  unfold rn at e ⊢
  cases hk : (row R i).2 with
  | none => simp [run1, exB, exS, exH, evE, evEs, evT, evO, evI, mb, mp, mst, SR.of, opt, biM, isi1, isiAny, isCl, subTy, boolM, calmB, binM, cmpM, eqM, callM, argsOf, MEs.len, Env.set, PySem.sizeLine_eq, asgM, MT.hot, fnp_law_edge, fns_law_edge, fbo_law_edge, body_law_edge, a, sb1, tfn_law_step, fnp_law_step, e, kv, hk, edg]
  | some q =>
    by_cases hq : c < q
    · simp [run1, exB, exS, exH, evE, evEs, evT, evO, evI, mb, mp, mst, SR.of, opt, biM, isi1, isiAny, isCl, subTy, boolM, calmB, binM, cmpM, eqM, callM, argsOf, MEs.len, Env.set, PySem.sizeLine_eq, asgM, MT.hot, fnp_law_edge, fns_law_edge, fbo_law_edge, body_law_edge, a, sb1, tfn_law_step, fnp_law_step, e, kv, hk, edg, hq]
    · simp [run1, exB, exS, exH, evE, evEs, evT, evO, evI, mb, mp, mst, SR.of, opt, biM, isi1, isiAny, isCl, subTy, boolM, calmB, binM, cmpM, eqM, callM, argsOf, MEs.len, Env.set, PySem.sizeLine_eq, asgM, MT.hot, fnp_law_edge, fns_law_edge, fbo_law_edge, body_law_edge, a, sb1, tfn_law_step, fnp_law_step, e, kv, hk, edg, hq, p1, hlg, hs]
end
end Lw
end

section
namespace Lw
open Mi
open PySem (PyData)
/-! ### repr -/
structure RD (h : MH) (v : Mi.MV) (d : PyData) (m : Nat) : Prop where
  td : ∀ k, m ≤ k → toD h k v = some d
  sh : d.showable = true
  ls : d.leavesShort 30 = true
structure RDs (h : MH) (vs : List Mi.MV) (ds : List PyData) (m : Nat) : Prop where
  td : ∀ k, m ≤ k → toDs h k vs = some ds
  sh : PyData.showableAll ds = true
  ls : PyData.leavesShortAll 30 ds = true
theorem rep {h : MH} {v : Mi.MV} {d : PyData} {m : Nat} (r : RD h v d m) (hm : m ≤ 1000) (hw : d.weight ≤ 100000) (hd : d.depth ≤ 1000) : biM τ.tab .repr [v] h = Res.ok (Mi.MV.str d.shown) h := by
  have e := r.td dpt (by unfold dpt; omega)
  have hl := PyData.shown_le 30 (by decide) d r.ls
  have hz : d.shown.length ≤ PySem.sizeLine := by rw [PySem.sizeLine_eq]; omega
  show (match toD h dpt v with
    | some d => if d.showable = true ∧ d.shown.length ≤ PySem.sizeLine ∧ d.depth ≤ 1000 then Res.ok (Mi.MV.str d.shown) h else Res.stuck
    | none => Res.stuck) = _
  rw [e]
  simp only [r.sh, hz, hd, and_self, if_true]
section
variable {h : MH}
theorem rd_non : RD h .non .none 1 := ⟨fun k hk => by obtain ⟨j, rfl⟩ : ∃ j, k = j + 1 := ⟨k - 1, by omega⟩; unfold toD; rfl, rfl, rfl⟩
theorem rd_bl (b : Bool) : RD h (.bl b) (.bool b) 1 := ⟨fun k hk => by obtain ⟨j, rfl⟩ : ∃ j, k = j + 1 := ⟨k - 1, by omega⟩; unfold toD; rfl, rfl, rfl⟩
theorem rd_int (i : Int) (hi : i.natAbs < 10 ^ 20) : RD h (.int i) (.int i) 1 := by
  refine ⟨fun k hk => by obtain ⟨j, rfl⟩ : ∃ j, k = j + 1 := ⟨k - 1, by omega⟩; unfold toD; rfl, ?_, ?_⟩
  · have : i.natAbs.log2 < 1920 := by
      by_cases hz : i.natAbs = 0
      · rw [hz]; decide
      · refine (Nat.log2_lt hz).mpr (Nat.lt_of_lt_of_le hi ?_)
        exact Nat.le_trans (by decide : 10 ^ 20 ≤ 2 ^ 70) (Nat.pow_le_pow_right (by decide) (by decide))
    simp only [PyData.showable, decide_eq_true_eq]; exact this
  · have e := PySem.int_text_length_le10 (k := 20) (by decide) hi
    simp only [PyData.leavesShort, decide_eq_true_eq]
    show (PySem.Str.ofString (toString i)).length ≤ 30
    rw [PySem.ofString_length]
    omega
theorem rd_str (x : PySem.Str) (hx : ∀ c ∈ x.cps.toList, c < 16 ^ 8) : RD h (.str x) (.str x) 1 := ⟨fun k hk => by obtain ⟨j, rfl⟩ : ∃ j, k = j + 1 := ⟨k - 1, by omega⟩; unfold toD; rfl, rfl, by simpa only [PyData.leavesShort, List.all_eq_true, decide_eq_true_eq] using hx⟩
theorem rds_nil : RDs h [] [] 0 := ⟨fun k _ => by cases k <;> (unfold toDs; rfl), rfl, rfl⟩
theorem rds_cons {v : Mi.MV} {vs : List Mi.MV} {d : PyData} {ds : List PyData} {m : Nat} (a : RD h v d m) (b : RDs h vs ds m) : RDs h (v :: vs) (d :: ds) (m + 1) := by
  refine ⟨fun k hk => ?_, by simp only [PyData.showableAll, a.sh, b.sh, Bool.and_self], by simp only [PyData.leavesShortAll, a.ls, b.ls, Bool.and_self]⟩
  obtain ⟨j, rfl⟩ : ∃ j, k = j + 1 := ⟨k - 1, by omega⟩
  unfold toDs
  rw [a.td j (by omega), b.td j (by omega)]
theorem RD.up {v : Mi.MV} {d : PyData} {m m' : Nat} (a : RD h v d m) (e : m ≤ m') : RD h v d m' := ⟨fun k hk => a.td k (by omega), a.sh, a.ls⟩
theorem RDs.up {v : List Mi.MV} {d : List PyData} {m m' : Nat} (a : RDs h v d m) (e : m ≤ m') : RDs h v d m' := ⟨fun k hk => a.td k (by omega), a.sh, a.ls⟩
theorem rd_tup {vs : List Mi.MV} {ds : List PyData} {m : Nat} (a : RDs h vs ds m) : RD h (.tup vs) (.tuple ds) (m + 1) := by
  refine ⟨fun k hk => ?_, by simp only [PyData.showable, a.sh], by simp only [PyData.leavesShort, a.ls]⟩
  obtain ⟨j, rfl⟩ : ∃ j, k = j + 1 := ⟨k - 1, by omega⟩
  unfold toD
  rw [a.td j (by omega)]; rfl
theorem rd_lst {n : Nat} {vs : List Mi.MV} {ds : List PyData} {m : Nat} (e : h.get n = some (.lst vs)) (a : RDs h vs ds m) : RD h (.ref n) (.list ds) (m + 1) := by
  refine ⟨fun k hk => ?_, by simp only [PyData.showable, a.sh], by simp only [PyData.leavesShort, a.ls]⟩
  obtain ⟨j, rfl⟩ : ∃ j, k = j + 1 := ⟨k - 1, by omega⟩
  unfold toD
  simp only [e, a.td j (by omega)]; rfl
end
end Lw
end

section
namespace Lw
open Mi
/-! ### gone_right -/
section
variable {n l : Nat} {R : List (Int × Option Int)} {h : MH} {i t : Int}
theorem gone_math {k s t : Int} (hs : 0 < s) (hk : 0 < k) (ht : 0 ≤ t) : 0 ≤ k + (t / s + 1) * s ∧ ¬ k + (t / s + 1) * s = 0 ∧ ¬ (k + (t / s + 1) * s - 1 < k) ∧ (k + (t / s + 1) * s - 1 - k) / s * s ≤ t ∧ ¬ (k + (t / s + 1) * s < k) ∧ t < (k + (t / s + 1) * s - k) / s * s := by
  have q0 : 0 ≤ t / s := Int.ediv_nonneg ht (by omega)
  have e1 : (t / s + 1) * s = t / s * s + s := by rw [Int.add_mul, Int.one_mul]
  have e2 := Int.mul_ediv_add_emod t s
  have m0 := Int.emod_nonneg t (show s ≠ 0 by omega)
  have m1 := Int.emod_lt_of_pos t hs
  have e3 : t / s * s = s * (t / s) := Int.mul_comm _ _
  have p0 : 0 ≤ t / s * s := Int.mul_nonneg q0 (by omega)
  have e4 : (k + (t / s + 1) * s - 1 - k) / s = t / s := by
    rw [show k + (t / s + 1) * s - 1 - k = (s - 1) + (t / s) * s by rw [e1]; omega, Int.add_mul_ediv_right _ _ (by omega), Int.ediv_eq_zero_of_lt (by omega) (by omega)]
    omega
  have e5 : (k + (t / s + 1) * s - k) / s = t / s + 1 := by
    rw [show k + (t / s + 1) * s - k = (t / s + 1) * s by omega, Int.mul_ediv_cancel _ (by omega)]
  rw [e4, e5, e1]
  refine ⟨by omega, by omega, by omega, by omega, by omega, by omega⟩
structure GK (R : List (Int × Option Int)) : Prop extends GP R where
  kp : ∀ p ∈ R, ∀ k, p.2 = some k → 0 < k ∧ k < 2 ^ 60
end
end Lw
end

section
namespace Lw
open Mi
/-! ### which rows are rules -/
theorem s29l {n l : Nat} {xs : List Mi.MV} {h : MH} (e : h.get l = some (.lst xs)) : rn (n+1) f_is_list [.ref l] h = .ok (.bl true) h := by
  unfold rn
  simp [run1, exB, exS, exH, evE, evEs, evT, evO, evI, mb, mp, mst, SR.of, opt, biM, isi1, isiAny, isCl, subTy, boolM, calmB, binM, cmpM, eqM, callM, argsOf, MEs.len, Env.set, PySem.sizeLine_eq, asgM, MT.hot, fnp_is_list, fns_is_list, fbo_is_list, body_is_list, e]
theorem s29t {n : Nat} {xs : List Mi.MV} {h : MH} : rn (n+1) f_is_list [.tup xs] h = .ok (.bl true) h := by
  unfold rn
  simp [run1, exB, exS, exH, evE, evEs, evT, evO, evI, mb, mp, mst, SR.of, opt, biM, isi1, isiAny, isCl, subTy, boolM, calmB, binM, cmpM, eqM, callM, argsOf, MEs.len, Env.set, PySem.sizeLine_eq, asgM, MT.hot, fnp_is_list, fns_is_list, fbo_is_list, body_is_list]
theorem s28 {n : Nat} {h : MH} {p : Int × Option Int} {lst : Bool} (h0 : 0 < p.1) (h1 : ∀ k, p.2 = some k → 0 < k) (h2 : p.2 = none → lst = true) : rn (n+3) f_is_row [enc p, .bl lst] h = .ok (.bl true) h := by
  obtain ⟨a, b⟩ := p
  have e1 := s13 n (.int a) h trivial
  unfold rn at e1 ⊢
  have c1 : cnt (.int a) = true := by simp [cnt]; simp at h0; omega
  have z : ¬ a = 0 := by simp at h0; omega
  have ix : Mi.idx 2 0 = some 0 := rfl
  have iy : Mi.idx 2 1 = some 1 := rfl
  cases b with
  | none =>
    have := h2 rfl
    subst this
    simp [run1, exB, exS, exH, evE, evEs, evT, evO, evI, mb, mp, mst, SR.of, opt, biM, isi1, isiAny, isCl, subTy, boolM, calmB, binM, cmpM, eqM, callM, argsOf, MEs.len, Env.set, PySem.sizeLine_eq, asgM, MT.hot, fnp_is_row, fns_is_row, fbo_is_row, body_is_row, enc, kv, subM, asSeq, tfn_is_count, fnp_is_count, e1, c1, z, ix, iy]
  | some k =>
    have hk := h1 k rfl
    have e2 := s13 n (.int k) h trivial
    unfold rn at e2
    have c2 : cnt (.int k) = true := by simp [cnt]; omega
    cases lst <;> simp [run1, exB, exS, exH, evE, evEs, evT, evO, evI, mb, mp, mst, SR.of, opt, biM, isi1, isiAny, isCl, subTy, boolM, calmB, binM, cmpM, eqM, callM, argsOf, MEs.len, Env.set, PySem.sizeLine_eq, asgM, MT.hot, fnp_is_row, fns_is_row, fbo_is_row, body_is_row, enc, kv, subM, asSeq, tfn_is_count, fnp_is_count, e1, c1, z, e2, c2, hk, ix, iy]
/-- p may follow q -/
def fol (p q : Int × Option Int) : Prop := p.1 % q.1 = 0 ∧ 2 * q.1 ≤ p.1 ∧ ∀ k, p.2 = some k → ∃ k', q.2 = some k' ∧ k' + p.1 ≤ k
theorem s27 {n : Nat} {h : MH} {p q : Int × Option Int} (hq : 0 < q.1) (hs : q.1 < 2 ^ 60) (f : fol p q) : rn (n+1) f_may_follow [enc p, enc q] h = .ok (.bl true) h := by
  obtain ⟨a, b⟩ := p
  obtain ⟨c, d⟩ := q
  obtain ⟨f1, f2, f3⟩ := f
  simp at hq f1 f2 f3 hs
  have ix : Mi.idx 2 0 = some 0 := rfl
  have iy : Mi.idx 2 1 = some 1 := rfl
  have g2 : ¬ a < 2 * c := by omega
  unfold rn
  cases b with
  | none => simp [run1, exB, exS, exH, evE, evEs, evT, evO, evI, mb, mp, mst, SR.of, opt, biM, isi1, isiAny, isCl, subTy, boolM, calmB, binM, cmpM, eqM, callM, argsOf, MEs.len, Env.set, PySem.sizeLine_eq, asgM, MT.hot, fnp_may_follow, fns_may_follow, fbo_may_follow, body_may_follow, enc, kv, subM, asSeq, ix, iy, hq, f1, g2, small]
  | some k =>
    obtain ⟨k', rfl, hk⟩ := f3 k rfl
    simp [run1, exB, exS, exH, evE, evEs, evT, evO, evI, mb, mp, mst, SR.of, opt, biM, isi1, isiAny, isCl, subTy, boolM, calmB, binM, cmpM, eqM, callM, argsOf, MEs.len, Env.set, PySem.sizeLine_eq, asgM, MT.hot, fnp_may_follow, fns_may_follow, fbo_may_follow, body_may_follow, enc, kv, subM, asSeq, ix, iy, hq, f1, g2, small, hk]

/-! ### comprehensions of truths -/
structure Same (r : Nat) (h0 h : MH) : Prop where
  nx : h.next = h0.next
  st : ∀ m, m ≠ r → h.get m = h0.get m
theorem put_self {h : MH} {r : Nat} {o : MO} (e : h.get r = some o) : h.put r o = h := by
  have : (fun m => if m = r then some o else h.get m) = h.get := by
    funext m
    by_cases hm : m = r
    · rw [if_pos hm, hm]; exact e.symm
    · rw [if_neg hm]
  unfold MH.put
  rw [this]
theorem put_put {h : MH} {r : Nat} {o o' : MO} : (h.put r o).put r o' = h.put r o' := by
  have : (fun m => if m = r then some o' else (h.put r o).get m) = fun m => if m = r then some o' else h.get m := by
    funext m
    by_cases hm : m = r
    · rw [if_pos hm, if_pos hm]
    · rw [if_neg hm, if_neg hm]; exact MH.put_ne hm
  unfold MH.put at this ⊢
  rw [this]
theorem Same.put {r : Nat} {h0 h : MH} {o : MO} (s : Same r h0 h) : Same r h0 (h.put r o) := ⟨s.nx, fun m hm => (MH.put_ne hm).trans (s.st m hm)⟩
theorem compL_gen {step : Mi.MV → M (Option Mi.MV)} {it : Mi.It} {r N : Nat} {h0 : MH} {items outs : Nat → Mi.MV} (hit : ∀ h i, Same r h0 h → i < N → it.at h i = some (some (items i))) (hend : ∀ h, Same r h0 h → it.at h N = some none)
    (hst : ∀ h i, Same r h0 h → i < N → step (items i) h = .ok (some (outs i)) h) : ∀ (k i : Nat) (h : MH) (acc : List Mi.MV), Same r h0 h → h.get r = some (.lst acc) → i + k = N → acc.length + k ≤ 16777216 →
    Mi.compL step it r k i h = .ok () (h.put r (.lst (acc ++ (List.range k).map fun j => outs (i + j))))
  | 0, i, h, acc, s, e, hk, _ => by
    have hi : i = N := by omega
    unfold Mi.compL
    rw [hi, hend h s]
    simp [put_self e]
  | k + 1, i, h, acc, s, e, hk, hz => by
    have hi : i < N := by omega
    unfold Mi.compL
    rw [hit h i s hi]
    simp only [mb, hst h i s hi, e]
    rw [if_pos (by rw [PySem.sizeLine_eq]; omega)]
    rw [compL_gen hit hend hst k (i + 1) (h.put r (.lst (acc ++ [outs i]))) (acc ++ [outs i]) s.put MH.put_same (by omega) (by simp; omega), put_put]
    congr 2
    rw [List.range_succ_eq_map, List.map_cons, List.map_map, List.append_assoc]
    simp [Function.comp, Nat.add_assoc, Nat.add_comm 1]
end Lw
end

section
namespace Lw
open Mi
theorem new_put {h : MH} {o o' : MO} : (h.new o).put h.next o' = h.new o' := by
  have : (fun m => if m = h.next then some o' else (h.new o).get m) = fun m => if m = h.next then some o' else h.get m := by
    funext m
    by_cases hm : m = h.next
    · rw [if_pos hm, if_pos hm]
    · rw [if_neg hm, if_neg hm]; exact MH.new_ne hm
  unfold MH.put
  rw [this]
  rfl
/-- the step of a comprehension -/
def stepC (C : CallF) (me : Mi.Env) (vs : List Nat) (t : CT) (c e : ME) : Mi.MV → M (Option Mi.MV) := fun v h => match setT h (wipeM me vs) v t with
  | some me' => quiet (M.bind (evT τ.tab C me' c) fun k => if k = true then M.bind (evE τ.tab C me' e) fun w => M.pure (some w) else M.pure none) h
  | none => .stuck
theorem evE_comp {C : CallF} {me : Mi.Env} {vs : List Nat} {t : CT} {it : MI} {c e : ME} : evE τ.tab C me (.comp vs t it c e) = if me.ex.isSome = true then M.stuck else M.bind (evI τ.tab C me it) fun J => fun h => M.bind (newL []) (fun r => match r with
    | .ref n => fun h' => M.bind (Mi.compL (stepC C me vs t c e) J n (J.size h) 0) (fun _ => M.pure (Mi.MV.ref n)) h'
    | _ => M.stuck) h := by
  unfold evE
  rfl
theorem comp_ok {C : CallF} {me : Mi.Env} {vs : List Nat} {t : CT} {it : MI} {c e : ME} {h : MH} {J : Mi.It} {N : Nat} {items outs : Nat → Mi.MV} (hex : me.ex = none) (hI : evI τ.tab C me it h = .ok J h) (hN : J.size h = N) (hz : N ≤ 16777216)
    (hit : ∀ h1 i, Same h.next (h.new (.lst [])) h1 → i < N → J.at h1 i = some (some (items i))) (hend : ∀ h1, Same h.next (h.new (.lst [])) h1 → J.at h1 N = some none)
    (hst : ∀ h1 i, Same h.next (h.new (.lst [])) h1 → i < N → stepC C me vs t c e (items i) h1 = .ok (some (outs i)) h1) :
    evE τ.tab C me (.comp vs t it c e) h = .ok (.ref h.next) (h.new (.lst ((List.range N).map outs))) := by
  have g := compL_gen hit hend hst N 0 (h.new (.lst [])) [] ⟨rfl, fun _ _ => rfl⟩ MH.new_same (by omega) (by simpa using hz)
  simp only [Nat.zero_add, List.nil_append, new_put] at g
  have hx : ¬ (me.ex.isSome = true) := by rw [hex]; simp
  rw [evE_comp, if_neg hx]
  have e0 : newL [] h = .ok (.ref h.next) (h.new (.lst [])) := by unfold newL; rw [if_pos (show ([] : List Mi.MV).length ≤ PySem.sizeLine from Nat.zero_le _)]
  rw [mb, hI]
  simp only [mb, e0, hN]
  rw [g]
  rfl
theorem bools_rep : ∀ n : Nat, boolsM ((List.range n).map fun _ => Mi.MV.bl true) = some (List.replicate n true) := by
  intro n
  rw [List.map_const', List.length_range]
  induction n with
  | zero => rfl
  | succ n ih => rw [List.replicate_succ, List.replicate_succ]; unfold boolsM; rw [ih]; rfl
theorem all_ok {h : MH} {r n : Nat} (e : h.get r = some (.lst ((List.range n).map fun _ => Mi.MV.bl true))) : biM τ.tab .all [.ref r] h = .ok (.bl true) h := by
  show (match (asList h (.ref r)).bind boolsM with
    | some ns => Res.ok (Mi.MV.bl (ns.all id)) h
    | none => Res.stuck) = _
  unfold asList
  simp only [e, Option.bind_some, bools_rep]
  simp
structure GR (R : List (Int × Option Int)) : Prop extends GK R where
  len : 1 ≤ R.length ∧ R.length ≤ 4
  fst : (row R 0).1 = 1
  non : ∀ i : Nat, i < R.length → (row R i).2 = none → i + 1 = R.length
  fo : ∀ i : Nat, 1 ≤ i → i < R.length → fol (row R i) (row R ((i : Int) - 1))
  bd : ∀ p ∈ R, p.1 < 2 ^ 40 ∧ ∀ k, p.2 = some k → k < 2 ^ 40
/-- the rows as a value -/
def isV (h : MH) (v : Mi.MV) (R : List (Int × Option Int)) : Prop := v = .tup (R.map enc) ∨ ∃ l, v = .ref l ∧ l < h.next ∧ isL h l R
theorem isV.seq {h : MH} {v : Mi.MV} {R : List (Int × Option Int)} (a : isV h v R) : asSeq h v = some (R.map enc) := by
  rcases a with rfl | ⟨l, rfl, _, e⟩
  · rfl
  · unfold isL at e
    unfold asSeq asList
    simp only [e]
theorem isV.sub {h : MH} {v : Mi.MV} {R : List (Int × Option Int)} {i : Int} (a : isV h v R) (h0 : 0 ≤ i) (h1 : i < R.length) : subM v (.int i) h = .ok (enc (row R i)) h := by
  rcases a with rfl | ⟨l, rfl, _, e⟩
  · exact sb h0 h1
  · exact sbl e h0 h1
theorem isV.same {h h1 : MH} {o : MO} {v : Mi.MV} {R : List (Int × Option Int)} (a : isV h v R) (s : Same h.next (h.new o) h1) : isV h1 v R := by
  rcases a with rfl | ⟨l, rfl, hl, e⟩
  · exact .inl rfl
  · refine .inr ⟨l, rfl, by rw [s.nx]; exact Nat.lt_succ_of_lt hl, ?_⟩
    unfold isL at e ⊢
    rw [s.st l (by omega), MH.new_ne (by omega), e]
theorem isV.len {h : MH} {v : Mi.MV} {R : List (Int × Option Int)} (a : isV h v R) : biM τ.tab .len [v] h = .ok (.int R.length) h := by
  have e := a.seq
  rcases a with rfl | ⟨l, rfl, _, _⟩
  · show (match asSeq h (.tup (R.map enc)) with | some xs => Res.ok (Mi.MV.int xs.length) h | none => Res.stuck) = _
    rw [e]; simp
  · show (match asSeq h (.ref l) with | some xs => Res.ok (Mi.MV.int xs.length) h | none => Res.stuck) = _
    rw [e]; simp
end Lw
end

section
namespace Lw
open Mi
end Lw
end

section
namespace Lw
open Mi
theorem run_at {n : Nat} {fi : FnI} {vs : List Mi.MV} {h : MH} (me : Mi.Env) (b : MSs) (hl : vs.length = fi.np) (hm : ({ sl := vs.map some ++ List.replicate (fi.ns - fi.np) none, ex := none } : Mi.Env) = me) (hb : fi.body = b) : Mi.run τ.tab (n+1) fi vs h = (match exB τ.tab (Mi.run τ.tab n) b me h with
    | .ok (.ret v) h' => .ok v h'
    | .ok (.next _) h' => .ok .non h'
    | .exc c n _ h' => .exc c n h'
    | _ => .stuck) := by
  subst hm hb
  rw [run1, if_pos hl] <;> try rfl
/-- all stays -/
structure Kn (h h' : MH) : Prop where
  nx : h.next ≤ h'.next
  st : ∀ m, m < h.next → h'.get m = h.get m
theorem Kn.refl {h : MH} : Kn h h := ⟨Nat.le_refl _, fun _ _ => rfl⟩
theorem Kn.trans {h h1 h2 : MH} (a : Kn h h1) (c : Kn h1 h2) : Kn h h2 := ⟨Nat.le_trans a.nx c.nx, fun m l => (c.st m (Nat.lt_of_lt_of_le l a.nx)).trans (a.st m l)⟩
theorem Kn.new {h : MH} {o : MO} : Kn h (h.new o) := ⟨Nat.le_succ _, fun m l => MH.new_ne (by omega)⟩
theorem isV.kn {h h1 : MH} {v : Mi.MV} {R : List (Int × Option Int)} (a : isV h v R) (s : Kn h h1) : isV h1 v R := by
  rcases a with rfl | ⟨l, rfl, hl, e⟩
  · exact .inl rfl
  · exact .inr ⟨l, rfl, Nat.lt_of_lt_of_le hl s.nx, (s.st l hl).trans e⟩
section
variable {n : Nat} {R : List (Int × Option Int)} {h : MH} {v : Mi.MV}
def enumIt (v : Mi.MV) : Mi.It := match v with
  | .ref l => .enum l
  | .tup xs => .enumT xs
  | _ => .enumT []
theorem row_nat {i : Nat} (hi : i < R.length) : (R.map enc)[i]? = some (enc (row R i)) := by
  simp [hi, row]
theorem enum_ev {C : CallF} {me : Mi.Env} (hv : isV h v R) (hs : me.sl[0]?.getD none = some v) : evI τ.tab C me (.enum (.var 0)) h = .ok (enumIt v) h := by
  rcases hv with rfl | ⟨l, rfl, _, e⟩
  · simp [run1, exB, exS, exH, evE, evEs, evT, evO, evI, mb, mp, mst, SR.of, opt, biM, isi1, isiAny, isCl, subTy, boolM, calmB, binM, cmpM, eqM, callM, argsOf, MEs.len, Env.set, PySem.sizeLine_eq, asgM, MT.hot, hs, enumIt]
  · unfold isL at e
    simp [run1, exB, exS, exH, evE, evEs, evT, evO, evI, mb, mp, mst, SR.of, opt, biM, isi1, isiAny, isCl, subTy, boolM, calmB, binM, cmpM, eqM, callM, argsOf, MEs.len, Env.set, PySem.sizeLine_eq, asgM, MT.hot, hs, enumIt, asList, e]
theorem enum_at (hv : isV h v R) {i : Nat} (hi : i < R.length) : Mi.It.at h i (enumIt v) = some (some (.tup [.int i, enc (row R i)])) := by
  have e := row_nat hi
  rcases hv with rfl | ⟨l, rfl, _, el⟩
  · show some (((R.map enc)[i]?).map fun x => Mi.MV.tup [.int i, x]) = _
    rw [e]; rfl
  · unfold isL at el
    show (asList h (.ref l)).map (fun xs => (xs[i]?).map fun x => Mi.MV.tup [.int i, x]) = _
    unfold asList
    simp only [el, Option.map_some, e]
theorem enum_end (hv : isV h v R) : Mi.It.at h R.length (enumIt v) = some none := by
  have e : (R.map enc)[R.length]? = none := by simp
  rcases hv with rfl | ⟨l, rfl, _, el⟩
  · show some (((R.map enc)[R.length]?).map fun x => Mi.MV.tup [.int R.length, x]) = _
    rw [e]; rfl
  · unfold isL at el
    show (asList h (.ref l)).map (fun xs => (xs[R.length]?).map fun x => Mi.MV.tup [.int R.length, x]) = _
    unfold asList
    simp only [el, Option.map_some, e, Option.map_none]
theorem enum_size (hv : isV h v R) : Mi.It.size h (enumIt v) = R.length := by
  rcases hv with rfl | ⟨l, rfl, _, el⟩
  · show (R.map enc).length = _
    simp
  · unfold isL at el
    show ((asList h (.ref l)).getD []).length = _
    unfold asList
    simp [el]
theorem s29 (hv : isV h v R) : rn (n+1) f_is_list [v] h = .ok (.bl true) h := by
  rcases hv with rfl | ⟨l, rfl, _, e⟩
  · exact s29t
  · exact s29l e
theorem quiet_ok {α : Type} {x : M α} {h h' : MH} {a : α} (e : x h = .ok a h') : quiet x h = .ok a h' := by
  unfold quiet; rw [e]
theorem s26 (gr : GR R) (hv : isV h v R) : ∃ h', rn (n+5) f_are_rules [v] h = .ok (.bl true) h' ∧ Kn h h' := by
  have l1 := gr.len.1
  have l4 := gr.len.2
  have c1 : evE τ.tab (Mi.run τ.tab (n+4)) { sl := [some v, none, none], ex := none } (.comp [1, 2] (.tp [1, 2]) (.enum (.var 0)) (.bl true) (.call "is_row" (.cons (.var 2) (.cons (.cmp .eq (.var 1) (.bin .sub (.bi .len (.cons (.var 0) .nil)) (.int 1))) .nil)) [] .nil [])) h =
      .ok (.ref h.next) (h.new (.lst ((List.range R.length).map fun _ => .bl true))) := by
    refine comp_ok (J := enumIt v) (items := fun i => .tup [.int i, enc (row R i)]) rfl (enum_ev hv rfl) (enum_size hv) (by omega) (fun h1 i s hi => enum_at (hv.same s) hi) (fun h1 s => enum_end (hv.same s)) (fun h1 i s hi => ?_)
    have hv1 := hv.same s
    have e1 := hv1.len
    have hp := gr.pos _ (row_mem (R := R) (i := (i : Int)) (by omega) (by omega))
    have e2 := s28 (n := n+1) (h := h1) (p := row R i) (lst := decide ((i : Int) = (R.length : Int) - 1)) hp.1 (fun k hk => (gr.kp _ (row_mem (R := R) (i := (i : Int)) (by omega) (by omega)) k hk).1) (fun hn => by
      have := gr.non i hi hn
      simp; omega)
    unfold rn at e2
    show quiet _ h1 = _
    refine quiet_ok ?_
    simp [run1, exB, exS, exH, evE, evEs, evT, evO, evI, mb, mp, mst, SR.of, opt, boolM, calmB, binM, cmpM, eqM, callM, argsOf, MEs.len, Env.set, PySem.sizeLine_eq, asgM, MT.hot, wipeM, e1, tfn_is_row, fnp_is_row, e2]
  generalize hh1 : h.new (.lst ((List.range R.length).map fun _ => Mi.MV.bl true)) = h1 at c1
  have k1 : Kn h h1 := by rw [← hh1]; exact Kn.new
  have hv1 := hv.kn k1
  have a1 : biM τ.tab .all [.ref h.next] h1 = .ok (.bl true) h1 := all_ok (n := R.length) (by rw [← hh1]; exact MH.new_same)
  have rg : rngOk (R.length : Int) := by unfold rngOk; omega
  have c2 : evE τ.tab (Mi.run τ.tab (n+4)) { sl := [some v, none, none], ex := none } (.comp [1] (.nm 1) (.rng2 (.int 1) (.bi .len (.cons (.var 0) .nil))) (.bl true) (.call "may_follow" (.cons (.sub (.var 0) (.var 1)) (.cons (.sub (.var 0) (.bin .sub (.var 1) (.int 1))) .nil)) [] .nil [])) h1 =
      .ok (.ref h1.next) (h1.new (.lst ((List.range (R.length - 1)).map fun _ => .bl true))) := by
    have el := hv1.len
    refine comp_ok (J := .rng 1 ((R.length : Int) - 1).toNat) (items := fun i => .int (1 + i)) rfl (by simp [run1, exB, exS, exH, evE, evEs, evT, evO, evI, mb, mp, mst, SR.of, opt, boolM, calmB, binM, cmpM, eqM, callM, argsOf, MEs.len, Env.set, PySem.sizeLine_eq, asgM, MT.hot, el, rg, show rngOk 1 by unfold rngOk; omega]) (by show ((R.length : Int) - 1).toNat = _; omega) (by omega) (fun h2 i s hi => by
      show some (if i < ((R.length : Int) - 1).toNat then _ else _) = _
      rw [if_pos (by omega)]) (fun h2 s => by
      show some (if R.length - 1 < ((R.length : Int) - 1).toNat then _ else _) = _
      rw [if_neg (by omega)]) (fun h2 i s hi => ?_)
    have hv2 := hv1.same s
    have b1 := hv2.sub (i := 1 + (i : Int)) (by omega) (by omega)
    have b2 := hv2.sub (i := 1 + (i : Int) - 1) (by omega) (by omega)
    have hp := gr.pos _ (row_mem (R := R) (i := 1 + (i : Int) - 1) (by omega) (by omega))
    have e2 := s27 (n := n+3) (h := h2) (p := row R (1 + (i : Int))) (q := row R (1 + (i : Int) - 1)) hp.1 hp.2 (by
      have := gr.fo (i + 1) (by omega) (by omega)
      rw [show (((i + 1 : Nat)) : Int) = 1 + (i : Int) by omega] at this
      exact this)
    unfold rn at e2
    show quiet _ h2 = _
    refine quiet_ok ?_
    simp [run1, exB, exS, exH, evE, evEs, evT, evO, evI, mb, mp, mst, SR.of, opt, boolM, calmB, binM, cmpM, eqM, callM, argsOf, MEs.len, Env.set, PySem.sizeLine_eq, asgM, MT.hot, wipeM, b1, b2, tfn_may_follow, fnp_may_follow, e2]
  have a2 : biM τ.tab .all [.ref h1.next] (h1.new (.lst ((List.range (R.length - 1)).map fun _ => Mi.MV.bl true))) = .ok (.bl true) (h1.new (.lst ((List.range (R.length - 1)).map fun _ => Mi.MV.bl true))) := all_ok MH.new_same
  refine ⟨h1.new (.lst ((List.range (R.length - 1)).map fun _ => .bl true)), ?_, k1.trans Kn.new⟩
  have e29 := s29 (n := n+3) hv
  have el := hv.len
  have b0 := hv1.sub (i := 0) (by omega) (by omega)
  have f0 := gr.fst
  have g1 : (1 : Int) ≤ (R.length : Int) := by omega
  have g4 : (R.length : Int) ≤ 4 := by omega
  unfold rn at e29 ⊢
  rw [run_at { sl := [some v, none, none], ex := none } body_are_rules rfl rfl rfl]
  have k29 : callM τ.tab (Mi.run τ.tab (n+4)) "is_list" [v] [] [] h = .ok (.bl true) h := (q_callM tfn_is_list (by simp [argsOf, fnp_is_list])).trans e29
  simp [q_b1, q_b2, q_b3, q_mb, q_mp, q_mst, q_of1, q_of2, q_of3, q_opt, q_s1, q_s2, q_s3, q_s4, q_s5, q_exb0, q_exb1, q_non, q_bl, q_int, q_str, q_var, q_ty, q_cls, q_gint, q_bin, q_neg, q_not, q_cmp, q_chain, q_and, q_or, q_ife, q_sub, q_slc, q_tup, q_lst, q_call, q_mk, q_bi, q_app, q_fld, q_meth, q_nil, q_cons, q_tand, q_tor, q_tnot, q_tbl, q_tvar, q_tcmp, q_tchain, q_tsub, q_tcall, q_tbi, q_tmeth, q_bool, o_add, o_sub, o_mul, o_fdiv, o_mod, o_pow, c_eqi, c_nei, c_eqs, c_nes, c_lt, c_le, c_gt, c_ge, c_isn, c_notn, isNon_n, isNon_i, t_ret, t_expr, t_asg, t_ifs, PySem.sizeLine_eq, Mi.Env.set, body_are_rules, k29, el, g1, g4, c1, a1, b0, sb0, f0, c2, a2]
end
end Lw
end

section
namespace Lw
open Mi
section
variable {T : Tab} {C : CallF} {me : Mi.Env} {h : MH}
theorem t_asgf (o e : ME) (f : PySem.Str) : exS T C (.asg (.fld o f) e) me h = ofF me (fun v h => ofF me (fun me' h => .ok (.next me') h) (M.bind (evE T C me o) (fun x => M.bind (setFldM T f x v) fun _ => M.pure me) h)) (evE T C me e h) := by
  simp only [← of_F]
  simp [exS, MT.hot, asgM]
end
theorem isV.tuple {h : MH} {v : Mi.MV} {R : List (Int × Option Int)} (a : isV h v R) (hl : R.length ≤ 16777216) : biM τ.tab .tuple1 [v] h = .ok (.tup (R.map enc)) h := by
  show (match asSeq h v with | some xs => if xs.length ≤ PySem.sizeLine then Res.ok (Mi.MV.tup xs) h else Res.stuck | none => Res.stuck) = _
  rw [a.seq]
  simp [PySem.sizeLine_eq, hl]
theorem s25 {n r : Nat} {R : List (Int × Option Int)} {h : MH} {v : Mi.MV} (gr : GR R) (hv : isV h v R) (hr : h.get r = some (.ins "Rules" [])) (hlt : r < h.next) (hne : v ≠ .ref r) :
    ∃ h', rn (n+6) f_Rules_init [.ref r, v] h = .ok .non h' ∧ isR h' r R ∧ h.next ≤ h'.next ∧ ∀ m, m < h.next → m ≠ r → h'.get m = h.get m := by
  obtain ⟨h1, e1, k1⟩ := s26 (n := n) gr hv
  have hv1 := hv.kn k1
  have et := hv1.tuple (by have := gr.len.2; omega)
  have g1 : h1.get r = some (.ins "Rules" []) := (k1.st r hlt).trans hr
  refine ⟨h1.put r (.ins "Rules" [("rows", .tup (R.map enc))]), ?_, MH.put_same, k1.nx, fun m hm hmr => (MH.put_ne hmr).trans (k1.st m hm)⟩
  unfold rn at e1 ⊢
  rw [run_at { sl := [some (.ref r), some v], ex := none } body_Rules_init rfl rfl rfl]
  have k26 : callM τ.tab (Mi.run τ.tab (n+5)) "are_rules" [v] [] [] h = .ok (.bl true) h1 := (q_callM tfn_are_rules (by simp [argsOf, fnp_are_rules])).trans e1
  have ef : setFldM τ.tab "rows" (.ref r) (.tup (R.map enc)) h1 = .ok () (h1.put r (.ins "Rules" [("rows", .tup (R.map enc))])) := by
    unfold setFldM
    simp only [g1]
    rw [if_pos ⟨tno_Rules_rows, by decide⟩]
    rfl
  simp [q_b1, q_b2, q_b3, q_mb, q_mp, q_mst, q_of1, q_of2, q_of3, q_opt, q_s1, q_s2, q_s3, q_s4, q_s5, q_exb0, q_exb1, q_non, q_bl, q_int, q_str, q_var, q_ty, q_cls, q_gint, q_bin, q_neg, q_not, q_cmp, q_chain, q_and, q_or, q_ife, q_sub, q_slc, q_tup, q_lst, q_call, q_mk, q_bi, q_app, q_fld, q_meth, q_nil, q_cons, q_tand, q_tor, q_tnot, q_tbl, q_tvar, q_tcmp, q_tchain, q_tsub, q_tcall, q_tbi, q_tmeth, q_bool, o_add, o_sub, o_mul, o_fdiv, o_mod, o_pow, c_eqi, c_nei, c_eqs, c_nes, c_lt, c_le, c_gt, c_ge, c_isn, c_notn, isNon_n, isNon_i, t_ret, t_expr, t_asg, t_ifs, PySem.sizeLine_eq, Mi.Env.set, body_Rules_init, k26, et, t_asgf, ef]
theorem isV.new {h : MH} {o : MO} {v : Mi.MV} {R : List (Int × Option Int)} (a : isV h v R) : isV (h.new o) v R := a.kn Kn.new
theorem isV.ne {h : MH} {v : Mi.MV} {R : List (Int × Option Int)} (a : isV h v R) : v ≠ .ref h.next := by
  rcases a with rfl | ⟨l, rfl, hl, _⟩
  · simp
  · intro e; cases e; omega
/-- Rules(v) -/
theorem mkR {n : Nat} {R : List (Int × Option Int)} {h : MH} {v : Mi.MV} (gr : GR R) (hv : isV h v R) :
    ∃ h', mkM τ.tab (Mi.run τ.tab (n+6)) "Rules" [v] h = .ok (.ref h.next) h' ∧ isR h' h.next R ∧ h.next < h'.next ∧ Kn h h' := by
  obtain ⟨h', e, r1, r2, r3⟩ := s25 (n := n) (r := h.next) (h := h.new (.ins "Rules" [])) gr hv.new MH.new_same (Nat.lt_succ_self _) hv.ne
  unfold rn at e
  refine ⟨h', ?_, r1, Nat.lt_of_lt_of_le (Nat.lt_succ_self _) r2, ⟨Nat.le_trans (Nat.le_succ _) r2, fun m hm => (r3 m (Nat.lt_succ_of_lt hm) (by omega)).trans (MH.new_ne (by omega))⟩⟩
  unfold mkM
  rw [tme_Rules_init]
  simp only [fnp_Rules_init, List.length_cons, List.length_nil]
  rw [if_pos trivial, e]
end Lw
end

section
namespace Lw
open Mi
/-! ### the script's cells -/
theorem ints_take (ns : List Int) : intsM ((ns.map Mi.MV.int)) = some ns := by
  induction ns with
  | nil => rfl
  | cons n ns ih => rw [List.map_cons]; unfold intsM; rw [ih]; rfl
theorem sum_ok {x : Mi.MV} {h : MH} {ns : List Int} (e : (asList h x).bind intsM = some ns) : biM τ.tab .sum [x] h = .ok (.int ns.sum) h := by
  simp [biM, e]
theorem q_slcn {T : Tab} {C : CallF} {me : Mi.Env} {h : MH} : evO T C me .no h = .ok none h := by simp only [evO]; rfl
theorem q_slcy {T : Tab} {C : CallF} {me : Mi.Env} {h : MH} (i : Int) : evO T C me (.yes (.int i)) h = .ok (some i) h := by simp [evO, evE, q_mb]; rfl
theorem s1 {n : Nat} {ns : List Int} {h : MH} {s : Nat} {k : Nat} (hs : h.get s = some (.frz (ns.map .int))) : ∃ v h', rn (n+1) f_law_cell [.ref s, .int k] h = .ok (.int v) h' ∧ Kn h h' := by
  have al : asList h (.ref s) = some (ns.map Mi.MV.int) := by unfold asList; simp only [hs]
  have el : biM τ.tab .len [.ref s] h = .ok (.int ns.length) h := by
    show (match asSeq h (.ref s) with | some xs => Res.ok (Mi.MV.int xs.length) h | none => Res.stuck) = _
    unfold asSeq
    simp only [al, List.length_map]
  by_cases hk : k < ns.length
  · have es : subM (.ref s) (.int k) h = .ok (.int ns[k]) h := by
      have e : (Mi.idx (ns.map Mi.MV.int).length (k : Int)).bind (fun j => (ns.map Mi.MV.int)[j]?) = some (.int ns[k]) := by
        rw [List.length_map, idx_ok (by omega) (by omega)]
        simp [hk]
      unfold subM asSeq
      simp only [al, e]
    refine ⟨ns[k], h, ?_, Kn.refl⟩
    unfold rn
    rw [run_at { sl := [some (.ref s), some (.int k)], ex := none } body_law_cell rfl rfl rfl]
    simp [q_b1, q_b2, q_b3, q_mb, q_mp, q_mst, q_of1, q_of2, q_of3, q_opt, q_s1, q_s2, q_s3, q_s4, q_s5, q_exb0, q_exb1, q_non, q_bl, q_int, q_str, q_var, q_ty, q_cls, q_gint, q_bin, q_neg, q_not, q_cmp, q_chain, q_and, q_or, q_ife, q_sub, q_slc, q_tup, q_lst, q_call, q_mk, q_bi, q_app, q_fld, q_meth, q_nil, q_cons, q_tand, q_tor, q_tnot, q_tbl, q_tvar, q_tcmp, q_tchain, q_tsub, q_tcall, q_tbi, q_tmeth, q_bool, o_add, o_sub, o_mul, o_fdiv, o_mod, o_pow, c_eqi, c_nei, c_eqs, c_nes, c_lt, c_le, c_gt, c_ge, c_isn, c_notn, isNon_n, isNon_i, t_ret, t_expr, t_asg, t_ifs, PySem.sizeLine_eq, Mi.Env.set, body_law_cell, el, es, hk]
  · have esl : slcM (.ref s) none (some 1) h = .ok (.ref h.next) (h.new (.lst ((ns.map Mi.MV.int).take 1))) := by
      show (match asList h (.ref s) with | some xs => newL (Mi.cut xs none (some 1)) h | none => Res.stuck) = _
      rw [al]
      show newL (Mi.cut (ns.map .int) none (some 1)) h = _
      rw [cut1]
      unfold newL
      rw [if_pos (by rw [PySem.sizeLine_eq]; simp; omega)]
    have esum : biM τ.tab .sum [.ref h.next] (h.new (.lst ((ns.map Mi.MV.int).take 1))) = .ok (.int (ns.take 1).sum) (h.new (.lst ((ns.map Mi.MV.int).take 1))) := by
      refine sum_ok ?_
      unfold asList
      simp only [MH.new_same, Option.bind_some]
      rw [← List.map_take, ints_take]
    refine ⟨6007 * k + (ns.take 1).sum % 1000033, h.new (.lst ((ns.map Mi.MV.int).take 1)), ?_, Kn.new⟩
    have sm : small 6007 := by unfold small; omega
    unfold rn
    rw [run_at { sl := [some (.ref s), some (.int k)], ex := none } body_law_cell rfl rfl rfl]
    simp [q_b1, q_b2, q_b3, q_mb, q_mp, q_mst, q_of1, q_of2, q_of3, q_opt, q_s1, q_s2, q_s3, q_s4, q_s5, q_exb0, q_exb1, q_non, q_bl, q_int, q_str, q_var, q_ty, q_cls, q_gint, q_bin, q_neg, q_not, q_cmp, q_chain, q_and, q_or, q_ife, q_sub, q_slc, q_tup, q_lst, q_call, q_mk, q_bi, q_app, q_fld, q_meth, q_nil, q_cons, q_tand, q_tor, q_tnot, q_tbl, q_tvar, q_tcmp, q_tchain, q_tsub, q_tcall, q_tbi, q_tmeth, q_bool, o_add, o_sub, o_mul, o_fdiv, o_mod, o_pow, c_eqi, c_nei, c_eqs, c_nes, c_lt, c_le, c_gt, c_ge, c_isn, c_notn, isNon_n, isNon_i, t_ret, t_expr, t_asg, t_ifs, PySem.sizeLine_eq, Mi.Env.set, body_law_cell, el, hk, q_slcn, q_slcy, esl, esum, sm]
end Lw
end

section
namespace Lw
open Mi
/-! ### loops, further statements -/
theorem forL_inv {step : Mi.MV → Mi.Env → MH → SR} {it : Mi.It} {N : Nat} {items : Nat → Mi.MV} (P : Nat → Mi.Env → MH → Prop) (hat : ∀ i me h, P i me h → i < N → it.at h i = some (some (items i))) (hend : ∀ me h, P N me h → it.at h N = some none)
    (hst : ∀ i me h, i < N → P i me h → ∃ me' h', step (items i) me h = .ok (.next me') h' ∧ P (i + 1) me' h') : ∀ (k i : Nat) (me : Mi.Env) (h : MH), i + k = N → P i me h → ∃ me' h', forL step it k i me h = .ok (.next me') h' ∧ P N me' h'
  | 0, i, me, h, hk, p => by
    have hi : i = N := by omega
    subst hi
    refine ⟨me, h, ?_, p⟩
    unfold forL
    rw [hend me h p]
  | k + 1, i, me, h, hk, p => by
    have hi : i < N := by omega
    obtain ⟨me1, h1, e1, p1⟩ := hst i me h hi p
    obtain ⟨me2, h2, e2, p2⟩ := forL_inv P hat hend hst k (i + 1) me1 h1 (by omega) p1
    refine ⟨me2, h2, ?_, p2⟩
    unfold forL
    rw [hat i me h p hi]
    simp only [e1, e2]
section
variable {T : Tab} {C : CallF} {me : Mi.Env} {h : MH}
theorem t_fors (t : CT) (it : MI) (b : MSs) (e : me.ex = none) : exS T C (.fors t it b) me h = ofF me (fun J h => forL (stepF T C t b) J (J.size h) 0 me h) (evI T C me it h) := by
  rw [← of_F]
  have hx : ¬ (me.ex.isSome = true) := by rw [e]; simp
  unfold exS
  rw [if_neg hx]
  rfl
theorem t_asgsw (is : List Nat) (e : ME) (hx : me.ex = none) : exS T C (.asg (.sw is) e) me h = ofF me (fun v h => ofF me (fun me' h => .ok (.next me') h) (asgM T C me v (.sw is) h)) (evE T C me e h) := by
  simp only [← of_F]
  simp [exS, MT.hot, hx]
theorem t_sw2 {a b : Mi.MV} {i j : Nat} (hx : me.ex = none) : asgM T C me (.tup [a, b]) (.sw [i, j]) h = .ok ((me.set j b).set i a) h := by
  simp [asgM, hx]; rfl
theorem t_asgtp (is : List Nat) (e : ME) (hx : me.ex = none) : exS T C (.asg (.tp is) e) me h = ofF me (fun v h => ofF me (fun me' h => .ok (.next me') h) (asgM T C me v (.tp is) h)) (evE T C me e h) := by
  simp only [← of_F]
  simp [exS, MT.hot, hx]
theorem t_asgsub (o i e : ME) : exS T C (.asg (.sub o i) e) me h = ofF me (fun v h => ofF me (fun me' h => .ok (.next me') h) (M.bind (evE T C me o) (fun x => M.bind (evE T C me i) fun y => M.bind (setSubM x y v) fun _ => M.pure me) h)) (evE T C me e h) := by
  simp only [← of_F]
  simp [exS, MT.hot, asgM]
end
end Lw
end

section
namespace Lw
open Mi
/-! ### rows that grow -/
structure PR (R : List (Int × Option Int)) (a k : Int) : Prop where
  ne : 1 ≤ R.length
  last : row R ((R.length : Int) - 1) = (a, some k)
  pos : ∀ p ∈ R, 0 < p.1 ∧ p.1 ≤ a
  kp : ∀ p ∈ R, ∃ q, p.2 = some q ∧ 0 < q ∧ q ≤ k
  fst : (row R 0).1 = 1
  fo : ∀ i : Nat, 1 ≤ i → i < R.length → fol (row R i) (row R ((i : Int) - 1))
theorem row_app {R : List (Int × Option Int)} {p : Int × Option Int} {i : Int} (h0 : 0 ≤ i) (h1 : i < R.length) : row (R ++ [p]) i = row R i := by
  have : i.toNat < R.length := by omega
  simp [row, List.getElem?_append_left this]
theorem row_new {R : List (Int × Option Int)} {p : Int × Option Int} : row (R ++ [p]) R.length = p := by
  simp [row]
theorem pr_one {k : Int} (hk : 0 < k) : PR [(1, some k)] 1 k := by
  refine ⟨Nat.le_refl 1, rfl, fun p hp => ?_, fun p hp => ?_, rfl, fun i h1 h2 => ?_⟩
  · simp at hp; subst hp; simp
  · simp at hp; subst hp; exact ⟨k, rfl, hk, Int.le_refl _⟩
  · simp at h2; omega
theorem pr_step {R : List (Int × Option Int)} {a k f m : Int} (p : PR R a k) (hf : 2 ≤ f) (hm : 0 ≤ m) : PR (R ++ [(a * f, some (k + a * f + m))]) (a * f) (k + a * f + m) := by
  have hl := p.last
  have hne := p.ne
  have ha : 0 < a := by
    have := (p.pos _ (row_mem (R := R) (i := (R.length : Int) - 1) (by omega) (by omega))).1
    rw [hl] at this
    exact this
  have hk : 0 < k := by
    obtain ⟨q, e, h1, h2⟩ := p.kp _ (row_mem (R := R) (i := (R.length : Int) - 1) (by omega) (by omega))
    rw [hl] at e
    cases e
    exact h1
  have haf : a ≤ a * f := by
    have : a * 1 ≤ a * f := Int.mul_le_mul_of_nonneg_left (by omega) (by omega)
    omega
  have ha2 : 2 * a ≤ a * f := by
    have : a * 2 ≤ a * f := Int.mul_le_mul_of_nonneg_left (by omega) (by omega)
    omega
  refine ⟨by simp, ?_, fun q hq => ?_, fun q hq => ?_, ?_, fun i h1 h2 => ?_⟩
  · rw [show (((R ++ [(a * f, some (k + a * f + m))]).length : Nat) : Int) - 1 = (R.length : Int) by simp]
    exact row_new
  · rcases List.mem_append.mp hq with h | h
    · have := p.pos q h
      exact ⟨this.1, by omega⟩
    · simp at h; subst h; exact ⟨by show 0 < a * f; omega, Int.le_refl _⟩
  · rcases List.mem_append.mp hq with h | h
    · obtain ⟨x, e, x1, x2⟩ := p.kp q h
      exact ⟨x, e, x1, by omega⟩
    · simp at h; subst h; exact ⟨_, rfl, by omega, Int.le_refl _⟩
  · rw [row_app (by omega) (by omega)]; exact p.fst
  · by_cases hi : i < R.length
    · rw [row_app (by omega) (by omega), row_app (by omega) (by omega)]; exact p.fo i h1 hi
    · have e : i = R.length := by simp at h2; omega
      subst e
      rw [row_new, row_app (by omega) (by omega), hl]
      exact ⟨Int.mul_emod_right _ _, ha2, fun x hx => ⟨k, rfl, by cases hx; show k + a * f ≤ _; omega⟩⟩
/-- whole rows -/
theorem gr_of {R : List (Int × Option Int)} {a k : Int} (p : PR R a k) (h4 : R.length ≤ 4) (ha : a < 2 ^ 40) (hk : k < 2 ^ 40) : GR R := by
  refine { pos := fun q hq => ⟨(p.pos q hq).1, by have := (p.pos q hq).2; omega⟩, kp := fun q hq x hx => ?_, len := ⟨p.ne, h4⟩, fst := p.fst, non := fun i hi hn => ?_, fo := p.fo, bd := fun q hq => ⟨by have := (p.pos q hq).2; omega, fun x hx => by
    obtain ⟨y, e, y1, y2⟩ := p.kp q hq
    rw [e] at hx; cases hx
    omega⟩ }
  · obtain ⟨y, e, y1, y2⟩ := p.kp q hq
    rw [e] at hx; cases hx
    exact ⟨y1, by omega⟩
  · obtain ⟨y, e, _⟩ := p.kp _ (row_mem (R := R) (i := (i : Int)) (by omega) (by omega))
    rw [e] at hn; cases hn
theorem row_set {R : List (Int × Option Int)} {p : Int × Option Int} {i : Int} (h0 : 0 ≤ i) (h1 : i < R.length) : row (R.set (R.length - 1) p) i = if i = (R.length : Int) - 1 then p else row R i := by
  have hl : i.toNat < R.length := by omega
  by_cases hi : i = (R.length : Int) - 1
  · rw [if_pos hi]
    have e : i.toNat = R.length - 1 := by omega
    have hz : R.length - 1 < R.length := by omega
    simp [row, e, hz]
  · rw [if_neg hi]
    have e : R.length - 1 ≠ i.toNat := by omega
    simp [row, List.getElem?_set_ne e]
theorem mem_row {R : List (Int × Option Int)} {p : Int × Option Int} (h : p ∈ R) : ∃ i : Nat, i < R.length ∧ row R i = p := by
  obtain ⟨i, hi, e⟩ := List.mem_iff_getElem.mp h
  exact ⟨i, hi, by simp [row, hi, e]⟩
/-- the last keep taken away -/
theorem gr_none {R : List (Int × Option Int)} (g : GR R) : GR (R.set (R.length - 1) ((row R ((R.length : Int) - 1)).1, none)) := by
  have hl := g.len
  have len : (R.set (R.length - 1) ((row R ((R.length : Int) - 1)).1, none)).length = R.length := by simp
  have ev : ∀ i : Nat, i < R.length → (row (R.set (R.length - 1) ((row R ((R.length : Int) - 1)).1, none)) i).1 = (row R i).1 := fun i hi => by
    rw [row_set (by omega) (by omega)]
    split
    · rename_i e; rw [← e]
    · rfl
  refine { pos := fun q hq => ?_, kp := fun q hq x hx => ?_, len := by rw [len]; exact hl, fst := ?_, non := fun i hi hn => ?_, fo := fun i h1 h2 => ?_, bd := fun q hq => ?_ }
  · obtain ⟨i, hi, e⟩ := mem_row hq
    rw [len] at hi
    rw [← e, ev i hi]
    exact g.pos _ (row_mem (by omega) (by omega))
  · obtain ⟨i, hi, e⟩ := mem_row hq
    rw [len] at hi
    rw [← e, row_set (by omega) (by omega)] at hx
    split at hx
    · cases hx
    · exact g.kp _ (row_mem (by omega) (by omega)) x hx
  · have := ev 0 (by omega)
    rw [show ((0 : Nat) : Int) = 0 from rfl] at this
    rw [this]; exact g.fst
  · rw [len] at hi ⊢
    rw [row_set (by omega) (by omega)] at hn
    split at hn
    · omega
    · exact g.non i hi hn
  · rw [len] at h2
    have f := g.fo i h1 h2
    have e1 := ev i h2
    have e2 := ev (i - 1) (by omega)
    have c : ((i - 1 : Nat) : Int) = (i : Int) - 1 := by omega
    rw [c] at e2
    refine ⟨by rw [e1, e2]; exact f.1, by rw [e1, e2]; exact f.2.1, fun k hk => ?_⟩
    rw [row_set (by omega) (by omega)] at hk
    split at hk
    · cases hk
    · obtain ⟨k', a1, a2⟩ := f.2.2 k hk
      refine ⟨k', ?_, by rw [e1]; exact a2⟩
      rw [row_set (by omega) (by omega), if_neg (by omega)]
      exact a1
  · obtain ⟨i, hi, e⟩ := mem_row hq
    rw [len] at hi
    refine ⟨by rw [← e, ev i hi]; exact (g.bd _ (row_mem (by omega) (by omega))).1, fun x hx => ?_⟩
    rw [← e, row_set (by omega) (by omega)] at hx
    split at hx
    · cases hx
    · exact (g.bd _ (row_mem (by omega) (by omega))).2 x hx
end Lw
end

section
namespace Lw
open Mi
/-! ### draws within expressions -/
theorem isB.new {h : MH} {b : Nat} {N : Int} {o : MO} (B : isB h b N) : isB (h.new o) b N := by
  obtain ⟨hl, g, big, m, c, e, r⟩ := B
  exact ⟨Nat.lt_succ_of_lt hl, g, big, m, c, by rw [MH.new_ne (by omega)]; exact e, r⟩
theorem Kp.new {b : Nat} {h : MH} {o : MO} : Kp b h (h.new o) := ⟨Nat.le_succ _, fun m hm _ => MH.new_ne (by omega)⟩
section
variable {n b : Nat} {h : MH} {N many : Int} {me : Mi.Env} {es : MEs} {em : ME} {cs : List Int}
theorem take_ev (hx : me.ex = none) (hb : me.sl[0]?.getD none = some (.ref b)) (B : isB h b N) (hN : N < 2 ^ 32) (hM : evE τ.tab (Mi.run τ.tab (n+1)) me em h = .ok (.int many) h) (h0 : 0 < many) (h1 : many < 2 ^ 60) :
    ∃ d h', evE τ.tab (Mi.run τ.tab (n+1)) me (.call "_law_take" (.cons (.var 0) (.cons em .nil)) [] .nil []) h = .ok (.int d) h' ∧ 0 ≤ d ∧ d < many ∧ isB h' b (N + 1) ∧ Kp b h h' := by
  obtain ⟨d, h', e, r⟩ := s24 (n := n) B hN h0 h1
  unfold rn at e
  have k : callM τ.tab (Mi.run τ.tab (n+1)) "_law_take" [.ref b, .int many] [] [] h = .ok (.int d) h' := (q_callM tfn_law_take (by simp [argsOf, fnp_law_take])).trans e
  refine ⟨d, h', ?_, r⟩
  simp [q_b1, q_b2, q_b3, q_mb, q_mp, q_mst, q_of1, q_of2, q_of3, q_opt, q_s1, q_s2, q_s3, q_s4, q_s5, q_exb0, q_exb1, q_non, q_bl, q_int, q_str, q_var, q_ty, q_cls, q_gint, q_bin, q_neg, q_not, q_cmp, q_chain, q_and, q_or, q_ife, q_sub, q_slc, q_tup, q_lst, q_call, q_mk, q_bi, q_app, q_fld, q_meth, q_nil, q_cons, q_tand, q_tor, q_tnot, q_tbl, q_tvar, q_tcmp, q_tchain, q_tsub, q_tcall, q_tbi, q_tmeth, q_bool, o_add, o_sub, o_mul, o_fdiv, o_mod, o_pow, c_eqi, c_nei, c_eqs, c_nes, c_lt, c_le, c_gt, c_ge, c_isn, c_notn, isNon_n, isNon_i, t_ret, t_expr, t_asg, t_ifs, PySem.sizeLine_eq, Mi.Env.set, hx, hb, hM, k]
theorem newL_ev {xs : List Mi.MV} (hz : xs.length ≤ 16777216) : newL xs h = .ok (.ref h.next) (h.new (.lst xs)) := by
  unfold newL
  rw [if_pos (by rw [PySem.sizeLine_eq]; exact hz)]
theorem pick (hx : me.ex = none) (hb : me.sl[0]?.getD none = some (.ref b)) (B : isB h b N) (hN : N < 2 ^ 32) (hE : evEs τ.tab (Mi.run τ.tab (n+1)) me es h = .ok (cs.map .int) h) (hM : ∀ h1, evE τ.tab (Mi.run τ.tab (n+1)) me em h1 = .ok (.int many) h1)
    (h0 : 0 < many) (h1 : many ≤ cs.length) (hz : cs.length ≤ 100) :
    ∃ c h', evE τ.tab (Mi.run τ.tab (n+1)) me (.sub (.lst es) (.call "_law_take" (.cons (.var 0) (.cons em .nil)) [] .nil [])) h = .ok (.int c) h' ∧ c ∈ cs ∧ isB h' b (N + 1) ∧ Kp b h h' := by
  obtain ⟨d, h', e, d0, d1, B', K⟩ := take_ev (n := n) (h := h.new (.lst (cs.map .int))) hx hb B.new hN (hM _) h0 (by omega)
  have hg : h'.get h.next = some (.lst (cs.map .int)) := (K.st _ (Nat.lt_succ_self _) (by have := B.lt; omega)).trans MH.new_same
  have hd : d.toNat < cs.length := by omega
  have es2 : subM (.ref h.next) (.int d) h' = .ok (.int cs[d.toNat]) h' := by
    have e2 : (Mi.idx (cs.map Mi.MV.int).length d).bind (fun j => (cs.map Mi.MV.int)[j]?) = some (.int cs[d.toNat]) := by
      rw [List.length_map, idx_ok d0 (by omega)]
      simp [hd]
    unfold subM asSeq asList
    simp only [hg, e2]
  refine ⟨cs[d.toNat], h', ?_, List.getElem_mem hd, B', Kp.trans Kp.new K⟩
  rw [q_sub, q_mb, q_lst, q_mb, hE, q_b1, newL_ev (by simp; omega), q_b1, q_mb, e, q_b1, es2]
end
end Lw
end

section
namespace Lw
open Mi
/-! ### _law_rows -/
def rowsBody : MSs := match body_law_rows with
  | .cons _ (.cons _ (.cons _ (.cons (.fors _ _ b) _))) => b
  | _ => .nil
theorem app_ok {h : MH} {l : Nat} {xs : List Mi.MV} {v : Mi.MV} (e : h.get l = some (.lst xs)) (hz : xs.length < 16777216) : appM (.ref l) v h = .ok .non (h.put l (.lst (xs ++ [v]))) := by
  unfold appM
  simp only [e]
  rw [if_pos (by rw [PySem.sizeLine_eq]; exact hz)]
theorem isLst_ok {h : MH} {l : Nat} {xs : List Mi.MV} (e : h.get l = some (.lst xs)) : isLst (.ref l) h = .ok () h := by
  unfold isLst
  simp only [e]
theorem rows_step {n b l : Nat} {h : MH} {N : Int} {R : List (Int × Option Int)} {a k g : Int} {gb : Bool} {mo : Option Mi.MV} {tn : Mi.MV} (B : isB h b N) (hN : N < 2 ^ 31) (hl : isL h l R) (hlt : l < h.next) (hlb : l ≠ b) (pr : PR R a k) (hR : R.length ≤ 3) (ha : a < 2 ^ 40) :
    ∃ f m h', exB τ.tab (Mi.run τ.tab (n+1)) rowsBody { sl := [some (.ref b), some (.int g), some (.bl gb), some (.int a), some (.int k), some (.ref l), some tn, mo], ex := none } h =
      .ok (.next { sl := [some (.ref b), some (.int g), some (.bl gb), some (.int (a * f)), some (.int (k + a * f + m)), some (.ref l), some tn, some (.int m)], ex := none }) h' ∧
      2 ≤ f ∧ f ≤ 1002 ∧ 0 ≤ m ∧ m ≤ 10 ^ 10 ∧ isL h' l (R ++ [(a * f, some (k + a * f + m))]) ∧ isB h' b (N + 2) ∧ h.next ≤ h'.next ∧ ∀ i, i < h.next → i ≠ b → i ≠ l → h'.get i = h.get i := by
  obtain ⟨c1, h1, p1, m1, B1, K1⟩ := pick (n := n) (me := { sl := [some (.ref b), some (.int g), some (.bl gb), some (.int a), some (.int k), some (.ref l), some tn, mo], ex := none }) (h := h) (cs := [2, 3, 2, 4, 5, 7]) (es := .cons (.int 2) (.cons (.int 3) (.cons (.int 2) (.cons (.int 4) (.cons (.int 5) (.cons (.int 7) .nil)))))) (em := .int 6) (many := 6) rfl rfl B (by omega) (by simp [q_b1, q_b2, q_b3, q_mb, q_mp, q_mst, q_of1, q_of2, q_of3, q_opt, q_s1, q_s2, q_s3, q_s4, q_s5, q_exb0, q_exb1, q_non, q_bl, q_int, q_str, q_var, q_ty, q_cls, q_gint, q_bin, q_neg, q_not, q_cmp, q_chain, q_and, q_or, q_ife, q_sub, q_slc, q_tup, q_lst, q_call, q_mk, q_bi, q_app, q_fld, q_meth, q_nil, q_cons, q_tand, q_tor, q_tnot, q_tbl, q_tvar, q_tcmp, q_tchain, q_tsub, q_tcall, q_tbi, q_tmeth, q_bool, o_add, o_sub, o_mul, o_fdiv, o_mod, o_pow, c_eqi, c_nei, c_eqs, c_nes, c_lt, c_le, c_gt, c_ge, c_isn, c_notn, isNon_n, isNon_i, t_ret, t_expr, t_asg, t_ifs, PySem.sizeLine_eq, Mi.Env.set]) (fun h1 => q_int 6) (by decide) (by decide) (by decide)
  have hc1 : 2 ≤ c1 ∧ c1 ≤ 7 := by simp at m1; omega
  have e1 : evE τ.tab (Mi.run τ.tab (n+1)) { sl := [some (.ref b), some (.int g), some (.bl gb), some (.int a), some (.int k), some (.ref l), some tn, mo], ex := none } (.sub (.lst (.cons (.int 0) (.cons (.int 995) .nil))) (.bi .int1 (.cons (.var 2) .nil))) h1 = .ok (.int (if gb then 995 else 0)) (h1.new (.lst [.int 0, .int 995])) := by
    have s0 : subM (.ref h1.next) (.int 0) (h1.new (.lst [.int 0, .int 995])) = .ok (.int 0) (h1.new (.lst [.int 0, .int 995])) := by
      unfold subM asSeq asList
      simp only [MH.new_same]; rfl
    have s1 : subM (.ref h1.next) (.int 1) (h1.new (.lst [.int 0, .int 995])) = .ok (.int 995) (h1.new (.lst [.int 0, .int 995])) := by
      unfold subM asSeq asList
      simp only [MH.new_same]; rfl
    have nl : newL [.int 0, .int 995] h1 = .ok (.ref h1.next) (h1.new (.lst [.int 0, .int 995])) := newL_ev (by decide)
    cases gb <;> simp [q_b1, q_b2, q_b3, q_mb, q_mp, q_mst, q_of1, q_of2, q_of3, q_opt, q_s1, q_s2, q_s3, q_s4, q_s5, q_exb0, q_exb1, q_non, q_bl, q_int, q_str, q_var, q_ty, q_cls, q_gint, q_bin, q_neg, q_not, q_cmp, q_chain, q_and, q_or, q_ife, q_sub, q_slc, q_tup, q_lst, q_call, q_mk, q_bi, q_app, q_fld, q_meth, q_nil, q_cons, q_tand, q_tor, q_tnot, q_tbl, q_tvar, q_tcmp, q_tchain, q_tsub, q_tcall, q_tbi, q_tmeth, q_bool, o_add, o_sub, o_mul, o_fdiv, o_mod, o_pow, c_eqi, c_nei, c_eqs, c_nes, c_lt, c_le, c_gt, c_ge, c_isn, c_notn, isNon_n, isNon_i, t_ret, t_expr, t_asg, t_ifs, PySem.sizeLine_eq, Mi.Env.set, nl, s0, s1, biM]
  generalize hz : (if gb = true then (995 : Int) else 0) = z at e1
  have hz2 : 0 ≤ z ∧ z ≤ 995 := by rw [← hz]; cases gb <;> decide
  have B2 : isB (h1.new (.lst [.int 0, .int 995])) b (N + 1) := B1.new
  obtain ⟨m, h3, p3, m3, B3, K3⟩ := pick (n := n) (me := { sl := [some (.ref b), some (.int g), some (.bl gb), some (.int (a * (c1 + z))), some (.int k), some (.ref l), some tn, mo], ex := none }) (h := h1.new (.lst [.int 0, .int 995])) (cs := [0, 0, 1, 3, 11, 10000000000])
    (es := .cons (.int 0) (.cons (.int 0) (.cons (.int 1) (.cons (.int 3) (.cons (.int 11) (.cons (.bin .pow (.int 10) (.int 10)) .nil)))))) (em := .bin .add (.int 5) (.bi .int1 (.cons (.var 2) .nil))) (many := 5 + (if gb then 1 else 0)) rfl rfl B2 (by omega) (by simp [q_b1, q_b2, q_b3, q_mb, q_mp, q_mst, q_of1, q_of2, q_of3, q_opt, q_s1, q_s2, q_s3, q_s4, q_s5, q_exb0, q_exb1, q_non, q_bl, q_int, q_str, q_var, q_ty, q_cls, q_gint, q_bin, q_neg, q_not, q_cmp, q_chain, q_and, q_or, q_ife, q_sub, q_slc, q_tup, q_lst, q_call, q_mk, q_bi, q_app, q_fld, q_meth, q_nil, q_cons, q_tand, q_tor, q_tnot, q_tbl, q_tvar, q_tcmp, q_tchain, q_tsub, q_tcall, q_tbi, q_tmeth, q_bool, o_add, o_sub, o_mul, o_fdiv, o_mod, o_pow, c_eqi, c_nei, c_eqs, c_nes, c_lt, c_le, c_gt, c_ge, c_isn, c_notn, isNon_n, isNon_i, t_ret, t_expr, t_asg, t_ifs, PySem.sizeLine_eq, Mi.Env.set]) (fun h1 => by cases gb <;> simp [q_b1, q_b2, q_b3, q_mb, q_mp, q_mst, q_of1, q_of2, q_of3, q_opt, q_s1, q_s2, q_s3, q_s4, q_s5, q_exb0, q_exb1, q_non, q_bl, q_int, q_str, q_var, q_ty, q_cls, q_gint, q_bin, q_neg, q_not, q_cmp, q_chain, q_and, q_or, q_ife, q_sub, q_slc, q_tup, q_lst, q_call, q_mk, q_bi, q_app, q_fld, q_meth, q_nil, q_cons, q_tand, q_tor, q_tnot, q_tbl, q_tvar, q_tcmp, q_tchain, q_tsub, q_tcall, q_tbi, q_tmeth, q_bool, o_add, o_sub, o_mul, o_fdiv, o_mod, o_pow, c_eqi, c_nei, c_eqs, c_nes, c_lt, c_le, c_gt, c_ge, c_isn, c_notn, isNon_n, isNon_i, t_ret, t_expr, t_asg, t_ifs, PySem.sizeLine_eq, Mi.Env.set, biM]) (by cases gb <;> decide) (by cases gb <;> decide) (by decide)
  have hm : 0 ≤ m ∧ m ≤ 10000000000 := by simp at m3; omega
  have l3 : isL h3 l R := by
    have n1 := K1.nx
    have g1 : h1.get l = h.get l := K1.st l hlt hlb
    have g2 : (h1.new (.lst [.int 0, .int 995])).get l = h1.get l := MH.new_ne (by omega)
    have g3 : h3.get l = (h1.new (.lst [.int 0, .int 995])).get l := K3.st l (Nat.lt_succ_of_lt (by omega)) hlb
    unfold isL at hl ⊢
    rw [g3, g2, g1, hl]
  have il := isLst_ok l3
  have ap := app_ok (v := enc (a * (c1 + z), some (k + a * (c1 + z) + m))) l3 (by simp; omega)
  have sm : small (c1 + z) := by unfold small; omega
  refine ⟨c1 + z, m, h3.put l (.lst (R.map enc ++ [enc (a * (c1 + z), some (k + a * (c1 + z) + m))])), ?_, by omega, by omega, by omega, by omega, ?_, ?_, ?_, fun i hi hib hil => ?_⟩
  · simp only [enc, kv] at ap
    simp only [rowsBody, body_law_rows]
    rw [q_exb1, t_asg _ _ rfl, q_bin, q_mb, q_var]
    simp only [q_opt, List.getElem?_cons_succ, List.getElem?_cons_zero, Option.getD_some, q_b1]
    rw [q_mb, q_bin, q_mb, p1, q_b1, q_mb, e1, q_b1, o_add, q_b1, o_mul _ _ (.inr sm), q_of1, q_s1]
    simp only [Mi.Env.set, List.set_cons_succ, List.set_cons_zero]
    rw [q_exb1, t_asg _ _ rfl, p3, q_of1, q_s1]
    simp only [Mi.Env.set, List.set_cons_succ, List.set_cons_zero]
    simp [q_b1, q_b2, q_b3, q_mb, q_mp, q_mst, q_of1, q_of2, q_of3, q_opt, q_s1, q_s2, q_s3, q_s4, q_s5, q_exb0, q_exb1, q_non, q_bl, q_int, q_str, q_var, q_ty, q_cls, q_gint, q_bin, q_neg, q_not, q_cmp, q_chain, q_and, q_or, q_ife, q_sub, q_slc, q_tup, q_lst, q_call, q_mk, q_bi, q_app, q_fld, q_meth, q_nil, q_cons, q_tand, q_tor, q_tnot, q_tbl, q_tvar, q_tcmp, q_tchain, q_tsub, q_tcall, q_tbi, q_tmeth, q_bool, o_add, o_sub, o_mul, o_fdiv, o_mod, o_pow, c_eqi, c_nei, c_eqs, c_nes, c_lt, c_le, c_gt, c_ge, c_isn, c_notn, isNon_n, isNon_i, t_ret, t_expr, t_asg, t_ifs, PySem.sizeLine_eq, Mi.Env.set, il, ap, enc, kv]
  · unfold isL
    rw [MH.put_same, List.map_append]; rfl
  · obtain ⟨q1, g0, big, m0, c0, q2, q3⟩ := B3
    exact ⟨q1, g0, big, m0, c0, by rw [MH.put_ne (Ne.symm hlb)]; exact q2, by have := q3; omega⟩
  · exact Nat.le_trans K1.nx (Nat.le_trans (Nat.le_succ _) K3.nx)
  · have n1 := K1.nx
    have g1 : h1.get i = h.get i := K1.st i hi hib
    have g2 : (h1.new (.lst [.int 0, .int 995])).get i = h1.get i := MH.new_ne (by omega)
    have g3 : h3.get i = (h1.new (.lst [.int 0, .int 995])).get i := K3.st i (Nat.lt_succ_of_lt (by omega)) hib
    rw [MH.put_ne hil, g3, g2, g1]
end Lw
end

section
namespace Lw
open Mi
/-- a draw as a call -/
theorem takeK {n b : Nat} {h : MH} {N many : Int} (B : isB h b N) (hN : N < 2 ^ 32) (h0 : 0 < many) (h1 : many < 2 ^ 60) :
    ∃ d h', callM τ.tab (Mi.run τ.tab (n+1)) "_law_take" [.ref b, .int many] [] [] h = .ok (.int d) h' ∧ 0 ≤ d ∧ d < many ∧ isB h' b (N + 1) ∧ Kp b h h' := by
  obtain ⟨d, h', e, r⟩ := s24 (n := n) B hN h0 h1
  unfold rn at e
  exact ⟨d, h', (q_callM tfn_law_take (by simp [argsOf, fnp_law_take])).trans e, r⟩
/-- the loop of _law_rows -/
theorem rows_loop {n b l : Nat} {h : MH} {N : Int} {g : Int} {gb : Bool} {k : Int} {T : Nat} {o1 o2 : Option Mi.MV} (B : isB h b N) (hN : N < 2 ^ 30) (hl : isL h l [(1, some k)]) (hlt : l < h.next) (hlb : l ≠ b) (hk : 0 < k ∧ k ≤ 12) (hT : T ≤ 3) :
    ∃ a' k' R o1' o2' h', forL (stepF τ.tab (Mi.run τ.tab (n+1)) (.nm 6) rowsBody) (.rng 0 T) T 0 { sl := [some (.ref b), some (.int g), some (.bl gb), some (.int 1), some (.int k), some (.ref l), o1, o2], ex := none } h =
      .ok (.next { sl := [some (.ref b), some (.int g), some (.bl gb), some (.int a'), some (.int k'), some (.ref l), o1', o2'], ex := none }) h' ∧ PR R a' k' ∧ R.length = T + 1 ∧ a' < 2 ^ 40 ∧ k' < 2 ^ 40 ∧ isL h' l R ∧ isB h' b (N + 6) ∧ h.next ≤ h'.next ∧ ∀ i, i < h.next → i ≠ b → i ≠ l → h'.get i = h.get i := by
  have := forL_inv (step := stepF τ.tab (Mi.run τ.tab (n+1)) (.nm 6) rowsBody) (it := .rng 0 T) (N := T) (items := fun i => .int (0 + i))
    (fun i me h1 => ∃ a' k' R o1' o2', me = { sl := [some (.ref b), some (.int g), some (.bl gb), some (.int a'), some (.int k'), some (.ref l), o1', o2'], ex := none } ∧ PR R a' k' ∧ R.length = i + 1 ∧ a' ≤ 1002 ^ i ∧ k' ≤ 12 + i * 20000000000 ∧ isL h1 l R ∧ isB h1 b (N + 2 * i) ∧ h.next ≤ h1.next ∧ ∀ j, j < h.next → j ≠ b → j ≠ l → h1.get j = h.get j)
    (fun i me h1 _ hi => by
      show some (if i < T then _ else _) = _
      rw [if_pos hi]) (fun me h1 _ => by
      show some (if T < T then _ else _) = _
      rw [if_neg (Nat.lt_irrefl _)]) ?_ T 0 { sl := [some (.ref b), some (.int g), some (.bl gb), some (.int 1), some (.int k), some (.ref l), o1, o2], ex := none } h (by omega)
    ⟨1, k, _, o1, o2, rfl, pr_one hk.1, rfl, by decide, by omega, hl, by simpa using B, Nat.le_refl _, fun _ _ _ _ => rfl⟩
  · obtain ⟨me', h', e, a', k', R, o1', o2', rfl, p, q1, q2, q3, q4, q5, q6, q7⟩ := this
    refine ⟨a', k', R, o1', o2', h', e, p, q1, ?_, by omega, q4, ?_, q6, q7⟩
    · have : (1002 : Int) ^ T ≤ 1002 ^ 3 := by
        have hT' : T = 0 ∨ T = 1 ∨ T = 2 ∨ T = 3 := by omega
        rcases hT' with h | h | h | h <;> subst h <;> decide
      have e3 : (1002 : Int) ^ 3 = 1006012008 := by decide
      omega
    · obtain ⟨z1, g0, big, m0, c0, z2, z3⟩ := q5
      exact ⟨z1, g0, big, m0, c0, z2, by omega⟩
  · rintro i me h1 hi ⟨a', k', R, o1', o2', rfl, p, q1, q2, q3, q4, q5, q6, q7⟩
    have hi3 : i = 0 ∨ i = 1 ∨ i = 2 := by omega
    have ha : a' ≤ 1004004 := by
      rcases hi3 with h | h | h <;> subst h <;> (have := q2; simp at this; omega)
    have hpos : 0 ≤ a' := by
      have hne := p.ne
      have := (p.pos _ (row_mem (R := R) (i := 0) (by omega) (by omega))).2
      have h2 := (p.pos _ (row_mem (R := R) (i := 0) (by omega) (by omega))).1
      omega
    obtain ⟨f, m, h2, e, f2, f3, m0, m1, r1, r2, r3, r4⟩ := rows_step (n := n) (tn := .int (0 + i)) (mo := o2') (g := g) (gb := gb) q5 (by omega) q4 (by omega) hlb p (by omega) (by omega)
    refine ⟨_, h2, e, a' * f, _, _, _, _, rfl, pr_step p f2 m0, by simp [q1], ?_, ?_, r1, ?_, by omega, fun j hj hjb hjl => (r4 j (by omega) hjb hjl).trans (q7 j hj hjb hjl)⟩
    · rw [Int.pow_succ]
      exact Int.mul_le_mul q2 f3 (by omega) (by rcases hi3 with h | h | h <;> subst h <;> decide)
    · have z : a' * f ≤ 1004004 * 1002 := Int.mul_le_mul ha f3 (by omega) (by decide)
      omega
    · obtain ⟨z1, g0, big, m0, c0, z2, z3⟩ := r2
      exact ⟨z1, g0, big, m0, c0, z2, by omega⟩
end Lw
end

section
namespace Lw
open Mi
theorem q_rng1 {T : Tab} {C : CallF} {me : Mi.Env} {h : MH} (a : ME) : evI T C me (.rng1 a) h = M.bind (evE T C me a) (fun x => match x with
    | .int j => if rngOk j then M.pure (.rng 0 j.toNat) else M.stuck
    | _ => M.stuck) h := by simp only [evI] <;> rfl
theorem sz_rng {h : MH} {lo : Int} {n : Nat} : Mi.It.size h (.rng lo n) = n := rfl
theorem s30 {n b : Nat} {h : MH} {N : Int} (B : isB h b N) (hN : N < 2 ^ 29) : ∃ l h' R, rn (n+2) f_law_rows [.ref b] h = .ok (.ref l) h' ∧ GR R ∧ isL h' l R ∧ isB h' b (N + 10) ∧ h.next ≤ l ∧ l < h'.next ∧ Kp b h h' := by
  obtain ⟨d1, h1, k1, a1, c1, B1, K1⟩ := takeK (n := n) (many := 4) B (by omega) (by decide) (by decide)
  obtain ⟨d2, h2, k2, a2, c2, B2, K2⟩ := takeK (n := n) (many := 5) B1 (by omega) (by decide) (by decide)
  obtain ⟨d3, h3, k3, a3, c3, B3, K3⟩ := takeK (n := n) (many := 12) B2 (by omega) (by decide) (by decide)
  have K := (K1.trans K2).trans K3
  have nl : newL [.tup [.int 1, .int (1 + d3)]] h3 = .ok (.ref h3.next) (h3.new (.lst [.tup [.int 1, .int (1 + d3)]])) := newL_ev (by simp)
  obtain ⟨a', k', R, o1, o2, h5, eF, p, q1, q2, q3, q4, q5, q6, q7⟩ := rows_loop (n := n) (b := b) (l := h3.next) (h := h3.new (.lst [.tup [.int 1, .int (1 + d3)]])) (N := N + 3) (g := 1 + d1) (gb := decide (d2 = 0)) (k := 1 + d3) (T := d1.toNat) (o1 := none) (o2 := none)
    (by have := B3.new (o := .lst [.tup [.int 1, .int (1 + d3)]]); rw [show N + 3 = N + 1 + 1 + 1 by omega]; exact this) (by omega) MH.new_same (Nat.lt_succ_self _) (by have := B3.lt; omega) (by omega) (by omega)
  obtain ⟨d4, h6, k4, a4, c4, B6, K6⟩ := takeK (n := n) (many := 2) q5 (by omega) (by decide) (by decide)
  have gr := gr_of p (by omega) (by omega) (by omega)
  have hlb : h3.next ≠ b := by have := B3.lt; omega
  have l5 : h3.next < h5.next := Nat.lt_of_lt_of_le (Nat.lt_succ_self _) q6
  have l6 : isL h6 h3.next R := (K6.st _ l5 hlb).trans q4
  have rg : rngOk (1 + d1 - 1) := by unfold rngOk; omega
  have ht : (1 + d1).toNat - 1 = d1.toNat := by omega
  have ke : ∀ i, i < h.next → i ≠ b → h6.get i = h.get i := fun i hi hib => by
    have n3 := K.nx
    have e6 := K6.st i (by have := q6; have : h3.next + 1 ≤ h5.next := q6; omega) hib
    have e5 := q7 i (Nat.lt_succ_of_lt (by omega)) hib (by omega)
    have e4 : (h3.new (.lst [.tup [.int 1, .int (1 + d3)]])).get i = h3.get i := MH.new_ne (by omega)
    rw [e6, e5, e4, K.st i hi hib]
  have bn : ∀ {hh : MH} {M : Int}, isB hh b M → M ≤ N + 10 → isB hh b (N + 10) := fun {hh M} ⟨z1, g0, big, m0, c0, z2, z3⟩ hM => ⟨z1, g0, big, m0, c0, z2, by omega⟩
  by_cases hd : d4 = 0
  · have st : setSubM (.ref h3.next) (.int (-1)) (.tup [.int a', .non]) h6 = .ok () (h6.put h3.next (.lst ((R.map enc).set (R.length - 1) (.tup [.int a', .non])))) := by
      have l6' := l6
      unfold isL at l6'
      have ix : Mi.idx (R.map enc).length (-1) = some (R.length - 1) := by
        unfold Mi.idx L2.ixN
        rw [List.length_map, if_neg (by decide), if_pos (by have := p.ne; omega)]
        congr 1
        have := p.ne
        omega
      unfold setSubM
      simp only [l6', ix]
    refine ⟨h3.next, h6.put h3.next (.lst ((R.map enc).set (R.length - 1) (.tup [.int a', .non]))), R.set (R.length - 1) ((row R ((R.length : Int) - 1)).1, none), ?_, gr_none gr, ?_, ?_, K.nx, Nat.lt_of_lt_of_le l5 K6.nx, ⟨Nat.le_trans K.nx (Nat.le_trans (Nat.le_of_lt l5) K6.nx), fun i hi hib => ?_⟩⟩
    · unfold rn
      rw [run_at { sl := [some (.ref b), none, none, none, none, none, none, none], ex := none } body_law_rows rfl rfl rfl]
      simp only [rowsBody, body_law_rows] at eF
      simp [q_b1, q_b2, q_b3, q_mb, q_mp, q_mst, q_of1, q_of2, q_of3, q_opt, q_s1, q_s2, q_s3, q_s4, q_s5, q_exb0, q_exb1, q_non, q_bl, q_int, q_str, q_var, q_ty, q_cls, q_gint, q_bin, q_neg, q_not, q_cmp, q_chain, q_and, q_or, q_ife, q_sub, q_slc, q_tup, q_lst, q_call, q_mk, q_bi, q_app, q_fld, q_meth, q_nil, q_cons, q_tand, q_tor, q_tnot, q_tbl, q_tvar, q_tcmp, q_tchain, q_tsub, q_tcall, q_tbi, q_tmeth, q_bool, o_add, o_sub, o_mul, o_fdiv, o_mod, o_pow, c_eqi, c_nei, c_eqs, c_nes, c_lt, c_le, c_gt, c_ge, c_isn, c_notn, isNon_n, isNon_i, t_ret, t_expr, t_asg, t_ifs, PySem.sizeLine_eq, Mi.Env.set, body_law_rows, k1, k2, k3, nl, t_asgsw, t_sw2, t_fors, q_rng1, rg, ht, sz_rng, eF, k4, hd, t_asgsub, st]
    · unfold isL
      have e : enc ((row R ((R.length : Int) - 1)).1, none) = .tup [.int a', .non] := by rw [p.last]; rfl
      rw [MH.put_same, List.map_set, e]
    · obtain ⟨z1, g0, big, m0, c0, z2, z3⟩ := B6
      exact ⟨z1, g0, big, m0, c0, by rw [MH.put_ne (Ne.symm hlb)]; exact z2, by omega⟩
    · have n3 := K.nx
      rw [MH.put_ne (by omega)]; exact ke i hi hib
  · refine ⟨h3.next, h6, R, ?_, gr, l6, bn B6 (by omega), K.nx, Nat.lt_of_lt_of_le l5 K6.nx, ⟨Nat.le_trans K.nx (Nat.le_trans (Nat.le_of_lt l5) K6.nx), ke⟩⟩
    unfold rn
    rw [run_at { sl := [some (.ref b), none, none, none, none, none, none, none], ex := none } body_law_rows rfl rfl rfl]
    simp only [rowsBody, body_law_rows] at eF
    simp [q_b1, q_b2, q_b3, q_mb, q_mp, q_mst, q_of1, q_of2, q_of3, q_opt, q_s1, q_s2, q_s3, q_s4, q_s5, q_exb0, q_exb1, q_non, q_bl, q_int, q_str, q_var, q_ty, q_cls, q_gint, q_bin, q_neg, q_not, q_cmp, q_chain, q_and, q_or, q_ife, q_sub, q_slc, q_tup, q_lst, q_call, q_mk, q_bi, q_app, q_fld, q_meth, q_nil, q_cons, q_tand, q_tor, q_tnot, q_tbl, q_tvar, q_tcmp, q_tchain, q_tsub, q_tcall, q_tbi, q_tmeth, q_bool, o_add, o_sub, o_mul, o_fdiv, o_mod, o_pow, c_eqi, c_nei, c_eqs, c_nes, c_lt, c_le, c_gt, c_ge, c_isn, c_notn, isNon_n, isNon_i, t_ret, t_expr, t_asg, t_ifs, PySem.sizeLine_eq, Mi.Env.set, body_law_rows, k1, k2, k3, nl, t_asgsw, t_sw2, t_fors, q_rng1, rg, ht, sz_rng, eF, k4, hd]
end Lw
end

section
namespace Lw
open Mi
theorem isB.up {h : MH} {b : Nat} {N M : Int} (B : isB h b N) (e : N ≤ M) : isB h b M := by
  obtain ⟨z1, g0, big, m0, c0, z2, z3⟩ := B
  exact ⟨z1, g0, big, m0, c0, z2, by omega⟩
theorem isL.kp {h h' : MH} {b l : Nat} {R : List (Int × Option Int)} (hl : isL h l R) (K : Kp b h h') (hlt : l < h.next) (hlb : l ≠ b) : isL h' l R := (K.st l hlt hlb).trans hl
theorem isL.len {h : MH} {l : Nat} {R : List (Int × Option Int)} (hl : isL h l R) : biM τ.tab .len [.ref l] h = .ok (.int R.length) h := by
  unfold isL at hl
  show (match asSeq h (.ref l) with | some xs => Res.ok (Mi.MV.int xs.length) h | none => Res.stuck) = _
  unfold asSeq asList
  simp only [hl, List.length_map]
/-- a plain edge, a step as calls -/
theorem stepK {n l : Nat} {R : List (Int × Option Int)} {h : MH} {i : Int} (hl : isL h l R) (h0 : 0 ≤ i) (h1 : i < R.length) : callM τ.tab (Mi.run τ.tab (n+1)) "_law_step" [.ref l, .int i] [] [] h = .ok (.int (stp R i)) h := (q_callM tfn_law_step (by simp [argsOf, fnp_law_step])).trans (s8 (n := n) hl h0 h1)
theorem edgeK {n l : Nat} {R : List (Int × Option Int)} {h : MH} {i : Int} (gp : GP R) (hl : isL h l R) (h0 : 0 ≤ i) (h1 : i < R.length) (c : Int) : callM τ.tab (Mi.run τ.tab (n+2)) "_law_edge" [.ref l, .int i, .int c] [] [] h = .ok (.int (edg R i c)) h := (q_callM tfn_law_edge (by simp [argsOf, fnp_law_edge])).trans (s7 (n := n) gp hl h0 h1 c)
end Lw
end

section
namespace Lw
open Mi
open PySem (PyData)
section
variable {Q : Mi.MV → MH → Prop} {QT : Bool → MH → Prop} {QM : MH → Prop} {E : PySem.Str → Nat → MH → Prop} {P : Po} {T : Tab} {C : CallF} {me : Mi.Env} {h : MH}
theorem z_tand (a b : ME) : Wr QT E (evT T C me (.and a b) h) = Wr (fun k h => cnd (Wr QT E (evT T C me b h)) (QT false h) k) E (evT T C me a h) := by
  rw [q_tand, y_bind]; congr 1; funext k h; cases k <;> rfl
theorem z_tor (a b : ME) : Wr QT E (evT T C me (.or a b) h) = Wr (fun k h => cnd (QT true h) (Wr QT E (evT T C me b h)) k) E (evT T C me a h) := by
  rw [q_tor, y_bind]; congr 1; funext k h; cases k <;> rfl
theorem z_and (a b : ME) : Wr Q E (evE T C me (.and a b) h) = Wr (fun x h => Wr (fun k h => cnd (Wr Q E (evE T C me b h)) (Q (.bl false) h) k) E (boolM x h)) E (evE T C me a h) := by
  rw [q_and, y_bind]; congr 1; funext x h; rw [y_bind]; congr 1; funext k h; cases k <;> rfl
theorem z_or (a b : ME) : Wr Q E (evE T C me (.or a b) h) = Wr (fun x h => Wr (fun k h => cnd (Q (.bl true) h) (Wr Q E (evE T C me b h)) k) E (boolM x h)) E (evE T C me a h) := by
  rw [q_or, y_bind]; congr 1; funext x h; rw [y_bind]; congr 1; funext k h; cases k <;> rfl
theorem z_ife (c a b : ME) : Wr Q E (evE T C me (.ife c a b) h) = Wr (fun k h => cnd (Wr Q E (evE T C me a h)) (Wr Q E (evE T C me b h)) k) E (evT T C me c h) := by
  rw [q_ife, y_bind]; congr 1; funext k h; cases k <;> rfl
theorem z_chain (op op' : Mi.COp) (a b c : ME) : Wr Q E (evE T C me (.chain op op' a b c) h) = Wr (fun x h => Wr (fun y h => Wr (fun z h => Wr (fun k h => cnd (Wr (fun w h => Wr Q E (cmpM op' y w h)) E (evE T C me c h)) (Q (.bl false) h) k) E (boolM z h)) E (cmpM op x y h)) E (evE T C me b h)) E (evE T C me a h) := by
  rw [q_chain, y_bind]; congr 1; funext x h; rw [y_bind]; congr 1; funext y h; rw [y_bind]; congr 1; funext z h; rw [y_bind]; congr 1; funext k h
  cases k
  · rfl
  · simp only [if_true, cnd, y_bind]
theorem q_slcY (e : ME) : evO T C me (.yes e) h = M.bind (evE T C me e) (fun x => match x with | .int i => M.pure (some i) | _ => M.stuck) h := by simp only [evO] <;> rfl
theorem b_max (i j : Int) : biM T .max2 [.int i, .int j] h = .ok (.int (if j > i then j else i)) h := (rfl)
theorem b_min (i j : Int) : biM T .min2 [.int i, .int j] h = .ok (.int (if j < i then j else i)) h := (rfl)
theorem b_abs (i : Int) : biM T .abs [.int i] h = .ok (.int (if i < 0 then -i else i)) h := (rfl)
theorem b_inti (i : Int) : biM T .int1 [.int i] h = .ok (.int i) h := (rfl)
theorem b_intb (b : Bool) : biM T .int1 [.bl b] h = .ok (.int (if b then 1 else 0)) h := (rfl)
theorem b_lenl {l : Nat} {xs : List Mi.MV} (a : At h l (.lst xs)) : biM T .len [.ref l] h = .ok (.int xs.length) h := by
  show (match asSeq h (.ref l) with | some xs => Res.ok (Mi.MV.int xs.length) h | none => Res.stuck) = _
  unfold asSeq asList
  simp only [a.get]
theorem b_lent {xs : List Mi.MV} : biM T .len [.tup xs] h = .ok (.int xs.length) h := (rfl)
theorem sw2 {a b : Mi.MV} {i j : Nat} (hx : me.ex = none) : asgM T C me (.tup [a, b]) (.sw [i, j]) h = .ok ((me.set j b).set i a) h := by
  simp [asgM, hx]; rfl
theorem sub_ix {x : Mi.MV} {xs : List Mi.MV} {i : Int} {v : Mi.MV} (e : asSeq h x = some xs) (e2 : (Mi.idx xs.length i).bind (fun j => xs[j]?) = some v) : subM x (.int i) h = .ok v h := by
  unfold subM
  simp only [e, e2]
theorem sub_t0 {a : Mi.MV} {xs : List Mi.MV} : subM (.tup (a :: xs)) (.int 0) h = .ok a h := by
  refine sub_ix rfl ?_
  rw [idx_ok (by decide) (by simp <;> omega)]; rfl
theorem sub_t1 {a b : Mi.MV} {xs : List Mi.MV} : subM (.tup (a :: b :: xs)) (.int 1) h = .ok b h := by
  refine sub_ix rfl ?_
  rw [idx_ok (by decide) (by simp <;> omega)]; rfl
theorem asL {l : Nat} {xs : List Mi.MV} (a : At h l (.lst xs)) : asSeq h (.ref l) = some xs := by
  unfold asSeq asList
  simp only [a.get]
theorem sub_nat {l : Nat} {xs : List Mi.MV} {i : Int} (a : At h l (.lst xs)) (h0 : 0 ≤ i) (h1 : i < xs.length) : ∃ v, xs[i.toNat]? = some v ∧ subM (.ref l) (.int i) h = .ok v h := by
  have hz : i.toNat < xs.length := by omega
  refine ⟨xs[i.toNat], by simp [hz], sub_ix (asL a) ?_⟩
  rw [idx_ok h0 h1]; simp [hz]
theorem sub_pick {l : Nat} {xs : List Mi.MV} {i : Int} (a : At h l (.lst xs)) (h0 : 0 ≤ i) (h1 : i < xs.length) (H : ∀ x, x ∈ xs → Q x h) : Wr Q E (subM (.ref l) (.int i) h) := by
  obtain ⟨v, e, s⟩ := sub_nat a h0 h1
  rw [s]
  exact H v (List.mem_of_getElem? e)
end
section
variable {α : Type} {T : Tab} {C : CallF} {me : Mi.Env} {h : MH}
/-! ### comprehensions -/
def stepG (T : Tab) (C : CallF) (me : Mi.Env) (vs : List Nat) (t : CT) (c e : ME) : Mi.MV → M (Option Mi.MV) := fun v h => match setT h (wipeM me vs) v t with
  | some me' => quiet (M.bind (evT T C me' c) fun k => if k = true then M.bind (evE T C me' e) fun w => M.pure (some w) else M.pure none) h
  | none => .stuck
theorem comp_w {Q : Mi.MV → MH → Prop} {E : PySem.Str → Nat → MH → Prop} {vs : List Nat} {t : CT} {it : MI} {c e : ME} (hx : me.ex = none) (H : Wr (fun J h => Wr (fun _ h' => Q (.ref h.next) h') E (Mi.compL (stepG T C me vs t c e) J h.next (J.size h) 0 (h.new (.lst [])))) E (evI T C me it h)) : Wr Q E (evE T C me (.comp vs t it c e) h) := by
  have hx' : ¬ (me.ex.isSome = true) := by rw [hx]; simp
  have : evE T C me (.comp vs t it c e) h = M.bind (evI T C me it) (fun J => fun h => M.bind (newL []) (fun r => match r with
    | .ref n => fun h' => M.bind (Mi.compL (stepG T C me vs t c e) J n (J.size h) 0) (fun _ => M.pure (Mi.MV.ref n)) h'
    | _ => M.stuck) h) h := by
    unfold evE
    rw [if_neg hx']
    rfl
  rw [this, y_bind]
  revert H
  cases evI T C me it h with
  | ok J h1 =>
    intro H
    simp only [y_ok] at H ⊢
    rw [y_bind, x_newL (by simp), y_ok]
    simp only
    rw [y_bind]
    exact H
  | exc => exact id
  | stuck => exact id
theorem stepG_nm {Q : Option Mi.MV → MH → Prop} {E : PySem.Str → Nat → MH → Prop} {vs : List Nat} {i : Nat} {c e : ME} {v : Mi.MV} (H : Wr (fun k h => cnd (Wr (fun w h => Q (some w) h) (fun _ _ _ => False) (evE T C ((wipeM me vs).set i v) e h)) (Q none h) k) (fun _ _ _ => False) (evT T C ((wipeM me vs).set i v) c h)) : Wr Q E (stepG T C me vs (.nm i) c e v h) := by
  unfold stepG
  simp only [setT]
  unfold quiet
  simp only [M.bind]
  revert H
  cases evT T C ((wipeM me vs).set i v) c h with
  | ok k h1 =>
    cases k with
    | true =>
      simp only [y_ok, x_ct, if_true, M.bind]
      cases evE T C ((wipeM me vs).set i v) e h1 with
      | ok w h2 => exact id
      | exc => exact False.elim
      | stuck => exact id
    | false => exact id
  | exc => exact False.elim
  | stuck => exact id
theorem compL_1 {Q : Unit → MH → Prop} {E : PySem.Str → Nat → MH → Prop} {step : Mi.MV → M (Option Mi.MV)} {it : Mi.It} {r k i : Nat} {v : Mi.MV} (hat : it.at h i = some (some v))
    (H : Wr (fun o h' => match o with
      | none => Wr Q E (Mi.compL step it r k (i + 1) h')
      | some w => ∃ acc, h'.get r = some (.lst acc) ∧ acc.length < 16777216 ∧ Wr Q E (Mi.compL step it r k (i + 1) (h'.put r (.lst (acc ++ [w]))))) E (step v h)) : Wr Q E (Mi.compL step it r (k + 1) i h) := by
  unfold Mi.compL
  rw [hat]
  simp only
  rw [y_bind]
  revert H
  cases step v h with
  | ok o h1 =>
    cases o with
    | none => exact id
    | some w =>
      rintro ⟨acc, e, hz, H⟩
      simp only [y_ok, e]
      rw [if_pos (by rw [PySem.sizeLine_eq]; exact hz)]
      exact H
  | exc => exact id
  | stuck => exact id
theorem compL_0 {Q : Unit → MH → Prop} {E : PySem.Str → Nat → MH → Prop} {step : Mi.MV → M (Option Mi.MV)} {it : Mi.It} {r i : Nat} (hat : it.at h i = some none) : Wr Q E (Mi.compL step it r 0 i h) = Q () h := by
  unfold Mi.compL
  rw [hat]; rfl
end
theorem Sp_for {α : Type} {r : Res α} {Φ : α → MH → Prop} (H : ∀ Q E, (∀ a h', Φ a h' → Q a h') → Wr Q E r) : Sp r Φ := Sp_of (H Φ _ fun _ _ p => p)
theorem Kp.frr {b : Nat} {h h' : MH} (K : Kp b h h') : Fr [b] h h' := ⟨K.nx, fun m l n => K.st m l (by simpa using n)⟩
theorem Fr.kp {b : Nat} {h h' : MH} (K : Fr [b] h h') : Kp b h h' := ⟨K.nx, fun m l n => K.st m l (by simpa using n)⟩
theorem take_sp {n b : Nat} {h : MH} {N many : Int} (B : isB h b N) (hN : N < 2 ^ 32) (h0 : 0 < many) (h1 : many < 2 ^ 60) : Sp (Mi.run τ.tab (n+1) f_law_take [.ref b, .int many] h) (fun v h' => ∃ d, v = .int d ∧ 0 ≤ d ∧ d < many ∧ isB h' b (N + 1) ∧ Fr [b] h h') := by
  obtain ⟨d, h', e, r1, r2, r3, r4⟩ := s24 (n := n) B hN h0 h1
  exact ⟨_, _, e, d, rfl, r1, r2, r3, r4.frr⟩
theorem c_take {T : Tab} {C : CallF} {h : MH} {x y : Mi.MV} (e : T.fn "_law_take" = some f_law_take) : callM T C "_law_take" [x, y] [] [] h = C f_law_take [x, y] h := x_callM e (by simp [argsOf, fnp_law_take])
theorem isB.fr0 {b : Nat} {h h' : MH} {N : Int} (B : isB h b N) (F : Fr [] h h') : isB h' b N := by
  obtain ⟨hl, g, big, m, c, e, r⟩ := B
  exact ⟨Nat.lt_of_lt_of_le hl F.nx, g, big, m, c, (F.st b hl (by simp)).trans e, r⟩
end Lw
end

section
namespace Lw
open Mi
open PySem (PyData)
/-! ### shared by the laws over rules (k20, k21) -/
section
variable {T : Tab} {C : CallF} {h h' : MH} {l : Nat} {R : List (Int × Option Int)} {i : Int}
theorem sbA (a : At h l (.lst (R.map enc))) (h0 : 0 ≤ i) (h1 : i < R.length) : subM (.ref l) (.int i) h = .ok (enc (row R i)) h := sbl a.get h0 h1
theorem c_step (x y : Mi.MV) : callM τ.tab C "_law_step" [x, y] [] [] h = C f_law_step [x, y] h := x_callM tfn_law_step (by simp [argsOf, fnp_law_step])
theorem c_edge (x y z : Mi.MV) : callM τ.tab C "_law_edge" [x, y, z] [] [] h = C f_law_edge [x, y, z] h := x_callM tfn_law_edge (by simp [argsOf, fnp_law_edge])
theorem e_step {n : Nat} (a : At h l (.lst (R.map enc))) (h0 : 0 ≤ i) (h1 : i < R.length) : Mi.run τ.tab (n+1) f_law_step [.ref l, .int i] h = .ok (.int (stp R i)) h := s8 (n := n) a.get h0 h1
theorem e_edge {n : Nat} (gp : GP R) (a : At h l (.lst (R.map enc))) (h0 : 0 ≤ i) (h1 : i < R.length) (c : Int) : Mi.run τ.tab (n+2) f_law_edge [.ref l, .int i, .int c] h = .ok (.int (edg R i c)) h := s7 (n := n) gp a.get h0 h1 c
theorem sub_held {m : Nat} {o : Option Int} {y : Int} (a : At h m (.lst [kv o, .int y])) : subM (.ref m) (.int (if isNon (kv o) = true then 1 else 0)) h = .ok (.int (o.getD y)) h := by
  cases o with
  | none => exact sub_ix (asL a) rfl
  | some k => exact sub_ix (asL a) rfl
end
theorem edg_bd {R : List (Int × Option Int)} (gk : GK R) {i c : Int} (h0 : 0 ≤ i) (h1 : i < R.length) (hc : 0 ≤ c) : 0 ≤ edg R i c ∧ edg R i c ≤ c := by
  unfold edg
  obtain ⟨p1, p2⟩ := stp_pos gk.toGP h0 h1
  cases hk : (row R i).2 with
  | none => simp; exact hc
  | some k =>
    have kq := (gk.kp _ (row_mem h0 h1) k hk).1
    simp only
    split
    · simp; exact hc
    · rename_i z
      have e2 := Int.mul_ediv_add_emod (c - k) (stp R i)
      have m0 := Int.emod_nonneg (c - k) (show stp R i ≠ 0 by omega)
      have e3 : (c - k) / stp R i * stp R i = stp R i * ((c - k) / stp R i) := Int.mul_comm _ _
      have q0 : 0 ≤ (c - k) / stp R i := Int.ediv_nonneg (by omega) (by omega)
      have p0 : 0 ≤ (c - k) / stp R i * stp R i := Int.mul_nonneg q0 (by omega)
      omega
theorem o_pow12 {h : MH} : binM .pow (.int 10) (.int 12) h = .ok (.int 1000000000000) h := by
  rw [o_pow _ _ ⟨by decide, by decide⟩ (by decide)]
  rfl
theorem tp3 {me : Mi.Env} {h : MH} {n i j k : Nat} {a b c : Mi.MV} (A : At h n (.lst [a, b, c])) : setTL me (.ref n) [i, j, k] h = .ok (((me.set i a).set j b).set k c) h := by
  unfold setTL
  rw [asL A]; rfl
def isRA (h : MH) (r : Nat) (R : List (Int × Option Int)) : Prop := At h r (.ins "Rules" [("rows", .tup (R.map enc))])
/-! ### texts of data -/
mutual
def okC : PyData → Bool
  | .none => true
  | .bool _ => true
  | .int _ => true
  | .str x => (PySem.reprText x).cps.toList.all fun c => decide (c < 16 ^ 8)
  | .list xs => okCs xs
  | .tuple xs => okCs xs
  | .dict _ => false
def okCs : List PyData → Bool
  | [] => true
  | x :: xs => okC x && okCs xs
end
mutual
theorem okC_small : ∀ d : PyData, okC d = true → ∀ c ∈ d.shown.cps.toList, c < 16 ^ 8
  | .none, _, c, hc => by
    have e : ((PyData.none).shown.cps.toList.all fun c => decide (c < 16 ^ 8)) = true := by decide +kernel
    simpa using List.all_eq_true.mp e c hc
  | .bool b, _, c, hc => by
    have e : ((PyData.bool b).shown.cps.toList.all fun c => decide (c < 16 ^ 8)) = true := by cases b <;> decide +kernel
    simpa using List.all_eq_true.mp e c hc
  | .int i, _, c, hc => small_int i c hc
  | .str x, h, c, hc => by
    unfold okC at h
    have hc' : c ∈ (PySem.reprText x).cps.toList := by simpa only [PyData.shown] using hc
    simpa using List.all_eq_true.mp h c hc'
  | .list xs, h, c, hc => by
    unfold okC at h
    have hc' := hc
    rw [PyData.shown_list] at hc'
    rw [PyProof.Rows.mem_cps_append, PyProof.Rows.mem_cps_append, PyProof.Rows.mem_join, PyProof.Rows.signs_lbrack, PyProof.Rows.signs_rbrack, PyProof.Rows.signs_sep] at hc'
    rcases hc' with (z | ⟨t, ht, z⟩ | ⟨_, z⟩) | z
    · simp at z; omega
    · exact okCs_small xs h t ht c z
    · simp at z; omega
    · simp at z; omega
  | .tuple xs, h, c, hc => by
    unfold okC at h
    have hc' := hc
    rw [PyData.shown_tuple] at hc'
    rw [PyProof.Rows.mem_cps_append, PyProof.Rows.mem_cps_append, PyProof.Rows.mem_join, PyProof.Rows.signs_lparen, PyProof.Rows.signs_sep] at hc'
    rcases hc' with (z | ⟨t, ht, z⟩ | ⟨_, z⟩) | z
    · simp at z; omega
    · exact okCs_small xs h t ht c z
    · simp at z; omega
    · have e1 : (((",)" : String) : PySem.Str).cps.toList.all fun c => decide (c < 16 ^ 8)) = true := by decide +kernel
      have e2 : (((")" : String) : PySem.Str).cps.toList.all fun c => decide (c < 16 ^ 8)) = true := by decide +kernel
      split at z
      · simpa using List.all_eq_true.mp e1 c z
      · simpa using List.all_eq_true.mp e2 c z
  | .dict _, h, _, _ => by unfold okC at h; cases h
theorem okCs_small : ∀ xs : List PyData, okCs xs = true → ∀ t ∈ PyData.shownAll xs, ∀ c ∈ t.cps.toList, c < 16 ^ 8
  | [], _, t, ht, _, _ => by simp only [PyData.shownAll] at ht; cases ht
  | x :: xs, h, t, ht, c, hc => by
    unfold okCs at h
    rw [Bool.and_eq_true] at h
    simp only [PyData.shownAll] at ht
    rcases List.mem_cons.mp ht with e | e
    · subst e; exact okC_small x h.1 c hc
    · exact okCs_small xs h.2 t e c hc
end
/-- a text of data can be shown, too -/
theorem sh_txt {d : PyData} {w z : Nat} (s : Sh d w z) (o : okC d = true) : Sh (.str d.shown) (32 * w + 30) 0 := by
  refine sh_str (okC_small d o) ?_
  have hl := PyData.shown_le 30 (by decide) d s.ls
  have := s.wt
  show d.shown.length ≤ _
  have h2 : (30 + 2) * d.weight ≤ 32 * w := Nat.mul_le_mul_left 32 this
  omega
def isLd : PyData → Bool
  | .list _ => true
  | _ => false
def grown : PyData → PyData
  | .list ds => .list (ds ++ [.str "more"])
  | d => d
theorem isi_list {S : List Nat} {T : Tab} {h : MH} {v : Mi.MV} {d : PyData} (a : V S h v d) : biM T .isi [v, .ty "list"] h = .ok (.bl (isLd d)) h := by
  refine a.isi ?_
  cases a <;> rfl
theorem sh_sm {x : PySem.Str} {w : Nat} (e : (x.cps.toList.all (fun c => decide (c < 16 ^ 8)) && decide (x.cps.size ≤ w)) = true) : Sh (.str x) w 0 := by
  have : (∀ c ∈ x.cps.toList, c < 16 ^ 8) ∧ x.cps.size ≤ w := by
    simp only [Bool.and_eq_true, List.all_eq_true, decide_eq_true_eq] at e
    exact e
  exact sh_str this.1 this.2
theorem sh_more : Sh (.str "more") 4 0 := sh_sm (by decide +kernel)
/-- an argument: small, flat, its list (if it is one) has one int at most -/
structure argOk (d : PyData) : Prop where
  sh : Sh (grown d) 250 1
  ok : okC (grown d) = true
  lst : ∀ ds, d = .list ds → ds.length ≤ 1 ∧ ∀ x ∈ ds, ∃ i, x = .int i
  tup : ∀ ds, d = .tuple ds → ∀ x ∈ ds, ∃ i, x = .int i
  num : ∀ i, d = .int i → i.natAbs < 10 ^ 24
theorem arg_int {i : Int} (h : i.natAbs < 10 ^ 24) : argOk (.int i) := ⟨(sh_int (by omega)).up (by omega) (by omega), rfl, fun _ e => (by cases e), fun _ e => (by cases e), fun _ e => (by cases e; exact h)⟩
theorem arg_bl (b : Bool) : argOk (.bool b) := ⟨(sh_bl b).up (by omega) (by omega), rfl, fun _ e => (by cases e), fun _ e => (by cases e), fun _ e => (by cases e)⟩
theorem arg_non : argOk .none := ⟨sh_non.up (by omega) (by omega), rfl, fun _ e => (by cases e), fun _ e => (by cases e), fun _ e => (by cases e)⟩
theorem arg_str {x : PySem.Str} (e : (x.cps.toList.all (fun c => decide (c < 16 ^ 8)) && decide (x.cps.size ≤ 20)) = true) (e2 : ((PySem.reprText x).cps.toList.all fun c => decide (c < 16 ^ 8)) = true) : argOk (.str x) :=
  ⟨(sh_sm e).up (by omega) (by omega), by unfold grown okC; exact e2, fun _ e => (by cases e), fun _ e => (by cases e), fun _ e => (by cases e)⟩
theorem okMore : okC (.str "more") = true := by decide +kernel
theorem arg_l1 {i : Int} (h : i.natAbs < 10 ^ 24) : argOk (.list [.int i]) :=
  ⟨(sh_lst (shs_cons (sh_int (by omega)) (shs_cons sh_more shs_nil))).up (by omega) (by omega), (by show (okC (.int i) && (okC (.str "more") && okCs [])) = true; rw [okMore]; rfl), fun _ e => (by cases e; simp), fun _ e => (by cases e), fun _ e => (by cases e)⟩
theorem arg_l0 : argOk (.list []) :=
  ⟨(sh_lst (shs_cons sh_more shs_nil)).up (by omega) (by omega), (by show (okC (.str "more") && okCs []) = true; rw [okMore]; rfl), fun _ e => (by cases e; simp), fun _ e => (by cases e), fun _ e => (by cases e)⟩
theorem arg_t1 {i : Int} (h : i.natAbs < 10 ^ 24) : argOk (.tuple [.int i]) :=
  ⟨(sh_tup (shs_cons (sh_int (by omega)) shs_nil)).up (by omega) (by omega), rfl, fun _ e => (by cases e), fun _ e => (by cases e; simp), fun _ e => (by cases e)⟩
theorem arg_t2 {i j : Int} (h : i.natAbs < 10 ^ 24) (h2 : j.natAbs < 10 ^ 24) : argOk (.tuple [.int i, .int j]) :=
  ⟨(sh_tup (shs_cons (sh_int (by omega)) (shs_cons (sh_int (by omega)) shs_nil))).up (by omega) (by omega), rfl, fun _ e => (by cases e), fun _ e => (by cases e; simp), fun _ e => (by cases e)⟩
theorem argOk.sc {d : PyData} (o : argOk d) : ∀ ds, d = .list ds → ds.length ≤ 1 ∧ ∀ x ∈ ds, ∃ i, x = .int i := o.lst
/-! ### lists that grow while an exception is handled -/
section
variable {T : Tab} {C : CallF} {P : Po} {me : Mi.Env} {h : MH} {Q : Mi.MV → MH → Prop} {E : PySem.Str → Nat → MH → Prop} {S : List Nat}
theorem fors_h {i j k n : Nat} {e : ME} {b : MSs} {xs : List Mi.MV} (hx : me.ex = some (j, k)) (hij : j ≠ i) (ev : evE T C me e h = .ok (.ref n) h) (a : At h n (.lst xs)) (H : Wt P (forL (stepF T C (.nm i) b) (.lst n) xs.length 0 me h)) : Wt P (exS T C (.fors (.nm i) (.of e) b) me h) := by
  unfold exS
  rw [if_pos (by rw [hx]; rfl)]
  simp only [hx, Option.map_some]
  rw [if_neg (by intro z; cases z; exact hij rfl), ev]
  simp only [SR.of, asA a, sz_lst a]
  exact H
theorem q_efld {i k : Nat} {f c : PySem.Str} {fs : List (PySem.Str × Mi.MV)} {v : Mi.MV} (hx : me.ex = some (i, k)) (hl : i < me.sl.length) (ht : T.xat f = true) (a : h.get k = some (.exc c fs)) (l : fs.lookup f = some v) : evE T C me (.efld i f) h = .ok v h := by
  simp [evE, hx, hl, ht, a, l]
def grw (v : Mi.MV) (h : MH) : MH := match v with
  | .ref n => (match h.get n with
    | some (.lst xs) => h.put n (.lst (xs ++ [.str "more"]))
    | _ => h)
  | _ => h
def refs : List Mi.MV → List Nat
  | [] => []
  | .ref n :: r => n :: refs r
  | _ :: r => refs r
theorem grw_nx (v : Mi.MV) : (grw v h).next = h.next := by
  unfold grw
  split
  · split <;> rfl
  · rfl
theorem grw_fr (v : Mi.MV) {vs : List Mi.MV} (hv : v ∈ vs) : Fr (refs vs) h (grw v h) := by
  refine ⟨by rw [grw_nx]; exact Nat.le_refl _, fun m _ hm => ?_⟩
  unfold grw
  split
  · rename_i n
    split
    · refine MH.put_ne (fun z => hm ?_)
      subst z
      clear hm
      induction vs with
      | nil => cases hv
      | cons w r ih =>
        rcases List.mem_cons.mp hv with e | e
        · subst e; exact List.mem_cons_self
        · cases w <;> first | exact List.mem_cons_of_mem _ (ih e) | exact ih e
    · rfl
  · rfl
theorem Vs.ints {xs : List Mi.MV} {ds : List PyData} {h' : MH} {S' : List Nat} : (∀ x ∈ ds, ∃ i, x = .int i) → Vs S h xs ds → Vs S' h' xs ds
  | _, .nil => .nil
  | q, .cons r t => by
    obtain ⟨i, e⟩ := q _ List.mem_cons_self
    subst e
    cases r
    exact .cons (.int i) (Vs.ints (fun x hx => q x (List.mem_cons_of_mem _ hx)) t)
theorem grw_at {v : Mi.MV} {n : Nat} {o : MO} (a : At h n o) (hn : v ≠ .ref n) : At (grw v h) n o := by
  refine ⟨by rw [grw_nx]; exact a.lt, ?_⟩
  unfold grw
  split
  · rename_i m
    split
    · rw [MH.put_ne (by rintro rfl; exact hn rfl)]; exact a.get
    · exact a.get
  · exact a.get
theorem grw_self {v : Mi.MV} {d : PyData} (a : V S h v d) (o : argOk d) : V S (grw v h) v (grown d) := by
  cases a with
  | non => exact .non
  | bl b => exact .bl b
  | int i => exact .int i
  | str x => exact .str x
  | tup r => 
    rename_i xs ds
    have q : ∀ x ∈ ds, ∃ i, x = .int i := o.tup _ rfl
    exact .tup (Vs.ints q r)
  | lst l s e r =>
    have q := (o.sc _ rfl).2
    unfold grw
    simp only [e]
    exact .lst l s MH.put_same ((Vs.ints q r).app (.cons (.str _) .nil))
theorem grw_oth {v w : Mi.MV} {d : PyData} (a : V S h v d) (o : argOk d ∨ ∃ d', argOk d' ∧ d = grown d') (hn : ∀ n, v = .ref n → w ≠ .ref n) : V S (grw w h) v d := by
  cases a with
  | non => exact .non
  | bl b => exact .bl b
  | int i => exact .int i
  | str x => exact .str x
  | tup r => 
    rename_i xs ds
    have q : ∀ x ∈ ds, ∃ i, x = .int i := by
      rcases o with o | ⟨d', o, e⟩
      · exact o.tup _ rfl
      · cases d' <;> simp [grown] at e
        subst e
        exact o.tup _ rfl
    exact .tup (Vs.ints q r)
  | lst l s e r =>
    have e1 := (grw_at (v := w) ⟨l, e⟩ (hn _ rfl))
    refine .lst e1.lt s e1.get ?_
    rcases o with o | ⟨d', o, e⟩
    · exact Vs.ints (o.sc _ rfl).2 r
    · cases d' <;> simp [grown] at e
      subst e
      rename_i ds
      have q := (o.sc _ rfl).2
      clear e1 l s o
      rename_i xs
      clear e hn
      revert xs
      induction ds with
      | nil => 
        intro xs r
        cases r with
        | cons r t => cases r; cases t; exact .cons (.str _) .nil
      | cons x ds ih =>
        intro xs r
        obtain ⟨i, e⟩ := q _ List.mem_cons_self
        subst e
        cases r with
        | cons r t => cases r; exact .cons (.int i) (ih (fun x hx => q x (List.mem_cons_of_mem _ hx)) t)
theorem grow_turn {b : MSs} {v : Mi.MV} {d : PyData} {i : Nat} (hb : b = .cons (.ifs (.bi .isi (.cons (.var i) (.cons (.ty "list") .nil))) (.cons (.expr (.app (.var i) (.str "more"))) .nil) .nil) .nil) (a : V S h v d) (o : argOk d) (hv : (me.sl[i]?.getD none) = some v)
    (H : P.nx me (grw v h)) : Wt P (exB T C b me h) := by
  subst hb
  have eb : ∀ es, evE T C me (.bi .isi es) h = M.bind (evEs T C me es) (fun vs => biM T .isi vs) h := fun es => q_bih .isi es rfl
  try simp only [y_ok, y_exc, y_bind, y_bnd, y_cnd, y_cndt, z_nx, z_rt, z_br, z_ct, z_ex, z_exb0, z_exb1, z_wnwn, z_wnnx, z_wnrt, z_wnbr, z_wnct, z_wnex, z_wxnx, z_wxrt, z_wxbr, z_wxct, z_wxex, z_wlnx, z_wlrt, z_wlbr, z_wlct, z_wlex, z_fnnx, z_fnrt, z_fnex, z_pass, z_ret, z_retN, z_expr, z_asg, z_asgsw, z_asgtp, z_asgsub, z_asgfld, z_ifs, z_fors, z_brk, z_cont, z_trys, x_ct, x_cf, q_mp, q_opt, q_non, q_bl, q_int, q_str, q_var, q_ty, q_cls, q_gint, q_bin, q_neg, q_not, q_cmp, q_sub, q_slc, q_tup, q_lst, q_call, q_mk, q_bi, q_app, q_fld, q_meth, q_nil, q_cons, q_tnot, q_tbl, q_tvar, q_tcmp, q_tchain, q_tsub, q_tcall, q_tbi, q_tmeth, q_bool, q_rng1, q_slcn, q_slcY, z_tand, z_tor, z_and, z_or, z_ife, z_chain, b_max, b_min, b_abs, b_inti, b_intb, b_lent, sw2, sub_t0, sub_t1, o_add, o_sub, o_mul, o_fdiv, o_mod, o_pow, c_eqi, c_nei, c_eqs, c_nes, c_lt, c_le, c_gt, c_ge, c_isn, c_notn, isNon_n, isNon_i, Mi.Env.set, List.set_cons_zero, List.set_cons_succ, List.getElem?_cons_zero, List.getElem?_cons_succ, Option.getD_some, List.length_cons, List.length_nil, stepF_nm, Nat.reduceAdd, Nat.reduceLeDiff, q_iof, it_tup, sz_tup, sz_rg, hv, eb, isi_list a]
  cases a with
  | lst l s e r =>
    have q := (o.sc _ rfl).1
    have hl := r.len
    unfold grw at H
    simp only [e] at H
    rename_i m xs ds
    have e1 : isLst (.ref m) h = .ok () h := by unfold isLst; simp only [e]
    try simp only [y_ok, y_exc, y_bind, y_bnd, y_cnd, y_cndt, z_nx, z_rt, z_br, z_ct, z_ex, z_exb0, z_exb1, z_wnwn, z_wnnx, z_wnrt, z_wnbr, z_wnct, z_wnex, z_wxnx, z_wxrt, z_wxbr, z_wxct, z_wxex, z_wlnx, z_wlrt, z_wlbr, z_wlct, z_wlex, z_fnnx, z_fnrt, z_fnex, z_pass, z_ret, z_retN, z_expr, z_asg, z_asgsw, z_asgtp, z_asgsub, z_asgfld, z_ifs, z_fors, z_brk, z_cont, z_trys, x_ct, x_cf, q_mp, q_opt, q_non, q_bl, q_int, q_str, q_var, q_ty, q_cls, q_gint, q_bin, q_neg, q_not, q_cmp, q_sub, q_slc, q_tup, q_lst, q_call, q_mk, q_bi, q_app, q_fld, q_meth, q_nil, q_cons, q_tnot, q_tbl, q_tvar, q_tcmp, q_tchain, q_tsub, q_tcall, q_tbi, q_tmeth, q_bool, q_rng1, q_slcn, q_slcY, z_tand, z_tor, z_and, z_or, z_ife, z_chain, b_max, b_min, b_abs, b_inti, b_intb, b_lent, sw2, sub_t0, sub_t1, o_add, o_sub, o_mul, o_fdiv, o_mod, o_pow, c_eqi, c_nei, c_eqs, c_nes, c_lt, c_le, c_gt, c_ge, c_isn, c_notn, isNon_n, isNon_i, Mi.Env.set, List.set_cons_zero, List.set_cons_succ, List.getElem?_cons_zero, List.getElem?_cons_succ, Option.getD_some, List.length_cons, List.length_nil, stepF_nm, Nat.reduceAdd, Nat.reduceLeDiff, q_iof, it_tup, sz_tup, sz_rg, isLd, hv, e1, app_ok e (by omega)]
    exact H
  | _ => try simp only [y_ok, y_exc, y_bind, y_bnd, y_cnd, y_cndt, z_nx, z_rt, z_br, z_ct, z_ex, z_exb0, z_exb1, z_wnwn, z_wnnx, z_wnrt, z_wnbr, z_wnct, z_wnex, z_wxnx, z_wxrt, z_wxbr, z_wxct, z_wxex, z_wlnx, z_wlrt, z_wlbr, z_wlct, z_wlex, z_fnnx, z_fnrt, z_fnex, z_pass, z_ret, z_retN, z_expr, z_asg, z_asgsw, z_asgtp, z_asgsub, z_asgfld, z_ifs, z_fors, z_brk, z_cont, z_trys, x_ct, x_cf, q_mp, q_opt, q_non, q_bl, q_int, q_str, q_var, q_ty, q_cls, q_gint, q_bin, q_neg, q_not, q_cmp, q_sub, q_slc, q_tup, q_lst, q_call, q_mk, q_bi, q_app, q_fld, q_meth, q_nil, q_cons, q_tnot, q_tbl, q_tvar, q_tcmp, q_tchain, q_tsub, q_tcall, q_tbi, q_tmeth, q_bool, q_rng1, q_slcn, q_slcY, z_tand, z_tor, z_and, z_or, z_ife, z_chain, b_max, b_min, b_abs, b_inti, b_intb, b_lent, sw2, sub_t0, sub_t1, o_add, o_sub, o_mul, o_fdiv, o_mod, o_pow, c_eqi, c_nei, c_eqs, c_nes, c_lt, c_le, c_gt, c_ge, c_isn, c_notn, isNon_n, isNon_i, Mi.Env.set, List.set_cons_zero, List.set_cons_succ, List.getElem?_cons_zero, List.getElem?_cons_succ, Option.getD_some, List.length_cons, List.length_nil, stepF_nm, Nat.reduceAdd, Nat.reduceLeDiff, q_iof, it_tup, sz_tup, sz_rg, isLd]; exact H
end
section
variable {P : Po} {h : MH} {S : List Nat}
theorem ne_args {v : Mi.MV} {d : PyData} {a : Nat} {xs : List Mi.MV} (w : V S h v d) (o : argOk d) (A : At h a (.lst xs)) (hl : 2 ≤ xs.length) : v ≠ .ref a := by
  rintro rfl
  cases w with
  | lst l s e r =>
    have := A.get
    rw [e] at this
    cases this
    have := (o.sc _ rfl).1
    have := r.len
    omega
theorem ne_obj {v : Mi.MV} {d : PyData} {a : Nat} {ob : MO} (w : V S h v d) (A : At h a ob) (hl : ∀ xs, ob ≠ .lst xs) : v ≠ .ref a := by
  rintro rfl
  cases w with
  | lst l s e r =>
    have := A.get
    rw [e] at this
    cases this
    exact hl _ rfl
/-- three values that may be lists, none twice -/
structure Three (S : List Nat) (h : MH) (x y z : Mi.MV) (dx dy dz : PyData) : Prop where
  vx : V S h x dx
  vy : V S h y dy
  vz : V S h z dz
  ox : argOk dx
  oy : argOk dy
  oz : argOk dz
  xy : ∀ n, x = .ref n → y ≠ .ref n
  xz : ∀ n, x = .ref n → z ≠ .ref n
  yz : ∀ n, y = .ref n → z ≠ .ref n
theorem Three.fr {h' : MH} {x y z : Mi.MV} {dx dy dz : PyData} (t : Three S h x y z dx dy dz) (F : Fr S h h') : Three S h' x y z dx dy dz := ⟨t.vx.fr F, t.vy.fr F, t.vz.fr F, t.ox, t.oy, t.oz, t.xy, t.xz, t.yz⟩
end
theorem V.okv {S : List Nat} {h : MH} {v : Mi.MV} {d : PyData} (a : V S h v d) : okV h v := by
  cases a with
  | lst l s e r => exact ⟨_, e⟩
  | _ => exact True.intro
end Lw
end

section
namespace Lw
open Mi
open PySem (PyData)
/-! ### comprehensions that leave out -/
theorem compL_f {step : Mi.MV → M (Option Mi.MV)} {it : Mi.It} {r N : Nat} {h0 : MH} {items : Nat → Mi.MV} {outs : Nat → Option Mi.MV} (hit : ∀ h i, Same r h0 h → i < N → it.at h i = some (some (items i))) (hend : ∀ h, Same r h0 h → it.at h N = some none)
    (hst : ∀ h i, Same r h0 h → i < N → step (items i) h = .ok (outs i) h) : ∀ (k i : Nat) (h : MH) (acc : List Mi.MV), Same r h0 h → h.get r = some (.lst acc) → i + k = N → acc.length + k ≤ 16777216 →
    Mi.compL step it r k i h = .ok () (h.put r (.lst (acc ++ (List.range k).filterMap fun j => outs (i + j))))
  | 0, i, h, acc, s, e, hk, _ => by
    have hi : i = N := by omega
    unfold Mi.compL
    rw [hi, hend h s]
    simp [put_self e]
  | k + 1, i, h, acc, s, e, hk, hz => by
    have hi : i < N := by omega
    unfold Mi.compL
    rw [hit h i s hi]
    have hsh : ∀ f : Nat → Option Mi.MV, (List.range (k + 1)).filterMap f = (match f 0 with | some w => [w] | none => []) ++ (List.range k).filterMap fun j => f (1 + j) := fun f => by
      rw [List.range_succ_eq_map, List.filterMap_cons, List.filterMap_map]
      have : (f ∘ Nat.succ) = fun j => f (1 + j) := by funext j; simp [Function.comp, Nat.add_comm]
      rw [this]
      cases f 0 <;> simp
    cases ho : outs i with
    | none =>
      have hs' := hst h i s hi
      rw [ho] at hs'
      simp only [mb, hs']
      rw [compL_f hit hend hst k (i + 1) h acc s e (by omega) (by omega), hsh]
      simp [ho, Nat.add_assoc]
    | some w =>
      have hs' := hst h i s hi
      rw [ho] at hs'
      simp only [mb, hs', e]
      rw [if_pos (by rw [PySem.sizeLine_eq]; omega)]
      rw [compL_f hit hend hst k (i + 1) (h.put r (.lst (acc ++ [w]))) (acc ++ [w]) s.put MH.put_same (by omega) (by simp; omega), put_put, hsh]
      simp [ho, Nat.add_assoc]
theorem comp_f {T : Tab} {C : CallF} {me : Mi.Env} {vs : List Nat} {t : CT} {it : MI} {c e : ME} {h h2 : MH} {J : Mi.It} {N : Nat} {items : Nat → Mi.MV} {outs : Nat → Option Mi.MV} (hex : me.ex = none) (hI : evI T C me it h = .ok J h2) (hN : J.size h2 = N) (hz : N ≤ 16777216)
    (hit : ∀ h1 i, Same h2.next (h2.new (.lst [])) h1 → i < N → J.at h1 i = some (some (items i))) (hend : ∀ h1, Same h2.next (h2.new (.lst [])) h1 → J.at h1 N = some none)
    (hst : ∀ h1 i, Same h2.next (h2.new (.lst [])) h1 → i < N → stepG T C me vs t c e (items i) h1 = .ok (outs i) h1) :
    evE T C me (.comp vs t it c e) h = .ok (.ref h2.next) (h2.new (.lst ((List.range N).filterMap outs))) := by
  have g := compL_f hit hend hst N 0 (h2.new (.lst [])) [] ⟨rfl, fun _ _ => rfl⟩ MH.new_same (by omega) (by simpa using hz)
  simp only [Nat.zero_add, List.nil_append, new_put] at g
  have k : Wr (fun v h' => (Res.ok v h' : Res Mi.MV) = .ok (.ref h2.next) (h2.new (.lst ((List.range N).filterMap outs)))) (fun _ _ _ => False) (evE T C me (.comp vs t it c e) h) := by
    refine comp_w hex ?_
    rw [hI, y_ok, hN, g, y_ok]
  revert k
  cases evE T C me (.comp vs t it c e) h with
  | ok v h' => exact id
  | exc => exact False.elim
  | stuck => exact False.elim
end Lw
end

section
namespace Lw
open Mi
open PySem (PyData)
/-! ### the grains that fit a window -/
theorem eq_of_wr {α : Type} {r : Res α} {a : α} {h : MH} (k : Wr (fun v h' => v = a ∧ h' = h) (fun _ _ _ => False) r) : r = .ok a h := by
  revert k
  cases r with
  | ok v h' => rintro ⟨rfl, rfl⟩; rfl
  | exc => exact False.elim
  | stuck => exact False.elim
theorem stepG_w {T : Tab} {C : CallF} {me me' : Mi.Env} {h : MH} {Q : Option Mi.MV → MH → Prop} {E : PySem.Str → Nat → MH → Prop} {vs : List Nat} {t : CT} {c e : ME} {v : Mi.MV} (hs : setT h (wipeM me vs) v t = some me') (H : Wr (fun k h => cnd (Wr (fun w h => Q (some w) h) (fun _ _ _ => False) (evE T C me' e h)) (Q none h) k) (fun _ _ _ => False) (evT T C me' c h)) : Wr Q E (stepG T C me vs t c e v h) := by
  unfold stepG
  rw [hs]
  simp only
  unfold quiet
  simp only [M.bind]
  revert H
  cases evT T C me' c h with
  | ok k h1 =>
    cases k with
    | true =>
      simp only [y_ok, x_ct, if_true, M.bind]
      cases evE T C me' e h1 with
      | ok w h2 => exact id
      | exc => exact False.elim
      | stuck => exact id
    | false => exact id
  | exc => exact False.elim
  | stuck => exact id
theorem q_enum {T : Tab} {C : CallF} {me : Mi.Env} {h : MH} (e : ME) : evI T C me (.enum e) h = M.bind (evE T C me e) (fun x => match x with
    | .ref n => fun h => match asList h (.ref n) with
      | some _ => .ok (.enum n) h
      | none => .stuck
    | .tup xs => M.pure (.enumT xs)
    | _ => M.stuck) h := by simp only [evI] <;> rfl
def fitB (R : List (Int × Option Int)) (a s : Int) (i : Nat) : Bool := decide (a % (row R i).1 = 0) && decide (s % (row R i).1 = 0)
def fits (R : List (Int × Option Int)) (a s : Int) : List Nat := (List.range R.length).filter (fitB R a s)
def nats (l : List Nat) : List Mi.MV := l.map fun i => .int (i : Nat)
theorem fm_filter {p : Nat → Bool} : ∀ l : List Nat, l.filterMap (fun j => if p j = true then some (Mi.MV.int (j : Nat)) else none) = nats (l.filter p)
  | [] => rfl
  | a :: l => by
    rw [List.filterMap_cons, List.filter_cons]
    cases h : p a <;> simp [h, fm_filter l, nats] <;> exact fm_filter l
theorem stand_cond {T : Tab} {C : CallF} {me : Mi.Env} {h : MH} {ra rs rl : ME} {a s : Int} {R : List (Int × Option Int)} {i : Nat} (gp : GP R) (hi : i < R.length) (ea : evE T C me ra h = .ok (.int a) h) (es : evE T C me rs h = .ok (.int s) h) (el : evE T C me rl h = .ok (.int (row R i).1) h) :
    evT T C me (.and (.cmp .eq (.bin .mod ra rl) (.int 0)) (.cmp .eq (.bin .mod rs rl) (.int 0))) h = .ok (fitB R a s i) h := by
  have hp := (gp.pos _ (row_mem (R := R) (i := (i : Int)) (by omega) (by omega))).1
  refine eq_of_wr ?_
  try simp only [y_ok, y_exc, y_bind, y_bnd, y_cnd, y_cndt, z_nx, z_rt, z_br, z_ct, z_ex, z_exb0, z_exb1, z_wnwn, z_wnnx, z_wnrt, z_wnbr, z_wnct, z_wnex, z_wxnx, z_wxrt, z_wxbr, z_wxct, z_wxex, z_wlnx, z_wlrt, z_wlbr, z_wlct, z_wlex, z_fnnx, z_fnrt, z_fnex, z_pass, z_ret, z_retN, z_expr, z_asg, z_asgsw, z_asgtp, z_asgsub, z_asgfld, z_ifs, z_fors, z_brk, z_cont, z_trys, x_ct, x_cf, q_mp, q_opt, q_non, q_bl, q_int, q_str, q_var, q_ty, q_cls, q_gint, q_bin, q_neg, q_not, q_cmp, q_sub, q_slc, q_tup, q_lst, q_call, q_mk, q_bi, q_app, q_fld, q_meth, q_nil, q_cons, q_tnot, q_tbl, q_tvar, q_tcmp, q_tchain, q_tsub, q_tcall, q_tbi, q_tmeth, q_bool, q_rng1, q_slcn, q_slcY, z_tand, z_tor, z_and, z_or, z_ife, z_chain, b_max, b_min, b_abs, b_inti, b_intb, b_lent, sw2, sub_t0, sub_t1, o_add, o_sub, o_mul, o_fdiv, o_mod, o_pow, c_eqi, c_nei, c_eqs, c_nes, c_lt, c_le, c_gt, c_ge, c_isn, c_notn, isNon_n, isNon_i, Mi.Env.set, List.set_cons_zero, List.set_cons_succ, List.getElem?_cons_zero, List.getElem?_cons_succ, Option.getD_some, List.length_cons, List.length_nil, stepF_nm, Nat.reduceAdd, Nat.reduceLeDiff, q_iof, it_tup, sz_tup, sz_rg, ea, es, el, hp]
  unfold fitB
  cases decide (a % (row R i).1 = 0) with
  | true => try simp only [y_ok, y_exc, y_bind, y_bnd, y_cnd, y_cndt, z_nx, z_rt, z_br, z_ct, z_ex, z_exb0, z_exb1, z_wnwn, z_wnnx, z_wnrt, z_wnbr, z_wnct, z_wnex, z_wxnx, z_wxrt, z_wxbr, z_wxct, z_wxex, z_wlnx, z_wlrt, z_wlbr, z_wlct, z_wlex, z_fnnx, z_fnrt, z_fnex, z_pass, z_ret, z_retN, z_expr, z_asg, z_asgsw, z_asgtp, z_asgsub, z_asgfld, z_ifs, z_fors, z_brk, z_cont, z_trys, x_ct, x_cf, q_mp, q_opt, q_non, q_bl, q_int, q_str, q_var, q_ty, q_cls, q_gint, q_bin, q_neg, q_not, q_cmp, q_sub, q_slc, q_tup, q_lst, q_call, q_mk, q_bi, q_app, q_fld, q_meth, q_nil, q_cons, q_tnot, q_tbl, q_tvar, q_tcmp, q_tchain, q_tsub, q_tcall, q_tbi, q_tmeth, q_bool, q_rng1, q_slcn, q_slcY, z_tand, z_tor, z_and, z_or, z_ife, z_chain, b_max, b_min, b_abs, b_inti, b_intb, b_lent, sw2, sub_t0, sub_t1, o_add, o_sub, o_mul, o_fdiv, o_mod, o_pow, c_eqi, c_nei, c_eqs, c_nes, c_lt, c_le, c_gt, c_ge, c_isn, c_notn, isNon_n, isNon_i, Mi.Env.set, List.set_cons_zero, List.set_cons_succ, List.getElem?_cons_zero, List.getElem?_cons_succ, Option.getD_some, List.length_cons, List.length_nil, stepF_nm, Nat.reduceAdd, Nat.reduceLeDiff, q_iof, it_tup, sz_tup, sz_rg, ea, es, el, hp]; simp
  | false => try simp only [y_ok, y_exc, y_bind, y_bnd, y_cnd, y_cndt, z_nx, z_rt, z_br, z_ct, z_ex, z_exb0, z_exb1, z_wnwn, z_wnnx, z_wnrt, z_wnbr, z_wnct, z_wnex, z_wxnx, z_wxrt, z_wxbr, z_wxct, z_wxex, z_wlnx, z_wlrt, z_wlbr, z_wlct, z_wlex, z_fnnx, z_fnrt, z_fnex, z_pass, z_ret, z_retN, z_expr, z_asg, z_asgsw, z_asgtp, z_asgsub, z_asgfld, z_ifs, z_fors, z_brk, z_cont, z_trys, x_ct, x_cf, q_mp, q_opt, q_non, q_bl, q_int, q_str, q_var, q_ty, q_cls, q_gint, q_bin, q_neg, q_not, q_cmp, q_sub, q_slc, q_tup, q_lst, q_call, q_mk, q_bi, q_app, q_fld, q_meth, q_nil, q_cons, q_tnot, q_tbl, q_tvar, q_tcmp, q_tchain, q_tsub, q_tcall, q_tbi, q_tmeth, q_bool, q_rng1, q_slcn, q_slcY, z_tand, z_tor, z_and, z_or, z_ife, z_chain, b_max, b_min, b_abs, b_inti, b_intb, b_lent, sw2, sub_t0, sub_t1, o_add, o_sub, o_mul, o_fdiv, o_mod, o_pow, c_eqi, c_nei, c_eqs, c_nes, c_lt, c_le, c_gt, c_ge, c_isn, c_notn, isNon_n, isNon_i, Mi.Env.set, List.set_cons_zero, List.set_cons_succ, List.getElem?_cons_zero, List.getElem?_cons_succ, Option.getD_some, List.length_cons, List.length_nil, stepF_nm, Nat.reduceAdd, Nat.reduceLeDiff, q_iof, it_tup, sz_tup, sz_rg]; simp
section
variable {n r : Nat} {h : MH} {R : List (Int × Option Int)} {a s : Int}
/-- fitting -/
theorem e_fitting (gp : GP R) (hl : R.length ≤ 4) (hr : isRA h r R) : Mi.run τ.tab (n+1) f_Rules_fitting [.ref r, .int a, .int s] h = .ok (.ref h.next) (h.new (.lst (nats (fits R a s)))) := by
  refine eq_of_wr ?_
  refine run_w { sl := [some (.ref r), some (.int a), some (.int s), none, none], ex := none } body_Rules_fitting rfl rfl rfl ?_
  have fo : fldM τ.tab "rows" (.ref r) h = .ok (.tup (R.map enc)) h := by
    unfold fldM
    simp only [hr.get, tno_Rules_rows, if_true]
    rw [List.lookup_cons]; rfl
  have e := comp_f (T := τ.tab) (C := Mi.run τ.tab n) (me := { sl := [some (.ref r), some (.int a), some (.int s), none, none], ex := none }) (vs := [3, 4]) (t := .tp [3, 4]) (it := .enum (.fld (.var 0) "rows")) (c := .and (.cmp .eq (.bin .mod (.var 1) (.sub (.var 4) (.int 0))) (.int 0)) (.cmp .eq (.bin .mod (.var 2) (.sub (.var 4) (.int 0))) (.int 0))) (e := .var 3) (h := h) (h2 := h) (J := .enumT (R.map enc)) (N := R.length)
    (items := fun i => .tup [.int i, enc (row R i)]) (outs := fun i => if fitB R a s i = true then some (.int (i : Nat)) else none) rfl (by rw [q_enum]; try simp only [y_ok, y_exc, y_bind, y_bnd, y_cnd, y_cndt, z_nx, z_rt, z_br, z_ct, z_ex, z_exb0, z_exb1, z_wnwn, z_wnnx, z_wnrt, z_wnbr, z_wnct, z_wnex, z_wxnx, z_wxrt, z_wxbr, z_wxct, z_wxex, z_wlnx, z_wlrt, z_wlbr, z_wlct, z_wlex, z_fnnx, z_fnrt, z_fnex, z_pass, z_ret, z_retN, z_expr, z_asg, z_asgsw, z_asgtp, z_asgsub, z_asgfld, z_ifs, z_fors, z_brk, z_cont, z_trys, x_ct, x_cf, q_mp, q_opt, q_non, q_bl, q_int, q_str, q_var, q_ty, q_cls, q_gint, q_bin, q_neg, q_not, q_cmp, q_sub, q_slc, q_tup, q_lst, q_call, q_mk, q_bi, q_app, q_fld, q_meth, q_nil, q_cons, q_tnot, q_tbl, q_tvar, q_tcmp, q_tchain, q_tsub, q_tcall, q_tbi, q_tmeth, q_bool, q_rng1, q_slcn, q_slcY, z_tand, z_tor, z_and, z_or, z_ife, z_chain, b_max, b_min, b_abs, b_inti, b_intb, b_lent, sw2, sub_t0, sub_t1, o_add, o_sub, o_mul, o_fdiv, o_mod, o_pow, c_eqi, c_nei, c_eqs, c_nes, c_lt, c_le, c_gt, c_ge, c_isn, c_notn, isNon_n, isNon_i, Mi.Env.set, List.set_cons_zero, List.set_cons_succ, List.getElem?_cons_zero, List.getElem?_cons_succ, Option.getD_some, List.length_cons, List.length_nil, stepF_nm, Nat.reduceAdd, Nat.reduceLeDiff, q_iof, it_tup, sz_tup, sz_rg, q_mb, fo, q_b1]) (by show (R.map enc).length = _; simp) (by omega)
    (fun h1 i _ hi => by
      show some (((R.map enc)[i]?).map fun x => Mi.MV.tup [.int i, x]) = _
      rw [row_nat hi]; rfl) (fun h1 _ => by
      show some (((R.map enc)[R.length]?).map fun x => Mi.MV.tup [.int R.length, x]) = _
      simp) (fun h1 i _ hi => by
      refine eq_of_wr ?_
      refine stepG_w (me' := { sl := [some (.ref r), some (.int a), some (.int s), some (.int i), some (enc (row R i))], ex := none }) rfl ?_
      rw [stand_cond (a := a) (s := s) (R := R) (i := i) gp hi (by try simp only [y_ok, y_exc, y_bind, y_bnd, y_cnd, y_cndt, z_nx, z_rt, z_br, z_ct, z_ex, z_exb0, z_exb1, z_wnwn, z_wnnx, z_wnrt, z_wnbr, z_wnct, z_wnex, z_wxnx, z_wxrt, z_wxbr, z_wxct, z_wxex, z_wlnx, z_wlrt, z_wlbr, z_wlct, z_wlex, z_fnnx, z_fnrt, z_fnex, z_pass, z_ret, z_retN, z_expr, z_asg, z_asgsw, z_asgtp, z_asgsub, z_asgfld, z_ifs, z_fors, z_brk, z_cont, z_trys, x_ct, x_cf, q_mp, q_opt, q_non, q_bl, q_int, q_str, q_var, q_ty, q_cls, q_gint, q_bin, q_neg, q_not, q_cmp, q_sub, q_slc, q_tup, q_lst, q_call, q_mk, q_bi, q_app, q_fld, q_meth, q_nil, q_cons, q_tnot, q_tbl, q_tvar, q_tcmp, q_tchain, q_tsub, q_tcall, q_tbi, q_tmeth, q_bool, q_rng1, q_slcn, q_slcY, z_tand, z_tor, z_and, z_or, z_ife, z_chain, b_max, b_min, b_abs, b_inti, b_intb, b_lent, sw2, sub_t0, sub_t1, o_add, o_sub, o_mul, o_fdiv, o_mod, o_pow, c_eqi, c_nei, c_eqs, c_nes, c_lt, c_le, c_gt, c_ge, c_isn, c_notn, isNon_n, isNon_i, Mi.Env.set, List.set_cons_zero, List.set_cons_succ, List.getElem?_cons_zero, List.getElem?_cons_succ, Option.getD_some, List.length_cons, List.length_nil, stepF_nm, Nat.reduceAdd, Nat.reduceLeDiff, q_iof, it_tup, sz_tup, sz_rg]) (by try simp only [y_ok, y_exc, y_bind, y_bnd, y_cnd, y_cndt, z_nx, z_rt, z_br, z_ct, z_ex, z_exb0, z_exb1, z_wnwn, z_wnnx, z_wnrt, z_wnbr, z_wnct, z_wnex, z_wxnx, z_wxrt, z_wxbr, z_wxct, z_wxex, z_wlnx, z_wlrt, z_wlbr, z_wlct, z_wlex, z_fnnx, z_fnrt, z_fnex, z_pass, z_ret, z_retN, z_expr, z_asg, z_asgsw, z_asgtp, z_asgsub, z_asgfld, z_ifs, z_fors, z_brk, z_cont, z_trys, x_ct, x_cf, q_mp, q_opt, q_non, q_bl, q_int, q_str, q_var, q_ty, q_cls, q_gint, q_bin, q_neg, q_not, q_cmp, q_sub, q_slc, q_tup, q_lst, q_call, q_mk, q_bi, q_app, q_fld, q_meth, q_nil, q_cons, q_tnot, q_tbl, q_tvar, q_tcmp, q_tchain, q_tsub, q_tcall, q_tbi, q_tmeth, q_bool, q_rng1, q_slcn, q_slcY, z_tand, z_tor, z_and, z_or, z_ife, z_chain, b_max, b_min, b_abs, b_inti, b_intb, b_lent, sw2, sub_t0, sub_t1, o_add, o_sub, o_mul, o_fdiv, o_mod, o_pow, c_eqi, c_nei, c_eqs, c_nes, c_lt, c_le, c_gt, c_ge, c_isn, c_notn, isNon_n, isNon_i, Mi.Env.set, List.set_cons_zero, List.set_cons_succ, List.getElem?_cons_zero, List.getElem?_cons_succ, Option.getD_some, List.length_cons, List.length_nil, stepF_nm, Nat.reduceAdd, Nat.reduceLeDiff, q_iof, it_tup, sz_tup, sz_rg]) (by try simp only [y_ok, y_exc, y_bind, y_bnd, y_cnd, y_cndt, z_nx, z_rt, z_br, z_ct, z_ex, z_exb0, z_exb1, z_wnwn, z_wnnx, z_wnrt, z_wnbr, z_wnct, z_wnex, z_wxnx, z_wxrt, z_wxbr, z_wxct, z_wxex, z_wlnx, z_wlrt, z_wlbr, z_wlct, z_wlex, z_fnnx, z_fnrt, z_fnex, z_pass, z_ret, z_retN, z_expr, z_asg, z_asgsw, z_asgtp, z_asgsub, z_asgfld, z_ifs, z_fors, z_brk, z_cont, z_trys, x_ct, x_cf, q_mp, q_opt, q_non, q_bl, q_int, q_str, q_var, q_ty, q_cls, q_gint, q_bin, q_neg, q_not, q_cmp, q_sub, q_slc, q_tup, q_lst, q_call, q_mk, q_bi, q_app, q_fld, q_meth, q_nil, q_cons, q_tnot, q_tbl, q_tvar, q_tcmp, q_tchain, q_tsub, q_tcall, q_tbi, q_tmeth, q_bool, q_rng1, q_slcn, q_slcY, z_tand, z_tor, z_and, z_or, z_ife, z_chain, b_max, b_min, b_abs, b_inti, b_intb, b_lent, sw2, sub_t0, sub_t1, o_add, o_sub, o_mul, o_fdiv, o_mod, o_pow, c_eqi, c_nei, c_eqs, c_nes, c_lt, c_le, c_gt, c_ge, c_isn, c_notn, isNon_n, isNon_i, Mi.Env.set, List.set_cons_zero, List.set_cons_succ, List.getElem?_cons_zero, List.getElem?_cons_succ, Option.getD_some, List.length_cons, List.length_nil, stepF_nm, Nat.reduceAdd, Nat.reduceLeDiff, q_iof, it_tup, sz_tup, sz_rg, q_mb, q_b1, sb0])]
      cases fitB R a s i with
      | true => try simp only [y_ok, y_exc, y_bind, y_bnd, y_cnd, y_cndt, z_nx, z_rt, z_br, z_ct, z_ex, z_exb0, z_exb1, z_wnwn, z_wnnx, z_wnrt, z_wnbr, z_wnct, z_wnex, z_wxnx, z_wxrt, z_wxbr, z_wxct, z_wxex, z_wlnx, z_wlrt, z_wlbr, z_wlct, z_wlex, z_fnnx, z_fnrt, z_fnex, z_pass, z_ret, z_retN, z_expr, z_asg, z_asgsw, z_asgtp, z_asgsub, z_asgfld, z_ifs, z_fors, z_brk, z_cont, z_trys, x_ct, x_cf, q_mp, q_opt, q_non, q_bl, q_int, q_str, q_var, q_ty, q_cls, q_gint, q_bin, q_neg, q_not, q_cmp, q_sub, q_slc, q_tup, q_lst, q_call, q_mk, q_bi, q_app, q_fld, q_meth, q_nil, q_cons, q_tnot, q_tbl, q_tvar, q_tcmp, q_tchain, q_tsub, q_tcall, q_tbi, q_tmeth, q_bool, q_rng1, q_slcn, q_slcY, z_tand, z_tor, z_and, z_or, z_ife, z_chain, b_max, b_min, b_abs, b_inti, b_intb, b_lent, sw2, sub_t0, sub_t1, o_add, o_sub, o_mul, o_fdiv, o_mod, o_pow, c_eqi, c_nei, c_eqs, c_nes, c_lt, c_le, c_gt, c_ge, c_isn, c_notn, isNon_n, isNon_i, Mi.Env.set, List.set_cons_zero, List.set_cons_succ, List.getElem?_cons_zero, List.getElem?_cons_succ, Option.getD_some, List.length_cons, List.length_nil, stepF_nm, Nat.reduceAdd, Nat.reduceLeDiff, q_iof, it_tup, sz_tup, sz_rg]; simp
      | false => try simp only [y_ok, y_exc, y_bind, y_bnd, y_cnd, y_cndt, z_nx, z_rt, z_br, z_ct, z_ex, z_exb0, z_exb1, z_wnwn, z_wnnx, z_wnrt, z_wnbr, z_wnct, z_wnex, z_wxnx, z_wxrt, z_wxbr, z_wxct, z_wxex, z_wlnx, z_wlrt, z_wlbr, z_wlct, z_wlex, z_fnnx, z_fnrt, z_fnex, z_pass, z_ret, z_retN, z_expr, z_asg, z_asgsw, z_asgtp, z_asgsub, z_asgfld, z_ifs, z_fors, z_brk, z_cont, z_trys, x_ct, x_cf, q_mp, q_opt, q_non, q_bl, q_int, q_str, q_var, q_ty, q_cls, q_gint, q_bin, q_neg, q_not, q_cmp, q_sub, q_slc, q_tup, q_lst, q_call, q_mk, q_bi, q_app, q_fld, q_meth, q_nil, q_cons, q_tnot, q_tbl, q_tvar, q_tcmp, q_tchain, q_tsub, q_tcall, q_tbi, q_tmeth, q_bool, q_rng1, q_slcn, q_slcY, z_tand, z_tor, z_and, z_or, z_ife, z_chain, b_max, b_min, b_abs, b_inti, b_intb, b_lent, sw2, sub_t0, sub_t1, o_add, o_sub, o_mul, o_fdiv, o_mod, o_pow, c_eqi, c_nei, c_eqs, c_nes, c_lt, c_le, c_gt, c_ge, c_isn, c_notn, isNon_n, isNon_i, Mi.Env.set, List.set_cons_zero, List.set_cons_succ, List.getElem?_cons_zero, List.getElem?_cons_succ, Option.getD_some, List.length_cons, List.length_nil, stepF_nm, Nat.reduceAdd, Nat.reduceLeDiff, q_iof, it_tup, sz_tup, sz_rg]; simp)
  rw [fm_filter] at e
  unfold body_Rules_fitting
  rw [z_exb1, z_ret, e, y_ok]
  exact ⟨rfl, rfl⟩
end
end Lw
end

section
namespace Lw
open Mi
open PySem (PyData)
theorem At.same {h h1 : MH} {o o2 : MO} {l : Nat} (a : At h l o) (s : Same h.next (h.new o2) h1) : At h1 l o := by
  have := a.lt
  refine ⟨by rw [s.nx]; exact Nat.lt_succ_of_lt this, ?_⟩
  rw [s.st l (by omega), MH.new_ne (by omega)]; exact a.get
/-- the grains that tell a window -/
def tellB (R : List (Int × Option Int)) (a c : Int) (k : Nat) : Bool := decide (edg R k c ≤ a)
def tell (R : List (Int × Option Int)) (a s c : Int) : List Nat := (fits R a s).filter (tellB R a c)
theorem fits_lt {R : List (Int × Option Int)} {a s : Int} {k : Nat} (h : k ∈ fits R a s) : k < R.length := by
  have := (List.mem_filter.mp h).1
  simpa using this
theorem fits_len {R : List (Int × Option Int)} {a s : Int} : (fits R a s).length ≤ R.length := by
  have := List.length_filter_le (fitB R a s) (List.range R.length)
  simpa [fits] using this
theorem fm_list {p : Nat → Bool} : ∀ L : List Nat, (List.range L.length).filterMap (fun j => if p (L.getD j 0) = true then some (Mi.MV.int (L.getD j 0 : Nat)) else none) = nats (L.filter p) := by
  intro L
  have e : (List.range L.length).map (fun j => L.getD j 0) = L := by
    apply List.ext_getElem
    · simp
    · intro i h1 h2
      simp at h1
      simp [List.getD, h1]
  have : (List.range L.length).filterMap (fun j => if p (L.getD j 0) = true then some (Mi.MV.int (L.getD j 0 : Nat)) else none) = ((List.range L.length).map (fun j => L.getD j 0)).filterMap (fun k => if p k = true then some (Mi.MV.int (k : Nat)) else none) := by
    rw [List.filterMap_map]; rfl
  rw [this, e]
  exact fm_filter L
section
variable {n l : Nat} {h : MH} {R : List (Int × Option Int)} {a s c : Int}
theorem e_fits (gp : GP R) (hl : R.length ≤ 4) (L : At h l (.lst (R.map enc))) : Mi.run τ.tab (n+1) f_law_fits [.ref l, .int a, .int s] h = .ok (.ref h.next) (h.new (.lst (nats (fits R a s)))) := by
  refine eq_of_wr ?_
  refine run_w { sl := [some (.ref l), some (.int a), some (.int s), none], ex := none } body_law_fits rfl rfl rfl ?_
  have e := comp_f (T := τ.tab) (C := Mi.run τ.tab n) (me := { sl := [some (.ref l), some (.int a), some (.int s), none], ex := none }) (vs := [3]) (t := .nm 3) (it := .rng1 (.bi .len (.cons (.var 0) .nil))) (c := .and (.cmp .eq (.bin .mod (.bi .int1 (.cons (.var 1) .nil)) (.sub (.sub (.var 0) (.var 3)) (.int 0))) (.int 0)) (.cmp .eq (.bin .mod (.bi .int1 (.cons (.var 2) .nil)) (.sub (.sub (.var 0) (.var 3)) (.int 0))) (.int 0))) (e := .var 3) (h := h) (h2 := h) (J := .rng 0 R.length) (N := R.length)
    (items := fun i => .int (0 + (i : Nat))) (outs := fun i => if fitB R a s i = true then some (.int (i : Nat)) else none) rfl (by
      have : rngOk (R.length : Int) := by unfold rngOk; omega
      try simp only [y_ok, y_exc, y_bind, y_bnd, y_cnd, y_cndt, z_nx, z_rt, z_br, z_ct, z_ex, z_exb0, z_exb1, z_wnwn, z_wnnx, z_wnrt, z_wnbr, z_wnct, z_wnex, z_wxnx, z_wxrt, z_wxbr, z_wxct, z_wxex, z_wlnx, z_wlrt, z_wlbr, z_wlct, z_wlex, z_fnnx, z_fnrt, z_fnex, z_pass, z_ret, z_retN, z_expr, z_asg, z_asgsw, z_asgtp, z_asgsub, z_asgfld, z_ifs, z_fors, z_brk, z_cont, z_trys, x_ct, x_cf, q_mp, q_opt, q_non, q_bl, q_int, q_str, q_var, q_ty, q_cls, q_gint, q_bin, q_neg, q_not, q_cmp, q_sub, q_slc, q_tup, q_lst, q_call, q_mk, q_bi, q_app, q_fld, q_meth, q_nil, q_cons, q_tnot, q_tbl, q_tvar, q_tcmp, q_tchain, q_tsub, q_tcall, q_tbi, q_tmeth, q_bool, q_rng1, q_slcn, q_slcY, z_tand, z_tor, z_and, z_or, z_ife, z_chain, b_max, b_min, b_abs, b_inti, b_intb, b_lent, sw2, sub_t0, sub_t1, o_add, o_sub, o_mul, o_fdiv, o_mod, o_pow, c_eqi, c_nei, c_eqs, c_nes, c_lt, c_le, c_gt, c_ge, c_isn, c_notn, isNon_n, isNon_i, Mi.Env.set, List.set_cons_zero, List.set_cons_succ, List.getElem?_cons_zero, List.getElem?_cons_succ, Option.getD_some, List.length_cons, List.length_nil, stepF_nm, Nat.reduceAdd, Nat.reduceLeDiff, q_iof, it_tup, sz_tup, sz_rg, q_mb, q_b1, b_lenl L, List.length_map, this, if_true]
      rw [Int.toNat_natCast]) rfl (by omega)
    (fun h1 i _ hi => by
      show some (if i < R.length then _ else _) = _
      rw [if_pos hi]) (fun h1 _ => by
      show some (if R.length < R.length then _ else _) = _
      rw [if_neg (Nat.lt_irrefl _)]) (fun h1 i sm hi => by
      have L1 := L.same sm
      refine eq_of_wr ?_
      refine stepG_w (me' := { sl := [some (.ref l), some (.int a), some (.int s), some (.int (0 + (i : Nat)))], ex := none }) rfl ?_
      rw [Int.zero_add]
      rw [stand_cond (a := a) (s := s) (R := R) (i := i) gp hi (by try simp only [y_ok, y_exc, y_bind, y_bnd, y_cnd, y_cndt, z_nx, z_rt, z_br, z_ct, z_ex, z_exb0, z_exb1, z_wnwn, z_wnnx, z_wnrt, z_wnbr, z_wnct, z_wnex, z_wxnx, z_wxrt, z_wxbr, z_wxct, z_wxex, z_wlnx, z_wlrt, z_wlbr, z_wlct, z_wlex, z_fnnx, z_fnrt, z_fnex, z_pass, z_ret, z_retN, z_expr, z_asg, z_asgsw, z_asgtp, z_asgsub, z_asgfld, z_ifs, z_fors, z_brk, z_cont, z_trys, x_ct, x_cf, q_mp, q_opt, q_non, q_bl, q_int, q_str, q_var, q_ty, q_cls, q_gint, q_bin, q_neg, q_not, q_cmp, q_sub, q_slc, q_tup, q_lst, q_call, q_mk, q_bi, q_app, q_fld, q_meth, q_nil, q_cons, q_tnot, q_tbl, q_tvar, q_tcmp, q_tchain, q_tsub, q_tcall, q_tbi, q_tmeth, q_bool, q_rng1, q_slcn, q_slcY, z_tand, z_tor, z_and, z_or, z_ife, z_chain, b_max, b_min, b_abs, b_inti, b_intb, b_lent, sw2, sub_t0, sub_t1, o_add, o_sub, o_mul, o_fdiv, o_mod, o_pow, c_eqi, c_nei, c_eqs, c_nes, c_lt, c_le, c_gt, c_ge, c_isn, c_notn, isNon_n, isNon_i, Mi.Env.set, List.set_cons_zero, List.set_cons_succ, List.getElem?_cons_zero, List.getElem?_cons_succ, Option.getD_some, List.length_cons, List.length_nil, stepF_nm, Nat.reduceAdd, Nat.reduceLeDiff, q_iof, it_tup, sz_tup, sz_rg, q_mb, q_b1]) (by try simp only [y_ok, y_exc, y_bind, y_bnd, y_cnd, y_cndt, z_nx, z_rt, z_br, z_ct, z_ex, z_exb0, z_exb1, z_wnwn, z_wnnx, z_wnrt, z_wnbr, z_wnct, z_wnex, z_wxnx, z_wxrt, z_wxbr, z_wxct, z_wxex, z_wlnx, z_wlrt, z_wlbr, z_wlct, z_wlex, z_fnnx, z_fnrt, z_fnex, z_pass, z_ret, z_retN, z_expr, z_asg, z_asgsw, z_asgtp, z_asgsub, z_asgfld, z_ifs, z_fors, z_brk, z_cont, z_trys, x_ct, x_cf, q_mp, q_opt, q_non, q_bl, q_int, q_str, q_var, q_ty, q_cls, q_gint, q_bin, q_neg, q_not, q_cmp, q_sub, q_slc, q_tup, q_lst, q_call, q_mk, q_bi, q_app, q_fld, q_meth, q_nil, q_cons, q_tnot, q_tbl, q_tvar, q_tcmp, q_tchain, q_tsub, q_tcall, q_tbi, q_tmeth, q_bool, q_rng1, q_slcn, q_slcY, z_tand, z_tor, z_and, z_or, z_ife, z_chain, b_max, b_min, b_abs, b_inti, b_intb, b_lent, sw2, sub_t0, sub_t1, o_add, o_sub, o_mul, o_fdiv, o_mod, o_pow, c_eqi, c_nei, c_eqs, c_nes, c_lt, c_le, c_gt, c_ge, c_isn, c_notn, isNon_n, isNon_i, Mi.Env.set, List.set_cons_zero, List.set_cons_succ, List.getElem?_cons_zero, List.getElem?_cons_succ, Option.getD_some, List.length_cons, List.length_nil, stepF_nm, Nat.reduceAdd, Nat.reduceLeDiff, q_iof, it_tup, sz_tup, sz_rg, q_mb, q_b1]) (by try simp only [y_ok, y_exc, y_bind, y_bnd, y_cnd, y_cndt, z_nx, z_rt, z_br, z_ct, z_ex, z_exb0, z_exb1, z_wnwn, z_wnnx, z_wnrt, z_wnbr, z_wnct, z_wnex, z_wxnx, z_wxrt, z_wxbr, z_wxct, z_wxex, z_wlnx, z_wlrt, z_wlbr, z_wlct, z_wlex, z_fnnx, z_fnrt, z_fnex, z_pass, z_ret, z_retN, z_expr, z_asg, z_asgsw, z_asgtp, z_asgsub, z_asgfld, z_ifs, z_fors, z_brk, z_cont, z_trys, x_ct, x_cf, q_mp, q_opt, q_non, q_bl, q_int, q_str, q_var, q_ty, q_cls, q_gint, q_bin, q_neg, q_not, q_cmp, q_sub, q_slc, q_tup, q_lst, q_call, q_mk, q_bi, q_app, q_fld, q_meth, q_nil, q_cons, q_tnot, q_tbl, q_tvar, q_tcmp, q_tchain, q_tsub, q_tcall, q_tbi, q_tmeth, q_bool, q_rng1, q_slcn, q_slcY, z_tand, z_tor, z_and, z_or, z_ife, z_chain, b_max, b_min, b_abs, b_inti, b_intb, b_lent, sw2, sub_t0, sub_t1, o_add, o_sub, o_mul, o_fdiv, o_mod, o_pow, c_eqi, c_nei, c_eqs, c_nes, c_lt, c_le, c_gt, c_ge, c_isn, c_notn, isNon_n, isNon_i, Mi.Env.set, List.set_cons_zero, List.set_cons_succ, List.getElem?_cons_zero, List.getElem?_cons_succ, Option.getD_some, List.length_cons, List.length_nil, stepF_nm, Nat.reduceAdd, Nat.reduceLeDiff, q_iof, it_tup, sz_tup, sz_rg, q_mb, q_b1, sbA L1 (show 0 ≤ (i : Int) by omega) (show (i : Int) < R.length by omega), sb0])]
      cases fitB R a s i with
      | true => try simp only [y_ok, y_exc, y_bind, y_bnd, y_cnd, y_cndt, z_nx, z_rt, z_br, z_ct, z_ex, z_exb0, z_exb1, z_wnwn, z_wnnx, z_wnrt, z_wnbr, z_wnct, z_wnex, z_wxnx, z_wxrt, z_wxbr, z_wxct, z_wxex, z_wlnx, z_wlrt, z_wlbr, z_wlct, z_wlex, z_fnnx, z_fnrt, z_fnex, z_pass, z_ret, z_retN, z_expr, z_asg, z_asgsw, z_asgtp, z_asgsub, z_asgfld, z_ifs, z_fors, z_brk, z_cont, z_trys, x_ct, x_cf, q_mp, q_opt, q_non, q_bl, q_int, q_str, q_var, q_ty, q_cls, q_gint, q_bin, q_neg, q_not, q_cmp, q_sub, q_slc, q_tup, q_lst, q_call, q_mk, q_bi, q_app, q_fld, q_meth, q_nil, q_cons, q_tnot, q_tbl, q_tvar, q_tcmp, q_tchain, q_tsub, q_tcall, q_tbi, q_tmeth, q_bool, q_rng1, q_slcn, q_slcY, z_tand, z_tor, z_and, z_or, z_ife, z_chain, b_max, b_min, b_abs, b_inti, b_intb, b_lent, sw2, sub_t0, sub_t1, o_add, o_sub, o_mul, o_fdiv, o_mod, o_pow, c_eqi, c_nei, c_eqs, c_nes, c_lt, c_le, c_gt, c_ge, c_isn, c_notn, isNon_n, isNon_i, Mi.Env.set, List.set_cons_zero, List.set_cons_succ, List.getElem?_cons_zero, List.getElem?_cons_succ, Option.getD_some, List.length_cons, List.length_nil, stepF_nm, Nat.reduceAdd, Nat.reduceLeDiff, q_iof, it_tup, sz_tup, sz_rg]; simp
      | false => try simp only [y_ok, y_exc, y_bind, y_bnd, y_cnd, y_cndt, z_nx, z_rt, z_br, z_ct, z_ex, z_exb0, z_exb1, z_wnwn, z_wnnx, z_wnrt, z_wnbr, z_wnct, z_wnex, z_wxnx, z_wxrt, z_wxbr, z_wxct, z_wxex, z_wlnx, z_wlrt, z_wlbr, z_wlct, z_wlex, z_fnnx, z_fnrt, z_fnex, z_pass, z_ret, z_retN, z_expr, z_asg, z_asgsw, z_asgtp, z_asgsub, z_asgfld, z_ifs, z_fors, z_brk, z_cont, z_trys, x_ct, x_cf, q_mp, q_opt, q_non, q_bl, q_int, q_str, q_var, q_ty, q_cls, q_gint, q_bin, q_neg, q_not, q_cmp, q_sub, q_slc, q_tup, q_lst, q_call, q_mk, q_bi, q_app, q_fld, q_meth, q_nil, q_cons, q_tnot, q_tbl, q_tvar, q_tcmp, q_tchain, q_tsub, q_tcall, q_tbi, q_tmeth, q_bool, q_rng1, q_slcn, q_slcY, z_tand, z_tor, z_and, z_or, z_ife, z_chain, b_max, b_min, b_abs, b_inti, b_intb, b_lent, sw2, sub_t0, sub_t1, o_add, o_sub, o_mul, o_fdiv, o_mod, o_pow, c_eqi, c_nei, c_eqs, c_nes, c_lt, c_le, c_gt, c_ge, c_isn, c_notn, isNon_n, isNon_i, Mi.Env.set, List.set_cons_zero, List.set_cons_succ, List.getElem?_cons_zero, List.getElem?_cons_succ, Option.getD_some, List.length_cons, List.length_nil, stepF_nm, Nat.reduceAdd, Nat.reduceLeDiff, q_iof, it_tup, sz_tup, sz_rg]; simp)
  rw [fm_filter] at e
  unfold body_law_fits
  rw [z_exb1, z_ret, e, y_ok]
  exact ⟨rfl, rfl⟩
theorem c_fits {C : CallF} (x y z : Mi.MV) : callM τ.tab C "_law_fits" [x, y, z] [] [] h = C f_law_fits [x, y, z] h := x_callM tfn_law_fits (by simp [argsOf, fnp_law_fits])
end
end Lw
end

section
namespace Lw
open Mi
open PySem (PyData)
/-! ### check_window, teller, untold_from -/
def wOk (x y : Mi.MV) : Bool := cnt x && (cnt y && decide (vi y ≠ 0))
def noW (h : MH) (x y : Mi.MV) : Res Mi.MV := .exc "InvalidWindow" h.next (h.new (.exc "InvalidWindow" [("given", .tup [x, y])]))
def noGo (h : MH) (a g : Int) : Res Mi.MV := .exc "Gone" h.next (h.new (.exc "Gone" [("grain", .int g), ("time", .int a)]))
section
variable {C : CallF} {h : MH}
theorem c_isct (v : Mi.MV) : callM τ.tab C "is_count" [v] [] [] h = C f_is_count [v] h := x_callM tfn_is_count (by simp [argsOf, fnp_is_count])
theorem c_cw (x y : Mi.MV) : callM τ.tab C "check_window" [x, y] [] [] h = C f_check_window [x, y] h := x_callM tfn_check_window (by simp [argsOf, fnp_check_window])
theorem c_ct (x : Mi.MV) : callM τ.tab C "check_time" [x] [] [] h = C f_check_time [x] h := x_callM tfn_check_time (by simp [argsOf, fnp_check_time])
end
section
variable {n r : Nat} {h : MH} {R : List (Int × Option Int)} {x y z : Mi.MV}
theorem e_isct {v : Mi.MV} (o : okV h v) : Mi.run τ.tab (n+2) f_is_count [v] h = .ok (.bl (cnt v)) h := s13 n v h o
theorem e_ct {v : Mi.MV} (o : okV h v) : Mi.run τ.tab (n+3) f_check_time [v] h = (if cnt v = true then .ok .non h else noT h v) := s12 n v h o
theorem eq_of_wr2 {α : Type} {r r' : Res α} (k : Wr (fun v h' => r' = .ok v h') (fun c n h' => r' = .exc c n h') r) : r = r' := by
  revert k
  cases r with
  | ok v h' => exact fun e => e.symm
  | exc => exact fun e => e.symm
  | stuck => exact False.elim
theorem z_rW {P : Po} {C : CallF} {me : Mi.Env} {h : MH} (es : MEs) (e : me.ex = none) : Wt P (exS τ.tab C (.raise "InvalidWindow" es) me h) = Wr (fun vs h => 1 = vs.length ∧ P.ex "InvalidWindow" h.next me (h.new (.exc "InvalidWindow" ((["given"] : List PySem.Str).zip vs).reverse))) (fun c n h => P.ex c n me h) (evEs τ.tab C me es h) := z_raise _ _ _ e txf_InvalidWindow (by simp)
theorem z_rG {P : Po} {C : CallF} {me : Mi.Env} {h : MH} (es : MEs) (e : me.ex = none) : Wt P (exS τ.tab C (.raise "Gone" es) me h) = Wr (fun vs h => 2 = vs.length ∧ P.ex "Gone" h.next me (h.new (.exc "Gone" ((["time", "grain"] : List PySem.Str).zip vs).reverse))) (fun c n h => P.ex c n me h) (evEs τ.tab C me es h) := z_raise _ _ _ e txf_Gone (by simp)
theorem e_cw (ox : okV h x) (oy : okV h y) : Mi.run τ.tab (n+3) f_check_window [x, y] h = (if wOk x y = true then .ok .non h else noW h x y) := by
  refine eq_of_wr2 ?_
  refine run_w { sl := [some x, some y], ex := none } body_check_window rfl rfl rfl ?_
  unfold body_check_window
  have two : (2 : Nat) ≤ PySem.sizeLine := by rw [PySem.sizeLine_eq]; decide
  cases hx : cnt x with
  | false =>
    try simp only [y_ok, y_exc, y_bind, y_bnd, y_cnd, y_cndt, z_nx, z_rt, z_br, z_ct, z_ex, z_exb0, z_exb1, z_wnwn, z_wnnx, z_wnrt, z_wnbr, z_wnct, z_wnex, z_wxnx, z_wxrt, z_wxbr, z_wxct, z_wxex, z_wlnx, z_wlrt, z_wlbr, z_wlct, z_wlex, z_fnnx, z_fnrt, z_fnex, z_pass, z_ret, z_retN, z_expr, z_asg, z_asgsw, z_asgtp, z_asgsub, z_asgfld, z_ifs, z_fors, z_brk, z_cont, z_trys, x_ct, x_cf, q_mp, q_opt, q_non, q_bl, q_int, q_str, q_var, q_ty, q_cls, q_gint, q_bin, q_neg, q_not, q_cmp, q_sub, q_slc, q_tup, q_lst, q_call, q_mk, q_bi, q_app, q_fld, q_meth, q_nil, q_cons, q_tnot, q_tbl, q_tvar, q_tcmp, q_tchain, q_tsub, q_tcall, q_tbi, q_tmeth, q_bool, q_rng1, q_slcn, q_slcY, z_tand, z_tor, z_and, z_or, z_ife, z_chain, b_max, b_min, b_abs, b_inti, b_intb, b_lent, sw2, sub_t0, sub_t1, o_add, o_sub, o_mul, o_fdiv, o_mod, o_pow, c_eqi, c_nei, c_eqs, c_nes, c_lt, c_le, c_gt, c_ge, c_isn, c_notn, isNon_n, isNon_i, Mi.Env.set, List.set_cons_zero, List.set_cons_succ, List.getElem?_cons_zero, List.getElem?_cons_succ, Option.getD_some, List.length_cons, List.length_nil, stepF_nm, Nat.reduceAdd, Nat.reduceLeDiff, q_iof, it_tup, sz_tup, sz_rg, c_isct, e_isct ox, e_isct oy, hx, Bool.not_false, z_rW, List.zip_cons_cons, List.zip_nil_left, List.reverse_cons, List.reverse_nil, List.nil_append, two, if_true]
    simp [wOk, hx, noW]
  | true =>
    cases hy : cnt y with
    | false =>
      try simp only [y_ok, y_exc, y_bind, y_bnd, y_cnd, y_cndt, z_nx, z_rt, z_br, z_ct, z_ex, z_exb0, z_exb1, z_wnwn, z_wnnx, z_wnrt, z_wnbr, z_wnct, z_wnex, z_wxnx, z_wxrt, z_wxbr, z_wxct, z_wxex, z_wlnx, z_wlrt, z_wlbr, z_wlct, z_wlex, z_fnnx, z_fnrt, z_fnex, z_pass, z_ret, z_retN, z_expr, z_asg, z_asgsw, z_asgtp, z_asgsub, z_asgfld, z_ifs, z_fors, z_brk, z_cont, z_trys, x_ct, x_cf, q_mp, q_opt, q_non, q_bl, q_int, q_str, q_var, q_ty, q_cls, q_gint, q_bin, q_neg, q_not, q_cmp, q_sub, q_slc, q_tup, q_lst, q_call, q_mk, q_bi, q_app, q_fld, q_meth, q_nil, q_cons, q_tnot, q_tbl, q_tvar, q_tcmp, q_tchain, q_tsub, q_tcall, q_tbi, q_tmeth, q_bool, q_rng1, q_slcn, q_slcY, z_tand, z_tor, z_and, z_or, z_ife, z_chain, b_max, b_min, b_abs, b_inti, b_intb, b_lent, sw2, sub_t0, sub_t1, o_add, o_sub, o_mul, o_fdiv, o_mod, o_pow, c_eqi, c_nei, c_eqs, c_nes, c_lt, c_le, c_gt, c_ge, c_isn, c_notn, isNon_n, isNon_i, Mi.Env.set, List.set_cons_zero, List.set_cons_succ, List.getElem?_cons_zero, List.getElem?_cons_succ, Option.getD_some, List.length_cons, List.length_nil, stepF_nm, Nat.reduceAdd, Nat.reduceLeDiff, q_iof, it_tup, sz_tup, sz_rg, c_isct, e_isct ox, e_isct oy, hx, hy, Bool.not_false, Bool.not_true, z_rW, List.zip_cons_cons, List.zip_nil_left, List.reverse_cons, List.reverse_nil, List.nil_append, two, if_true]
      simp [wOk, hx, hy, noW]
    | true =>
      obtain ⟨j, rfl, hj⟩ := cnt_ex hy
      try simp only [y_ok, y_exc, y_bind, y_bnd, y_cnd, y_cndt, z_nx, z_rt, z_br, z_ct, z_ex, z_exb0, z_exb1, z_wnwn, z_wnnx, z_wnrt, z_wnbr, z_wnct, z_wnex, z_wxnx, z_wxrt, z_wxbr, z_wxct, z_wxex, z_wlnx, z_wlrt, z_wlbr, z_wlct, z_wlex, z_fnnx, z_fnrt, z_fnex, z_pass, z_ret, z_retN, z_expr, z_asg, z_asgsw, z_asgtp, z_asgsub, z_asgfld, z_ifs, z_fors, z_brk, z_cont, z_trys, x_ct, x_cf, q_mp, q_opt, q_non, q_bl, q_int, q_str, q_var, q_ty, q_cls, q_gint, q_bin, q_neg, q_not, q_cmp, q_sub, q_slc, q_tup, q_lst, q_call, q_mk, q_bi, q_app, q_fld, q_meth, q_nil, q_cons, q_tnot, q_tbl, q_tvar, q_tcmp, q_tchain, q_tsub, q_tcall, q_tbi, q_tmeth, q_bool, q_rng1, q_slcn, q_slcY, z_tand, z_tor, z_and, z_or, z_ife, z_chain, b_max, b_min, b_abs, b_inti, b_intb, b_lent, sw2, sub_t0, sub_t1, o_add, o_sub, o_mul, o_fdiv, o_mod, o_pow, c_eqi, c_nei, c_eqs, c_nes, c_lt, c_le, c_gt, c_ge, c_isn, c_notn, isNon_n, isNon_i, Mi.Env.set, List.set_cons_zero, List.set_cons_succ, List.getElem?_cons_zero, List.getElem?_cons_succ, Option.getD_some, List.length_cons, List.length_nil, stepF_nm, Nat.reduceAdd, Nat.reduceLeDiff, q_iof, it_tup, sz_tup, sz_rg, c_isct, e_isct ox, e_isct oy, hx, hy, Bool.not_true]
      refine cnd_d (fun hz => ?_) (fun hz => ?_)
      · try simp only [y_ok, y_exc, y_bind, y_bnd, y_cnd, y_cndt, z_nx, z_rt, z_br, z_ct, z_ex, z_exb0, z_exb1, z_wnwn, z_wnnx, z_wnrt, z_wnbr, z_wnct, z_wnex, z_wxnx, z_wxrt, z_wxbr, z_wxct, z_wxex, z_wlnx, z_wlrt, z_wlbr, z_wlct, z_wlex, z_fnnx, z_fnrt, z_fnex, z_pass, z_ret, z_retN, z_expr, z_asg, z_asgsw, z_asgtp, z_asgsub, z_asgfld, z_ifs, z_fors, z_brk, z_cont, z_trys, x_ct, x_cf, q_mp, q_opt, q_non, q_bl, q_int, q_str, q_var, q_ty, q_cls, q_gint, q_bin, q_neg, q_not, q_cmp, q_sub, q_slc, q_tup, q_lst, q_call, q_mk, q_bi, q_app, q_fld, q_meth, q_nil, q_cons, q_tnot, q_tbl, q_tvar, q_tcmp, q_tchain, q_tsub, q_tcall, q_tbi, q_tmeth, q_bool, q_rng1, q_slcn, q_slcY, z_tand, z_tor, z_and, z_or, z_ife, z_chain, b_max, b_min, b_abs, b_inti, b_intb, b_lent, sw2, sub_t0, sub_t1, o_add, o_sub, o_mul, o_fdiv, o_mod, o_pow, c_eqi, c_nei, c_eqs, c_nes, c_lt, c_le, c_gt, c_ge, c_isn, c_notn, isNon_n, isNon_i, Mi.Env.set, List.set_cons_zero, List.set_cons_succ, List.getElem?_cons_zero, List.getElem?_cons_succ, Option.getD_some, List.length_cons, List.length_nil, stepF_nm, Nat.reduceAdd, Nat.reduceLeDiff, q_iof, it_tup, sz_tup, sz_rg, z_rW, List.zip_cons_cons, List.zip_nil_left, List.reverse_cons, List.reverse_nil, List.nil_append, two, if_true]
        simp [wOk, hx, hy, hz, vi, noW]
      · try simp only [y_ok, y_exc, y_bind, y_bnd, y_cnd, y_cndt, z_nx, z_rt, z_br, z_ct, z_ex, z_exb0, z_exb1, z_wnwn, z_wnnx, z_wnrt, z_wnbr, z_wnct, z_wnex, z_wxnx, z_wxrt, z_wxbr, z_wxct, z_wxex, z_wlnx, z_wlrt, z_wlbr, z_wlct, z_wlex, z_fnnx, z_fnrt, z_fnex, z_pass, z_ret, z_retN, z_expr, z_asg, z_asgsw, z_asgtp, z_asgsub, z_asgfld, z_ifs, z_fors, z_brk, z_cont, z_trys, x_ct, x_cf, q_mp, q_opt, q_non, q_bl, q_int, q_str, q_var, q_ty, q_cls, q_gint, q_bin, q_neg, q_not, q_cmp, q_sub, q_slc, q_tup, q_lst, q_call, q_mk, q_bi, q_app, q_fld, q_meth, q_nil, q_cons, q_tnot, q_tbl, q_tvar, q_tcmp, q_tchain, q_tsub, q_tcall, q_tbi, q_tmeth, q_bool, q_rng1, q_slcn, q_slcY, z_tand, z_tor, z_and, z_or, z_ife, z_chain, b_max, b_min, b_abs, b_inti, b_intb, b_lent, sw2, sub_t0, sub_t1, o_add, o_sub, o_mul, o_fdiv, o_mod, o_pow, c_eqi, c_nei, c_eqs, c_nes, c_lt, c_le, c_gt, c_ge, c_isn, c_notn, isNon_n, isNon_i, Mi.Env.set, List.set_cons_zero, List.set_cons_succ, List.getElem?_cons_zero, List.getElem?_cons_succ, Option.getD_some, List.length_cons, List.length_nil, stepF_nm, Nat.reduceAdd, Nat.reduceLeDiff, q_iof, it_tup, sz_tup, sz_rg]
        simp [wOk, hx, hy, hz, vi]
end
end Lw
end

section
namespace Lw
open Mi
open PySem (PyData)
theorem ar2 {a b : Mi.MV} : argsOf 2 [a, b] [] [] = some [a, b] := (rfl)
theorem ar3 {a b c : Mi.MV} : argsOf 3 [a, b, c] [] [] = some [a, b, c] := (rfl)
theorem ar4 {a b c d : Mi.MV} : argsOf 4 [a, b, c, d] [] [] = some [a, b, c, d] := (rfl)
theorem ak3 {a b c : Mi.MV} : argsOf 3 [a] [c, b] [1, 0] = some [a, b, c] := (rfl)
theorem ak4 {a b c d : Mi.MV} : argsOf 4 [a] [d, c, b] [2, 1, 0] = some [a, b, c, d] := (rfl)
theorem lk_st (x : Mi.MV) : List.lookup ("stands" : PySem.Str) [("rows", x)] = none := by
  rw [List.lookup_cons, show (("stands" : PySem.Str) == "rows") = false by decide +kernel]; rfl
theorem lk_go (x : Mi.MV) : List.lookup ("gone_from" : PySem.Str) [("rows", x)] = none := by
  rw [List.lookup_cons, show (("gone_from" : PySem.Str) == "rows") = false by decide +kernel]; rfl
theorem lk_fi (x : Mi.MV) : List.lookup ("fitting" : PySem.Str) [("rows", x)] = none := by
  rw [List.lookup_cons, show (("fitting" : PySem.Str) == "rows") = false by decide +kernel]; rfl
theorem lk_te (x : Mi.MV) : List.lookup ("teller" : PySem.Str) [("rows", x)] = none := by
  rw [List.lookup_cons, show (("teller" : PySem.Str) == "rows") = false by decide +kernel]; rfl
theorem lk_un (x : Mi.MV) : List.lookup ("untold_from" : PySem.Str) [("rows", x)] = none := by
  rw [List.lookup_cons, show (("untold_from" : PySem.Str) == "rows") = false by decide +kernel]; rfl
def telB : MSs := .cons (.ifs (.meth (.var 0) "stands" (.cons (.var 5) (.cons (.var 1) (.cons (.var 3) .nil))) [] .nil []) (.cons (.ret (.var 5)) .nil) .nil) .nil
section
variable {n r m : Nat} {h : MH} {R : List (Int × Option Int)} {a s c : Int}
theorem teller_loop {P : Po} {F : List Nat} (gp : GP R) (ra : isRA h r R) (A : At h m (.lst (nats F))) (ha : 0 ≤ a) (hc : 0 ≤ c) : ∀ (L : List Nat) (i : Nat) (o5 : Option Mi.MV), F.drop i = L → (∀ k ∈ L, k < R.length) →
    (∀ k, (L.filter (tellB R a c)).head? = some k → P.rt (.int (k : Nat)) h) → (L.filter (tellB R a c) = [] → ∀ o5, P.nx { sl := [some (.ref r), some (.int a), some (.int s), some (.int c), some (.ref m), o5], ex := none } h) →
    Wt P (forL (stepF τ.tab (Mi.run τ.tab (n+6)) (.nm 5) telB) (.lst m) L.length i { sl := [some (.ref r), some (.int a), some (.int s), some (.int c), some (.ref m), o5], ex := none } h)
  | [], i, o5, e, _, H1, H2 => by
    have e1 : (nats F)[i]? = none := by
      have := List.drop_eq_nil_iff.mp e
      simpa [nats] using this
    rw [List.length_nil, forL_0 (by rw [at_lst A, e1])]
    exact H2 rfl o5
  | k :: L, i, o5, e, hk, H1, H2 => by
    have hkR := hk k List.mem_cons_self
    have hi : i < F.length := by
      apply Classical.byContradiction
      intro z
      rw [List.drop_of_length_le (by omega)] at e
      cases e
    have e0 := List.drop_eq_getElem_cons hi
    rw [e] at e0
    have e1 : (nats F)[i]? = some (.int (k : Nat)) := by
      simp [nats, hi, (List.cons.inj e0).1]
    have e2 : F.drop (i + 1) = L := (List.cons.inj e0).2.symm
    have e20 := s20 (n := n) gp ra.get (g := .int (k : Nat)) trivial (t := .int a) (c := .int c) trivial trivial
    unfold rn at e20
    rw [if_pos (show gok R (.int (k : Nat)) = true by simp [gok]; omega), if_pos (show cnt (.int a) = true by simp [cnt, ha]), if_pos (show cnt (.int c) = true by simp [cnt, hc])] at e20
    simp only [vi_int] at e20
    refine forL_1 (by rw [at_lst A, e1]) ?_
    rw [stepF_nm]
    unfold telB
    try simp only [y_ok, y_exc, y_bind, y_bnd, y_cnd, y_cndt, z_nx, z_rt, z_br, z_ct, z_ex, z_exb0, z_exb1, z_wnwn, z_wnnx, z_wnrt, z_wnbr, z_wnct, z_wnex, z_wxnx, z_wxrt, z_wxbr, z_wxct, z_wxex, z_wlnx, z_wlrt, z_wlbr, z_wlct, z_wlex, z_fnnx, z_fnrt, z_fnex, z_pass, z_ret, z_retN, z_expr, z_asg, z_asgsw, z_asgtp, z_asgsub, z_asgfld, z_ifs, z_fors, z_brk, z_cont, z_trys, x_ct, x_cf, q_mp, q_opt, q_non, q_bl, q_int, q_str, q_var, q_ty, q_cls, q_gint, q_bin, q_neg, q_not, q_cmp, q_sub, q_slc, q_tup, q_lst, q_call, q_mk, q_bi, q_app, q_fld, q_meth, q_nil, q_cons, q_tnot, q_tbl, q_tvar, q_tcmp, q_tchain, q_tsub, q_tcall, q_tbi, q_tmeth, q_bool, q_rng1, q_slcn, q_slcY, z_tand, z_tor, z_and, z_or, z_ife, z_chain, b_max, b_min, b_abs, b_inti, b_intb, b_lent, sw2, sub_t0, sub_t1, o_add, o_sub, o_mul, o_fdiv, o_mod, o_pow, c_eqi, c_nei, c_eqs, c_nes, c_lt, c_le, c_gt, c_ge, c_isn, c_notn, isNon_n, isNon_i, Mi.Env.set, List.set_cons_zero, List.set_cons_succ, List.getElem?_cons_zero, List.getElem?_cons_succ, Option.getD_some, List.length_cons, List.length_nil, stepF_nm, Nat.reduceAdd, Nat.reduceLeDiff, q_iof, it_tup, sz_tup, sz_rg, x_methM ra.get (lk_st _) tme_Rules_stands, fnp_Rules_stands, ar4, e20]
    refine cnd_d (fun hz => ?_) (fun hz => ?_)
    · try simp only [y_ok, y_exc, y_bind, y_bnd, y_cnd, y_cndt, z_nx, z_rt, z_br, z_ct, z_ex, z_exb0, z_exb1, z_wnwn, z_wnnx, z_wnrt, z_wnbr, z_wnct, z_wnex, z_wxnx, z_wxrt, z_wxbr, z_wxct, z_wxex, z_wlnx, z_wlrt, z_wlbr, z_wlct, z_wlex, z_fnnx, z_fnrt, z_fnex, z_pass, z_ret, z_retN, z_expr, z_asg, z_asgsw, z_asgtp, z_asgsub, z_asgfld, z_ifs, z_fors, z_brk, z_cont, z_trys, x_ct, x_cf, q_mp, q_opt, q_non, q_bl, q_int, q_str, q_var, q_ty, q_cls, q_gint, q_bin, q_neg, q_not, q_cmp, q_sub, q_slc, q_tup, q_lst, q_call, q_mk, q_bi, q_app, q_fld, q_meth, q_nil, q_cons, q_tnot, q_tbl, q_tvar, q_tcmp, q_tchain, q_tsub, q_tcall, q_tbi, q_tmeth, q_bool, q_rng1, q_slcn, q_slcY, z_tand, z_tor, z_and, z_or, z_ife, z_chain, b_max, b_min, b_abs, b_inti, b_intb, b_lent, sw2, sub_t0, sub_t1, o_add, o_sub, o_mul, o_fdiv, o_mod, o_pow, c_eqi, c_nei, c_eqs, c_nes, c_lt, c_le, c_gt, c_ge, c_isn, c_notn, isNon_n, isNon_i, Mi.Env.set, List.set_cons_zero, List.set_cons_succ, List.getElem?_cons_zero, List.getElem?_cons_succ, Option.getD_some, List.length_cons, List.length_nil, stepF_nm, Nat.reduceAdd, Nat.reduceLeDiff, q_iof, it_tup, sz_tup, sz_rg]
      exact H1 k (by rw [List.filter_cons, if_pos (show tellB R a c k = true by unfold tellB; simp [hz])]; rfl)
    · try simp only [y_ok, y_exc, y_bind, y_bnd, y_cnd, y_cndt, z_nx, z_rt, z_br, z_ct, z_ex, z_exb0, z_exb1, z_wnwn, z_wnnx, z_wnrt, z_wnbr, z_wnct, z_wnex, z_wxnx, z_wxrt, z_wxbr, z_wxct, z_wxex, z_wlnx, z_wlrt, z_wlbr, z_wlct, z_wlex, z_fnnx, z_fnrt, z_fnex, z_pass, z_ret, z_retN, z_expr, z_asg, z_asgsw, z_asgtp, z_asgsub, z_asgfld, z_ifs, z_fors, z_brk, z_cont, z_trys, x_ct, x_cf, q_mp, q_opt, q_non, q_bl, q_int, q_str, q_var, q_ty, q_cls, q_gint, q_bin, q_neg, q_not, q_cmp, q_sub, q_slc, q_tup, q_lst, q_call, q_mk, q_bi, q_app, q_fld, q_meth, q_nil, q_cons, q_tnot, q_tbl, q_tvar, q_tcmp, q_tchain, q_tsub, q_tcall, q_tbi, q_tmeth, q_bool, q_rng1, q_slcn, q_slcY, z_tand, z_tor, z_and, z_or, z_ife, z_chain, b_max, b_min, b_abs, b_inti, b_intb, b_lent, sw2, sub_t0, sub_t1, o_add, o_sub, o_mul, o_fdiv, o_mod, o_pow, c_eqi, c_nei, c_eqs, c_nes, c_lt, c_le, c_gt, c_ge, c_isn, c_notn, isNon_n, isNon_i, Mi.Env.set, List.set_cons_zero, List.set_cons_succ, List.getElem?_cons_zero, List.getElem?_cons_succ, Option.getD_some, List.length_cons, List.length_nil, stepF_nm, Nat.reduceAdd, Nat.reduceLeDiff, q_iof, it_tup, sz_tup, sz_rg]
      have hf : (k :: L).filter (tellB R a c) = L.filter (tellB R a c) := by rw [List.filter_cons, if_neg (by unfold tellB; simp [hz])]
      rw [hf] at H1 H2
      exact teller_loop gp ra A ha hc L (i + 1) _ e2 (fun q hq => hk q (List.mem_cons_of_mem _ hq)) H1 H2
/-- the greatest grain that fits -/
def lastF (R : List (Int × Option Int)) (a s : Int) : Nat := (fits R a s).getLastD 0
theorem fits_ne (g : GR R) : fits R a s ≠ [] := by
  have h1 := g.fst
  have h2 := g.len.1
  have : 0 ∈ fits R a s := by
    refine List.mem_filter.mpr ⟨by simp; omega, ?_⟩
    unfold fitB
    rw [show ((0 : Nat) : Int) = 0 from rfl, h1]
    simp
  intro z
  rw [z] at this
  cases this
theorem last_mem (g : GR R) : lastF R a s ∈ fits R a s := by
  unfold lastF
  rw [List.getLastD_eq_getLast?, List.getLast?_eq_some_getLast (fits_ne g)]
  exact List.getLast_mem _
theorem sub_last {l : Nat} {L : List Nat} (A : At h l (.lst (nats L))) (hn : L ≠ []) : subM (.ref l) (.int (-1)) h = .ok (.int (L.getLastD 0 : Nat)) h := by
  refine sub_ix (asL A) ?_
  have hl : 1 ≤ L.length := by cases L; exact absurd rfl hn; simp
  have ix : Mi.idx (nats L).length (-1) = some (L.length - 1) := by
    unfold Mi.idx L2.ixN nats
    rw [List.length_map, if_neg (by decide), if_pos (by omega)]
    congr 1
    omega
  rw [ix]
  simp [nats, List.getLastD_eq_getLast?, List.getLast?_eq_getElem?]
  have : L.length - 1 < L.length := by omega
  simp [this]
end
end Lw
end

section
namespace Lw
open Mi
open PySem (PyData)
section
variable {n r : Nat} {h : MH} {R : List (Int × Option Int)} {a s c : Int} {x y z : Mi.MV}
theorem wOk_int (ha : 0 ≤ a) (hs : 0 < s) : wOk (.int a) (.int s) = true := by
  have h1 : 0 ≤ s := by omega
  have h2 : s ≠ 0 := by omega
  simp [wOk, cnt, vi, ha, h1, h2]
theorem te_w (ra : isRA h r R) (ox : okV h x) (oy : okV h y) (e : wOk x y = false) : Mi.run τ.tab (n+7) f_Rules_teller [.ref r, x, y, z] h = noW h x y := by
  have e1 := e_cw (n := n+3) ox oy
  rw [e, if_neg (by simp)] at e1
  refine eq_of_wr2 ?_
  refine run_w { sl := [some (.ref r), some x, some y, some z, none, none], ex := none } body_Rules_teller rfl rfl rfl ?_
  unfold body_Rules_teller
  try simp only [y_ok, y_exc, y_bind, y_bnd, y_cnd, y_cndt, z_nx, z_rt, z_br, z_ct, z_ex, z_exb0, z_exb1, z_wnwn, z_wnnx, z_wnrt, z_wnbr, z_wnct, z_wnex, z_wxnx, z_wxrt, z_wxbr, z_wxct, z_wxex, z_wlnx, z_wlrt, z_wlbr, z_wlct, z_wlex, z_fnnx, z_fnrt, z_fnex, z_pass, z_ret, z_retN, z_expr, z_asg, z_asgsw, z_asgtp, z_asgsub, z_asgfld, z_ifs, z_fors, z_brk, z_cont, z_trys, x_ct, x_cf, q_mp, q_opt, q_non, q_bl, q_int, q_str, q_var, q_ty, q_cls, q_gint, q_bin, q_neg, q_not, q_cmp, q_sub, q_slc, q_tup, q_lst, q_call, q_mk, q_bi, q_app, q_fld, q_meth, q_nil, q_cons, q_tnot, q_tbl, q_tvar, q_tcmp, q_tchain, q_tsub, q_tcall, q_tbi, q_tmeth, q_bool, q_rng1, q_slcn, q_slcY, z_tand, z_tor, z_and, z_or, z_ife, z_chain, b_max, b_min, b_abs, b_inti, b_intb, b_lent, sw2, sub_t0, sub_t1, o_add, o_sub, o_mul, o_fdiv, o_mod, o_pow, c_eqi, c_nei, c_eqs, c_nes, c_lt, c_le, c_gt, c_ge, c_isn, c_notn, isNon_n, isNon_i, Mi.Env.set, List.set_cons_zero, List.set_cons_succ, List.getElem?_cons_zero, List.getElem?_cons_succ, Option.getD_some, List.length_cons, List.length_nil, stepF_nm, Nat.reduceAdd, Nat.reduceLeDiff, q_iof, it_tup, sz_tup, sz_rg, c_cw, e1, noW]
theorem te_t (ra : isRA h r R) (ox : okV h x) (oy : okV h y) (oz : okV h z) (e : wOk x y = true) (e2 : cnt z = false) : Mi.run τ.tab (n+7) f_Rules_teller [.ref r, x, y, z] h = noT h z := by
  have e1 := e_cw (n := n+3) ox oy
  rw [e, if_pos rfl] at e1
  have e3 := e_ct (n := n+3) oz
  rw [e2, if_neg (by simp)] at e3
  refine eq_of_wr2 ?_
  refine run_w { sl := [some (.ref r), some x, some y, some z, none, none], ex := none } body_Rules_teller rfl rfl rfl ?_
  unfold body_Rules_teller
  try simp only [y_ok, y_exc, y_bind, y_bnd, y_cnd, y_cndt, z_nx, z_rt, z_br, z_ct, z_ex, z_exb0, z_exb1, z_wnwn, z_wnnx, z_wnrt, z_wnbr, z_wnct, z_wnex, z_wxnx, z_wxrt, z_wxbr, z_wxct, z_wxex, z_wlnx, z_wlrt, z_wlbr, z_wlct, z_wlex, z_fnnx, z_fnrt, z_fnex, z_pass, z_ret, z_retN, z_expr, z_asg, z_asgsw, z_asgtp, z_asgsub, z_asgfld, z_ifs, z_fors, z_brk, z_cont, z_trys, x_ct, x_cf, q_mp, q_opt, q_non, q_bl, q_int, q_str, q_var, q_ty, q_cls, q_gint, q_bin, q_neg, q_not, q_cmp, q_sub, q_slc, q_tup, q_lst, q_call, q_mk, q_bi, q_app, q_fld, q_meth, q_nil, q_cons, q_tnot, q_tbl, q_tvar, q_tcmp, q_tchain, q_tsub, q_tcall, q_tbi, q_tmeth, q_bool, q_rng1, q_slcn, q_slcY, z_tand, z_tor, z_and, z_or, z_ife, z_chain, b_max, b_min, b_abs, b_inti, b_intb, b_lent, sw2, sub_t0, sub_t1, o_add, o_sub, o_mul, o_fdiv, o_mod, o_pow, c_eqi, c_nei, c_eqs, c_nes, c_lt, c_le, c_gt, c_ge, c_isn, c_notn, isNon_n, isNon_i, Mi.Env.set, List.set_cons_zero, List.set_cons_succ, List.getElem?_cons_zero, List.getElem?_cons_succ, Option.getD_some, List.length_cons, List.length_nil, stepF_nm, Nat.reduceAdd, Nat.reduceLeDiff, q_iof, it_tup, sz_tup, sz_rg, c_cw, e1, c_ct, e3, noT]
theorem te_c (g : GR R) (ra : isRA h r R) (ha : 0 ≤ a) (hs : 0 < s) (hc : 0 ≤ c) : Mi.run τ.tab (n+7) f_Rules_teller [.ref r, .int a, .int s, .int c] h = (match (tell R a s c).head? with
    | some k => .ok (.int (k : Nat)) (h.new (.lst (nats (fits R a s))))
    | none => noGo (h.new (.lst (nats (fits R a s)))) a (lastF R a s)) := by
  have e1 := e_cw (n := n+3) (h := h) (x := .int a) (y := .int s) trivial trivial
  rw [if_pos (wOk_int ha hs)] at e1
  have e3 := e_ct (n := n+3) (h := h) (v := .int c) trivial
  rw [if_pos (show cnt (.int c) = true by simp [cnt, hc])] at e3
  have e4 := e_fitting (n := n+5) (a := a) (s := s) g.toGP g.len.2 ra
  refine eq_of_wr2 ?_
  refine run_w { sl := [some (.ref r), some (.int a), some (.int s), some (.int c), none, none], ex := none } body_Rules_teller rfl rfl rfl ?_
  unfold body_Rules_teller
  have A := At.new (h := h) (o := .lst (nats (fits R a s)))
  have ra1 : isRA (h.new (.lst (nats (fits R a s)))) r R := ra.fr0 Fr.new
  have hn : (h.new (.lst (nats (fits R a s)))).next = h.next + 1 := rfl
  try simp only [y_ok, y_exc, y_bind, y_bnd, y_cnd, y_cndt, z_nx, z_rt, z_br, z_ct, z_ex, z_exb0, z_exb1, z_wnwn, z_wnnx, z_wnrt, z_wnbr, z_wnct, z_wnex, z_wxnx, z_wxrt, z_wxbr, z_wxct, z_wxex, z_wlnx, z_wlrt, z_wlbr, z_wlct, z_wlex, z_fnnx, z_fnrt, z_fnex, z_pass, z_ret, z_retN, z_expr, z_asg, z_asgsw, z_asgtp, z_asgsub, z_asgfld, z_ifs, z_fors, z_brk, z_cont, z_trys, x_ct, x_cf, q_mp, q_opt, q_non, q_bl, q_int, q_str, q_var, q_ty, q_cls, q_gint, q_bin, q_neg, q_not, q_cmp, q_sub, q_slc, q_tup, q_lst, q_call, q_mk, q_bi, q_app, q_fld, q_meth, q_nil, q_cons, q_tnot, q_tbl, q_tvar, q_tcmp, q_tchain, q_tsub, q_tcall, q_tbi, q_tmeth, q_bool, q_rng1, q_slcn, q_slcY, z_tand, z_tor, z_and, z_or, z_ife, z_chain, b_max, b_min, b_abs, b_inti, b_intb, b_lent, sw2, sub_t0, sub_t1, o_add, o_sub, o_mul, o_fdiv, o_mod, o_pow, c_eqi, c_nei, c_eqs, c_nes, c_lt, c_le, c_gt, c_ge, c_isn, c_notn, isNon_n, isNon_i, Mi.Env.set, List.set_cons_zero, List.set_cons_succ, List.getElem?_cons_zero, List.getElem?_cons_succ, Option.getD_some, List.length_cons, List.length_nil, stepF_nm, Nat.reduceAdd, Nat.reduceLeDiff, q_iof, it_tup, sz_tup, sz_rg, c_cw, e1, c_ct, e3, x_methM ra.get (lk_fi _) tme_Rules_fitting, fnp_Rules_fitting, ar3, e4, it_lst A, sz_lst A]
  generalize h.new (.lst (nats (fits R a s))) = h1 at A ra1 hn ⊢
  rw [show (nats (fits R a s)).length = (fits R a s).length by simp [nats]]
  refine teller_loop (n := n) (F := fits R a s) g.toGP ra1 A ha hc (fits R a s) 0 _ rfl (fun k hk => fits_lt hk) (fun k hk => ?_) (fun hk o5 => ?_)
  · have : (tell R a s c).head? = some k := hk
    rw [this]
    try simp only [y_ok, y_exc, y_bind, y_bnd, y_cnd, y_cndt, z_nx, z_rt, z_br, z_ct, z_ex, z_exb0, z_exb1, z_wnwn, z_wnnx, z_wnrt, z_wnbr, z_wnct, z_wnex, z_wxnx, z_wxrt, z_wxbr, z_wxct, z_wxex, z_wlnx, z_wlrt, z_wlbr, z_wlct, z_wlex, z_fnnx, z_fnrt, z_fnex, z_pass, z_ret, z_retN, z_expr, z_asg, z_asgsw, z_asgtp, z_asgsub, z_asgfld, z_ifs, z_fors, z_brk, z_cont, z_trys, x_ct, x_cf, q_mp, q_opt, q_non, q_bl, q_int, q_str, q_var, q_ty, q_cls, q_gint, q_bin, q_neg, q_not, q_cmp, q_sub, q_slc, q_tup, q_lst, q_call, q_mk, q_bi, q_app, q_fld, q_meth, q_nil, q_cons, q_tnot, q_tbl, q_tvar, q_tcmp, q_tchain, q_tsub, q_tcall, q_tbi, q_tmeth, q_bool, q_rng1, q_slcn, q_slcY, z_tand, z_tor, z_and, z_or, z_ife, z_chain, b_max, b_min, b_abs, b_inti, b_intb, b_lent, sw2, sub_t0, sub_t1, o_add, o_sub, o_mul, o_fdiv, o_mod, o_pow, c_eqi, c_nei, c_eqs, c_nes, c_lt, c_le, c_gt, c_ge, c_isn, c_notn, isNon_n, isNon_i, Mi.Env.set, List.set_cons_zero, List.set_cons_succ, List.getElem?_cons_zero, List.getElem?_cons_succ, Option.getD_some, List.length_cons, List.length_nil, stepF_nm, Nat.reduceAdd, Nat.reduceLeDiff, q_iof, it_tup, sz_tup, sz_rg]
  · have : (tell R a s c) = [] := hk
    rw [this]
    try simp only [y_ok, y_exc, y_bind, y_bnd, y_cnd, y_cndt, z_nx, z_rt, z_br, z_ct, z_ex, z_exb0, z_exb1, z_wnwn, z_wnnx, z_wnrt, z_wnbr, z_wnct, z_wnex, z_wxnx, z_wxrt, z_wxbr, z_wxct, z_wxex, z_wlnx, z_wlrt, z_wlbr, z_wlct, z_wlex, z_fnnx, z_fnrt, z_fnex, z_pass, z_ret, z_retN, z_expr, z_asg, z_asgsw, z_asgtp, z_asgsub, z_asgfld, z_ifs, z_fors, z_brk, z_cont, z_trys, x_ct, x_cf, q_mp, q_opt, q_non, q_bl, q_int, q_str, q_var, q_ty, q_cls, q_gint, q_bin, q_neg, q_not, q_cmp, q_sub, q_slc, q_tup, q_lst, q_call, q_mk, q_bi, q_app, q_fld, q_meth, q_nil, q_cons, q_tnot, q_tbl, q_tvar, q_tcmp, q_tchain, q_tsub, q_tcall, q_tbi, q_tmeth, q_bool, q_rng1, q_slcn, q_slcY, z_tand, z_tor, z_and, z_or, z_ife, z_chain, b_max, b_min, b_abs, b_inti, b_intb, b_lent, sw2, sub_t0, sub_t1, o_add, o_sub, o_mul, o_fdiv, o_mod, o_pow, c_eqi, c_nei, c_eqs, c_nes, c_lt, c_le, c_gt, c_ge, c_isn, c_notn, isNon_n, isNon_i, Mi.Env.set, List.set_cons_zero, List.set_cons_succ, List.getElem?_cons_zero, List.getElem?_cons_succ, Option.getD_some, List.length_cons, List.length_nil, stepF_nm, Nat.reduceAdd, Nat.reduceLeDiff, q_iof, it_tup, sz_tup, sz_rg, z_rG, List.zip_cons_cons, List.zip_nil_left, List.reverse_cons, List.reverse_nil, List.nil_append, sub_last A (fits_ne g)]
    simp [noGo, lastF]
end
end Lw
end

section
namespace Lw
open Mi
open PySem (PyData)
/-! ### plain laws of edges and grains -/
theorem floor_le {s X y : Int} (hs : 0 < s) (hd : X % s = 0) (h : X ≤ y) : X ≤ y / s * s := by
  have e1 := Int.mul_ediv_add_emod X s
  have e2 : X / s ≤ y / s := Int.ediv_le_ediv hs h
  have e3 : X / s * s ≤ y / s * s := Int.mul_le_mul_of_nonneg_right e2 (by omega)
  have e4 : s * (X / s) = X / s * s := Int.mul_comm _ _
  omega
theorem mod_trans {a b c : Int} (h1 : b % a = 0) (h2 : c % b = 0) : c % a = 0 := by
  obtain ⟨x, rfl⟩ := Int.dvd_of_emod_eq_zero h1
  obtain ⟨y, rfl⟩ := Int.dvd_of_emod_eq_zero h2
  rw [Int.mul_assoc]; exact Int.mul_emod_right _ _
section
variable {R : List (Int × Option Int)} {a s c : Int}
theorem edg_adj (g : GR R) {i : Nat} (hi : i + 1 < R.length) (hc : 0 ≤ c) : edg R ((i + 1 : Nat) : Int) c ≤ edg R (i : Int) c := by
  have f := g.fo (i + 1) (by omega) hi
  rw [show (((i + 1 : Nat)) : Int) - 1 = (i : Int) by omega] at f
  obtain ⟨f1, f2, f3⟩ := f
  have b0 := (edg_bd g.toGK (i := (i : Int)) (by omega) (by omega) hc).1
  obtain ⟨p1, p2⟩ := stp_pos g.toGP (i := (i : Int)) (by omega) (by omega)
  obtain ⟨q1, q2⟩ := stp_pos g.toGP (i := ((i + 1 : Nat) : Int)) (by omega) (by omega)
  have s1 : stp R (i : Int) = (row R ((i + 1 : Nat) : Int)).1 := by
    unfold stp
    rw [if_neg (by omega)]; rfl
  have s2 : stp R ((i + 1 : Nat) : Int) % stp R (i : Int) = 0 := by
    rw [s1]
    unfold stp
    by_cases h2 : i + 2 < R.length
    · rw [if_neg (by omega)]
      have f' := (g.fo (i + 2) (by omega) h2).1
      rw [show (((i + 2 : Nat)) : Int) - 1 = ((i + 1 : Nat) : Int) by omega] at f'
      rw [show (((i + 1 : Nat)) : Int) + 1 = ((i + 2 : Nat) : Int) by omega]
      exact f'
    · rw [if_pos (by omega), show (R.length : Int) - 1 = ((i + 1 : Nat) : Int) by omega]
      exact Int.emod_self
  cases hk : (row R ((i + 1 : Nat) : Int)).2 with
  | none => unfold edg at b0 ⊢; rw [hk]; exact b0
  | some k =>
    obtain ⟨k', hk', le⟩ := f3 k hk
    have kp := (g.kp _ (row_mem (R := R) (i := ((i + 1 : Nat) : Int)) (by omega) (by omega)) k hk).1
    have lp := (g.pos _ (row_mem (R := R) (i := ((i + 1 : Nat) : Int)) (by omega) (by omega))).1
    unfold edg at b0 ⊢
    rw [hk'] at b0 ⊢
    rw [hk]
    simp only at b0 ⊢
    by_cases h1 : c < k
    · rw [if_pos h1]; exact b0
    · rw [if_neg h1, if_neg (by omega)]
      refine floor_le p1 ?_ ?_
      · exact mod_trans s2 (Int.mul_emod_left _ _)
      · have e1 := Int.mul_ediv_add_emod (c - k) (stp R ((i + 1 : Nat) : Int))
        have e2 := Int.emod_nonneg (c - k) (show stp R ((i + 1 : Nat) : Int) ≠ 0 by omega)
        have e3 : stp R ((i + 1 : Nat) : Int) * ((c - k) / stp R ((i + 1 : Nat) : Int)) = (c - k) / stp R ((i + 1 : Nat) : Int) * stp R ((i + 1 : Nat) : Int) := Int.mul_comm _ _
        omega
theorem edg_anti (g : GR R) (hc : 0 ≤ c) {i : Nat} : ∀ {j : Nat}, i ≤ j → j < R.length → edg R (j : Int) c ≤ edg R (i : Int) c
  | 0, h1, h2 => by rw [show i = 0 by omega]; exact Int.le_refl _
  | j + 1, h1, h2 => by
    by_cases e : i = j + 1
    · rw [e]; exact Int.le_refl _
    · exact Int.le_trans (edg_adj g h2 hc) (edg_anti g hc (j := j) (by omega) (by omega))
theorem asc_filter {p : Nat → Bool} {n : Nat} : ((List.range n).filter p).Pairwise (· < ·) := List.Pairwise.filter _ List.pairwise_lt_range
theorem asc_last : ∀ {L : List Nat}, L.Pairwise (· < ·) → ∀ k ∈ L, k ≤ L.getLastD 0
  | [], _, k, h => by cases h
  | [x], _, k, h => by simp at h; subst h; exact Nat.le_refl _
  | x :: y :: L, p, k, h => by
    have p1 := List.pairwise_cons.mp p
    have ih := asc_last p1.2
    have e : (x :: y :: L).getLastD 0 = (y :: L).getLastD 0 := by simp [List.getLastD]
    rw [e]
    rcases List.mem_cons.mp h with z | z
    · subst z
      exact Nat.le_of_lt (Nat.lt_of_lt_of_le (p1.1 y List.mem_cons_self) (ih y List.mem_cons_self))
    · exact ih k z
theorem fits_le (k : Nat) (h : k ∈ fits R a s) : k ≤ lastF R a s := asc_last asc_filter k h
theorem nats_ints (L : List Nat) : intsM (nats L) = some (L.map fun k => ((k : Nat) : Int)) := by
  induction L with
  | nil => rfl
  | cons k L ih => unfold nats at ih ⊢; rw [List.map_cons]; unfold intsM; rw [ih]; rfl
theorem max_asc {k : Nat} {L : List Nat} (p : (k :: L).Pairwise (· < ·)) : maxI (k : Nat) (L.map fun k => ((k : Nat) : Int)) = ((k :: L).getLastD 0 : Nat) := by
  have h1 := maxI_mem (L.map fun k => ((k : Nat) : Int)) (k : Nat)
  have h2 := maxI_ge (L.map fun k => ((k : Nat) : Int)) (k : Nat)
  rw [show ((k : Nat) : Int) :: L.map (fun k => ((k : Nat) : Int)) = (k :: L).map (fun k => ((k : Nat) : Int)) from rfl] at h1 h2
  obtain ⟨m, hm, em⟩ := List.mem_map.mp h1
  have h3 := asc_last p m hm
  have h4 : (k :: L).getLastD 0 ∈ k :: L := by
    rw [List.getLastD_eq_getLast?, List.getLast?_eq_some_getLast (List.cons_ne_nil _ _)]
    exact List.getLast_mem _
  have h5 := h2 _ (List.mem_map.mpr ⟨_, h4, rfl⟩)
  omega
theorem min_asc {k : Nat} {L : List Nat} (p : (k :: L).Pairwise (· < ·)) : minI (k : Nat) (L.map fun k => ((k : Nat) : Int)) = (k : Nat) := by
  have h1 := minI_mem (L.map fun k => ((k : Nat) : Int)) (k : Nat)
  have h2 := minI_le (L.map fun k => ((k : Nat) : Int)) (k : Nat) _ List.mem_cons_self
  rcases List.mem_cons.mp h1 with z | z
  · exact z
  · obtain ⟨m, hm, em⟩ := List.mem_map.mp z
    have := (List.pairwise_cons.mp p).1 m hm
    omega
theorem tell_asc : (tell R a s c).Pairwise (· < ·) := List.Pairwise.filter _ asc_filter
/-- the least clock at which no grain tells -/
theorem untold_math (g : GR R) (ha : 0 ≤ a) {q : Int} (hq : (row R (lastF R a s : Nat)).2 = some q) : ∃ G : Int, gonev R (lastF R a s : Nat) a = .int G ∧ 0 < G ∧ tell R a s (G - 1) ≠ [] ∧ tell R a s G = [] := by
  have hm := last_mem (a := a) (s := s) g
  have hl := fits_lt hm
  obtain ⟨p1, p2⟩ := stp_pos g.toGP (i := ((lastF R a s : Nat) : Int)) (by omega) (by omega)
  have kq := (g.kp _ (row_mem (R := R) (i := ((lastF R a s : Nat) : Int)) (by omega) (by omega)) q hq).1
  obtain ⟨m1, m2, m3, m4, m5, m6⟩ := gone_math (s := stp R (lastF R a s : Nat)) p1 kq ha
  generalize hg : q + (a / stp R (lastF R a s : Nat) + 1) * stp R (lastF R a s : Nat) = G at m1 m2 m3 m4 m5 m6
  have d1 : edg R (lastF R a s : Nat) (G - 1) ≤ a := by unfold edg; rw [hq]; simp only [m3, if_false]; exact m4
  have d2 : a < edg R (lastF R a s : Nat) G := by unfold edg; rw [hq]; simp only [m5, if_false]; exact m6
  refine ⟨G, by unfold gonev; rw [hq, ← hg], by omega, fun z => ?_, ?_⟩
  · have : lastF R a s ∈ tell R a s (G - 1) := List.mem_filter.mpr ⟨hm, by unfold tellB; simp [d1]⟩
    rw [z] at this; cases this
  · refine List.filter_eq_nil_iff.mpr fun k hk => ?_
    have := edg_anti g (c := G) (by omega) (fits_le k hk) hl
    unfold tellB
    simp
    omega
end
end Lw
end

section
namespace Lw
open Mi
open PySem (PyData)
/-! ### the pieces: plain laws -/
section
variable {R : List (Int × Option Int)} {a s c : Int}
theorem len_dvd (g : GR R) {j : Nat} : ∀ {i : Nat}, j ≤ i → i < R.length → (row R (j : Int)).1 ∣ (row R (i : Int)).1
  | 0, h1, h2 => by rw [show j = 0 by omega]; exact Int.dvd_refl _
  | i + 1, h1, h2 => by
    by_cases e : j = i + 1
    · rw [e]; exact Int.dvd_refl _
    · have f := (g.fo (i + 1) (by omega) h2).1
      rw [show (((i + 1 : Nat)) : Int) - 1 = (i : Int) by omega] at f
      exact Int.dvd_trans (len_dvd g (i := i) (by omega) (by omega)) (Int.dvd_of_emod_eq_zero f)
theorem stp_dvd (g : GR R) {i : Nat} (h : i < R.length) : (row R (i : Int)).1 ∣ stp R (i : Int) ∧ (i + 1 < R.length → stp R (i : Int) = (row R ((i + 1 : Nat) : Int)).1) := by
  unfold stp
  by_cases h2 : i + 1 < R.length
  · rw [if_neg (by omega)]
    exact ⟨len_dvd g (i := i + 1) (by omega) h2, fun _ => rfl⟩
  · rw [if_pos (by omega), show (R.length : Int) - 1 = (i : Int) by omega]
    exact ⟨Int.dvd_refl _, fun z => absurd z h2⟩
theorem edg_dvd (g : GR R) {i : Nat} (h : i < R.length) : stp R (i : Int) ∣ edg R (i : Int) c := by
  unfold edg
  cases (row R (i : Int)).2 with
  | none => exact Int.dvd_zero _
  | some k =>
    simp only
    split
    · exact Int.dvd_zero _
    · exact Int.dvd_mul_left _ _
/-- where the piece of a grain would begin -/
def bg (R : List (Int × Option Int)) (a c : Int) (i : Nat) : Int := if edg R (i : Nat) c > a then edg R (i : Nat) c else a
/-- the pieces of the grains below i, the last one first; the end of the next one -/
def pcs (R : List (Int × Option Int)) (a s c : Int) : Nat → List (Nat × Int × Int) × Int
  | 0 => ([], a + s)
  | i + 1 => if bg R a c i < (pcs R a s c i).2 then ((i, bg R a c i, (pcs R a s c i).2) :: (pcs R a s c i).1, bg R a c i) else pcs R a s c i
theorem pcs_len : ∀ i, (pcs R a s c i).1.length ≤ i
  | 0 => Nat.le_refl _
  | i + 1 => by
    have := pcs_len i
    unfold pcs
    split <;> simp <;> omega
/-- the least grain at which a time stands -/
def sht (R : List (Int × Option Int)) (c t : Int) : Option Nat := ((List.range R.length).filter (tellB R t c)).head?
theorem sht_eq {t : Int} {i : Nat} (hi : i < R.length) (h1 : edg R (i : Nat) c ≤ t) (h2 : ∀ j : Nat, j < i → t < edg R (j : Nat) c) : sht R c t = some i := by
  unfold sht
  rw [List.head?_filter, List.find?_range_eq_some]
  refine ⟨by unfold tellB; simp [h1], by simpa using hi, fun j hj => ?_⟩
  have := h2 j hj
  unfold tellB
  simp; omega
/-- a piece -/
structure Pc (R : List (Int × Option Int)) (a c : Int) (p : Nat × Int × Int) : Prop where
  lt : p.2.1 < p.2.2
  lo : a ≤ p.2.1
  gl : p.1 < R.length
  m1 : p.2.1 % (row R (p.1 : Nat)).1 = 0
  m2 : p.2.2 % (row R (p.1 : Nat)).1 = 0
  sh : ∀ t, p.2.1 ≤ t → t < p.2.2 → sht R c t = some p.1
/-- one behind the other -/
def Chn : Int → List (Nat × Int × Int) → Int → Prop
  | x, [], z => x = z
  | x, p :: r, z => p.2.1 = x ∧ Chn p.2.2 r z
/-- what is known at each turn -/
structure PI (R : List (Int × Option Int)) (a s c : Int) (l i : Nat) : Prop where
  pc : ∀ p ∈ (pcs R a s c i).1, Pc R a c p ∧ p.1 < i
  ch : Chn (pcs R a s c i).2 (pcs R a s c i).1 (a + s)
  de : (pcs R a s c i).1.Pairwise (fun p q => q.1 < p.1)
  lo : a ≤ (pcs R a s c i).2
  hi : (pcs R a s c i).2 ≤ a + s
  ed : ∀ j : Nat, j < i → (pcs R a s c i).2 ≤ bg R a c j
  ee : i = 0 ∨ a < (pcs R a s c i).2 → ∀ t, a ≤ t → t < (pcs R a s c i).2 → ∀ j : Nat, j < i → t < edg R (j : Nat) c
  cf : (pcs R a s c i).2 = a + s ∨ ∃ j, i = j + 1 ∧ (pcs R a s c i).2 = bg R a c j
  d1 : i ≤ l → (row R (i : Nat)).1 ∣ (pcs R a s c i).2
theorem bg_dvd (g : GR R) {l : Nat} (hl : l < R.length) (ha : (row R (l : Nat)).1 ∣ a) {i j : Nat} (hi : i ≤ l) (hj : j ≤ i + 1) (hjl : j ≤ l) : (row R (j : Nat)).1 ∣ bg R a c i := by
  unfold bg
  split
  · obtain ⟨s1, s2⟩ := stp_dvd g (i := i) (by omega)
    have e := edg_dvd (c := c) g (i := i) (by omega)
    by_cases z : j = i + 1
    · subst z
      rw [← s2 (by omega)]; exact e
    · exact Int.dvd_trans (len_dvd g (i := i) (by omega) (by omega)) (Int.dvd_trans s1 e)
  · exact Int.dvd_trans (len_dvd g hjl hl) ha
theorem bg_anti (g : GR R) (hc : 0 ≤ c) {i : Nat} (hi : i + 1 < R.length) : bg R a c (i + 1) ≤ bg R a c i := by
  have := edg_adj g hi hc
  unfold bg
  split <;> split <;> omega
theorem pcs_ok (g : GR R) (hs : 0 < s) (hc : 0 ≤ c) {l : Nat} (hl : l < R.length) (da : (row R (l : Nat)).1 ∣ a) (ds : (row R (l : Nat)).1 ∣ s) : ∀ i, i ≤ l + 1 → PI R a s c l i
  | 0, _ => ⟨fun p hp => by simp [pcs] at hp, rfl, List.Pairwise.nil, by simp [pcs]; omega, Int.le_refl _, fun j hj => absurd hj (Nat.not_lt_zero _), fun _ t _ _ j hj => absurd hj (Nat.not_lt_zero _), .inl rfl, fun h => by
      show _ ∣ a + s
      exact Int.dvd_add (Int.dvd_trans (len_dvd g (by omega) hl) da) (Int.dvd_trans (len_dvd g (by omega) hl) ds)⟩
  | i + 1, hi => by
    have P := pcs_ok g hs hc hl da ds i (by omega)
    have hba : a ≤ bg R a c i := by unfold bg; split <;> omega
    by_cases hb : bg R a c i < (pcs R a s c i).2
    · have e : pcs R a s c (i + 1) = ((i, bg R a c i, (pcs R a s c i).2) :: (pcs R a s c i).1, bg R a c i) := by
        conv => lhs; unfold pcs
        rw [if_pos hb]
      have hpos : i = 0 ∨ a < (pcs R a s c i).2 := .inr (by omega)
      refine ⟨?_, ?_, ?_, ?_, ?_, ?_, ?_, ?_, ?_⟩
      · rw [e]
        intro p hp
        rcases List.mem_cons.mp hp with rfl | hp
        · refine ⟨⟨hb, hba, by show i < _; omega, ?_, ?_, fun t h1 h2 => ?_⟩, by show i < _; omega⟩
          · exact Int.emod_eq_zero_of_dvd (bg_dvd g hl da (by omega) (by omega) (by omega))
          · exact Int.emod_eq_zero_of_dvd (P.d1 (by omega))
          · simp only at h1 h2
            refine sht_eq (by omega) ?_ fun j hj => P.ee hpos t (by omega) h2 j hj
            show edg R ((i : Nat) : Int) c ≤ t
            unfold bg at h1
            split at h1 <;> omega
        · have := P.pc p hp
          exact ⟨this.1, by omega⟩
      · rw [e]; exact ⟨rfl, P.ch⟩
      · rw [e]
        exact List.pairwise_cons.mpr ⟨fun p hp => (P.pc p hp).2, P.de⟩
      · rw [e]; exact hba
      · rw [e]; have := P.hi; show bg R a c i ≤ a + s; omega
      · rw [e]
        intro j hj
        show bg R a c i ≤ bg R a c j
        by_cases z : j = i
        · rw [z]; exact Int.le_refl _
        · have := P.ed j (by omega); omega
      · rw [e]
        intro h t h1 h2 j hj
        simp only at h h2
        by_cases z : j = i
        · subst z
          unfold bg at h2
          split at h2 <;> omega
        · exact P.ee hpos t h1 (by omega) j (by omega)
      · rw [e]; exact .inr ⟨i, rfl, rfl⟩
      · rw [e]
        intro h
        exact bg_dvd g hl da (by omega) (by omega) h
    · have e : pcs R a s c (i + 1) = pcs R a s c i := by
        conv => lhs; unfold pcs
        rw [if_neg hb]
      refine ⟨?_, ?_, ?_, ?_, ?_, ?_, ?_, ?_, ?_⟩
      · rw [e]
        intro p hp
        have := P.pc p hp
        exact ⟨this.1, by omega⟩
      · rw [e]; exact P.ch
      · rw [e]; exact P.de
      · rw [e]; exact P.lo
      · rw [e]; exact P.hi
      · rw [e]
        intro j hj
        by_cases z : j = i
        · rw [z]; omega
        · exact P.ed j (by omega)
      · rw [e]
        intro h t h1 h2 j hj
        by_cases z : j = i
        · subst z
          unfold bg at hb
          split at hb <;> omega
        · exact P.ee (by omega) t h1 h2 j (by omega)
      · rw [e]
        rcases P.cf with z | ⟨j, rfl, z⟩
        · exact .inl z
        · exact .inr ⟨j + 1, rfl, by have := bg_anti (a := a) g hc (i := j) (by omega); omega⟩
      · rw [e]
        intro h
        rcases P.cf with z | ⟨j, rfl, z⟩
        · rw [z]; exact Int.dvd_add (Int.dvd_trans (len_dvd g h hl) da) (Int.dvd_trans (len_dvd g h hl) ds)
        · have : (pcs R a s c (j + 1)).2 = bg R a c (j + 1) := by have := bg_anti (a := a) g hc (i := j) (by omega); omega
          rw [this]
          exact bg_dvd g hl da (by omega) (by omega) h
end
end Lw
end

section
namespace Lw
open Mi
open PySem (PyData)
/-! ### _law_asks -/
theorem tpt2 {me : Mi.Env} {h : MH} {i j : Nat} {a b : Mi.MV} : setTL me (.tup [a, b]) [i, j] h = .ok ((me.set i a).set j b) h := (rfl)
theorem o_pow11 {h : MH} : binM .pow (.int 10) (.int 11) h = .ok (.int 100000000000) h := by
  rw [o_pow _ _ ⟨by decide, by decide⟩ (by decide)]
  rfl
theorem o_pow9 {h : MH} : binM .pow (.int 10) (.int 9) h = .ok (.int 1000000000) h := by
  rw [o_pow _ _ ⟨by decide, by decide⟩ (by decide)]
  rfl
theorem asks_sp {n b l : Nat} {R : List (Int × Option Int)} {h : MH} {N : Int} (gr : GR R) (B : isB h b N) (hN : N < 2 ^ 30) (a : At h l (.lst (R.map enc))) (hlb : l ≠ b) :
    Sp (Mi.run τ.tab (n+3) f_law_asks [.ref b, .ref l] h) (fun v h' => ∃ t s c : Int, 0 ≤ t ∧ t < 2 ^ 50 ∧ 0 < s ∧ s < 2 ^ 50 ∧ 0 ≤ c ∧ c < 2 ^ 50 ∧ (∃ m, v = .ref m ∧ h.next ≤ m ∧ At h' m (.lst [.int t, .int s, .int c])) ∧ isB h' b (N + 10) ∧ Fr [b] h h') := by
  have hb := B.lt
  have L := gr.len
  have hlS : l ∉ [b] := by simpa using hlb
  have two : (2 : Nat) ≤ PySem.sizeLine := by rw [PySem.sizeLine_eq]; decide
  refine Sp_for fun Q E hQ => ?_
  refine (run_w { sl := [some (.ref b), some (.ref l), none, none, none, none, none, none, none, none], ex := none } body_law_asks rfl rfl rfl ?_)
  unfold body_law_asks
  try simp only [y_ok, y_exc, y_bind, y_bnd, y_cnd, y_cndt, z_nx, z_rt, z_br, z_ct, z_ex, z_exb0, z_exb1, z_wnwn, z_wnnx, z_wnrt, z_wnbr, z_wnct, z_wnex, z_wxnx, z_wxrt, z_wxbr, z_wxct, z_wxex, z_wlnx, z_wlrt, z_wlbr, z_wlct, z_wlex, z_fnnx, z_fnrt, z_fnex, z_pass, z_ret, z_retN, z_expr, z_asg, z_asgsw, z_asgtp, z_asgsub, z_asgfld, z_ifs, z_fors, z_brk, z_cont, z_trys, x_ct, x_cf, q_mp, q_opt, q_non, q_bl, q_int, q_str, q_var, q_ty, q_cls, q_gint, q_bin, q_neg, q_not, q_cmp, q_sub, q_slc, q_tup, q_lst, q_call, q_mk, q_bi, q_app, q_fld, q_meth, q_nil, q_cons, q_tnot, q_tbl, q_tvar, q_tcmp, q_tchain, q_tsub, q_tcall, q_tbi, q_tmeth, q_bool, q_rng1, q_slcn, q_slcY, z_tand, z_tor, z_and, z_or, z_ife, z_chain, b_max, b_min, b_abs, b_inti, b_intb, b_lent, sw2, sub_t0, sub_t1, o_add, o_sub, o_mul, o_fdiv, o_mod, o_pow, c_eqi, c_nei, c_eqs, c_nes, c_lt, c_le, c_gt, c_ge, c_isn, c_notn, isNon_n, isNon_i, Mi.Env.set, List.set_cons_zero, List.set_cons_succ, List.getElem?_cons_zero, List.getElem?_cons_succ, Option.getD_some, List.length_cons, List.length_nil, x_newL, stepF_nm, Nat.reduceAdd, Nat.reduceLeDiff, q_iof, it_tup, sz_tup, sz_rg, b_lenl a, c_take tfn_law_take]
  refine Wr_of (take_sp B (by omega) (by simp; omega) (by simp; omega)) ?_
  rintro _ h1 ⟨g, rfl, g0, g1, B1, K1⟩
  have g1 : g < R.length := by simpa using g1
  have A1 := a.fr K1 hlS
  try simp only [y_ok, y_exc, y_bind, y_bnd, y_cnd, y_cndt, z_nx, z_rt, z_br, z_ct, z_ex, z_exb0, z_exb1, z_wnwn, z_wnnx, z_wnrt, z_wnbr, z_wnct, z_wnex, z_wxnx, z_wxrt, z_wxbr, z_wxct, z_wxex, z_wlnx, z_wlrt, z_wlbr, z_wlct, z_wlex, z_fnnx, z_fnrt, z_fnex, z_pass, z_ret, z_retN, z_expr, z_asg, z_asgsw, z_asgtp, z_asgsub, z_asgfld, z_ifs, z_fors, z_brk, z_cont, z_trys, x_ct, x_cf, q_mp, q_opt, q_non, q_bl, q_int, q_str, q_var, q_ty, q_cls, q_gint, q_bin, q_neg, q_not, q_cmp, q_sub, q_slc, q_tup, q_lst, q_call, q_mk, q_bi, q_app, q_fld, q_meth, q_nil, q_cons, q_tnot, q_tbl, q_tvar, q_tcmp, q_tchain, q_tsub, q_tcall, q_tbi, q_tmeth, q_bool, q_rng1, q_slcn, q_slcY, z_tand, z_tor, z_and, z_or, z_ife, z_chain, b_max, b_min, b_abs, b_inti, b_intb, b_lent, sw2, sub_t0, sub_t1, o_add, o_sub, o_mul, o_fdiv, o_mod, o_pow, c_eqi, c_nei, c_eqs, c_nes, c_lt, c_le, c_gt, c_ge, c_isn, c_notn, isNon_n, isNon_i, Mi.Env.set, List.set_cons_zero, List.set_cons_succ, List.getElem?_cons_zero, List.getElem?_cons_succ, Option.getD_some, List.length_cons, List.length_nil, x_newL, stepF_nm, Nat.reduceAdd, Nat.reduceLeDiff, q_iof, it_tup, sz_tup, sz_rg, b_lenl A1, c_take tfn_law_take]
  refine Wr_of (take_sp B1 (by omega) (by simp; omega) (by simp; omega)) ?_
  rintro _ h2 ⟨o, rfl, o0, o1, B2, K2⟩
  have o1 : o < R.length := by simpa using o1
  have A2 := A1.fr K2 hlS
  have K2 := K1.trans K2
  have hb2 := B2.lt
  have lp := gr.pos _ (row_mem g0 g1)
  have lb := (gr.bd _ (row_mem g0 g1)).1
  have hkp : ∀ k, (row R o).2 = some k → 0 < k ∧ k < 2 ^ 40 := fun k hk => ⟨(gr.kp _ (row_mem o0 o1) k hk).1, (gr.bd _ (row_mem o0 o1)).2 k hk⟩
  obtain ⟨p1, p2⟩ := stp_pos gr.toGP o0 o1
  have sb : stp R o < 2 ^ 40 := by
    unfold stp
    exact (gr.bd _ (row_mem (by split <;> omega) (by split <;> omega))).1
  have ss := small_of ⟨p1, p2⟩
  have sl := small_of lp
  have lg := log_of lp
  generalize hLen : (row R g).1 = len at lp sl lg lb
  have lp1 := lp.1
  have er : enc (row R g) = .tup [.int len, kv (row R g).2] := by rw [← hLen]; rfl
  try simp only [y_ok, y_exc, y_bind, y_bnd, y_cnd, y_cndt, z_nx, z_rt, z_br, z_ct, z_ex, z_exb0, z_exb1, z_wnwn, z_wnnx, z_wnrt, z_wnbr, z_wnct, z_wnex, z_wxnx, z_wxrt, z_wxbr, z_wxct, z_wxex, z_wlnx, z_wlrt, z_wlbr, z_wlct, z_wlex, z_fnnx, z_fnrt, z_fnex, z_pass, z_ret, z_retN, z_expr, z_asg, z_asgsw, z_asgtp, z_asgsub, z_asgfld, z_ifs, z_fors, z_brk, z_cont, z_trys, x_ct, x_cf, q_mp, q_opt, q_non, q_bl, q_int, q_str, q_var, q_ty, q_cls, q_gint, q_bin, q_neg, q_not, q_cmp, q_sub, q_slc, q_tup, q_lst, q_call, q_mk, q_bi, q_app, q_fld, q_meth, q_nil, q_cons, q_tnot, q_tbl, q_tvar, q_tcmp, q_tchain, q_tsub, q_tcall, q_tbi, q_tmeth, q_bool, q_rng1, q_slcn, q_slcY, z_tand, z_tor, z_and, z_or, z_ife, z_chain, b_max, b_min, b_abs, b_inti, b_intb, b_lent, sw2, sub_t0, sub_t1, o_add, o_sub, o_mul, o_fdiv, o_mod, o_pow, c_eqi, c_nei, c_eqs, c_nes, c_lt, c_le, c_gt, c_ge, c_isn, c_notn, isNon_n, isNon_i, Mi.Env.set, List.set_cons_zero, List.set_cons_succ, List.getElem?_cons_zero, List.getElem?_cons_succ, Option.getD_some, List.length_cons, List.length_nil, x_newL, stepF_nm, Nat.reduceAdd, Nat.reduceLeDiff, q_iof, it_tup, sz_tup, sz_rg, two, if_true, sbA A2 g0 g1, sbA A2 o0 o1, er, sub_t0, sb1, show small 3 by unfold small; omega, true_or]
  have F3 : Fr [b] h2 (h2.new (.lst [kv (row R o).2, .int (3 * len)])) := Fr.new
  have A3 := A2.fr F3 hlS
  have K3 := K2.trans F3
  have B3 := B2.new (o := .lst [kv (row R o).2, .int (3 * len)])
  have AH := At.new (h := h2) (o := .lst [kv (row R o).2, .int (3 * len)])
  generalize h2.new (.lst [kv (row R o).2, .int (3 * len)]) = h3 at F3 A3 K3 B3 AH ⊢
  try simp only [y_ok, y_exc, y_bind, y_bnd, y_cnd, y_cndt, z_nx, z_rt, z_br, z_ct, z_ex, z_exb0, z_exb1, z_wnwn, z_wnnx, z_wnrt, z_wnbr, z_wnct, z_wnex, z_wxnx, z_wxrt, z_wxbr, z_wxct, z_wxex, z_wlnx, z_wlrt, z_wlbr, z_wlct, z_wlex, z_fnnx, z_fnrt, z_fnex, z_pass, z_ret, z_retN, z_expr, z_asg, z_asgsw, z_asgtp, z_asgsub, z_asgfld, z_ifs, z_fors, z_brk, z_cont, z_trys, x_ct, x_cf, q_mp, q_opt, q_non, q_bl, q_int, q_str, q_var, q_ty, q_cls, q_gint, q_bin, q_neg, q_not, q_cmp, q_sub, q_slc, q_tup, q_lst, q_call, q_mk, q_bi, q_app, q_fld, q_meth, q_nil, q_cons, q_tnot, q_tbl, q_tvar, q_tcmp, q_tchain, q_tsub, q_tcall, q_tbi, q_tmeth, q_bool, q_rng1, q_slcn, q_slcY, z_tand, z_tor, z_and, z_or, z_ife, z_chain, b_max, b_min, b_abs, b_inti, b_intb, b_lent, sw2, sub_t0, sub_t1, o_add, o_sub, o_mul, o_fdiv, o_mod, o_pow, c_eqi, c_nei, c_eqs, c_nes, c_lt, c_le, c_gt, c_ge, c_isn, c_notn, isNon_n, isNon_i, Mi.Env.set, List.set_cons_zero, List.set_cons_succ, List.getElem?_cons_zero, List.getElem?_cons_succ, Option.getD_some, List.length_cons, List.length_nil, x_newL, stepF_nm, Nat.reduceAdd, Nat.reduceLeDiff, q_iof, it_tup, sz_tup, sz_rg, sbA A3 o0 o1, sb1, sub_held AH, c_take tfn_law_take]
  generalize hd : (row R o).2.getD (3 * len) = held
  have hh : 0 < held ∧ held < 2 ^ 42 := by
    rw [← hd]
    cases hk : (row R o).2 with
    | none => simp only [Option.getD_none]; omega
    | some k => have := hkp k hk; simp only [Option.getD_some]; omega
  refine Wr_of (take_sp B3 (by omega) (by decide) (by decide)) ?_
  rintro _ h4 ⟨t1, rfl, t10, t11, B4, K4⟩
  have A4 := A3.fr K4 hlS
  have K4 := K3.trans K4
  have hb4 := B4.lt
  have hts : 0 ≤ t1 * stp R o ∧ t1 * stp R o ≤ 7 * 2 ^ 40 := ⟨Int.mul_nonneg t10 (by omega), by
    have := Int.mul_le_mul (show t1 ≤ 7 by omega) (show stp R o ≤ 2 ^ 40 by omega) (by omega) (by omega)
    omega⟩
  try simp only [y_ok, y_exc, y_bind, y_bnd, y_cnd, y_cndt, z_nx, z_rt, z_br, z_ct, z_ex, z_exb0, z_exb1, z_wnwn, z_wnnx, z_wnrt, z_wnbr, z_wnct, z_wnex, z_wxnx, z_wxrt, z_wxbr, z_wxct, z_wxex, z_wlnx, z_wlrt, z_wlbr, z_wlct, z_wlex, z_fnnx, z_fnrt, z_fnex, z_pass, z_ret, z_retN, z_expr, z_asg, z_asgsw, z_asgtp, z_asgsub, z_asgfld, z_ifs, z_fors, z_brk, z_cont, z_trys, x_ct, x_cf, q_mp, q_opt, q_non, q_bl, q_int, q_str, q_var, q_ty, q_cls, q_gint, q_bin, q_neg, q_not, q_cmp, q_sub, q_slc, q_tup, q_lst, q_call, q_mk, q_bi, q_app, q_fld, q_meth, q_nil, q_cons, q_tnot, q_tbl, q_tvar, q_tcmp, q_tchain, q_tsub, q_tcall, q_tbi, q_tmeth, q_bool, q_rng1, q_slcn, q_slcY, z_tand, z_tor, z_and, z_or, z_ife, z_chain, b_max, b_min, b_abs, b_inti, b_intb, b_lent, sw2, sub_t0, sub_t1, o_add, o_sub, o_mul, o_fdiv, o_mod, o_pow, c_eqi, c_nei, c_eqs, c_nes, c_lt, c_le, c_gt, c_ge, c_isn, c_notn, isNon_n, isNon_i, Mi.Env.set, List.set_cons_zero, List.set_cons_succ, List.getElem?_cons_zero, List.getElem?_cons_succ, Option.getD_some, List.length_cons, List.length_nil, x_newL, stepF_nm, Nat.reduceAdd, Nat.reduceLeDiff, q_iof, it_tup, sz_tup, sz_rg, c_step, e_step A4 o0 o1, ss, or_true, c_take tfn_law_take]
  refine Wr_of (take_sp B4.new (by omega) (by decide) (by decide)) ?_
  rintro _ h5 ⟨u, rfl, u0, u1, B5, K5⟩
  have hb5 := B5.lt
  refine sub_pick (At.new.fr K5 (by simp; omega)) u0 (by simpa using u1) fun x hx => ?_
  obtain ⟨near, rfl, n0, n1⟩ : ∃ near : Int, x = .int near ∧ - 2 ^ 40 < near ∧ near < 2 ^ 40 := by
    simp at hx
    rcases hx with rfl | rfl | rfl | rfl <;> exact ⟨_, rfl, by omega, by omega⟩
  clear hx
  have A5 := (A4.fr Fr.new hlS).fr K5 hlS
  have K5 := (K4.trans Fr.new).trans K5
  try simp only [y_ok, y_exc, y_bind, y_bnd, y_cnd, y_cndt, z_nx, z_rt, z_br, z_ct, z_ex, z_exb0, z_exb1, z_wnwn, z_wnnx, z_wnrt, z_wnbr, z_wnct, z_wnex, z_wxnx, z_wxrt, z_wxbr, z_wxct, z_wxex, z_wlnx, z_wlrt, z_wlbr, z_wlct, z_wlex, z_fnnx, z_fnrt, z_fnex, z_pass, z_ret, z_retN, z_expr, z_asg, z_asgsw, z_asgtp, z_asgsub, z_asgfld, z_ifs, z_fors, z_brk, z_cont, z_trys, x_ct, x_cf, q_mp, q_opt, q_non, q_bl, q_int, q_str, q_var, q_ty, q_cls, q_gint, q_bin, q_neg, q_not, q_cmp, q_sub, q_slc, q_tup, q_lst, q_call, q_mk, q_bi, q_app, q_fld, q_meth, q_nil, q_cons, q_tnot, q_tbl, q_tvar, q_tcmp, q_tchain, q_tsub, q_tcall, q_tbi, q_tmeth, q_bool, q_rng1, q_slcn, q_slcY, z_tand, z_tor, z_and, z_or, z_ife, z_chain, b_max, b_min, b_abs, b_inti, b_intb, b_lent, sw2, sub_t0, sub_t1, o_add, o_sub, o_mul, o_fdiv, o_mod, o_pow, c_eqi, c_nei, c_eqs, c_nes, c_lt, c_le, c_gt, c_ge, c_isn, c_notn, isNon_n, isNon_i, Mi.Env.set, List.set_cons_zero, List.set_cons_succ, List.getElem?_cons_zero, List.getElem?_cons_succ, Option.getD_some, List.length_cons, List.length_nil, x_newL, stepF_nm, Nat.reduceAdd, Nat.reduceLeDiff, q_iof, it_tup, sz_tup, sz_rg, c_take tfn_law_take]
  refine Wr_of (take_sp B5 (by omega) (by decide) (by decide)) ?_
  rintro _ h6 ⟨t2, rfl, t20, t21, B6, K6⟩
  have A6 := A5.fr K6 hlS
  have K6 := K5.trans K6
  try simp only [y_ok, y_exc, y_bind, y_bnd, y_cnd, y_cndt, z_nx, z_rt, z_br, z_ct, z_ex, z_exb0, z_exb1, z_wnwn, z_wnnx, z_wnrt, z_wnbr, z_wnct, z_wnex, z_wxnx, z_wxrt, z_wxbr, z_wxct, z_wxex, z_wlnx, z_wlrt, z_wlbr, z_wlct, z_wlex, z_fnnx, z_fnrt, z_fnex, z_pass, z_ret, z_retN, z_expr, z_asg, z_asgsw, z_asgtp, z_asgsub, z_asgfld, z_ifs, z_fors, z_brk, z_cont, z_trys, x_ct, x_cf, q_mp, q_opt, q_non, q_bl, q_int, q_str, q_var, q_ty, q_cls, q_gint, q_bin, q_neg, q_not, q_cmp, q_sub, q_slc, q_tup, q_lst, q_call, q_mk, q_bi, q_app, q_fld, q_meth, q_nil, q_cons, q_tnot, q_tbl, q_tvar, q_tcmp, q_tchain, q_tsub, q_tcall, q_tbi, q_tmeth, q_bool, q_rng1, q_slcn, q_slcY, z_tand, z_tor, z_and, z_or, z_ife, z_chain, b_max, b_min, b_abs, b_inti, b_intb, b_lent, sw2, sub_t0, sub_t1, o_add, o_sub, o_mul, o_fdiv, o_mod, o_pow, c_eqi, c_nei, c_eqs, c_nes, c_lt, c_le, c_gt, c_ge, c_isn, c_notn, isNon_n, isNon_i, Mi.Env.set, List.set_cons_zero, List.set_cons_succ, List.getElem?_cons_zero, List.getElem?_cons_succ, Option.getD_some, List.length_cons, List.length_nil, x_newL, stepF_nm, Nat.reduceAdd, Nat.reduceLeDiff, q_iof, it_tup, sz_tup, sz_rg]
  refine join_d (J := fun me h7 => ∃ (c : Int), 0 ≤ c ∧ c < 2 ^ 44 ∧ isB h7 b (N + 6) ∧ Fr [b] h h7 ∧ me = { sl := [some (.ref b), some (.ref l), some (.int g), some (.int o), some (.int len), some (.int held), some (.int c), none, none, none], ex := none }) (fun hz => ?_) (fun hz => ?_) ?_
  · try simp only [y_ok, y_exc, y_bind, y_bnd, y_cnd, y_cndt, z_nx, z_rt, z_br, z_ct, z_ex, z_exb0, z_exb1, z_wnwn, z_wnnx, z_wnrt, z_wnbr, z_wnct, z_wnex, z_wxnx, z_wxrt, z_wxbr, z_wxct, z_wxex, z_wlnx, z_wlrt, z_wlbr, z_wlct, z_wlex, z_fnnx, z_fnrt, z_fnex, z_pass, z_ret, z_retN, z_expr, z_asg, z_asgsw, z_asgtp, z_asgsub, z_asgfld, z_ifs, z_fors, z_brk, z_cont, z_trys, x_ct, x_cf, q_mp, q_opt, q_non, q_bl, q_int, q_str, q_var, q_ty, q_cls, q_gint, q_bin, q_neg, q_not, q_cmp, q_sub, q_slc, q_tup, q_lst, q_call, q_mk, q_bi, q_app, q_fld, q_meth, q_nil, q_cons, q_tnot, q_tbl, q_tvar, q_tcmp, q_tchain, q_tsub, q_tcall, q_tbi, q_tmeth, q_bool, q_rng1, q_slcn, q_slcY, z_tand, z_tor, z_and, z_or, z_ife, z_chain, b_max, b_min, b_abs, b_inti, b_intb, b_lent, sw2, sub_t0, sub_t1, o_add, o_sub, o_mul, o_fdiv, o_mod, o_pow, c_eqi, c_nei, c_eqs, c_nes, c_lt, c_le, c_gt, c_ge, c_isn, c_notn, isNon_n, isNon_i, Mi.Env.set, List.set_cons_zero, List.set_cons_succ, List.getElem?_cons_zero, List.getElem?_cons_succ, Option.getD_some, List.length_cons, List.length_nil, x_newL, stepF_nm, Nat.reduceAdd, Nat.reduceLeDiff, q_iof, it_tup, sz_tup, sz_rg, c_take tfn_law_take, o_pow11, o_pow9]
    refine Wr_of (take_sp B6 (by omega) (by decide) (by decide)) ?_
    rintro _ h7 ⟨t3, rfl, t30, t31, B7, K7⟩
    try simp only [y_ok, y_exc, y_bind, y_bnd, y_cnd, y_cndt, z_nx, z_rt, z_br, z_ct, z_ex, z_exb0, z_exb1, z_wnwn, z_wnnx, z_wnrt, z_wnbr, z_wnct, z_wnex, z_wxnx, z_wxrt, z_wxbr, z_wxct, z_wxex, z_wlnx, z_wlrt, z_wlbr, z_wlct, z_wlex, z_fnnx, z_fnrt, z_fnex, z_pass, z_ret, z_retN, z_expr, z_asg, z_asgsw, z_asgtp, z_asgsub, z_asgfld, z_ifs, z_fors, z_brk, z_cont, z_trys, x_ct, x_cf, q_mp, q_opt, q_non, q_bl, q_int, q_str, q_var, q_ty, q_cls, q_gint, q_bin, q_neg, q_not, q_cmp, q_sub, q_slc, q_tup, q_lst, q_call, q_mk, q_bi, q_app, q_fld, q_meth, q_nil, q_cons, q_tnot, q_tbl, q_tvar, q_tcmp, q_tchain, q_tsub, q_tcall, q_tbi, q_tmeth, q_bool, q_rng1, q_slcn, q_slcY, z_tand, z_tor, z_and, z_or, z_ife, z_chain, b_max, b_min, b_abs, b_inti, b_intb, b_lent, sw2, sub_t0, sub_t1, o_add, o_sub, o_mul, o_fdiv, o_mod, o_pow, c_eqi, c_nei, c_eqs, c_nes, c_lt, c_le, c_gt, c_ge, c_isn, c_notn, isNon_n, isNon_i, Mi.Env.set, List.set_cons_zero, List.set_cons_succ, List.getElem?_cons_zero, List.getElem?_cons_succ, Option.getD_some, List.length_cons, List.length_nil, x_newL, stepF_nm, Nat.reduceAdd, Nat.reduceLeDiff, q_iof, it_tup, sz_tup, sz_rg, o_pow9, show small 1000000000 by unfold small; omega, or_true]
    exact ⟨_, by omega, by omega, B7.up (by omega), K6.trans K7, rfl⟩
  · try simp only [y_ok, y_exc, y_bind, y_bnd, y_cnd, y_cndt, z_nx, z_rt, z_br, z_ct, z_ex, z_exb0, z_exb1, z_wnwn, z_wnnx, z_wnrt, z_wnbr, z_wnct, z_wnex, z_wxnx, z_wxrt, z_wxbr, z_wxct, z_wxex, z_wlnx, z_wlrt, z_wlbr, z_wlct, z_wlex, z_fnnx, z_fnrt, z_fnex, z_pass, z_ret, z_retN, z_expr, z_asg, z_asgsw, z_asgtp, z_asgsub, z_asgfld, z_ifs, z_fors, z_brk, z_cont, z_trys, x_ct, x_cf, q_mp, q_opt, q_non, q_bl, q_int, q_str, q_var, q_ty, q_cls, q_gint, q_bin, q_neg, q_not, q_cmp, q_sub, q_slc, q_tup, q_lst, q_call, q_mk, q_bi, q_app, q_fld, q_meth, q_nil, q_cons, q_tnot, q_tbl, q_tvar, q_tcmp, q_tchain, q_tsub, q_tcall, q_tbi, q_tmeth, q_bool, q_rng1, q_slcn, q_slcY, z_tand, z_tor, z_and, z_or, z_ife, z_chain, b_max, b_min, b_abs, b_inti, b_intb, b_lent, sw2, sub_t0, sub_t1, o_add, o_sub, o_mul, o_fdiv, o_mod, o_pow, c_eqi, c_nei, c_eqs, c_nes, c_lt, c_le, c_gt, c_ge, c_isn, c_notn, isNon_n, isNon_i, Mi.Env.set, List.set_cons_zero, List.set_cons_succ, List.getElem?_cons_zero, List.getElem?_cons_succ, Option.getD_some, List.length_cons, List.length_nil, x_newL, stepF_nm, Nat.reduceAdd, Nat.reduceLeDiff, q_iof, it_tup, sz_tup, sz_rg]
    refine ⟨_, ?_, ?_, B6.up (by omega), K6, rfl⟩ <;> split <;> omega
  rintro _ h7 ⟨c, c0, c1, B7, K7, rfl⟩
  have A7 := a.fr K7 hlS
  have hb7 := B7.lt
  obtain ⟨e0, e1⟩ := edg_bd gr.toGK o0 o1 c0
  have fl : 0 ≤ edg R o c / len * len ∧ edg R o c / len * len ≤ edg R o c := by
    have z1 := Int.mul_ediv_add_emod (edg R o c) len
    have z2 := Int.emod_nonneg (edg R o c) (show len ≠ 0 by omega)
    have z3 : len * (edg R o c / len) = edg R o c / len * len := Int.mul_comm _ _
    have z4 : 0 ≤ edg R o c / len := Int.ediv_nonneg e0 (by omega)
    have z5 := Int.mul_nonneg z4 (show 0 ≤ len by omega)
    exact ⟨z5, by omega⟩
  try simp only [y_ok, y_exc, y_bind, y_bnd, y_cnd, y_cndt, z_nx, z_rt, z_br, z_ct, z_ex, z_exb0, z_exb1, z_wnwn, z_wnnx, z_wnrt, z_wnbr, z_wnct, z_wnex, z_wxnx, z_wxrt, z_wxbr, z_wxct, z_wxex, z_wlnx, z_wlrt, z_wlbr, z_wlct, z_wlex, z_fnnx, z_fnrt, z_fnex, z_pass, z_ret, z_retN, z_expr, z_asg, z_asgsw, z_asgtp, z_asgsub, z_asgfld, z_ifs, z_fors, z_brk, z_cont, z_trys, x_ct, x_cf, q_mp, q_opt, q_non, q_bl, q_int, q_str, q_var, q_ty, q_cls, q_gint, q_bin, q_neg, q_not, q_cmp, q_sub, q_slc, q_tup, q_lst, q_call, q_mk, q_bi, q_app, q_fld, q_meth, q_nil, q_cons, q_tnot, q_tbl, q_tvar, q_tcmp, q_tchain, q_tsub, q_tcall, q_tbi, q_tmeth, q_bool, q_rng1, q_slcn, q_slcY, z_tand, z_tor, z_and, z_or, z_ife, z_chain, b_max, b_min, b_abs, b_inti, b_intb, b_lent, sw2, sub_t0, sub_t1, o_add, o_sub, o_mul, o_fdiv, o_mod, o_pow, c_eqi, c_nei, c_eqs, c_nes, c_lt, c_le, c_gt, c_ge, c_isn, c_notn, isNon_n, isNon_i, Mi.Env.set, List.set_cons_zero, List.set_cons_succ, List.getElem?_cons_zero, List.getElem?_cons_succ, Option.getD_some, List.length_cons, List.length_nil, x_newL, stepF_nm, Nat.reduceAdd, Nat.reduceLeDiff, q_iof, it_tup, sz_tup, sz_rg, c_edge, e_edge gr.toGP A7 o0 o1, lp1, lg, sl, or_true, c_take tfn_law_take]
  generalize edg R o c / len * len = spot at fl
  generalize edg R o c = ed at e0 e1 fl
  refine Wr_of (take_sp B7 (by omega) (by decide) (by decide)) ?_
  rintro _ h8 ⟨u2, rfl, u20, u21, B8, K8⟩
  have hb8 := B8.lt
  have K8 := K7.trans K8
  have hu2 : 0 ≤ u2 * len ∧ u2 * len ≤ 6 * 2 ^ 40 := ⟨Int.mul_nonneg u20 (by omega), by
    have := Int.mul_le_mul (show u2 ≤ 6 by omega) (show len ≤ 2 ^ 40 by omega) (by omega) (by omega)
    omega⟩
  try simp only [y_ok, y_exc, y_bind, y_bnd, y_cnd, y_cndt, z_nx, z_rt, z_br, z_ct, z_ex, z_exb0, z_exb1, z_wnwn, z_wnnx, z_wnrt, z_wnbr, z_wnct, z_wnex, z_wxnx, z_wxrt, z_wxbr, z_wxct, z_wxex, z_wlnx, z_wlrt, z_wlbr, z_wlct, z_wlex, z_fnnx, z_fnrt, z_fnex, z_pass, z_ret, z_retN, z_expr, z_asg, z_asgsw, z_asgtp, z_asgsub, z_asgfld, z_ifs, z_fors, z_brk, z_cont, z_trys, x_ct, x_cf, q_mp, q_opt, q_non, q_bl, q_int, q_str, q_var, q_ty, q_cls, q_gint, q_bin, q_neg, q_not, q_cmp, q_sub, q_slc, q_tup, q_lst, q_call, q_mk, q_bi, q_app, q_fld, q_meth, q_nil, q_cons, q_tnot, q_tbl, q_tvar, q_tcmp, q_tchain, q_tsub, q_tcall, q_tbi, q_tmeth, q_bool, q_rng1, q_slcn, q_slcY, z_tand, z_tor, z_and, z_or, z_ife, z_chain, b_max, b_min, b_abs, b_inti, b_intb, b_lent, sw2, sub_t0, sub_t1, o_add, o_sub, o_mul, o_fdiv, o_mod, o_pow, c_eqi, c_nei, c_eqs, c_nes, c_lt, c_le, c_gt, c_ge, c_isn, c_notn, isNon_n, isNon_i, Mi.Env.set, List.set_cons_zero, List.set_cons_succ, List.getElem?_cons_zero, List.getElem?_cons_succ, Option.getD_some, List.length_cons, List.length_nil, x_newL, stepF_nm, Nat.reduceAdd, Nat.reduceLeDiff, q_iof, it_tup, sz_tup, sz_rg, sl, or_true, c_take tfn_law_take]
  refine Wr_of (take_sp B8 (by omega) (by decide) (by decide)) ?_
  rintro _ h9 ⟨u3, rfl, u30, u31, B9, K9⟩
  have hb9 := B9.lt
  have K9 := K8.trans K9
  have hu3 : 0 ≤ u3 * len ∧ u3 * len ≤ 2 * 2 ^ 40 := ⟨Int.mul_nonneg u30 (by omega), by
    have := Int.mul_le_mul (show u3 ≤ 2 by omega) (show len ≤ 2 ^ 40 by omega) (by omega) (by omega)
    omega⟩
  try simp only [y_ok, y_exc, y_bind, y_bnd, y_cnd, y_cndt, z_nx, z_rt, z_br, z_ct, z_ex, z_exb0, z_exb1, z_wnwn, z_wnnx, z_wnrt, z_wnbr, z_wnct, z_wnex, z_wxnx, z_wxrt, z_wxbr, z_wxct, z_wxex, z_wlnx, z_wlrt, z_wlbr, z_wlct, z_wlex, z_fnnx, z_fnrt, z_fnex, z_pass, z_ret, z_retN, z_expr, z_asg, z_asgsw, z_asgtp, z_asgsub, z_asgfld, z_ifs, z_fors, z_brk, z_cont, z_trys, x_ct, x_cf, q_mp, q_opt, q_non, q_bl, q_int, q_str, q_var, q_ty, q_cls, q_gint, q_bin, q_neg, q_not, q_cmp, q_sub, q_slc, q_tup, q_lst, q_call, q_mk, q_bi, q_app, q_fld, q_meth, q_nil, q_cons, q_tnot, q_tbl, q_tvar, q_tcmp, q_tchain, q_tsub, q_tcall, q_tbi, q_tmeth, q_bool, q_rng1, q_slcn, q_slcY, z_tand, z_tor, z_and, z_or, z_ife, z_chain, b_max, b_min, b_abs, b_inti, b_intb, b_lent, sw2, sub_t0, sub_t1, o_add, o_sub, o_mul, o_fdiv, o_mod, o_pow, c_eqi, c_nei, c_eqs, c_nes, c_lt, c_le, c_gt, c_ge, c_isn, c_notn, isNon_n, isNon_i, Mi.Env.set, List.set_cons_zero, List.set_cons_succ, List.getElem?_cons_zero, List.getElem?_cons_succ, Option.getD_some, List.length_cons, List.length_nil, x_newL, stepF_nm, Nat.reduceAdd, Nat.reduceLeDiff, q_iof, it_tup, sz_tup, sz_rg, sl, or_true, show (6 : Nat) ≤ 16777216 by decide, c_take tfn_law_take]
  refine Wr_of (take_sp B9.new (by omega) (by decide) (by decide)) ?_
  rintro _ h10 ⟨u4, rfl, u40, u41, B10, K10⟩
  have hb10 := B10.lt
  refine sub_pick (At.new.fr K10 (by simp; omega)) u40 (by simpa using u41) fun x hx => ?_
  obtain ⟨fc, rfl, f0, f1⟩ : ∃ fc : Int, x = .int fc ∧ 1 ≤ fc ∧ fc ≤ 7 := by
    simp at hx
    rcases hx with rfl | rfl | rfl | rfl | rfl | rfl <;> exact ⟨_, rfl, by omega, by omega⟩
  clear hx
  have K10 := (K9.trans Fr.new).trans K10
  have hfl : 0 < fc * len ∧ fc * len ≤ 7 * 2 ^ 40 := ⟨Int.mul_pos (by omega) (by omega), by
    have := Int.mul_le_mul (show fc ≤ 7 by omega) (show len ≤ 2 ^ 40 by omega) (by omega) (by omega)
    omega⟩
  try simp only [y_ok, y_exc, y_bind, y_bnd, y_cnd, y_cndt, z_nx, z_rt, z_br, z_ct, z_ex, z_exb0, z_exb1, z_wnwn, z_wnnx, z_wnrt, z_wnbr, z_wnct, z_wnex, z_wxnx, z_wxrt, z_wxbr, z_wxct, z_wxex, z_wlnx, z_wlrt, z_wlbr, z_wlct, z_wlex, z_fnnx, z_fnrt, z_fnex, z_pass, z_ret, z_retN, z_expr, z_asg, z_asgsw, z_asgtp, z_asgsub, z_asgfld, z_ifs, z_fors, z_brk, z_cont, z_trys, x_ct, x_cf, q_mp, q_opt, q_non, q_bl, q_int, q_str, q_var, q_ty, q_cls, q_gint, q_bin, q_neg, q_not, q_cmp, q_sub, q_slc, q_tup, q_lst, q_call, q_mk, q_bi, q_app, q_fld, q_meth, q_nil, q_cons, q_tnot, q_tbl, q_tvar, q_tcmp, q_tchain, q_tsub, q_tcall, q_tbi, q_tmeth, q_bool, q_rng1, q_slcn, q_slcY, z_tand, z_tor, z_and, z_or, z_ife, z_chain, b_max, b_min, b_abs, b_inti, b_intb, b_lent, sw2, sub_t0, sub_t1, o_add, o_sub, o_mul, o_fdiv, o_mod, o_pow, c_eqi, c_nei, c_eqs, c_nes, c_lt, c_le, c_gt, c_ge, c_isn, c_notn, isNon_n, isNon_i, Mi.Env.set, List.set_cons_zero, List.set_cons_succ, List.getElem?_cons_zero, List.getElem?_cons_succ, Option.getD_some, List.length_cons, List.length_nil, x_newL, stepF_nm, Nat.reduceAdd, Nat.reduceLeDiff, q_iof, it_tup, sz_tup, sz_rg, sl, or_true, c_take tfn_law_take]
  refine Wr_of (take_sp B10 (by omega) (by decide) (by decide)) ?_
  rintro _ h11 ⟨od, rfl, _, _, B11, K11⟩
  have K11 := K10.trans K11
  try simp only [y_ok, y_exc, y_bind, y_bnd, y_cnd, y_cndt, z_nx, z_rt, z_br, z_ct, z_ex, z_exb0, z_exb1, z_wnwn, z_wnnx, z_wnrt, z_wnbr, z_wnct, z_wnex, z_wxnx, z_wxrt, z_wxbr, z_wxct, z_wxex, z_wlnx, z_wlrt, z_wlbr, z_wlct, z_wlex, z_fnnx, z_fnrt, z_fnex, z_pass, z_ret, z_retN, z_expr, z_asg, z_asgsw, z_asgtp, z_asgsub, z_asgfld, z_ifs, z_fors, z_brk, z_cont, z_trys, x_ct, x_cf, q_mp, q_opt, q_non, q_bl, q_int, q_str, q_var, q_ty, q_cls, q_gint, q_bin, q_neg, q_not, q_cmp, q_sub, q_slc, q_tup, q_lst, q_call, q_mk, q_bi, q_app, q_fld, q_meth, q_nil, q_cons, q_tnot, q_tbl, q_tvar, q_tcmp, q_tchain, q_tsub, q_tcall, q_tbi, q_tmeth, q_bool, q_rng1, q_slcn, q_slcY, z_tand, z_tor, z_and, z_or, z_ife, z_chain, b_max, b_min, b_abs, b_inti, b_intb, b_lent, sw2, sub_t0, sub_t1, o_add, o_sub, o_mul, o_fdiv, o_mod, o_pow, c_eqi, c_nei, c_eqs, c_nes, c_lt, c_le, c_gt, c_ge, c_isn, c_notn, isNon_n, isNon_i, Mi.Env.set, List.set_cons_zero, List.set_cons_succ, List.getElem?_cons_zero, List.getElem?_cons_succ, Option.getD_some, List.length_cons, List.length_nil, x_newL, stepF_nm, Nat.reduceAdd, Nat.reduceLeDiff, q_iof, it_tup, sz_tup, sz_rg]
  refine join_d (J := fun me h' => h' = h11 ∧ ∃ (t : Int), 0 ≤ t ∧ t < 2 ^ 50 ∧ me = { sl := [some (.ref b), some (.ref l), some (.int g), some (.int o), some (.int len), some (.int held), some (.int c), some (.int spot), some (.int t), some (.int (fc * len))], ex := none }) (fun hz => ?_) (fun hz => ?_) ?_
  · try simp only [y_ok, y_exc, y_bind, y_bnd, y_cnd, y_cndt, z_nx, z_rt, z_br, z_ct, z_ex, z_exb0, z_exb1, z_wnwn, z_wnnx, z_wnrt, z_wnbr, z_wnct, z_wnex, z_wxnx, z_wxrt, z_wxbr, z_wxct, z_wxex, z_wlnx, z_wlrt, z_wlbr, z_wlct, z_wlex, z_fnnx, z_fnrt, z_fnex, z_pass, z_ret, z_retN, z_expr, z_asg, z_asgsw, z_asgtp, z_asgsub, z_asgfld, z_ifs, z_fors, z_brk, z_cont, z_trys, x_ct, x_cf, q_mp, q_opt, q_non, q_bl, q_int, q_str, q_var, q_ty, q_cls, q_gint, q_bin, q_neg, q_not, q_cmp, q_sub, q_slc, q_tup, q_lst, q_call, q_mk, q_bi, q_app, q_fld, q_meth, q_nil, q_cons, q_tnot, q_tbl, q_tvar, q_tcmp, q_tchain, q_tsub, q_tcall, q_tbi, q_tmeth, q_bool, q_rng1, q_slcn, q_slcY, z_tand, z_tor, z_and, z_or, z_ife, z_chain, b_max, b_min, b_abs, b_inti, b_intb, b_lent, sw2, sub_t0, sub_t1, o_add, o_sub, o_mul, o_fdiv, o_mod, o_pow, c_eqi, c_nei, c_eqs, c_nes, c_lt, c_le, c_gt, c_ge, c_isn, c_notn, isNon_n, isNon_i, Mi.Env.set, List.set_cons_zero, List.set_cons_succ, List.getElem?_cons_zero, List.getElem?_cons_succ, Option.getD_some, List.length_cons, List.length_nil, x_newL, stepF_nm, Nat.reduceAdd, Nat.reduceLeDiff, q_iof, it_tup, sz_tup, sz_rg]
    refine ⟨trivial, _, ?_, ?_, rfl⟩ <;> split <;> omega
  · try simp only [y_ok, y_exc, y_bind, y_bnd, y_cnd, y_cndt, z_nx, z_rt, z_br, z_ct, z_ex, z_exb0, z_exb1, z_wnwn, z_wnnx, z_wnrt, z_wnbr, z_wnct, z_wnex, z_wxnx, z_wxrt, z_wxbr, z_wxct, z_wxex, z_wlnx, z_wlrt, z_wlbr, z_wlct, z_wlex, z_fnnx, z_fnrt, z_fnex, z_pass, z_ret, z_retN, z_expr, z_asg, z_asgsw, z_asgtp, z_asgsub, z_asgfld, z_ifs, z_fors, z_brk, z_cont, z_trys, x_ct, x_cf, q_mp, q_opt, q_non, q_bl, q_int, q_str, q_var, q_ty, q_cls, q_gint, q_bin, q_neg, q_not, q_cmp, q_sub, q_slc, q_tup, q_lst, q_call, q_mk, q_bi, q_app, q_fld, q_meth, q_nil, q_cons, q_tnot, q_tbl, q_tvar, q_tcmp, q_tchain, q_tsub, q_tcall, q_tbi, q_tmeth, q_bool, q_rng1, q_slcn, q_slcY, z_tand, z_tor, z_and, z_or, z_ife, z_chain, b_max, b_min, b_abs, b_inti, b_intb, b_lent, sw2, sub_t0, sub_t1, o_add, o_sub, o_mul, o_fdiv, o_mod, o_pow, c_eqi, c_nei, c_eqs, c_nes, c_lt, c_le, c_gt, c_ge, c_isn, c_notn, isNon_n, isNon_i, Mi.Env.set, List.set_cons_zero, List.set_cons_succ, List.getElem?_cons_zero, List.getElem?_cons_succ, Option.getD_some, List.length_cons, List.length_nil, x_newL, stepF_nm, Nat.reduceAdd, Nat.reduceLeDiff, q_iof, it_tup, sz_tup, sz_rg]
    refine ⟨trivial, _, ?_, ?_, rfl⟩ <;> split <;> omega
  rintro _ h11 ⟨rfl, t, q0, q1, rfl⟩
  try simp only [y_ok, y_exc, y_bind, y_bnd, y_cnd, y_cndt, z_nx, z_rt, z_br, z_ct, z_ex, z_exb0, z_exb1, z_wnwn, z_wnnx, z_wnrt, z_wnbr, z_wnct, z_wnex, z_wxnx, z_wxrt, z_wxbr, z_wxct, z_wxex, z_wlnx, z_wlrt, z_wlbr, z_wlct, z_wlex, z_fnnx, z_fnrt, z_fnex, z_pass, z_ret, z_retN, z_expr, z_asg, z_asgsw, z_asgtp, z_asgsub, z_asgfld, z_ifs, z_fors, z_brk, z_cont, z_trys, x_ct, x_cf, q_mp, q_opt, q_non, q_bl, q_int, q_str, q_var, q_ty, q_cls, q_gint, q_bin, q_neg, q_not, q_cmp, q_sub, q_slc, q_tup, q_lst, q_call, q_mk, q_bi, q_app, q_fld, q_meth, q_nil, q_cons, q_tnot, q_tbl, q_tvar, q_tcmp, q_tchain, q_tsub, q_tcall, q_tbi, q_tmeth, q_bool, q_rng1, q_slcn, q_slcY, z_tand, z_tor, z_and, z_or, z_ife, z_chain, b_max, b_min, b_abs, b_inti, b_intb, b_lent, sw2, sub_t0, sub_t1, o_add, o_sub, o_mul, o_fdiv, o_mod, o_pow, c_eqi, c_nei, c_eqs, c_nes, c_lt, c_le, c_gt, c_ge, c_isn, c_notn, isNon_n, isNon_i, Mi.Env.set, List.set_cons_zero, List.set_cons_succ, List.getElem?_cons_zero, List.getElem?_cons_succ, Option.getD_some, List.length_cons, List.length_nil, x_newL, stepF_nm, Nat.reduceAdd, Nat.reduceLeDiff, q_iof, it_tup, sz_tup, sz_rg, show (3 : Nat) ≤ 16777216 by decide]
  exact hQ _ _ ⟨t, _, c, q0, q1, hfl.1, by omega, c0, by omega, ⟨_, rfl, K11.nx, At.new⟩, B11.new.up (by omega), K11.trans Fr.new⟩
end Lw
end

section
namespace Lw
open Mi
open PySem (PyData)
/-! ### Rules.pieces -/
theorem lk_pc (x : Mi.MV) : List.lookup ("pieces" : PySem.Str) [("rows", x)] = none := by
  rw [List.lookup_cons, show (("pieces" : PySem.Str) == "rows") = false by decide +kernel]; rfl
theorem lk_ed (x : Mi.MV) : List.lookup ("edge" : PySem.Str) [("rows", x)] = none := by
  rw [List.lookup_cons, show (("edge" : PySem.Str) == "rows") = false by decide +kernel]; rfl
def pEnc (p : Nat × Int × Int) : Mi.MV := .tup [.int (p.1 : Nat), .int p.2.1, .int p.2.2]
theorem b_rev {h : MH} {l : Nat} {xs : List Mi.MV} (A : At h l (.lst xs)) (hz : xs.length ≤ 16777216) : revM (.ref l) h = .ok (.ref h.next) (h.new (.lst xs.reverse)) := by
  show (match asList h (.ref l) with | some xs => newL xs.reverse h | none => Res.stuck) = _
  rw [asA A]
  exact x_newL (by simpa using hz)
section
variable {n r : Nat} {h : MH} {R : List (Int × Option Int)} {a s c : Int} {x y z : Mi.MV}
theorem pc_w (ra : isRA h r R) (ox : okV h x) (oy : okV h y) (e : wOk x y = false) : Mi.run τ.tab (n+8) f_Rules_pieces [.ref r, x, y, z] h = noW h x y := by
  have e1 := te_w (n := n) (z := z) ra ox oy e
  refine eq_of_wr2 ?_
  refine run_w { sl := [some (.ref r), some x, some y, some z, none, none, none, none, none], ex := none } body_Rules_pieces rfl rfl rfl ?_
  unfold body_Rules_pieces
  try simp only [y_ok, y_exc, y_bind, y_bnd, y_cnd, y_cndt, z_nx, z_rt, z_br, z_ct, z_ex, z_exb0, z_exb1, z_wnwn, z_wnnx, z_wnrt, z_wnbr, z_wnct, z_wnex, z_wxnx, z_wxrt, z_wxbr, z_wxct, z_wxex, z_wlnx, z_wlrt, z_wlbr, z_wlct, z_wlex, z_fnnx, z_fnrt, z_fnex, z_pass, z_ret, z_retN, z_expr, z_asg, z_asgsw, z_asgtp, z_asgsub, z_asgfld, z_ifs, z_fors, z_brk, z_cont, z_trys, x_ct, x_cf, q_mp, q_opt, q_non, q_bl, q_int, q_str, q_var, q_ty, q_cls, q_gint, q_bin, q_neg, q_not, q_cmp, q_sub, q_slc, q_tup, q_lst, q_call, q_mk, q_bi, q_app, q_fld, q_meth, q_nil, q_cons, q_tnot, q_tbl, q_tvar, q_tcmp, q_tchain, q_tsub, q_tcall, q_tbi, q_tmeth, q_bool, q_rng1, q_slcn, q_slcY, z_tand, z_tor, z_and, z_or, z_ife, z_chain, b_max, b_min, b_abs, b_inti, b_intb, b_lent, sw2, sub_t0, sub_t1, o_add, o_sub, o_mul, o_fdiv, o_mod, o_pow, c_eqi, c_nei, c_eqs, c_nes, c_lt, c_le, c_gt, c_ge, c_isn, c_notn, isNon_n, isNon_i, Mi.Env.set, List.set_cons_zero, List.set_cons_succ, List.getElem?_cons_zero, List.getElem?_cons_succ, Option.getD_some, List.length_cons, List.length_nil, stepF_nm, Nat.reduceAdd, Nat.reduceLeDiff, q_iof, it_tup, sz_tup, sz_rg, x_methM ra.get (lk_te _) tme_Rules_teller, fnp_Rules_teller, ar4, e1, noW]
theorem pc_t (ra : isRA h r R) (ox : okV h x) (oy : okV h y) (oz : okV h z) (e : wOk x y = true) (e2 : cnt z = false) : Mi.run τ.tab (n+8) f_Rules_pieces [.ref r, x, y, z] h = noT h z := by
  have e1 := te_t (n := n) ra ox oy oz e e2
  refine eq_of_wr2 ?_
  refine run_w { sl := [some (.ref r), some x, some y, some z, none, none, none, none, none], ex := none } body_Rules_pieces rfl rfl rfl ?_
  unfold body_Rules_pieces
  try simp only [y_ok, y_exc, y_bind, y_bnd, y_cnd, y_cndt, z_nx, z_rt, z_br, z_ct, z_ex, z_exb0, z_exb1, z_wnwn, z_wnnx, z_wnrt, z_wnbr, z_wnct, z_wnex, z_wxnx, z_wxrt, z_wxbr, z_wxct, z_wxex, z_wlnx, z_wlrt, z_wlbr, z_wlct, z_wlex, z_fnnx, z_fnrt, z_fnex, z_pass, z_ret, z_retN, z_expr, z_asg, z_asgsw, z_asgtp, z_asgsub, z_asgfld, z_ifs, z_fors, z_brk, z_cont, z_trys, x_ct, x_cf, q_mp, q_opt, q_non, q_bl, q_int, q_str, q_var, q_ty, q_cls, q_gint, q_bin, q_neg, q_not, q_cmp, q_sub, q_slc, q_tup, q_lst, q_call, q_mk, q_bi, q_app, q_fld, q_meth, q_nil, q_cons, q_tnot, q_tbl, q_tvar, q_tcmp, q_tchain, q_tsub, q_tcall, q_tbi, q_tmeth, q_bool, q_rng1, q_slcn, q_slcY, z_tand, z_tor, z_and, z_or, z_ife, z_chain, b_max, b_min, b_abs, b_inti, b_intb, b_lent, sw2, sub_t0, sub_t1, o_add, o_sub, o_mul, o_fdiv, o_mod, o_pow, c_eqi, c_nei, c_eqs, c_nes, c_lt, c_le, c_gt, c_ge, c_isn, c_notn, isNon_n, isNon_i, Mi.Env.set, List.set_cons_zero, List.set_cons_succ, List.getElem?_cons_zero, List.getElem?_cons_succ, Option.getD_some, List.length_cons, List.length_nil, stepF_nm, Nat.reduceAdd, Nat.reduceLeDiff, q_iof, it_tup, sz_tup, sz_rg, x_methM ra.get (lk_te _) tme_Rules_teller, fnp_Rules_teller, ar4, e1, noT]
theorem pc_g (g : GR R) (ra : isRA h r R) (ha : 0 ≤ a) (hs : 0 < s) (hc : 0 ≤ c) (ht : (tell R a s c).head? = none) : Mi.run τ.tab (n+8) f_Rules_pieces [.ref r, .int a, .int s, .int c] h = noGo (h.new (.lst (nats (fits R a s)))) a (lastF R a s) := by
  have e1 := te_c (n := n) g ra ha hs hc
  rw [ht] at e1
  refine eq_of_wr2 ?_
  refine run_w { sl := [some (.ref r), some (.int a), some (.int s), some (.int c), none, none, none, none, none], ex := none } body_Rules_pieces rfl rfl rfl ?_
  unfold body_Rules_pieces
  try simp only [y_ok, y_exc, y_bind, y_bnd, y_cnd, y_cndt, z_nx, z_rt, z_br, z_ct, z_ex, z_exb0, z_exb1, z_wnwn, z_wnnx, z_wnrt, z_wnbr, z_wnct, z_wnex, z_wxnx, z_wxrt, z_wxbr, z_wxct, z_wxex, z_wlnx, z_wlrt, z_wlbr, z_wlct, z_wlex, z_fnnx, z_fnrt, z_fnex, z_pass, z_ret, z_retN, z_expr, z_asg, z_asgsw, z_asgtp, z_asgsub, z_asgfld, z_ifs, z_fors, z_brk, z_cont, z_trys, x_ct, x_cf, q_mp, q_opt, q_non, q_bl, q_int, q_str, q_var, q_ty, q_cls, q_gint, q_bin, q_neg, q_not, q_cmp, q_sub, q_slc, q_tup, q_lst, q_call, q_mk, q_bi, q_app, q_fld, q_meth, q_nil, q_cons, q_tnot, q_tbl, q_tvar, q_tcmp, q_tchain, q_tsub, q_tcall, q_tbi, q_tmeth, q_bool, q_rng1, q_slcn, q_slcY, z_tand, z_tor, z_and, z_or, z_ife, z_chain, b_max, b_min, b_abs, b_inti, b_intb, b_lent, sw2, sub_t0, sub_t1, o_add, o_sub, o_mul, o_fdiv, o_mod, o_pow, c_eqi, c_nei, c_eqs, c_nes, c_lt, c_le, c_gt, c_ge, c_isn, c_notn, isNon_n, isNon_i, Mi.Env.set, List.set_cons_zero, List.set_cons_succ, List.getElem?_cons_zero, List.getElem?_cons_succ, Option.getD_some, List.length_cons, List.length_nil, stepF_nm, Nat.reduceAdd, Nat.reduceLeDiff, q_iof, it_tup, sz_tup, sz_rg, x_methM ra.get (lk_te _) tme_Rules_teller, fnp_Rules_teller, ar4, e1, noGo]
theorem pc_c (g : GR R) (ra : isRA h r R) (ha : 0 ≤ a) (hs : 0 < s) (hc : 0 ≤ c) {k : Nat} (hk : (tell R a s c).head? = some k) (hkl : k < R.length) : Sp (Mi.run τ.tab (n+8) f_Rules_pieces [.ref r, .int a, .int s, .int c] h) (fun v h' => ∃ m, v = .ref m ∧ h.next ≤ m ∧ At h' m (.lst ((pcs R a s c (k+1)).1.map pEnc)) ∧ Fr [] h h') := by
  have e1 := te_c (n := n) g ra ha hs hc
  rw [hk] at e1
  have gl := g.len
  have two : (2 : Nat) ≤ PySem.sizeLine := by rw [PySem.sizeLine_eq]; decide
  refine Sp_for fun Q E hQ => ?_
  refine run_w { sl := [some (.ref r), some (.int a), some (.int s), some (.int c), none, none, none, none, none], ex := none } body_Rules_pieces rfl rfl rfl ?_
  unfold body_Rules_pieces
  have F1 : Fr [] h (h.new (.lst (nats (fits R a s)))) := Fr.new
  have ra1 : isRA (h.new (.lst (nats (fits R a s)))) r R := ra.fr0 F1
  try simp only [y_ok, y_exc, y_bind, y_bnd, y_cnd, y_cndt, z_nx, z_rt, z_br, z_ct, z_ex, z_exb0, z_exb1, z_wnwn, z_wnnx, z_wnrt, z_wnbr, z_wnct, z_wnex, z_wxnx, z_wxrt, z_wxbr, z_wxct, z_wxex, z_wlnx, z_wlrt, z_wlbr, z_wlct, z_wlex, z_fnnx, z_fnrt, z_fnex, z_pass, z_ret, z_retN, z_expr, z_asg, z_asgsw, z_asgtp, z_asgsub, z_asgfld, z_ifs, z_fors, z_brk, z_cont, z_trys, x_ct, x_cf, q_mp, q_opt, q_non, q_bl, q_int, q_str, q_var, q_ty, q_cls, q_gint, q_bin, q_neg, q_not, q_cmp, q_sub, q_slc, q_tup, q_lst, q_call, q_mk, q_bi, q_app, q_fld, q_meth, q_nil, q_cons, q_tnot, q_tbl, q_tvar, q_tcmp, q_tchain, q_tsub, q_tcall, q_tbi, q_tmeth, q_bool, q_rng1, q_slcn, q_slcY, z_tand, z_tor, z_and, z_or, z_ife, z_chain, b_max, b_min, b_abs, b_inti, b_intb, b_lent, sw2, sub_t0, sub_t1, o_add, o_sub, o_mul, o_fdiv, o_mod, o_pow, c_eqi, c_nei, c_eqs, c_nes, c_lt, c_le, c_gt, c_ge, c_isn, c_notn, isNon_n, isNon_i, Mi.Env.set, List.set_cons_zero, List.set_cons_succ, List.getElem?_cons_zero, List.getElem?_cons_succ, Option.getD_some, List.length_cons, List.length_nil, x_newL, stepF_nm, Nat.reduceAdd, Nat.reduceLeDiff, q_iof, it_tup, sz_tup, sz_rg, x_methM ra.get (lk_te _) tme_Rules_teller, fnp_Rules_teller, ar4, e1]
  generalize h.new (.lst (nats (fits R a s))) = h1 at F1 ra1 ⊢
  have F2 : Fr [] h1 (h1.new (.lst [])) := Fr.new
  have A2 := At.new (h := h1) (o := .lst [])
  have n2 : (h1.new (.lst [])).next = h1.next + 1 := rfl
  have ra2 : isRA (h1.new (.lst [])) r R := ra1.fr0 F2
  have ge := F1.nx
  try simp only [y_ok, y_exc, y_bind, y_bnd, y_cnd, y_cndt, z_nx, z_rt, z_br, z_ct, z_ex, z_exb0, z_exb1, z_wnwn, z_wnnx, z_wnrt, z_wnbr, z_wnct, z_wnex, z_wxnx, z_wxrt, z_wxbr, z_wxct, z_wxex, z_wlnx, z_wlrt, z_wlbr, z_wlct, z_wlex, z_fnnx, z_fnrt, z_fnex, z_pass, z_ret, z_retN, z_expr, z_asg, z_asgsw, z_asgtp, z_asgsub, z_asgfld, z_ifs, z_fors, z_brk, z_cont, z_trys, x_ct, x_cf, q_mp, q_opt, q_non, q_bl, q_int, q_str, q_var, q_ty, q_cls, q_gint, q_bin, q_neg, q_not, q_cmp, q_sub, q_slc, q_tup, q_lst, q_call, q_mk, q_bi, q_app, q_fld, q_meth, q_nil, q_cons, q_tnot, q_tbl, q_tvar, q_tcmp, q_tchain, q_tsub, q_tcall, q_tbi, q_tmeth, q_bool, q_rng1, q_slcn, q_slcY, z_tand, z_tor, z_and, z_or, z_ife, z_chain, b_max, b_min, b_abs, b_inti, b_intb, b_lent, sw2, sub_t0, sub_t1, o_add, o_sub, o_mul, o_fdiv, o_mod, o_pow, c_eqi, c_nei, c_eqs, c_nes, c_lt, c_le, c_gt, c_ge, c_isn, c_notn, isNon_n, isNon_i, Mi.Env.set, List.set_cons_zero, List.set_cons_succ, List.getElem?_cons_zero, List.getElem?_cons_succ, Option.getD_some, List.length_cons, List.length_nil, x_newL, stepF_nm, Nat.reduceAdd, Nat.reduceLeDiff, q_iof, it_tup, sz_tup, sz_rg, two, show (0 : Nat) ≤ 16777216 by decide, show rngOk ((k : Int) + 1) by unfold rngOk; omega, if_true, show Int.toNat ((k : Int) + 1) = k + 1 by omega]
  generalize h1.new (.lst []) = h2 at F2 A2 n2 ra2 ⊢
  generalize h1.next = f at A2 n2 ge ⊢
  have F2 := F1.trans F2
  refine for_rg (J := fun i me h' => ∃ o7 o8, At h' f (.lst ((pcs R a s c i).1.reverse.map pEnc)) ∧ isRA h' r R ∧ Fr [] h h' ∧ me = { sl := [some (.ref r), some (.int a), some (.int s), some (.int c), some (.int (k : Nat)), some (.ref f), some (.int (pcs R a s c i).2), o7, o8], ex := none }) ⟨_, _, A2, ra2, F2, rfl⟩ ?_ ?_
  · rintro i _ h3 hi ⟨o7, o8, A3, ra3, F3, rfl⟩
    have hi4 : i < R.length := by omega
    have e21 := s21 (n := n+2) g.toGP ra3.get (g := .int (i : Nat)) trivial (c := .int c) trivial
    unfold rn at e21
    rw [if_pos (show gok R (.int (i : Nat)) = true by simp [gok]; omega), if_pos (show cnt (.int c) = true by simp [cnt, hc])] at e21
    simp only [vi_int] at e21
    have hl := pcs_len (R := R) (a := a) (s := s) (c := c) i
    try simp only [y_ok, y_exc, y_bind, y_bnd, y_cnd, y_cndt, z_nx, z_rt, z_br, z_ct, z_ex, z_exb0, z_exb1, z_wnwn, z_wnnx, z_wnrt, z_wnbr, z_wnct, z_wnex, z_wxnx, z_wxrt, z_wxbr, z_wxct, z_wxex, z_wlnx, z_wlrt, z_wlbr, z_wlct, z_wlex, z_fnnx, z_fnrt, z_fnex, z_pass, z_ret, z_retN, z_expr, z_asg, z_asgsw, z_asgtp, z_asgsub, z_asgfld, z_ifs, z_fors, z_brk, z_cont, z_trys, x_ct, x_cf, q_mp, q_opt, q_non, q_bl, q_int, q_str, q_var, q_ty, q_cls, q_gint, q_bin, q_neg, q_not, q_cmp, q_sub, q_slc, q_tup, q_lst, q_call, q_mk, q_bi, q_app, q_fld, q_meth, q_nil, q_cons, q_tnot, q_tbl, q_tvar, q_tcmp, q_tchain, q_tsub, q_tcall, q_tbi, q_tmeth, q_bool, q_rng1, q_slcn, q_slcY, z_tand, z_tor, z_and, z_or, z_ife, z_chain, b_max, b_min, b_abs, b_inti, b_intb, b_lent, sw2, sub_t0, sub_t1, o_add, o_sub, o_mul, o_fdiv, o_mod, o_pow, c_eqi, c_nei, c_eqs, c_nes, c_lt, c_le, c_gt, c_ge, c_isn, c_notn, isNon_n, isNon_i, Mi.Env.set, List.set_cons_zero, List.set_cons_succ, List.getElem?_cons_zero, List.getElem?_cons_succ, Option.getD_some, List.length_cons, List.length_nil, stepF_nm, Nat.reduceAdd, Nat.reduceLeDiff, q_iof, it_tup, sz_tup, sz_rg, Int.zero_add, x_methM ra3.get (lk_ed _) tme_Rules_edge, fnp_Rules_edge, ar3, e21]
    rw [show (if edg R (i : Nat) c > a then edg R (i : Nat) c else a) = bg R a c i from rfl]
    refine cnd_d (fun hz => ?_) (fun hz => ?_)
    · have e : pcs R a s c (i + 1) = ((i, bg R a c i, (pcs R a s c i).2) :: (pcs R a s c i).1, bg R a c i) := by
        conv => lhs; unfold pcs
        rw [if_pos hz]
      try simp only [y_ok, y_exc, y_bind, y_bnd, y_cnd, y_cndt, z_nx, z_rt, z_br, z_ct, z_ex, z_exb0, z_exb1, z_wnwn, z_wnnx, z_wnrt, z_wnbr, z_wnct, z_wnex, z_wxnx, z_wxrt, z_wxbr, z_wxct, z_wxex, z_wlnx, z_wlrt, z_wlbr, z_wlct, z_wlex, z_fnnx, z_fnrt, z_fnex, z_pass, z_ret, z_retN, z_expr, z_asg, z_asgsw, z_asgtp, z_asgsub, z_asgfld, z_ifs, z_fors, z_brk, z_cont, z_trys, x_ct, x_cf, q_mp, q_opt, q_non, q_bl, q_int, q_str, q_var, q_ty, q_cls, q_gint, q_bin, q_neg, q_not, q_cmp, q_sub, q_slc, q_tup, q_lst, q_call, q_mk, q_bi, q_app, q_fld, q_meth, q_nil, q_cons, q_tnot, q_tbl, q_tvar, q_tcmp, q_tchain, q_tsub, q_tcall, q_tbi, q_tmeth, q_bool, q_rng1, q_slcn, q_slcY, z_tand, z_tor, z_and, z_or, z_ife, z_chain, b_max, b_min, b_abs, b_inti, b_intb, b_lent, sw2, sub_t0, sub_t1, o_add, o_sub, o_mul, o_fdiv, o_mod, o_pow, c_eqi, c_nei, c_eqs, c_nes, c_lt, c_le, c_gt, c_ge, c_isn, c_notn, isNon_n, isNon_i, Mi.Env.set, List.set_cons_zero, List.set_cons_succ, List.getElem?_cons_zero, List.getElem?_cons_succ, Option.getD_some, List.length_cons, List.length_nil, stepF_nm, Nat.reduceAdd, Nat.reduceLeDiff, q_iof, it_tup, sz_tup, sz_rg, isLst_ok A3.get, show (3 : Nat) ≤ PySem.sizeLine by rw [PySem.sizeLine_eq]; decide, if_true, app_ok A3.get (by simp; omega)]
      have Pu : Fr [f] h3 (h3.put f (.lst ((pcs R a s c i).1.reverse.map pEnc ++ [.tup [.int i, .int (bg R a c i), .int (pcs R a s c i).2]]))) := Fr.put (by simp)
      have hrf : r ≠ f := by have := ra.lt; omega
      refine ⟨_, _, ?_, ra3.fr Pu (by simpa using hrf), F3.comp Pu (by simp; omega), by rw [e]⟩
      rw [e]
      have := At.put (o := .lst ((pcs R a s c i).1.reverse.map pEnc ++ [.tup [.int i, .int (bg R a c i), .int (pcs R a s c i).2]])) A3.lt
      simpa [pEnc] using this
    · have e : pcs R a s c (i + 1) = pcs R a s c i := by
        conv => lhs; unfold pcs
        rw [if_neg hz]
      try simp only [y_ok, y_exc, y_bind, y_bnd, y_cnd, y_cndt, z_nx, z_rt, z_br, z_ct, z_ex, z_exb0, z_exb1, z_wnwn, z_wnnx, z_wnrt, z_wnbr, z_wnct, z_wnex, z_wxnx, z_wxrt, z_wxbr, z_wxct, z_wxex, z_wlnx, z_wlrt, z_wlbr, z_wlct, z_wlex, z_fnnx, z_fnrt, z_fnex, z_pass, z_ret, z_retN, z_expr, z_asg, z_asgsw, z_asgtp, z_asgsub, z_asgfld, z_ifs, z_fors, z_brk, z_cont, z_trys, x_ct, x_cf, q_mp, q_opt, q_non, q_bl, q_int, q_str, q_var, q_ty, q_cls, q_gint, q_bin, q_neg, q_not, q_cmp, q_sub, q_slc, q_tup, q_lst, q_call, q_mk, q_bi, q_app, q_fld, q_meth, q_nil, q_cons, q_tnot, q_tbl, q_tvar, q_tcmp, q_tchain, q_tsub, q_tcall, q_tbi, q_tmeth, q_bool, q_rng1, q_slcn, q_slcY, z_tand, z_tor, z_and, z_or, z_ife, z_chain, b_max, b_min, b_abs, b_inti, b_intb, b_lent, sw2, sub_t0, sub_t1, o_add, o_sub, o_mul, o_fdiv, o_mod, o_pow, c_eqi, c_nei, c_eqs, c_nes, c_lt, c_le, c_gt, c_ge, c_isn, c_notn, isNon_n, isNon_i, Mi.Env.set, List.set_cons_zero, List.set_cons_succ, List.getElem?_cons_zero, List.getElem?_cons_succ, Option.getD_some, List.length_cons, List.length_nil, stepF_nm, Nat.reduceAdd, Nat.reduceLeDiff, q_iof, it_tup, sz_tup, sz_rg]
      exact ⟨_, _, by rw [e]; exact A3, ra3, F3, by rw [e]⟩
  · rintro _ h3 ⟨o7, o8, A3, ra3, F3, rfl⟩
    have hl := pcs_len (R := R) (a := a) (s := s) (c := c) (k + 1)
    have A4 := At.new (h := h3) (o := .lst ((pcs R a s c (k+1)).1.reverse.map pEnc).reverse)
    try simp only [y_ok, y_exc, y_bind, y_bnd, y_cnd, y_cndt, z_nx, z_rt, z_br, z_ct, z_ex, z_exb0, z_exb1, z_wnwn, z_wnnx, z_wnrt, z_wnbr, z_wnct, z_wnex, z_wxnx, z_wxrt, z_wxbr, z_wxct, z_wxex, z_wlnx, z_wlrt, z_wlbr, z_wlct, z_wlex, z_fnnx, z_fnrt, z_fnex, z_pass, z_ret, z_retN, z_expr, z_asg, z_asgsw, z_asgtp, z_asgsub, z_asgfld, z_ifs, z_fors, z_brk, z_cont, z_trys, x_ct, x_cf, q_mp, q_opt, q_non, q_bl, q_int, q_str, q_var, q_ty, q_cls, q_gint, q_bin, q_neg, q_not, q_cmp, q_sub, q_slc, q_tup, q_lst, q_call, q_mk, q_bi, q_app, q_fld, q_meth, q_nil, q_cons, q_tnot, q_tbl, q_tvar, q_tcmp, q_tchain, q_tsub, q_tcall, q_tbi, q_tmeth, q_bool, q_rng1, q_slcn, q_slcY, z_tand, z_tor, z_and, z_or, z_ife, z_chain, b_max, b_min, b_abs, b_inti, b_intb, b_lent, sw2, sub_t0, sub_t1, o_add, o_sub, o_mul, o_fdiv, o_mod, o_pow, c_eqi, c_nei, c_eqs, c_nes, c_lt, c_le, c_gt, c_ge, c_isn, c_notn, isNon_n, isNon_i, Mi.Env.set, List.set_cons_zero, List.set_cons_succ, List.getElem?_cons_zero, List.getElem?_cons_succ, Option.getD_some, List.length_cons, List.length_nil, stepF_nm, Nat.reduceAdd, Nat.reduceLeDiff, q_iof, it_tup, sz_tup, sz_rg, q_rev, b_rev A3 (by simp; omega)]
    refine hQ _ _ ⟨_, rfl, F3.nx, ?_, F3.trans Fr.new⟩
    simpa using A4
end
end Lw
end

section
namespace Lw
open Mi
open PySem (PyData)
/-! ### _law_odd_asks -/
def smD (d : PyData) : Prop := ∀ i, d = .int i → i < 2 ^ 59
theorem sm_i {i : Int} (h : i < 2 ^ 59) : smD (.int i) := fun _ e => by cases e; exact h
def argsOk (d : PyData) : Prop := ∃ x y z, d = .list [x, y, z] ∧ argOk x ∧ argOk y ∧ argOk z ∧ smD x ∧ smD y
theorem c_asks {C : CallF} {h : MH} (x y : Mi.MV) : callM τ.tab C "_law_asks" [x, y] [] [] h = C f_law_asks [x, y] h := x_callM tfn_law_asks (by simp [argsOf, fnp_law_asks])
theorem odd_sp {n b l : Nat} {R : List (Int × Option Int)} {h : MH} {N : Int} (gr : GR R) (B : isB h b N) (hN : N < 2 ^ 30) (a : At h l (.lst (R.map enc))) (hlb : l ≠ b) :
    Sp (Mi.run τ.tab (n+4) f_law_odd_asks [.ref b, .ref l] h) (fun v h' => ∃ ds, V [b] h' v (.list ds) ∧ (∀ d ∈ ds, argsOk d) ∧ ds.length < 1000 ∧ isB h' b (N + 10) ∧ Fr [b] h h') := by
  have hb := B.lt
  have two : (2 : Nat) ≤ PySem.sizeLine := by rw [PySem.sizeLine_eq]; decide
  have one : (1 : Nat) ≤ PySem.sizeLine := by rw [PySem.sizeLine_eq]; decide
  refine Sp_for fun Q E hQ => ?_
  refine (run_w { sl := [some (.ref b), some (.ref l), none, none, none, none, none], ex := none } body_law_odd_asks rfl rfl rfl ?_)
  unfold body_law_odd_asks
  try simp only [y_ok, y_exc, y_bind, y_bnd, y_cnd, y_cndt, z_nx, z_rt, z_br, z_ct, z_ex, z_exb0, z_exb1, z_wnwn, z_wnnx, z_wnrt, z_wnbr, z_wnct, z_wnex, z_wxnx, z_wxrt, z_wxbr, z_wxct, z_wxex, z_wlnx, z_wlrt, z_wlbr, z_wlct, z_wlex, z_fnnx, z_fnrt, z_fnex, z_pass, z_ret, z_retN, z_expr, z_asg, z_asgsw, z_asgtp, z_asgsub, z_asgfld, z_ifs, z_fors, z_brk, z_cont, z_trys, x_ct, x_cf, q_mp, q_opt, q_non, q_bl, q_int, q_str, q_var, q_ty, q_cls, q_gint, q_bin, q_neg, q_not, q_cmp, q_sub, q_slc, q_tup, q_lst, q_call, q_mk, q_bi, q_app, q_fld, q_meth, q_nil, q_cons, q_tnot, q_tbl, q_tvar, q_tcmp, q_tchain, q_tsub, q_tcall, q_tbi, q_tmeth, q_bool, q_rng1, q_slcn, q_slcY, z_tand, z_tor, z_and, z_or, z_ife, z_chain, b_max, b_min, b_abs, b_inti, b_intb, b_lent, sw2, sub_t0, sub_t1, o_add, o_sub, o_mul, o_fdiv, o_mod, o_pow, c_eqi, c_nei, c_eqs, c_nes, c_lt, c_le, c_gt, c_ge, c_isn, c_notn, isNon_n, isNon_i, Mi.Env.set, List.set_cons_zero, List.set_cons_succ, List.getElem?_cons_zero, List.getElem?_cons_succ, Option.getD_some, List.length_cons, List.length_nil, x_newL, stepF_nm, Nat.reduceAdd, Nat.reduceLeDiff, q_iof, it_tup, sz_tup, sz_rg, c_asks]
  refine Wr_of (asks_sp (n := n) gr B hN a hlb) ?_
  rintro _ h1 ⟨t, s, c, t0, t1, s0, s1, c0, c1, ⟨m, rfl, _, A⟩, B1, K1⟩
  have hb1 := B1.lt
  have aT : argOk (.int t) := arg_int (by omega)
  have aS : argOk (.int s) := arg_int (by omega)
  have aC : argOk (.int c) := arg_int (by omega)
  have a0 : argOk (.int 0) := arg_int (by omega)
  have a1 : argOk (.int (-1)) := arg_int (by omega)
  try simp only [y_ok, y_exc, y_bind, y_bnd, y_cnd, y_cndt, z_nx, z_rt, z_br, z_ct, z_ex, z_exb0, z_exb1, z_wnwn, z_wnnx, z_wnrt, z_wnbr, z_wnct, z_wnex, z_wxnx, z_wxrt, z_wxbr, z_wxct, z_wxex, z_wlnx, z_wlrt, z_wlbr, z_wlct, z_wlex, z_fnnx, z_fnrt, z_fnex, z_pass, z_ret, z_retN, z_expr, z_asg, z_asgsw, z_asgtp, z_asgsub, z_asgfld, z_ifs, z_fors, z_brk, z_cont, z_trys, x_ct, x_cf, q_mp, q_opt, q_non, q_bl, q_int, q_str, q_var, q_ty, q_cls, q_gint, q_bin, q_neg, q_not, q_cmp, q_sub, q_slc, q_tup, q_lst, q_call, q_mk, q_bi, q_app, q_fld, q_meth, q_nil, q_cons, q_tnot, q_tbl, q_tvar, q_tcmp, q_tchain, q_tsub, q_tcall, q_tbi, q_tmeth, q_bool, q_rng1, q_slcn, q_slcY, z_tand, z_tor, z_and, z_or, z_ife, z_chain, b_max, b_min, b_abs, b_inti, b_intb, b_lent, sw2, sub_t0, sub_t1, o_add, o_sub, o_mul, o_fdiv, o_mod, o_pow, c_eqi, c_nei, c_eqs, c_nes, c_lt, c_le, c_gt, c_ge, c_isn, c_notn, isNon_n, isNon_i, Mi.Env.set, List.set_cons_zero, List.set_cons_succ, List.getElem?_cons_zero, List.getElem?_cons_succ, Option.getD_some, List.length_cons, List.length_nil, stepF_nm, Nat.reduceAdd, Nat.reduceLeDiff, q_iof, it_tup, sz_tup, sz_rg, tp3 A]
  refine newL_v (S := [b]) (h := h1) (.cons (.int t) (.cons (.int 0) (.cons (.int c) .nil))) (by simp; omega) (by simp) fun v1 h2 w1 F2 => ?_
  replace B1 := B1.fr0 F2
  have n2 := F2.nx
  try simp only [y_ok, y_exc, y_bind, y_bnd, y_cnd, y_cndt, z_nx, z_rt, z_br, z_ct, z_ex, z_exb0, z_exb1, z_wnwn, z_wnnx, z_wnrt, z_wnbr, z_wnct, z_wnex, z_wxnx, z_wxrt, z_wxbr, z_wxct, z_wxex, z_wlnx, z_wlrt, z_wlbr, z_wlct, z_wlex, z_fnnx, z_fnrt, z_fnex, z_pass, z_ret, z_retN, z_expr, z_asg, z_asgsw, z_asgtp, z_asgsub, z_asgfld, z_ifs, z_fors, z_brk, z_cont, z_trys, x_ct, x_cf, q_mp, q_opt, q_non, q_bl, q_int, q_str, q_var, q_ty, q_cls, q_gint, q_bin, q_neg, q_not, q_cmp, q_sub, q_slc, q_tup, q_lst, q_call, q_mk, q_bi, q_app, q_fld, q_meth, q_nil, q_cons, q_tnot, q_tbl, q_tvar, q_tcmp, q_tchain, q_tsub, q_tcall, q_tbi, q_tmeth, q_bool, q_rng1, q_slcn, q_slcY, z_tand, z_tor, z_and, z_or, z_ife, z_chain, b_max, b_min, b_abs, b_inti, b_intb, b_lent, sw2, sub_t0, sub_t1, o_add, o_sub, o_mul, o_fdiv, o_mod, o_pow, c_eqi, c_nei, c_eqs, c_nes, c_lt, c_le, c_gt, c_ge, c_isn, c_notn, isNon_n, isNon_i, Mi.Env.set, List.set_cons_zero, List.set_cons_succ, List.getElem?_cons_zero, List.getElem?_cons_succ, Option.getD_some, List.length_cons, List.length_nil, stepF_nm, Nat.reduceAdd, Nat.reduceLeDiff, q_iof, it_tup, sz_tup, sz_rg]
  refine newL_v (S := [b]) (h := h2) (.cons (.int t) (.cons (.int 0) (.cons (.int (-1)) .nil))) (by simp; omega) (by simp) fun v2 h3 w2 F3 => ?_
  replace B1 := B1.fr0 F3
  replace w1 := w1.fr0 F3
  have n3 := F3.nx
  try simp only [y_ok, y_exc, y_bind, y_bnd, y_cnd, y_cndt, z_nx, z_rt, z_br, z_ct, z_ex, z_exb0, z_exb1, z_wnwn, z_wnnx, z_wnrt, z_wnbr, z_wnct, z_wnex, z_wxnx, z_wxrt, z_wxbr, z_wxct, z_wxex, z_wlnx, z_wlrt, z_wlbr, z_wlct, z_wlex, z_fnnx, z_fnrt, z_fnex, z_pass, z_ret, z_retN, z_expr, z_asg, z_asgsw, z_asgtp, z_asgsub, z_asgfld, z_ifs, z_fors, z_brk, z_cont, z_trys, x_ct, x_cf, q_mp, q_opt, q_non, q_bl, q_int, q_str, q_var, q_ty, q_cls, q_gint, q_bin, q_neg, q_not, q_cmp, q_sub, q_slc, q_tup, q_lst, q_call, q_mk, q_bi, q_app, q_fld, q_meth, q_nil, q_cons, q_tnot, q_tbl, q_tvar, q_tcmp, q_tchain, q_tsub, q_tcall, q_tbi, q_tmeth, q_bool, q_rng1, q_slcn, q_slcY, z_tand, z_tor, z_and, z_or, z_ife, z_chain, b_max, b_min, b_abs, b_inti, b_intb, b_lent, sw2, sub_t0, sub_t1, o_add, o_sub, o_mul, o_fdiv, o_mod, o_pow, c_eqi, c_nei, c_eqs, c_nes, c_lt, c_le, c_gt, c_ge, c_isn, c_notn, isNon_n, isNon_i, Mi.Env.set, List.set_cons_zero, List.set_cons_succ, List.getElem?_cons_zero, List.getElem?_cons_succ, Option.getD_some, List.length_cons, List.length_nil, stepF_nm, Nat.reduceAdd, Nat.reduceLeDiff, q_iof, it_tup, sz_tup, sz_rg]
  refine newL_v (S := [b]) (h := h3) (.cons (.int (-1)) (.cons (.int 0) (.cons .non .nil))) (by simp; omega) (by simp) fun v3 h4 w3 F4 => ?_
  replace B1 := B1.fr0 F4
  replace w1 := w1.fr0 F4
  replace w2 := w2.fr0 F4
  have n4 := F4.nx
  try simp only [y_ok, y_exc, y_bind, y_bnd, y_cnd, y_cndt, z_nx, z_rt, z_br, z_ct, z_ex, z_exb0, z_exb1, z_wnwn, z_wnnx, z_wnrt, z_wnbr, z_wnct, z_wnex, z_wxnx, z_wxrt, z_wxbr, z_wxct, z_wxex, z_wlnx, z_wlrt, z_wlbr, z_wlct, z_wlex, z_fnnx, z_fnrt, z_fnex, z_pass, z_ret, z_retN, z_expr, z_asg, z_asgsw, z_asgtp, z_asgsub, z_asgfld, z_ifs, z_fors, z_brk, z_cont, z_trys, x_ct, x_cf, q_mp, q_opt, q_non, q_bl, q_int, q_str, q_var, q_ty, q_cls, q_gint, q_bin, q_neg, q_not, q_cmp, q_sub, q_slc, q_tup, q_lst, q_call, q_mk, q_bi, q_app, q_fld, q_meth, q_nil, q_cons, q_tnot, q_tbl, q_tvar, q_tcmp, q_tchain, q_tsub, q_tcall, q_tbi, q_tmeth, q_bool, q_rng1, q_slcn, q_slcY, z_tand, z_tor, z_and, z_or, z_ife, z_chain, b_max, b_min, b_abs, b_inti, b_intb, b_lent, sw2, sub_t0, sub_t1, o_add, o_sub, o_mul, o_fdiv, o_mod, o_pow, c_eqi, c_nei, c_eqs, c_nes, c_lt, c_le, c_gt, c_ge, c_isn, c_notn, isNon_n, isNon_i, Mi.Env.set, List.set_cons_zero, List.set_cons_succ, List.getElem?_cons_zero, List.getElem?_cons_succ, Option.getD_some, List.length_cons, List.length_nil, stepF_nm, Nat.reduceAdd, Nat.reduceLeDiff, q_iof, it_tup, sz_tup, sz_rg]
  refine newL_v (S := [b]) (.cons w1 (.cons w2 (.cons w3 .nil))) (by simp; omega) (by simp) fun v4 h5 w4 F5 => ?_
  replace B1 := B1.fr0 F5
  have n5 := F5.nx
  have F := ((F2.trans F3).trans F4).trans F5
  have gd0 : ∀ d ∈ [PyData.list [.int t, .int 0, .int c], .list [.int t, .int 0, .int (-1)], .list [.int (-1), .int 0, .none]], argsOk d := fun d hd => by
    simp at hd
    rcases hd with rfl | rfl | rfl
    · exact ⟨_, _, _, rfl, aT, a0, aC, sm_i (by omega), sm_i (by omega)⟩
    · exact ⟨_, _, _, rfl, aT, a0, a1, sm_i (by omega), sm_i (by omega)⟩
    · exact ⟨_, _, _, rfl, a1, a0, arg_non, sm_i (by omega), sm_i (by omega)⟩
  clear w1 w2 w3 F2 F3 F4 F5
  try simp only [y_ok, y_exc, y_bind, y_bnd, y_cnd, y_cndt, z_nx, z_rt, z_br, z_ct, z_ex, z_exb0, z_exb1, z_wnwn, z_wnnx, z_wnrt, z_wnbr, z_wnct, z_wnex, z_wxnx, z_wxrt, z_wxbr, z_wxct, z_wxex, z_wlnx, z_wlrt, z_wlbr, z_wlct, z_wlex, z_fnnx, z_fnrt, z_fnex, z_pass, z_ret, z_retN, z_expr, z_asg, z_asgsw, z_asgtp, z_asgsub, z_asgfld, z_ifs, z_fors, z_brk, z_cont, z_trys, x_ct, x_cf, q_mp, q_opt, q_non, q_bl, q_int, q_str, q_var, q_ty, q_cls, q_gint, q_bin, q_neg, q_not, q_cmp, q_sub, q_slc, q_tup, q_lst, q_call, q_mk, q_bi, q_app, q_fld, q_meth, q_nil, q_cons, q_tnot, q_tbl, q_tvar, q_tcmp, q_tchain, q_tsub, q_tcall, q_tbi, q_tmeth, q_bool, q_rng1, q_slcn, q_slcY, z_tand, z_tor, z_and, z_or, z_ife, z_chain, b_max, b_min, b_abs, b_inti, b_intb, b_lent, sw2, sub_t0, sub_t1, o_add, o_sub, o_mul, o_fdiv, o_mod, o_pow, c_eqi, c_nei, c_eqs, c_nes, c_lt, c_le, c_gt, c_ge, c_isn, c_notn, isNon_n, isNon_i, Mi.Env.set, List.set_cons_zero, List.set_cons_succ, List.getElem?_cons_zero, List.getElem?_cons_succ, Option.getD_some, List.length_cons, List.length_nil, stepF_nm, Nat.reduceAdd, Nat.reduceLeDiff, q_iof, it_tup, sz_tup, sz_rg]
  refine newL_v (S := [b]) (h := h5) (.cons (.int 3) .nil) (by simp; omega) (by simp) fun u1 h6 w1 F1 => ?_
  replace B1 := B1.fr0 F1
  replace w4 := w4.fr0 F1
  have n6 := F1.nx
  replace F := F.trans F1
  have hv : Vs [b] h6 [.int (-1), .int (-s), .bl true, .bl false, .non, .str "3", u1, .tup [.int 3], .tup [.int t, .int s]] [.int (-1), .int (-s), .bool true, .bool false, .none, .str "3", .list [.int 3], .tuple [.int 3], .tuple [.int t, .int s]] :=
    (.cons (.int _) (.cons (.int _) (.cons (.bl _) (.cons (.bl _) (.cons .non (.cons (.str _) (.cons w1 (.cons (.tup (.cons (.int 3) .nil)) (.cons (.tup (.cons (.int t) (.cons (.int s) .nil))) .nil)))))))))
  have odds : ∀ d ∈ ([.int (-1), .int (-s), .bool true, .bool false, .none, .str "3", .list [.int 3], .tuple [.int 3], .tuple [.int t, .int s]] : List PyData), argOk d ∧ smD d := fun d hd => by
    simp at hd
    rcases hd with rfl | rfl | rfl | rfl | rfl | rfl | rfl | rfl | rfl
    · exact ⟨a1, sm_i (by omega)⟩
    · exact ⟨arg_int (by omega), sm_i (by omega)⟩
    · exact ⟨arg_bl _, fun _ e => by cases e⟩
    · exact ⟨arg_bl _, fun _ e => by cases e⟩
    · exact ⟨arg_non, fun _ e => by cases e⟩
    · exact ⟨arg_str (by decide +kernel) (by decide +kernel), fun _ e => by cases e⟩
    · exact ⟨arg_l1 (by omega), fun _ e => by cases e⟩
    · exact ⟨arg_t1 (by omega), fun _ e => by cases e⟩
    · exact ⟨arg_t2 (by omega) (by omega), fun _ e => by cases e⟩
  try simp only [y_ok, y_exc, y_bind, y_bnd, y_cnd, y_cndt, z_nx, z_rt, z_br, z_ct, z_ex, z_exb0, z_exb1, z_wnwn, z_wnnx, z_wnrt, z_wnbr, z_wnct, z_wnex, z_wxnx, z_wxrt, z_wxbr, z_wxct, z_wxex, z_wlnx, z_wlrt, z_wlbr, z_wlct, z_wlex, z_fnnx, z_fnrt, z_fnex, z_pass, z_ret, z_retN, z_expr, z_asg, z_asgsw, z_asgtp, z_asgsub, z_asgfld, z_ifs, z_fors, z_brk, z_cont, z_trys, x_ct, x_cf, q_mp, q_opt, q_non, q_bl, q_int, q_str, q_var, q_ty, q_cls, q_gint, q_bin, q_neg, q_not, q_cmp, q_sub, q_slc, q_tup, q_lst, q_call, q_mk, q_bi, q_app, q_fld, q_meth, q_nil, q_cons, q_tnot, q_tbl, q_tvar, q_tcmp, q_tchain, q_tsub, q_tcall, q_tbi, q_tmeth, q_bool, q_rng1, q_slcn, q_slcY, z_tand, z_tor, z_and, z_or, z_ife, z_chain, b_max, b_min, b_abs, b_inti, b_intb, b_lent, sw2, sub_t0, sub_t1, o_add, o_sub, o_mul, o_fdiv, o_mod, o_pow, c_eqi, c_nei, c_eqs, c_nes, c_lt, c_le, c_gt, c_ge, c_isn, c_notn, isNon_n, isNon_i, Mi.Env.set, List.set_cons_zero, List.set_cons_succ, List.getElem?_cons_zero, List.getElem?_cons_succ, Option.getD_some, List.length_cons, List.length_nil, x_newL, stepF_nm, Nat.reduceAdd, Nat.reduceLeDiff, q_iof, it_tup, sz_tup, sz_rg, one, two, if_true, q_iof, it_lst At.new, sz_lst At.new]
  refine for_v (S := [b]) (J := fun i me hh => ∃ fv ds o6, me = { sl := [some (.ref b), some (.ref l), some (.int t), some (.int s), some (.int c), some fv, o6], ex := none } ∧ V [b] hh fv (.list ds) ∧ (∀ d ∈ ds, argsOk d) ∧ ds.length ≤ 3 + 5 * i ∧ isB hh b (N + 10)) At.new
    hv.new (by simp; omega) ⟨_, _, _, rfl, w4.new, gd0, by simp, B1.new⟩ ?_ ?_
  · rintro i x d _ h6 hi hd F6 vx ⟨fv, ds, o6, rfl, vf, gd, ln, B6⟩
    have hb6 := B6.lt
    obtain ⟨ad, md⟩ := odds d (List.mem_of_getElem? hd)
    have mT : smD (.int t) := sm_i (by omega)
    have mS : smD (.int s) := sm_i (by omega)
    have mL : ∀ x, smD (.list x) := fun _ _ e => by cases e
    try simp only [y_ok, y_exc, y_bind, y_bnd, y_cnd, y_cndt, z_nx, z_rt, z_br, z_ct, z_ex, z_exb0, z_exb1, z_wnwn, z_wnnx, z_wnrt, z_wnbr, z_wnct, z_wnex, z_wxnx, z_wxrt, z_wxbr, z_wxct, z_wxex, z_wlnx, z_wlrt, z_wlbr, z_wlct, z_wlex, z_fnnx, z_fnrt, z_fnex, z_pass, z_ret, z_retN, z_expr, z_asg, z_asgsw, z_asgtp, z_asgsub, z_asgfld, z_ifs, z_fors, z_brk, z_cont, z_trys, x_ct, x_cf, q_mp, q_opt, q_non, q_bl, q_int, q_str, q_var, q_ty, q_cls, q_gint, q_bin, q_neg, q_not, q_cmp, q_sub, q_slc, q_tup, q_lst, q_call, q_mk, q_bi, q_app, q_fld, q_meth, q_nil, q_cons, q_tnot, q_tbl, q_tvar, q_tcmp, q_tchain, q_tsub, q_tcall, q_tbi, q_tmeth, q_bool, q_rng1, q_slcn, q_slcY, z_tand, z_tor, z_and, z_or, z_ife, z_chain, b_max, b_min, b_abs, b_inti, b_intb, b_lent, sw2, sub_t0, sub_t1, o_add, o_sub, o_mul, o_fdiv, o_mod, o_pow, c_eqi, c_nei, c_eqs, c_nes, c_lt, c_le, c_gt, c_ge, c_isn, c_notn, isNon_n, isNon_i, Mi.Env.set, List.set_cons_zero, List.set_cons_succ, List.getElem?_cons_zero, List.getElem?_cons_succ, Option.getD_some, List.length_cons, List.length_nil, stepF_nm, Nat.reduceAdd, Nat.reduceLeDiff, q_iof, it_tup, sz_tup, sz_rg]
    refine newL_v (.cons vx (.cons (.int s) (.cons (.int c) .nil))) (by simp; omega) (by simp) fun v1 h7 w1 F7 => ?_
    replace vx := vx.fr0 F7
    replace vf := vf.fr0 F7
    replace B6 := B6.fr0 F7
    have n7 := F7.nx
    try simp only [y_ok, y_exc, y_bind, y_bnd, y_cnd, y_cndt, z_nx, z_rt, z_br, z_ct, z_ex, z_exb0, z_exb1, z_wnwn, z_wnnx, z_wnrt, z_wnbr, z_wnct, z_wnex, z_wxnx, z_wxrt, z_wxbr, z_wxct, z_wxex, z_wlnx, z_wlrt, z_wlbr, z_wlct, z_wlex, z_fnnx, z_fnrt, z_fnex, z_pass, z_ret, z_retN, z_expr, z_asg, z_asgsw, z_asgtp, z_asgsub, z_asgfld, z_ifs, z_fors, z_brk, z_cont, z_trys, x_ct, x_cf, q_mp, q_opt, q_non, q_bl, q_int, q_str, q_var, q_ty, q_cls, q_gint, q_bin, q_neg, q_not, q_cmp, q_sub, q_slc, q_tup, q_lst, q_call, q_mk, q_bi, q_app, q_fld, q_meth, q_nil, q_cons, q_tnot, q_tbl, q_tvar, q_tcmp, q_tchain, q_tsub, q_tcall, q_tbi, q_tmeth, q_bool, q_rng1, q_slcn, q_slcY, z_tand, z_tor, z_and, z_or, z_ife, z_chain, b_max, b_min, b_abs, b_inti, b_intb, b_lent, sw2, sub_t0, sub_t1, o_add, o_sub, o_mul, o_fdiv, o_mod, o_pow, c_eqi, c_nei, c_eqs, c_nes, c_lt, c_le, c_gt, c_ge, c_isn, c_notn, isNon_n, isNon_i, Mi.Env.set, List.set_cons_zero, List.set_cons_succ, List.getElem?_cons_zero, List.getElem?_cons_succ, Option.getD_some, List.length_cons, List.length_nil, stepF_nm, Nat.reduceAdd, Nat.reduceLeDiff, q_iof, it_tup, sz_tup, sz_rg]
    refine newL_v (.cons (.int t) (.cons vx (.cons (.int c) .nil))) (by simp; omega) (by simp) fun v2 h8 w2 F8 => ?_
    replace w1 := w1.fr0 F8
    replace vx := vx.fr0 F8
    replace vf := vf.fr0 F8
    replace B6 := B6.fr0 F8
    have n8 := F8.nx
    try simp only [y_ok, y_exc, y_bind, y_bnd, y_cnd, y_cndt, z_nx, z_rt, z_br, z_ct, z_ex, z_exb0, z_exb1, z_wnwn, z_wnnx, z_wnrt, z_wnbr, z_wnct, z_wnex, z_wxnx, z_wxrt, z_wxbr, z_wxct, z_wxex, z_wlnx, z_wlrt, z_wlbr, z_wlct, z_wlex, z_fnnx, z_fnrt, z_fnex, z_pass, z_ret, z_retN, z_expr, z_asg, z_asgsw, z_asgtp, z_asgsub, z_asgfld, z_ifs, z_fors, z_brk, z_cont, z_trys, x_ct, x_cf, q_mp, q_opt, q_non, q_bl, q_int, q_str, q_var, q_ty, q_cls, q_gint, q_bin, q_neg, q_not, q_cmp, q_sub, q_slc, q_tup, q_lst, q_call, q_mk, q_bi, q_app, q_fld, q_meth, q_nil, q_cons, q_tnot, q_tbl, q_tvar, q_tcmp, q_tchain, q_tsub, q_tcall, q_tbi, q_tmeth, q_bool, q_rng1, q_slcn, q_slcY, z_tand, z_tor, z_and, z_or, z_ife, z_chain, b_max, b_min, b_abs, b_inti, b_intb, b_lent, sw2, sub_t0, sub_t1, o_add, o_sub, o_mul, o_fdiv, o_mod, o_pow, c_eqi, c_nei, c_eqs, c_nes, c_lt, c_le, c_gt, c_ge, c_isn, c_notn, isNon_n, isNon_i, Mi.Env.set, List.set_cons_zero, List.set_cons_succ, List.getElem?_cons_zero, List.getElem?_cons_succ, Option.getD_some, List.length_cons, List.length_nil, stepF_nm, Nat.reduceAdd, Nat.reduceLeDiff, q_iof, it_tup, sz_tup, sz_rg]
    refine newL_v (.cons (.int t) (.cons (.int s) (.cons vx .nil))) (by simp; omega) (by simp) fun v3 h9 w3 F9 => ?_
    replace w1 := w1.fr0 F9
    replace w2 := w2.fr0 F9
    replace vx := vx.fr0 F9
    replace vf := vf.fr0 F9
    replace B6 := B6.fr0 F9
    have n9 := F9.nx
    try simp only [y_ok, y_exc, y_bind, y_bnd, y_cnd, y_cndt, z_nx, z_rt, z_br, z_ct, z_ex, z_exb0, z_exb1, z_wnwn, z_wnnx, z_wnrt, z_wnbr, z_wnct, z_wnex, z_wxnx, z_wxrt, z_wxbr, z_wxct, z_wxex, z_wlnx, z_wlrt, z_wlbr, z_wlct, z_wlex, z_fnnx, z_fnrt, z_fnex, z_pass, z_ret, z_retN, z_expr, z_asg, z_asgsw, z_asgtp, z_asgsub, z_asgfld, z_ifs, z_fors, z_brk, z_cont, z_trys, x_ct, x_cf, q_mp, q_opt, q_non, q_bl, q_int, q_str, q_var, q_ty, q_cls, q_gint, q_bin, q_neg, q_not, q_cmp, q_sub, q_slc, q_tup, q_lst, q_call, q_mk, q_bi, q_app, q_fld, q_meth, q_nil, q_cons, q_tnot, q_tbl, q_tvar, q_tcmp, q_tchain, q_tsub, q_tcall, q_tbi, q_tmeth, q_bool, q_rng1, q_slcn, q_slcY, z_tand, z_tor, z_and, z_or, z_ife, z_chain, b_max, b_min, b_abs, b_inti, b_intb, b_lent, sw2, sub_t0, sub_t1, o_add, o_sub, o_mul, o_fdiv, o_mod, o_pow, c_eqi, c_nei, c_eqs, c_nes, c_lt, c_le, c_gt, c_ge, c_isn, c_notn, isNon_n, isNon_i, Mi.Env.set, List.set_cons_zero, List.set_cons_succ, List.getElem?_cons_zero, List.getElem?_cons_succ, Option.getD_some, List.length_cons, List.length_nil, stepF_nm, Nat.reduceAdd, Nat.reduceLeDiff, q_iof, it_tup, sz_tup, sz_rg]
    refine newL_v (S := [b]) (h := h9) (.cons (.int 1) .nil) (by simp; omega) (by simp) fun v4 h10 w4 F10 => ?_
    replace w1 := w1.fr0 F10
    replace w2 := w2.fr0 F10
    replace w3 := w3.fr0 F10
    replace vx := vx.fr0 F10
    replace vf := vf.fr0 F10
    replace B6 := B6.fr0 F10
    have n10 := F10.nx
    try simp only [y_ok, y_exc, y_bind, y_bnd, y_cnd, y_cndt, z_nx, z_rt, z_br, z_ct, z_ex, z_exb0, z_exb1, z_wnwn, z_wnnx, z_wnrt, z_wnbr, z_wnct, z_wnex, z_wxnx, z_wxrt, z_wxbr, z_wxct, z_wxex, z_wlnx, z_wlrt, z_wlbr, z_wlct, z_wlex, z_fnnx, z_fnrt, z_fnex, z_pass, z_ret, z_retN, z_expr, z_asg, z_asgsw, z_asgtp, z_asgsub, z_asgfld, z_ifs, z_fors, z_brk, z_cont, z_trys, x_ct, x_cf, q_mp, q_opt, q_non, q_bl, q_int, q_str, q_var, q_ty, q_cls, q_gint, q_bin, q_neg, q_not, q_cmp, q_sub, q_slc, q_tup, q_lst, q_call, q_mk, q_bi, q_app, q_fld, q_meth, q_nil, q_cons, q_tnot, q_tbl, q_tvar, q_tcmp, q_tchain, q_tsub, q_tcall, q_tbi, q_tmeth, q_bool, q_rng1, q_slcn, q_slcY, z_tand, z_tor, z_and, z_or, z_ife, z_chain, b_max, b_min, b_abs, b_inti, b_intb, b_lent, sw2, sub_t0, sub_t1, o_add, o_sub, o_mul, o_fdiv, o_mod, o_pow, c_eqi, c_nei, c_eqs, c_nes, c_lt, c_le, c_gt, c_ge, c_isn, c_notn, isNon_n, isNon_i, Mi.Env.set, List.set_cons_zero, List.set_cons_succ, List.getElem?_cons_zero, List.getElem?_cons_succ, Option.getD_some, List.length_cons, List.length_nil, stepF_nm, Nat.reduceAdd, Nat.reduceLeDiff, q_iof, it_tup, sz_tup, sz_rg]
    refine newL_v (.cons vx (.cons w4 (.cons vx .nil))) (by simp; omega) (by simp) fun v5 h11 w5 F11 => ?_
    replace w1 := w1.fr0 F11
    replace w2 := w2.fr0 F11
    replace w3 := w3.fr0 F11
    replace vx := vx.fr0 F11
    replace vf := vf.fr0 F11
    replace B6 := B6.fr0 F11
    have n11 := F11.nx
    try simp only [y_ok, y_exc, y_bind, y_bnd, y_cnd, y_cndt, z_nx, z_rt, z_br, z_ct, z_ex, z_exb0, z_exb1, z_wnwn, z_wnnx, z_wnrt, z_wnbr, z_wnct, z_wnex, z_wxnx, z_wxrt, z_wxbr, z_wxct, z_wxex, z_wlnx, z_wlrt, z_wlbr, z_wlct, z_wlex, z_fnnx, z_fnrt, z_fnex, z_pass, z_ret, z_retN, z_expr, z_asg, z_asgsw, z_asgtp, z_asgsub, z_asgfld, z_ifs, z_fors, z_brk, z_cont, z_trys, x_ct, x_cf, q_mp, q_opt, q_non, q_bl, q_int, q_str, q_var, q_ty, q_cls, q_gint, q_bin, q_neg, q_not, q_cmp, q_sub, q_slc, q_tup, q_lst, q_call, q_mk, q_bi, q_app, q_fld, q_meth, q_nil, q_cons, q_tnot, q_tbl, q_tvar, q_tcmp, q_tchain, q_tsub, q_tcall, q_tbi, q_tmeth, q_bool, q_rng1, q_slcn, q_slcY, z_tand, z_tor, z_and, z_or, z_ife, z_chain, b_max, b_min, b_abs, b_inti, b_intb, b_lent, sw2, sub_t0, sub_t1, o_add, o_sub, o_mul, o_fdiv, o_mod, o_pow, c_eqi, c_nei, c_eqs, c_nes, c_lt, c_le, c_gt, c_ge, c_isn, c_notn, isNon_n, isNon_i, Mi.Env.set, List.set_cons_zero, List.set_cons_succ, List.getElem?_cons_zero, List.getElem?_cons_succ, Option.getD_some, List.length_cons, List.length_nil, stepF_nm, Nat.reduceAdd, Nat.reduceLeDiff, q_iof, it_tup, sz_tup, sz_rg]
    refine newL_v (S := [b]) (h := h11) (.cons (.int (-1)) .nil) (by simp; omega) (by simp) fun v6 h12 w6 F12 => ?_
    replace w1 := w1.fr0 F12
    replace w2 := w2.fr0 F12
    replace w3 := w3.fr0 F12
    replace w5 := w5.fr0 F12
    replace vx := vx.fr0 F12
    replace vf := vf.fr0 F12
    replace B6 := B6.fr0 F12
    have n12 := F12.nx
    try simp only [y_ok, y_exc, y_bind, y_bnd, y_cnd, y_cndt, z_nx, z_rt, z_br, z_ct, z_ex, z_exb0, z_exb1, z_wnwn, z_wnnx, z_wnrt, z_wnbr, z_wnct, z_wnex, z_wxnx, z_wxrt, z_wxbr, z_wxct, z_wxex, z_wlnx, z_wlrt, z_wlbr, z_wlct, z_wlex, z_fnnx, z_fnrt, z_fnex, z_pass, z_ret, z_retN, z_expr, z_asg, z_asgsw, z_asgtp, z_asgsub, z_asgfld, z_ifs, z_fors, z_brk, z_cont, z_trys, x_ct, x_cf, q_mp, q_opt, q_non, q_bl, q_int, q_str, q_var, q_ty, q_cls, q_gint, q_bin, q_neg, q_not, q_cmp, q_sub, q_slc, q_tup, q_lst, q_call, q_mk, q_bi, q_app, q_fld, q_meth, q_nil, q_cons, q_tnot, q_tbl, q_tvar, q_tcmp, q_tchain, q_tsub, q_tcall, q_tbi, q_tmeth, q_bool, q_rng1, q_slcn, q_slcY, z_tand, z_tor, z_and, z_or, z_ife, z_chain, b_max, b_min, b_abs, b_inti, b_intb, b_lent, sw2, sub_t0, sub_t1, o_add, o_sub, o_mul, o_fdiv, o_mod, o_pow, c_eqi, c_nei, c_eqs, c_nes, c_lt, c_le, c_gt, c_ge, c_isn, c_notn, isNon_n, isNon_i, Mi.Env.set, List.set_cons_zero, List.set_cons_succ, List.getElem?_cons_zero, List.getElem?_cons_succ, Option.getD_some, List.length_cons, List.length_nil, stepF_nm, Nat.reduceAdd, Nat.reduceLeDiff, q_iof, it_tup, sz_tup, sz_rg]
    refine newL_v (.cons vx (.cons (.int s) (.cons w6 .nil))) (by simp; omega) (by simp) fun v7 h13 w7 F13 => ?_
    replace w1 := w1.fr0 F13
    replace w2 := w2.fr0 F13
    replace w3 := w3.fr0 F13
    replace w5 := w5.fr0 F13
    replace vf := vf.fr0 F13
    replace B6 := B6.fr0 F13
    have n13 := F13.nx
    try simp only [y_ok, y_exc, y_bind, y_bnd, y_cnd, y_cndt, z_nx, z_rt, z_br, z_ct, z_ex, z_exb0, z_exb1, z_wnwn, z_wnnx, z_wnrt, z_wnbr, z_wnct, z_wnex, z_wxnx, z_wxrt, z_wxbr, z_wxct, z_wxex, z_wlnx, z_wlrt, z_wlbr, z_wlct, z_wlex, z_fnnx, z_fnrt, z_fnex, z_pass, z_ret, z_retN, z_expr, z_asg, z_asgsw, z_asgtp, z_asgsub, z_asgfld, z_ifs, z_fors, z_brk, z_cont, z_trys, x_ct, x_cf, q_mp, q_opt, q_non, q_bl, q_int, q_str, q_var, q_ty, q_cls, q_gint, q_bin, q_neg, q_not, q_cmp, q_sub, q_slc, q_tup, q_lst, q_call, q_mk, q_bi, q_app, q_fld, q_meth, q_nil, q_cons, q_tnot, q_tbl, q_tvar, q_tcmp, q_tchain, q_tsub, q_tcall, q_tbi, q_tmeth, q_bool, q_rng1, q_slcn, q_slcY, z_tand, z_tor, z_and, z_or, z_ife, z_chain, b_max, b_min, b_abs, b_inti, b_intb, b_lent, sw2, sub_t0, sub_t1, o_add, o_sub, o_mul, o_fdiv, o_mod, o_pow, c_eqi, c_nei, c_eqs, c_nes, c_lt, c_le, c_gt, c_ge, c_isn, c_notn, isNon_n, isNon_i, Mi.Env.set, List.set_cons_zero, List.set_cons_succ, List.getElem?_cons_zero, List.getElem?_cons_succ, Option.getD_some, List.length_cons, List.length_nil, stepF_nm, Nat.reduceAdd, Nat.reduceLeDiff, q_iof, it_tup, sz_tup, sz_rg]
    refine newL_v (.cons w1 (.cons w2 (.cons w3 (.cons w5 (.cons w7 .nil))))) (by simp; omega) (by simp) fun v8 h14 w8 F14 => ?_
    replace vf := vf.fr0 F14
    replace B6 := B6.fr0 F14
    have n14 := F14.nx
    try simp only [y_ok, y_exc, y_bind, y_bnd, y_cnd, y_cndt, z_nx, z_rt, z_br, z_ct, z_ex, z_exb0, z_exb1, z_wnwn, z_wnnx, z_wnrt, z_wnbr, z_wnct, z_wnex, z_wxnx, z_wxrt, z_wxbr, z_wxct, z_wxex, z_wlnx, z_wlrt, z_wlbr, z_wlct, z_wlex, z_fnnx, z_fnrt, z_fnex, z_pass, z_ret, z_retN, z_expr, z_asg, z_asgsw, z_asgtp, z_asgsub, z_asgfld, z_ifs, z_fors, z_brk, z_cont, z_trys, x_ct, x_cf, q_mp, q_opt, q_non, q_bl, q_int, q_str, q_var, q_ty, q_cls, q_gint, q_bin, q_neg, q_not, q_cmp, q_sub, q_slc, q_tup, q_lst, q_call, q_mk, q_bi, q_app, q_fld, q_meth, q_nil, q_cons, q_tnot, q_tbl, q_tvar, q_tcmp, q_tchain, q_tsub, q_tcall, q_tbi, q_tmeth, q_bool, q_rng1, q_slcn, q_slcY, z_tand, z_tor, z_and, z_or, z_ife, z_chain, b_max, b_min, b_abs, b_inti, b_intb, b_lent, sw2, sub_t0, sub_t1, o_add, o_sub, o_mul, o_fdiv, o_mod, o_pow, c_eqi, c_nei, c_eqs, c_nes, c_lt, c_le, c_gt, c_ge, c_isn, c_notn, isNon_n, isNon_i, Mi.Env.set, List.set_cons_zero, List.set_cons_succ, List.getElem?_cons_zero, List.getElem?_cons_succ, Option.getD_some, List.length_cons, List.length_nil, stepF_nm, Nat.reduceAdd, Nat.reduceLeDiff, q_iof, it_tup, sz_tup, sz_rg]
    refine add_v vf w8 (by simp; simp at hi; omega) (by simp; omega) fun v9 h15 w9 F15 => ?_
    replace B6 := B6.fr0 F15
    try simp only [y_ok, y_exc, y_bind, y_bnd, y_cnd, y_cndt, z_nx, z_rt, z_br, z_ct, z_ex, z_exb0, z_exb1, z_wnwn, z_wnnx, z_wnrt, z_wnbr, z_wnct, z_wnex, z_wxnx, z_wxrt, z_wxbr, z_wxct, z_wxex, z_wlnx, z_wlrt, z_wlbr, z_wlct, z_wlex, z_fnnx, z_fnrt, z_fnex, z_pass, z_ret, z_retN, z_expr, z_asg, z_asgsw, z_asgtp, z_asgsub, z_asgfld, z_ifs, z_fors, z_brk, z_cont, z_trys, x_ct, x_cf, q_mp, q_opt, q_non, q_bl, q_int, q_str, q_var, q_ty, q_cls, q_gint, q_bin, q_neg, q_not, q_cmp, q_sub, q_slc, q_tup, q_lst, q_call, q_mk, q_bi, q_app, q_fld, q_meth, q_nil, q_cons, q_tnot, q_tbl, q_tvar, q_tcmp, q_tchain, q_tsub, q_tcall, q_tbi, q_tmeth, q_bool, q_rng1, q_slcn, q_slcY, z_tand, z_tor, z_and, z_or, z_ife, z_chain, b_max, b_min, b_abs, b_inti, b_intb, b_lent, sw2, sub_t0, sub_t1, o_add, o_sub, o_mul, o_fdiv, o_mod, o_pow, c_eqi, c_nei, c_eqs, c_nes, c_lt, c_le, c_gt, c_ge, c_isn, c_notn, isNon_n, isNon_i, Mi.Env.set, List.set_cons_zero, List.set_cons_succ, List.getElem?_cons_zero, List.getElem?_cons_succ, Option.getD_some, List.length_cons, List.length_nil, stepF_nm, Nat.reduceAdd, Nat.reduceLeDiff, q_iof, it_tup, sz_tup, sz_rg]
    refine ⟨⟨_, _, _, rfl, w9, fun d hd => ?_, by simp; omega, B6⟩, ((((((((F7.trans F8).trans F9).trans F10).trans F11).trans F12).trans F13).trans F14).trans F15).up⟩
    rcases List.mem_append.mp hd with z | z
    · exact gd d z
    · simp at z
      rcases z with rfl | rfl | rfl | rfl | rfl
      · exact ⟨_, _, _, rfl, ad, aS, aC, md, mS⟩
      · exact ⟨_, _, _, rfl, aT, ad, aC, mT, md⟩
      · exact ⟨_, _, _, rfl, aT, aS, ad, mT, mS⟩
      · exact ⟨_, _, _, rfl, ad, arg_l1 (by omega), ad, md, mL _⟩
      · exact ⟨_, _, _, rfl, ad, aS, arg_l1 (by omega), md, mS⟩
  rintro _ h13 F13 ⟨fv, ds, o6, rfl, vf, gd, ln, B13⟩
  try simp only [y_ok, y_exc, y_bind, y_bnd, y_cnd, y_cndt, z_nx, z_rt, z_br, z_ct, z_ex, z_exb0, z_exb1, z_wnwn, z_wnnx, z_wnrt, z_wnbr, z_wnct, z_wnex, z_wxnx, z_wxrt, z_wxbr, z_wxct, z_wxex, z_wlnx, z_wlrt, z_wlbr, z_wlct, z_wlex, z_fnnx, z_fnrt, z_fnex, z_pass, z_ret, z_retN, z_expr, z_asg, z_asgsw, z_asgtp, z_asgsub, z_asgfld, z_ifs, z_fors, z_brk, z_cont, z_trys, x_ct, x_cf, q_mp, q_opt, q_non, q_bl, q_int, q_str, q_var, q_ty, q_cls, q_gint, q_bin, q_neg, q_not, q_cmp, q_sub, q_slc, q_tup, q_lst, q_call, q_mk, q_bi, q_app, q_fld, q_meth, q_nil, q_cons, q_tnot, q_tbl, q_tvar, q_tcmp, q_tchain, q_tsub, q_tcall, q_tbi, q_tmeth, q_bool, q_rng1, q_slcn, q_slcY, z_tand, z_tor, z_and, z_or, z_ife, z_chain, b_max, b_min, b_abs, b_inti, b_intb, b_lent, sw2, sub_t0, sub_t1, o_add, o_sub, o_mul, o_fdiv, o_mod, o_pow, c_eqi, c_nei, c_eqs, c_nes, c_lt, c_le, c_gt, c_ge, c_isn, c_notn, isNon_n, isNon_i, Mi.Env.set, List.set_cons_zero, List.set_cons_succ, List.getElem?_cons_zero, List.getElem?_cons_succ, Option.getD_some, List.length_cons, List.length_nil, stepF_nm, Nat.reduceAdd, Nat.reduceLeDiff, q_iof, it_tup, sz_tup, sz_rg]
  exact hQ _ _ ⟨ds, vf, gd, by simp at ln; omega, B13, ((K1.trans F.up).trans Fr.new).trans F13⟩
end Lw
end

section
namespace Lw
open Mi
open PySem (PyData)
/-! ### _law_grow, called while an exception is handled -/
theorem q_callA {T : Tab} {C : CallF} {me : Mi.Env} {h : MH} (f : PySem.Str) (es : MEs) (ks : List PySem.Str) (kes : MEs) (pm : List Nat) : evE T C me (.call f es ks kes pm) h = M.bind (evEs T C me es) (fun vs => M.bind (evEs T C me kes) fun ws => callM T C f vs ws pm) h := by simp only [evE]
theorem hot_w {T : Tab} {fi : FnI} {vs : List Mi.MV} {h : MH} {Q : Mi.MV → MH → Prop} {E : PySem.Str → Nat → MH → Prop} (me : Mi.Env) (b : MSs) (hl : vs.length = fi.np) (hm : ({ sl := vs.map some ++ List.replicate (fi.ns - fi.np) none, ex := some (fi.ns, 0) } : Mi.Env) = me) (hb : fi.body = b)
    (H : Wt (Po.fn Q (fun _ _ _ => False)) (exB T noCall b me h)) : Wr Q E (hotOf T fi vs h) := by
  subst hm hb
  unfold hotOf
  rw [if_pos hl]
  revert H
  cases exB T noCall fi.body { sl := vs.map some ++ List.replicate (fi.ns - fi.np) none, ex := some (fi.ns, 0) } h with
  | ok f h => cases f <;> first | exact id | exact False.elim
  | exc => exact False.elim
  | stuck => exact id
theorem grow_eq {S : List Nat} {h : MH} {a : Nat} {x y z : Mi.MV} {dx dy dz : PyData} (t : Three S h x y z dx dy dz) (A : At h a (.lst [x, y, z])) : τ.tab.hc f_law_grow [.ref a] h = .ok .non (grw z (grw y (grw x h))) := by
  obtain ⟨vx, vy, vz, ox, oy, oz, xy, xz, yz⟩ := t
  have nx := ne_args vx ox A (by simp)
  have ny := ne_args vy oy A (by simp)
  have nz := ne_args vz oz A (by simp)
  have A1 := grw_at (v := x) A nx
  have A2 := grw_at (v := y) A1 ny
  have A3 := grw_at (v := z) A2 nz
  have vy1 := grw_oth (w := x) vy (.inl oy) (fun n e z => xy n z e)
  have vz1 := grw_oth (w := x) vz (.inl oz) (fun n e z => xz n z e)
  have vz2 := grw_oth (w := y) vz1 (.inl oz) (fun n e z => yz n z e)
  show hotOf τ.tab0 f_law_grow [.ref a] h = _
  refine eq_of_wr ?_
  refine hot_w { sl := [some (.ref a), none], ex := some (2, 0) } body_law_grow rfl rfl rfl ?_
  unfold body_law_grow
  try simp only [y_ok, y_exc, y_bind, y_bnd, y_cnd, y_cndt, z_nx, z_rt, z_br, z_ct, z_ex, z_exb0, z_exb1, z_wnwn, z_wnnx, z_wnrt, z_wnbr, z_wnct, z_wnex, z_wxnx, z_wxrt, z_wxbr, z_wxct, z_wxex, z_wlnx, z_wlrt, z_wlbr, z_wlct, z_wlex, z_fnnx, z_fnrt, z_fnex, z_pass, z_ret, z_retN, z_expr, z_asg, z_asgsw, z_asgtp, z_asgsub, z_asgfld, z_ifs, z_fors, z_brk, z_cont, z_trys, x_ct, x_cf, q_mp, q_opt, q_non, q_bl, q_int, q_str, q_var, q_ty, q_cls, q_gint, q_bin, q_neg, q_not, q_cmp, q_sub, q_slc, q_tup, q_lst, q_call, q_mk, q_bi, q_app, q_fld, q_meth, q_nil, q_cons, q_tnot, q_tbl, q_tvar, q_tcmp, q_tchain, q_tsub, q_tcall, q_tbi, q_tmeth, q_bool, q_rng1, q_slcn, q_slcY, z_tand, z_tor, z_and, z_or, z_ife, z_chain, b_max, b_min, b_abs, b_inti, b_intb, b_lent, sw2, sub_t0, sub_t1, o_add, o_sub, o_mul, o_fdiv, o_mod, o_pow, c_eqi, c_nei, c_eqs, c_nes, c_lt, c_le, c_gt, c_ge, c_isn, c_notn, isNon_n, isNon_i, Mi.Env.set, List.set_cons_zero, List.set_cons_succ, List.getElem?_cons_zero, List.getElem?_cons_succ, Option.getD_some, List.length_cons, List.length_nil, stepF_nm, Nat.reduceAdd, Nat.reduceLeDiff, q_iof, it_tup, sz_tup, sz_rg]
  refine fors_h rfl (by decide) (by try simp only [y_ok, y_exc, y_bind, y_bnd, y_cnd, y_cndt, z_nx, z_rt, z_br, z_ct, z_ex, z_exb0, z_exb1, z_wnwn, z_wnnx, z_wnrt, z_wnbr, z_wnct, z_wnex, z_wxnx, z_wxrt, z_wxbr, z_wxct, z_wxex, z_wlnx, z_wlrt, z_wlbr, z_wlct, z_wlex, z_fnnx, z_fnrt, z_fnex, z_pass, z_ret, z_retN, z_expr, z_asg, z_asgsw, z_asgtp, z_asgsub, z_asgfld, z_ifs, z_fors, z_brk, z_cont, z_trys, x_ct, x_cf, q_mp, q_opt, q_non, q_bl, q_int, q_str, q_var, q_ty, q_cls, q_gint, q_bin, q_neg, q_not, q_cmp, q_sub, q_slc, q_tup, q_lst, q_call, q_mk, q_bi, q_app, q_fld, q_meth, q_nil, q_cons, q_tnot, q_tbl, q_tvar, q_tcmp, q_tchain, q_tsub, q_tcall, q_tbi, q_tmeth, q_bool, q_rng1, q_slcn, q_slcY, z_tand, z_tor, z_and, z_or, z_ife, z_chain, b_max, b_min, b_abs, b_inti, b_intb, b_lent, sw2, sub_t0, sub_t1, o_add, o_sub, o_mul, o_fdiv, o_mod, o_pow, c_eqi, c_nei, c_eqs, c_nes, c_lt, c_le, c_gt, c_ge, c_isn, c_notn, isNon_n, isNon_i, Mi.Env.set, List.set_cons_zero, List.set_cons_succ, List.getElem?_cons_zero, List.getElem?_cons_succ, Option.getD_some, List.length_cons, List.length_nil, stepF_nm, Nat.reduceAdd, Nat.reduceLeDiff, q_iof, it_tup, sz_tup, sz_rg]) A ?_
  refine forL_1 (at_lst A) ?_
  rw [stepF_nm]
  refine grow_turn rfl vx ox rfl ?_
  try simp only [y_ok, y_exc, y_bind, y_bnd, y_cnd, y_cndt, z_nx, z_rt, z_br, z_ct, z_ex, z_exb0, z_exb1, z_wnwn, z_wnnx, z_wnrt, z_wnbr, z_wnct, z_wnex, z_wxnx, z_wxrt, z_wxbr, z_wxct, z_wxex, z_wlnx, z_wlrt, z_wlbr, z_wlct, z_wlex, z_fnnx, z_fnrt, z_fnex, z_pass, z_ret, z_retN, z_expr, z_asg, z_asgsw, z_asgtp, z_asgsub, z_asgfld, z_ifs, z_fors, z_brk, z_cont, z_trys, x_ct, x_cf, q_mp, q_opt, q_non, q_bl, q_int, q_str, q_var, q_ty, q_cls, q_gint, q_bin, q_neg, q_not, q_cmp, q_sub, q_slc, q_tup, q_lst, q_call, q_mk, q_bi, q_app, q_fld, q_meth, q_nil, q_cons, q_tnot, q_tbl, q_tvar, q_tcmp, q_tchain, q_tsub, q_tcall, q_tbi, q_tmeth, q_bool, q_rng1, q_slcn, q_slcY, z_tand, z_tor, z_and, z_or, z_ife, z_chain, b_max, b_min, b_abs, b_inti, b_intb, b_lent, sw2, sub_t0, sub_t1, o_add, o_sub, o_mul, o_fdiv, o_mod, o_pow, c_eqi, c_nei, c_eqs, c_nes, c_lt, c_le, c_gt, c_ge, c_isn, c_notn, isNon_n, isNon_i, Mi.Env.set, List.set_cons_zero, List.set_cons_succ, List.getElem?_cons_zero, List.getElem?_cons_succ, Option.getD_some, List.length_cons, List.length_nil, stepF_nm, Nat.reduceAdd, Nat.reduceLeDiff, q_iof, it_tup, sz_tup, sz_rg]
  refine forL_1 (at_lst A1) ?_
  rw [stepF_nm]
  refine grow_turn rfl vy1 oy rfl ?_
  try simp only [y_ok, y_exc, y_bind, y_bnd, y_cnd, y_cndt, z_nx, z_rt, z_br, z_ct, z_ex, z_exb0, z_exb1, z_wnwn, z_wnnx, z_wnrt, z_wnbr, z_wnct, z_wnex, z_wxnx, z_wxrt, z_wxbr, z_wxct, z_wxex, z_wlnx, z_wlrt, z_wlbr, z_wlct, z_wlex, z_fnnx, z_fnrt, z_fnex, z_pass, z_ret, z_retN, z_expr, z_asg, z_asgsw, z_asgtp, z_asgsub, z_asgfld, z_ifs, z_fors, z_brk, z_cont, z_trys, x_ct, x_cf, q_mp, q_opt, q_non, q_bl, q_int, q_str, q_var, q_ty, q_cls, q_gint, q_bin, q_neg, q_not, q_cmp, q_sub, q_slc, q_tup, q_lst, q_call, q_mk, q_bi, q_app, q_fld, q_meth, q_nil, q_cons, q_tnot, q_tbl, q_tvar, q_tcmp, q_tchain, q_tsub, q_tcall, q_tbi, q_tmeth, q_bool, q_rng1, q_slcn, q_slcY, z_tand, z_tor, z_and, z_or, z_ife, z_chain, b_max, b_min, b_abs, b_inti, b_intb, b_lent, sw2, sub_t0, sub_t1, o_add, o_sub, o_mul, o_fdiv, o_mod, o_pow, c_eqi, c_nei, c_eqs, c_nes, c_lt, c_le, c_gt, c_ge, c_isn, c_notn, isNon_n, isNon_i, Mi.Env.set, List.set_cons_zero, List.set_cons_succ, List.getElem?_cons_zero, List.getElem?_cons_succ, Option.getD_some, List.length_cons, List.length_nil, stepF_nm, Nat.reduceAdd, Nat.reduceLeDiff, q_iof, it_tup, sz_tup, sz_rg]
  refine forL_1 (at_lst A2) ?_
  rw [stepF_nm]
  refine grow_turn rfl vz2 oz rfl ?_
  try simp only [y_ok, y_exc, y_bind, y_bnd, y_cnd, y_cndt, z_nx, z_rt, z_br, z_ct, z_ex, z_exb0, z_exb1, z_wnwn, z_wnnx, z_wnrt, z_wnbr, z_wnct, z_wnex, z_wxnx, z_wxrt, z_wxbr, z_wxct, z_wxex, z_wlnx, z_wlrt, z_wlbr, z_wlct, z_wlex, z_fnnx, z_fnrt, z_fnex, z_pass, z_ret, z_retN, z_expr, z_asg, z_asgsw, z_asgtp, z_asgsub, z_asgfld, z_ifs, z_fors, z_brk, z_cont, z_trys, x_ct, x_cf, q_mp, q_opt, q_non, q_bl, q_int, q_str, q_var, q_ty, q_cls, q_gint, q_bin, q_neg, q_not, q_cmp, q_sub, q_slc, q_tup, q_lst, q_call, q_mk, q_bi, q_app, q_fld, q_meth, q_nil, q_cons, q_tnot, q_tbl, q_tvar, q_tcmp, q_tchain, q_tsub, q_tcall, q_tbi, q_tmeth, q_bool, q_rng1, q_slcn, q_slcY, z_tand, z_tor, z_and, z_or, z_ife, z_chain, b_max, b_min, b_abs, b_inti, b_intb, b_lent, sw2, sub_t0, sub_t1, o_add, o_sub, o_mul, o_fdiv, o_mod, o_pow, c_eqi, c_nei, c_eqs, c_nes, c_lt, c_le, c_gt, c_ge, c_isn, c_notn, isNon_n, isNon_i, Mi.Env.set, List.set_cons_zero, List.set_cons_succ, List.getElem?_cons_zero, List.getElem?_cons_succ, Option.getD_some, List.length_cons, List.length_nil, stepF_nm, Nat.reduceAdd, Nat.reduceLeDiff, q_iof, it_tup, sz_tup, sz_rg]
  rw [forL_0 (at_lst A3)]
  try simp only [y_ok, y_exc, y_bind, y_bnd, y_cnd, y_cndt, z_nx, z_rt, z_br, z_ct, z_ex, z_exb0, z_exb1, z_wnwn, z_wnnx, z_wnrt, z_wnbr, z_wnct, z_wnex, z_wxnx, z_wxrt, z_wxbr, z_wxct, z_wxex, z_wlnx, z_wlrt, z_wlbr, z_wlct, z_wlex, z_fnnx, z_fnrt, z_fnex, z_pass, z_ret, z_retN, z_expr, z_asg, z_asgsw, z_asgtp, z_asgsub, z_asgfld, z_ifs, z_fors, z_brk, z_cont, z_trys, x_ct, x_cf, q_mp, q_opt, q_non, q_bl, q_int, q_str, q_var, q_ty, q_cls, q_gint, q_bin, q_neg, q_not, q_cmp, q_sub, q_slc, q_tup, q_lst, q_call, q_mk, q_bi, q_app, q_fld, q_meth, q_nil, q_cons, q_tnot, q_tbl, q_tvar, q_tcmp, q_tchain, q_tsub, q_tcall, q_tbi, q_tmeth, q_bool, q_rng1, q_slcn, q_slcY, z_tand, z_tor, z_and, z_or, z_ife, z_chain, b_max, b_min, b_abs, b_inti, b_intb, b_lent, sw2, sub_t0, sub_t1, o_add, o_sub, o_mul, o_fdiv, o_mod, o_pow, c_eqi, c_nei, c_eqs, c_nes, c_lt, c_le, c_gt, c_ge, c_isn, c_notn, isNon_n, isNon_i, Mi.Env.set, List.set_cons_zero, List.set_cons_succ, List.getElem?_cons_zero, List.getElem?_cons_succ, Option.getD_some, List.length_cons, List.length_nil, stepF_nm, Nat.reduceAdd, Nat.reduceLeDiff, q_iof, it_tup, sz_tup, sz_rg]
  first | exact ⟨rfl, rfl⟩ | trivial
/-- what grew -/
theorem Three.grown {S : List Nat} {h : MH} {x y z : Mi.MV} {dx dy dz : PyData} (t : Three S h x y z dx dy dz) : V S (grw z (grw y (grw x h))) x (grown dx) ∧ V S (grw z (grw y (grw x h))) y (grown dy) ∧ V S (grw z (grw y (grw x h))) z (grown dz) := by
  obtain ⟨vx, vy, vz, ox, oy, oz, xy, xz, yz⟩ := t
  have vy1 := grw_oth (w := x) vy (.inl oy) (fun n e z => xy n z e)
  have vz1 := grw_oth (w := x) vz (.inl oz) (fun n e z => xz n z e)
  have vz2 := grw_oth (w := y) vz1 (.inl oz) (fun n e z => yz n z e)
  exact ⟨grw_oth (w := z) (grw_oth (w := y) (grw_self vx ox) (.inr ⟨_, ox, rfl⟩) xy) (.inr ⟨_, ox, rfl⟩) xz, grw_oth (w := z) (grw_self vy1 oy) (.inr ⟨_, oy, rfl⟩) yz, grw_self vz2 oz⟩
theorem Three.gfr {S : List Nat} {h : MH} {x y z : Mi.MV} {dx dy dz : PyData} (t : Three S h x y z dx dy dz) : Fr (refs [x, y, z]) h (grw z (grw y (grw x h))) := ((grw_fr x (by simp)).trans (grw_fr y (by simp))).trans (grw_fr z (by simp))
def bSuite (fl wd : PySem.Str) : MSs := .cons (.expr (.call "_law_grow" (.cons (.var 1) .nil) [] .nil [])) (.cons (.ret (.lst (.cons (.str wd) (.cons (.bi .repr (.cons (.efld 6 fl) .nil)) .nil)))) .nil)
theorem c_grow {C : CallF} {h : MH} (x : Mi.MV) : callM τ.tab C "_law_grow" [x] [] [] h = C f_law_grow [x] h := x_callM tfn_law_grow (by simp [argsOf, fnp_law_grow])
theorem suite_w {P : Po} {S : List Nat} {h : MH} {fl wd c : PySem.Str} {a k w0 z0 : Nat} {x y z w : Mi.MV} {dx dy dz dw : PyData} {v0 v2 : Option Mi.MV} (t : Three S h x y z dx dy dz) (A : At h a (.lst [x, y, z])) (K : At h k (.exc c [(fl, w)])) (hf : τ.tab.xat fl = true) (hw : V S (grw z (grw y (grw x h))) w dw) (sw : Sh dw w0 z0) (hw0 : w0 ≤ 3000) (hz0 : z0 ≤ 1000)
    (H : ∀ m h', h.next ≤ m → At h' m (.lst [.str wd, .str dw.shown]) → Fr (refs [x, y, z]) h h' → P.rt (.ref m) h') :
    Wt P (exB τ.tab τ.tab.hc (bSuite fl wd) { sl := [v0, some (.ref a), v2, some x, some y, some z, none], ex := some (6, k) } h) := by
  have kx := ne_obj t.vx K (by simp)
  have ky := ne_obj t.vy K (by simp)
  have kz := ne_obj t.vz K (by simp)
  have K3 := grw_at (v := z) (grw_at (v := y) (grw_at (v := x) K kx) ky) kz
  have F3 := t.gfr
  unfold bSuite
  try simp only [y_ok, y_exc, y_bind, y_bnd, y_cnd, y_cndt, z_nx, z_rt, z_br, z_ct, z_ex, z_exb0, z_exb1, z_wnwn, z_wnnx, z_wnrt, z_wnbr, z_wnct, z_wnex, z_wxnx, z_wxrt, z_wxbr, z_wxct, z_wxex, z_wlnx, z_wlrt, z_wlbr, z_wlct, z_wlex, z_fnnx, z_fnrt, z_fnex, z_pass, z_ret, z_retN, z_expr, z_asg, z_asgsw, z_asgtp, z_asgsub, z_asgfld, z_ifs, z_fors, z_brk, z_cont, z_trys, x_ct, x_cf, q_mp, q_opt, q_non, q_bl, q_int, q_str, q_var, q_ty, q_cls, q_gint, q_bin, q_neg, q_not, q_cmp, q_sub, q_slc, q_tup, q_lst, q_call, q_mk, q_bi, q_app, q_fld, q_meth, q_nil, q_cons, q_tnot, q_tbl, q_tvar, q_tcmp, q_tchain, q_tsub, q_tcall, q_tbi, q_tmeth, q_bool, q_rng1, q_slcn, q_slcY, z_tand, z_tor, z_and, z_or, z_ife, z_chain, b_max, b_min, b_abs, b_inti, b_intb, b_lent, sw2, sub_t0, sub_t1, o_add, o_sub, o_mul, o_fdiv, o_mod, o_pow, c_eqi, c_nei, c_eqs, c_nes, c_lt, c_le, c_gt, c_ge, c_isn, c_notn, isNon_n, isNon_i, Mi.Env.set, List.set_cons_zero, List.set_cons_succ, List.getElem?_cons_zero, List.getElem?_cons_succ, Option.getD_some, List.length_cons, List.length_nil, stepF_nm, Nat.reduceAdd, Nat.reduceLeDiff, q_iof, it_tup, sz_tup, sz_rg, q_callA, c_grow, grow_eq t A]
  have eb : ∀ {me : Mi.Env} {h : MH} es, evE τ.tab τ.tab.hc me (.bi .repr es) h = M.bind (evEs τ.tab τ.tab.hc me es) (fun vs => biM τ.tab .repr vs) h := fun es => q_bih .repr es rfl
  have ee := q_efld (T := τ.tab) (C := τ.tab.hc) (me := { sl := [v0, some (.ref a), v2, some x, some y, some z, none], ex := some (6, k) }) (f := fl) rfl (by simp) hf K3.get (v := w) (by simp [List.lookup_cons])
  try simp only [y_ok, y_exc, y_bind, y_bnd, y_cnd, y_cndt, z_nx, z_rt, z_br, z_ct, z_ex, z_exb0, z_exb1, z_wnwn, z_wnnx, z_wnrt, z_wnbr, z_wnct, z_wnex, z_wxnx, z_wxrt, z_wxbr, z_wxct, z_wxex, z_wlnx, z_wlrt, z_wlbr, z_wlct, z_wlex, z_fnnx, z_fnrt, z_fnex, z_pass, z_ret, z_retN, z_expr, z_asg, z_asgsw, z_asgtp, z_asgsub, z_asgfld, z_ifs, z_fors, z_brk, z_cont, z_trys, x_ct, x_cf, q_mp, q_opt, q_non, q_bl, q_int, q_str, q_var, q_ty, q_cls, q_gint, q_bin, q_neg, q_not, q_cmp, q_sub, q_slc, q_tup, q_lst, q_call, q_mk, q_bi, q_app, q_fld, q_meth, q_nil, q_cons, q_tnot, q_tbl, q_tvar, q_tcmp, q_tchain, q_tsub, q_tcall, q_tbi, q_tmeth, q_bool, q_rng1, q_slcn, q_slcY, z_tand, z_tor, z_and, z_or, z_ife, z_chain, b_max, b_min, b_abs, b_inti, b_intb, b_lent, sw2, sub_t0, sub_t1, o_add, o_sub, o_mul, o_fdiv, o_mod, o_pow, c_eqi, c_nei, c_eqs, c_nes, c_lt, c_le, c_gt, c_ge, c_isn, c_notn, isNon_n, isNon_i, Mi.Env.set, List.set_cons_zero, List.set_cons_succ, List.getElem?_cons_zero, List.getElem?_cons_succ, Option.getD_some, List.length_cons, List.length_nil, x_newL, stepF_nm, Nat.reduceAdd, Nat.reduceLeDiff, q_iof, it_tup, sz_tup, sz_rg, eb, ee, hw.rep sw hw0 hz0]
  exact H _ _ F3.nx At.new (F3.trans Fr.new)
end Lw
end

section
namespace Lw
open Mi
open PySem (PyData)
/-! ### _law_call -/
def hs21 : MHs := .cons "InvalidWindow" 6 (bSuite "given" "window") (.cons "InvalidTime" 6 (bSuite "given" "time") (.cons "Gone" 6 (.cons (.ret (.lst (.cons (.str "gone") (.cons (.bi .repr (.cons (.lst (.cons (.efld 6 "time") (.cons (.efld 6 "grain") .nil))) .nil)) .nil)))) .nil) .nil))
theorem wOk_ex {S : List Nat} {h : MH} {x y : Mi.MV} {dx dy : PyData} (vx : V S h x dx) (vy : V S h y dy) (ox : argOk dx) (oy : argOk dy) (e : wOk x y = true) : ∃ a s : Int, x = .int a ∧ y = .int s ∧ 0 ≤ a ∧ 0 < s ∧ a < 10 ^ 24 ∧ s < 10 ^ 24 := by
  unfold wOk at e
  rw [Bool.and_eq_true, Bool.and_eq_true] at e
  obtain ⟨e1, e2, e3⟩ := e
  obtain ⟨a, rfl, a0⟩ := cnt_ex e1
  obtain ⟨s, rfl, s0⟩ := cnt_ex e2
  cases vx
  cases vy
  have h1 := ox.num _ rfl
  have h2 := oy.num _ rfl
  have e4 : s ≠ 0 := of_decide_eq_true e3
  refine ⟨a, s, rfl, rfl, a0, ?_, ?_, ?_⟩
  · omega
  · omega
  · omega
section
variable {n r a : Nat} {h : MH} {S : List Nat} {R : List (Int × Option Int)} {way : Int} {x y z : Mi.MV} {dx dy dz : PyData}
theorem call_w (hr : isRA h r R) (t : Three S h x y z dx dy dz) (A : At h a (.lst [x, y, z])) (hv : wOk x y = false) :
    Sp (Mi.run τ.tab (n+9) f_law_call [.ref r, .ref a, .int way] h) (fun v h' => ∃ m, v = .ref m ∧ h.next ≤ m ∧ At h' m (.lst [.str "window", .str (PyData.tuple [grown dx, grown dy]).shown]) ∧ Fr (refs [x, y, z]) h h') := by
  have okx := t.vx.okv
  have oky := t.vy.okv
  refine Sp_for fun Q E hQ => ?_
  refine (run_w { sl := [some (.ref r), some (.ref a), some (.int way), none, none, none, none], ex := none } body_law_call rfl rfl rfl ?_)
  have ref : ∀ P' : Po, P'.rt = Q → Wt P' (exH τ.tab hs21 "InvalidWindow" h.next { sl := [some (.ref r), some (.ref a), some (.int way), some x, some y, some z, none], ex := none } (h.new (.exc "InvalidWindow" [("given", .tup [x, y])]))) := fun P' hP => by
    refine z_h1 tsub_InvalidWindow_InvalidWindow (by rw [txf_InvalidWindow]; rfl) (by simp) ?_
    have t' := t.fr (Fr.new (S := S) (o := .exc "InvalidWindow" [("given", .tup [x, y])]))
    obtain ⟨g1, g2, g3⟩ := t'.grown
    refine suite_w t' (A.fr0 Fr.new) At.new txa_given (.tup (.cons g1 (.cons g2 .nil))) (sh_tup (shs_cons t.ox.sh (shs_cons t.oy.sh shs_nil))) (by omega) (by omega) fun m h' hm Am F => ?_
    show P'.rt _ _
    rw [hP]
    exact hQ _ _ ⟨m, rfl, Nat.le_trans (Nat.le_succ _) hm, Am, Fr.new.trans F⟩
  have e := pc_w (n := n) (z := z) hr okx oky hv
  unfold body_law_call
  try simp only [y_ok, y_exc, y_bind, y_bnd, y_cnd, y_cndt, z_nx, z_rt, z_br, z_ct, z_ex, z_exb0, z_exb1, z_wnwn, z_wnnx, z_wnrt, z_wnbr, z_wnct, z_wnex, z_wxnx, z_wxrt, z_wxbr, z_wxct, z_wxex, z_wlnx, z_wlrt, z_wlbr, z_wlct, z_wlex, z_fnnx, z_fnrt, z_fnex, z_pass, z_ret, z_retN, z_expr, z_asg, z_asgsw, z_asgtp, z_asgsub, z_asgfld, z_ifs, z_fors, z_brk, z_cont, z_trys, x_ct, x_cf, q_mp, q_opt, q_non, q_bl, q_int, q_str, q_var, q_ty, q_cls, q_gint, q_bin, q_neg, q_not, q_cmp, q_sub, q_slc, q_tup, q_lst, q_call, q_mk, q_bi, q_app, q_fld, q_meth, q_nil, q_cons, q_tnot, q_tbl, q_tvar, q_tcmp, q_tchain, q_tsub, q_tcall, q_tbi, q_tmeth, q_bool, q_rng1, q_slcn, q_slcY, z_tand, z_tor, z_and, z_or, z_ife, z_chain, b_max, b_min, b_abs, b_inti, b_intb, b_lent, sw2, sub_t0, sub_t1, o_add, o_sub, o_mul, o_fdiv, o_mod, o_pow, c_eqi, c_nei, c_eqs, c_nes, c_lt, c_le, c_gt, c_ge, c_isn, c_notn, isNon_n, isNon_i, Mi.Env.set, List.set_cons_zero, List.set_cons_succ, List.getElem?_cons_zero, List.getElem?_cons_succ, Option.getD_some, List.length_cons, List.length_nil, stepF_nm, Nat.reduceAdd, Nat.reduceLeDiff, q_iof, it_tup, sz_tup, sz_rg, tp3 A, decide_true]
  refine cnd_d (fun hw => ?_) (fun hw => ?_)
  all_goals
    try simp only [y_ok, y_exc, y_bind, y_bnd, y_cnd, y_cndt, z_nx, z_rt, z_br, z_ct, z_ex, z_exb0, z_exb1, z_wnwn, z_wnnx, z_wnrt, z_wnbr, z_wnct, z_wnex, z_wxnx, z_wxrt, z_wxbr, z_wxct, z_wxex, z_wlnx, z_wlrt, z_wlbr, z_wlct, z_wlex, z_fnnx, z_fnrt, z_fnex, z_pass, z_ret, z_retN, z_expr, z_asg, z_asgsw, z_asgtp, z_asgsub, z_asgfld, z_ifs, z_fors, z_brk, z_cont, z_trys, x_ct, x_cf, q_mp, q_opt, q_non, q_bl, q_int, q_str, q_var, q_ty, q_cls, q_gint, q_bin, q_neg, q_not, q_cmp, q_sub, q_slc, q_tup, q_lst, q_call, q_mk, q_bi, q_app, q_fld, q_meth, q_nil, q_cons, q_tnot, q_tbl, q_tvar, q_tcmp, q_tchain, q_tsub, q_tcall, q_tbi, q_tmeth, q_bool, q_rng1, q_slcn, q_slcY, z_tand, z_tor, z_and, z_or, z_ife, z_chain, b_max, b_min, b_abs, b_inti, b_intb, b_lent, sw2, sub_t0, sub_t1, o_add, o_sub, o_mul, o_fdiv, o_mod, o_pow, c_eqi, c_nei, c_eqs, c_nes, c_lt, c_le, c_gt, c_ge, c_isn, c_notn, isNon_n, isNon_i, Mi.Env.set, List.set_cons_zero, List.set_cons_succ, List.getElem?_cons_zero, List.getElem?_cons_succ, Option.getD_some, List.length_cons, List.length_nil, stepF_nm, Nat.reduceAdd, Nat.reduceLeDiff, q_iof, it_tup, sz_tup, sz_rg, x_methM hr.get (lk_pc _) tme_Rules_pieces, fnp_Rules_pieces, ar4, ak4, e, noW]
    exact ref _ rfl
theorem call_t (hr : isRA h r R) (t : Three S h x y z dx dy dz) (A : At h a (.lst [x, y, z])) (hv : wOk x y = true) (hz : cnt z = false) :
    Sp (Mi.run τ.tab (n+9) f_law_call [.ref r, .ref a, .int way] h) (fun v h' => ∃ m, v = .ref m ∧ h.next ≤ m ∧ At h' m (.lst [.str "time", .str (grown dz).shown]) ∧ Fr (refs [x, y, z]) h h') := by
  have okx := t.vx.okv
  have oky := t.vy.okv
  have okz := t.vz.okv
  refine Sp_for fun Q E hQ => ?_
  refine (run_w { sl := [some (.ref r), some (.ref a), some (.int way), none, none, none, none], ex := none } body_law_call rfl rfl rfl ?_)
  have ref : ∀ P' : Po, P'.rt = Q → Wt P' (exH τ.tab hs21 "InvalidTime" h.next { sl := [some (.ref r), some (.ref a), some (.int way), some x, some y, some z, none], ex := none } (h.new (.exc "InvalidTime" [("given", z)]))) := fun P' hP => by
    unfold hs21
    rw [z_h2 tsub_InvalidTime_InvalidWindow]
    refine z_h1 tsub_InvalidTime_InvalidTime (by rw [txf_InvalidTime]; rfl) (by simp) ?_
    have t' := t.fr (Fr.new (S := S) (o := .exc "InvalidTime" [("given", z)]))
    obtain ⟨g1, g2, g3⟩ := t'.grown
    refine suite_w t' (A.fr0 Fr.new) At.new txa_given g3 t.oz.sh (by omega) (by omega) fun m h' hm Am F => ?_
    show P'.rt _ _
    rw [hP]
    exact hQ _ _ ⟨m, rfl, Nat.le_trans (Nat.le_succ _) hm, Am, Fr.new.trans F⟩
  have e := pc_t (n := n) hr okx oky okz hv hz
  unfold body_law_call
  try simp only [y_ok, y_exc, y_bind, y_bnd, y_cnd, y_cndt, z_nx, z_rt, z_br, z_ct, z_ex, z_exb0, z_exb1, z_wnwn, z_wnnx, z_wnrt, z_wnbr, z_wnct, z_wnex, z_wxnx, z_wxrt, z_wxbr, z_wxct, z_wxex, z_wlnx, z_wlrt, z_wlbr, z_wlct, z_wlex, z_fnnx, z_fnrt, z_fnex, z_pass, z_ret, z_retN, z_expr, z_asg, z_asgsw, z_asgtp, z_asgsub, z_asgfld, z_ifs, z_fors, z_brk, z_cont, z_trys, x_ct, x_cf, q_mp, q_opt, q_non, q_bl, q_int, q_str, q_var, q_ty, q_cls, q_gint, q_bin, q_neg, q_not, q_cmp, q_sub, q_slc, q_tup, q_lst, q_call, q_mk, q_bi, q_app, q_fld, q_meth, q_nil, q_cons, q_tnot, q_tbl, q_tvar, q_tcmp, q_tchain, q_tsub, q_tcall, q_tbi, q_tmeth, q_bool, q_rng1, q_slcn, q_slcY, z_tand, z_tor, z_and, z_or, z_ife, z_chain, b_max, b_min, b_abs, b_inti, b_intb, b_lent, sw2, sub_t0, sub_t1, o_add, o_sub, o_mul, o_fdiv, o_mod, o_pow, c_eqi, c_nei, c_eqs, c_nes, c_lt, c_le, c_gt, c_ge, c_isn, c_notn, isNon_n, isNon_i, Mi.Env.set, List.set_cons_zero, List.set_cons_succ, List.getElem?_cons_zero, List.getElem?_cons_succ, Option.getD_some, List.length_cons, List.length_nil, stepF_nm, Nat.reduceAdd, Nat.reduceLeDiff, q_iof, it_tup, sz_tup, sz_rg, tp3 A, decide_true]
  refine cnd_d (fun hw => ?_) (fun hw => ?_)
  all_goals
    try simp only [y_ok, y_exc, y_bind, y_bnd, y_cnd, y_cndt, z_nx, z_rt, z_br, z_ct, z_ex, z_exb0, z_exb1, z_wnwn, z_wnnx, z_wnrt, z_wnbr, z_wnct, z_wnex, z_wxnx, z_wxrt, z_wxbr, z_wxct, z_wxex, z_wlnx, z_wlrt, z_wlbr, z_wlct, z_wlex, z_fnnx, z_fnrt, z_fnex, z_pass, z_ret, z_retN, z_expr, z_asg, z_asgsw, z_asgtp, z_asgsub, z_asgfld, z_ifs, z_fors, z_brk, z_cont, z_trys, x_ct, x_cf, q_mp, q_opt, q_non, q_bl, q_int, q_str, q_var, q_ty, q_cls, q_gint, q_bin, q_neg, q_not, q_cmp, q_sub, q_slc, q_tup, q_lst, q_call, q_mk, q_bi, q_app, q_fld, q_meth, q_nil, q_cons, q_tnot, q_tbl, q_tvar, q_tcmp, q_tchain, q_tsub, q_tcall, q_tbi, q_tmeth, q_bool, q_rng1, q_slcn, q_slcY, z_tand, z_tor, z_and, z_or, z_ife, z_chain, b_max, b_min, b_abs, b_inti, b_intb, b_lent, sw2, sub_t0, sub_t1, o_add, o_sub, o_mul, o_fdiv, o_mod, o_pow, c_eqi, c_nei, c_eqs, c_nes, c_lt, c_le, c_gt, c_ge, c_isn, c_notn, isNon_n, isNon_i, Mi.Env.set, List.set_cons_zero, List.set_cons_succ, List.getElem?_cons_zero, List.getElem?_cons_succ, Option.getD_some, List.length_cons, List.length_nil, stepF_nm, Nat.reduceAdd, Nat.reduceLeDiff, q_iof, it_tup, sz_tup, sz_rg, x_methM hr.get (lk_pc _) tme_Rules_pieces, fnp_Rules_pieces, ar4, ak4, e, noT]
    exact ref _ rfl
theorem call_g {i s c : Int} (g : GR R) (hr : isRA h r R) (A : At h a (.lst [.int i, .int s, .int c])) (i0 : 0 ≤ i) (s0 : 0 < s) (c0 : 0 ≤ c) (i1 : i < 10 ^ 24) (ht : (tell R i s c).head? = none) :
    Sp (Mi.run τ.tab (n+9) f_law_call [.ref r, .ref a, .int way] h) (fun v h' => ∃ m, v = .ref m ∧ h.next ≤ m ∧ At h' m (.lst [.str "gone", .str (PyData.list [.int i, .int (lastF R i s : Nat)]).shown]) ∧ Fr [] h h') := by
  have lf := fits_lt (last_mem (a := i) (s := s) g)
  have l4 := g.len.2
  refine Sp_for fun Q E hQ => ?_
  refine (run_w { sl := [some (.ref r), some (.ref a), some (.int way), none, none, none, none], ex := none } body_law_call rfl rfl rfl ?_)
  have ref : ∀ (P' : Po) (h1 : MH), Fr [] h h1 → P'.rt = Q → Wt P' (exH τ.tab hs21 "Gone" h1.next { sl := [some (.ref r), some (.ref a), some (.int way), some (.int i), some (.int s), some (.int c), none], ex := none } (h1.new (.exc "Gone" [("grain", .int (lastF R i s : Nat)), ("time", .int i)]))) := fun P' h1 F hP => by
    unfold hs21
    rw [z_h2 tsub_Gone_InvalidWindow, z_h2 tsub_Gone_InvalidTime]
    refine z_h1 tsub_Gone_Gone (by rw [txf_Gone]; rfl) (by simp) ?_
    have K := At.new (h := h1) (o := .exc "Gone" [("grain", .int (lastF R i s : Nat)), ("time", .int i)])
    have F1 : Fr [] h1 (h1.new (.exc "Gone" [("grain", .int (lastF R i s : Nat)), ("time", .int i)])) := Fr.new
    generalize h1.new (.exc "Gone" [("grain", .int (lastF R i s : Nat)), ("time", .int i)]) = h2 at K F1 ⊢
    have e1 := q_efld (T := τ.tab) (C := τ.tab.hc) (me := { sl := [some (.ref r), some (.ref a), some (.int way), some (.int i), some (.int s), some (.int c), none], ex := some (6, h1.next) }) (f := "time") rfl (by simp) txa_time K.get (v := .int i) (by rw [List.lookup_cons, show (("time" : PySem.Str) == "grain") = false by decide +kernel]; simp [List.lookup_cons])
    have e2 := q_efld (T := τ.tab) (C := τ.tab.hc) (me := { sl := [some (.ref r), some (.ref a), some (.int way), some (.int i), some (.int s), some (.int c), none], ex := some (6, h1.next) }) (f := "grain") rfl (by simp) txa_grain K.get (v := .int (lastF R i s : Nat)) (by simp [List.lookup_cons])
    have eb : ∀ {me : Mi.Env} {h : MH} es, evE τ.tab τ.tab.hc me (.bi .repr es) h = M.bind (evEs τ.tab τ.tab.hc me es) (fun vs => biM τ.tab .repr vs) h := fun es => q_bih .repr es rfl
    try simp only [y_ok, y_exc, y_bind, y_bnd, y_cnd, y_cndt, z_nx, z_rt, z_br, z_ct, z_ex, z_exb0, z_exb1, z_wnwn, z_wnnx, z_wnrt, z_wnbr, z_wnct, z_wnex, z_wxnx, z_wxrt, z_wxbr, z_wxct, z_wxex, z_wlnx, z_wlrt, z_wlbr, z_wlct, z_wlex, z_fnnx, z_fnrt, z_fnex, z_pass, z_ret, z_retN, z_expr, z_asg, z_asgsw, z_asgtp, z_asgsub, z_asgfld, z_ifs, z_fors, z_brk, z_cont, z_trys, x_ct, x_cf, q_mp, q_opt, q_non, q_bl, q_int, q_str, q_var, q_ty, q_cls, q_gint, q_bin, q_neg, q_not, q_cmp, q_sub, q_slc, q_tup, q_lst, q_call, q_mk, q_bi, q_app, q_fld, q_meth, q_nil, q_cons, q_tnot, q_tbl, q_tvar, q_tcmp, q_tchain, q_tsub, q_tcall, q_tbi, q_tmeth, q_bool, q_rng1, q_slcn, q_slcY, z_tand, z_tor, z_and, z_or, z_ife, z_chain, b_max, b_min, b_abs, b_inti, b_intb, b_lent, sw2, sub_t0, sub_t1, o_add, o_sub, o_mul, o_fdiv, o_mod, o_pow, c_eqi, c_nei, c_eqs, c_nes, c_lt, c_le, c_gt, c_ge, c_isn, c_notn, isNon_n, isNon_i, Mi.Env.set, List.set_cons_zero, List.set_cons_succ, List.getElem?_cons_zero, List.getElem?_cons_succ, Option.getD_some, List.length_cons, List.length_nil, stepF_nm, Nat.reduceAdd, Nat.reduceLeDiff, q_iof, it_tup, sz_tup, sz_rg, eb, e1, e2]
    refine newL_r (S := []) (h := h2) (.cons (.int i) (.cons (.int (lastF R i s : Nat)) .nil)) (by simp) (by simp) fun h3 w3 A3 F3 _ => ?_
    try simp only [y_ok, y_exc, y_bind, y_bnd, y_cnd, y_cndt, z_nx, z_rt, z_br, z_ct, z_ex, z_exb0, z_exb1, z_wnwn, z_wnnx, z_wnrt, z_wnbr, z_wnct, z_wnex, z_wxnx, z_wxrt, z_wxbr, z_wxct, z_wxex, z_wlnx, z_wlrt, z_wlbr, z_wlct, z_wlex, z_fnnx, z_fnrt, z_fnex, z_pass, z_ret, z_retN, z_expr, z_asg, z_asgsw, z_asgtp, z_asgsub, z_asgfld, z_ifs, z_fors, z_brk, z_cont, z_trys, x_ct, x_cf, q_mp, q_opt, q_non, q_bl, q_int, q_str, q_var, q_ty, q_cls, q_gint, q_bin, q_neg, q_not, q_cmp, q_sub, q_slc, q_tup, q_lst, q_call, q_mk, q_bi, q_app, q_fld, q_meth, q_nil, q_cons, q_tnot, q_tbl, q_tvar, q_tcmp, q_tchain, q_tsub, q_tcall, q_tbi, q_tmeth, q_bool, q_rng1, q_slcn, q_slcY, z_tand, z_tor, z_and, z_or, z_ife, z_chain, b_max, b_min, b_abs, b_inti, b_intb, b_lent, sw2, sub_t0, sub_t1, o_add, o_sub, o_mul, o_fdiv, o_mod, o_pow, c_eqi, c_nei, c_eqs, c_nes, c_lt, c_le, c_gt, c_ge, c_isn, c_notn, isNon_n, isNon_i, Mi.Env.set, List.set_cons_zero, List.set_cons_succ, List.getElem?_cons_zero, List.getElem?_cons_succ, Option.getD_some, List.length_cons, List.length_nil, x_newL, stepF_nm, Nat.reduceAdd, Nat.reduceLeDiff, q_iof, it_tup, sz_tup, sz_rg, w3.rep (sh_lst (shs_cons (sh_int (by omega)) (shs_cons (sh_int (by omega)) shs_nil))) (by omega) (by omega)]
    show P'.rt _ _
    rw [hP]
    have FF := (F.trans F1).trans F3
    exact hQ _ _ ⟨_, rfl, FF.nx, At.new, FF.trans Fr.new⟩
  have e := pc_g (n := n) g hr i0 s0 c0 ht
  unfold body_law_call
  try simp only [y_ok, y_exc, y_bind, y_bnd, y_cnd, y_cndt, z_nx, z_rt, z_br, z_ct, z_ex, z_exb0, z_exb1, z_wnwn, z_wnnx, z_wnrt, z_wnbr, z_wnct, z_wnex, z_wxnx, z_wxrt, z_wxbr, z_wxct, z_wxex, z_wlnx, z_wlrt, z_wlbr, z_wlct, z_wlex, z_fnnx, z_fnrt, z_fnex, z_pass, z_ret, z_retN, z_expr, z_asg, z_asgsw, z_asgtp, z_asgsub, z_asgfld, z_ifs, z_fors, z_brk, z_cont, z_trys, x_ct, x_cf, q_mp, q_opt, q_non, q_bl, q_int, q_str, q_var, q_ty, q_cls, q_gint, q_bin, q_neg, q_not, q_cmp, q_sub, q_slc, q_tup, q_lst, q_call, q_mk, q_bi, q_app, q_fld, q_meth, q_nil, q_cons, q_tnot, q_tbl, q_tvar, q_tcmp, q_tchain, q_tsub, q_tcall, q_tbi, q_tmeth, q_bool, q_rng1, q_slcn, q_slcY, z_tand, z_tor, z_and, z_or, z_ife, z_chain, b_max, b_min, b_abs, b_inti, b_intb, b_lent, sw2, sub_t0, sub_t1, o_add, o_sub, o_mul, o_fdiv, o_mod, o_pow, c_eqi, c_nei, c_eqs, c_nes, c_lt, c_le, c_gt, c_ge, c_isn, c_notn, isNon_n, isNon_i, Mi.Env.set, List.set_cons_zero, List.set_cons_succ, List.getElem?_cons_zero, List.getElem?_cons_succ, Option.getD_some, List.length_cons, List.length_nil, stepF_nm, Nat.reduceAdd, Nat.reduceLeDiff, q_iof, it_tup, sz_tup, sz_rg, tp3 A, decide_true]
  refine cnd_d (fun hw => ?_) (fun hw => ?_)
  all_goals
    try simp only [y_ok, y_exc, y_bind, y_bnd, y_cnd, y_cndt, z_nx, z_rt, z_br, z_ct, z_ex, z_exb0, z_exb1, z_wnwn, z_wnnx, z_wnrt, z_wnbr, z_wnct, z_wnex, z_wxnx, z_wxrt, z_wxbr, z_wxct, z_wxex, z_wlnx, z_wlrt, z_wlbr, z_wlct, z_wlex, z_fnnx, z_fnrt, z_fnex, z_pass, z_ret, z_retN, z_expr, z_asg, z_asgsw, z_asgtp, z_asgsub, z_asgfld, z_ifs, z_fors, z_brk, z_cont, z_trys, x_ct, x_cf, q_mp, q_opt, q_non, q_bl, q_int, q_str, q_var, q_ty, q_cls, q_gint, q_bin, q_neg, q_not, q_cmp, q_sub, q_slc, q_tup, q_lst, q_call, q_mk, q_bi, q_app, q_fld, q_meth, q_nil, q_cons, q_tnot, q_tbl, q_tvar, q_tcmp, q_tchain, q_tsub, q_tcall, q_tbi, q_tmeth, q_bool, q_rng1, q_slcn, q_slcY, z_tand, z_tor, z_and, z_or, z_ife, z_chain, b_max, b_min, b_abs, b_inti, b_intb, b_lent, sw2, sub_t0, sub_t1, o_add, o_sub, o_mul, o_fdiv, o_mod, o_pow, c_eqi, c_nei, c_eqs, c_nes, c_lt, c_le, c_gt, c_ge, c_isn, c_notn, isNon_n, isNon_i, Mi.Env.set, List.set_cons_zero, List.set_cons_succ, List.getElem?_cons_zero, List.getElem?_cons_succ, Option.getD_some, List.length_cons, List.length_nil, stepF_nm, Nat.reduceAdd, Nat.reduceLeDiff, q_iof, it_tup, sz_tup, sz_rg, x_methM hr.get (lk_pc _) tme_Rules_pieces, fnp_Rules_pieces, ar4, ak4, e, noGo]
    exact ref _ _ Fr.new rfl
theorem call_c {i s c : Int} {k : Nat} (g : GR R) (hr : isRA h r R) (A : At h a (.lst [.int i, .int s, .int c])) (i0 : 0 ≤ i) (s0 : 0 < s) (c0 : 0 ≤ c) (hk : (tell R i s c).head? = some k) (hkl : k < R.length) :
    Sp (Mi.run τ.tab (n+9) f_law_call [.ref r, .ref a, .int way] h) (fun v h' => ∃ m q, v = .ref m ∧ h.next ≤ m ∧ h.next ≤ q ∧ q ≠ m ∧ At h' m (.lst [.str "told", .ref q]) ∧ At h' q (.lst ((pcs R i s c (k+1)).1.map pEnc)) ∧ Fr [] h h') := by
  refine Sp_for fun Q E hQ => ?_
  refine (run_w { sl := [some (.ref r), some (.ref a), some (.int way), none, none, none, none], ex := none } body_law_call rfl rfl rfl ?_)
  unfold body_law_call
  try simp only [y_ok, y_exc, y_bind, y_bnd, y_cnd, y_cndt, z_nx, z_rt, z_br, z_ct, z_ex, z_exb0, z_exb1, z_wnwn, z_wnnx, z_wnrt, z_wnbr, z_wnct, z_wnex, z_wxnx, z_wxrt, z_wxbr, z_wxct, z_wxex, z_wlnx, z_wlrt, z_wlbr, z_wlct, z_wlex, z_fnnx, z_fnrt, z_fnex, z_pass, z_ret, z_retN, z_expr, z_asg, z_asgsw, z_asgtp, z_asgsub, z_asgfld, z_ifs, z_fors, z_brk, z_cont, z_trys, x_ct, x_cf, q_mp, q_opt, q_non, q_bl, q_int, q_str, q_var, q_ty, q_cls, q_gint, q_bin, q_neg, q_not, q_cmp, q_sub, q_slc, q_tup, q_lst, q_call, q_mk, q_bi, q_app, q_fld, q_meth, q_nil, q_cons, q_tnot, q_tbl, q_tvar, q_tcmp, q_tchain, q_tsub, q_tcall, q_tbi, q_tmeth, q_bool, q_rng1, q_slcn, q_slcY, z_tand, z_tor, z_and, z_or, z_ife, z_chain, b_max, b_min, b_abs, b_inti, b_intb, b_lent, sw2, sub_t0, sub_t1, o_add, o_sub, o_mul, o_fdiv, o_mod, o_pow, c_eqi, c_nei, c_eqs, c_nes, c_lt, c_le, c_gt, c_ge, c_isn, c_notn, isNon_n, isNon_i, Mi.Env.set, List.set_cons_zero, List.set_cons_succ, List.getElem?_cons_zero, List.getElem?_cons_succ, Option.getD_some, List.length_cons, List.length_nil, stepF_nm, Nat.reduceAdd, Nat.reduceLeDiff, q_iof, it_tup, sz_tup, sz_rg, tp3 A, decide_true]
  refine cnd_d (fun hw => ?_) (fun hw => ?_)
  all_goals
    try simp only [y_ok, y_exc, y_bind, y_bnd, y_cnd, y_cndt, z_nx, z_rt, z_br, z_ct, z_ex, z_exb0, z_exb1, z_wnwn, z_wnnx, z_wnrt, z_wnbr, z_wnct, z_wnex, z_wxnx, z_wxrt, z_wxbr, z_wxct, z_wxex, z_wlnx, z_wlrt, z_wlbr, z_wlct, z_wlex, z_fnnx, z_fnrt, z_fnex, z_pass, z_ret, z_retN, z_expr, z_asg, z_asgsw, z_asgtp, z_asgsub, z_asgfld, z_ifs, z_fors, z_brk, z_cont, z_trys, x_ct, x_cf, q_mp, q_opt, q_non, q_bl, q_int, q_str, q_var, q_ty, q_cls, q_gint, q_bin, q_neg, q_not, q_cmp, q_sub, q_slc, q_tup, q_lst, q_call, q_mk, q_bi, q_app, q_fld, q_meth, q_nil, q_cons, q_tnot, q_tbl, q_tvar, q_tcmp, q_tchain, q_tsub, q_tcall, q_tbi, q_tmeth, q_bool, q_rng1, q_slcn, q_slcY, z_tand, z_tor, z_and, z_or, z_ife, z_chain, b_max, b_min, b_abs, b_inti, b_intb, b_lent, sw2, sub_t0, sub_t1, o_add, o_sub, o_mul, o_fdiv, o_mod, o_pow, c_eqi, c_nei, c_eqs, c_nes, c_lt, c_le, c_gt, c_ge, c_isn, c_notn, isNon_n, isNon_i, Mi.Env.set, List.set_cons_zero, List.set_cons_succ, List.getElem?_cons_zero, List.getElem?_cons_succ, Option.getD_some, List.length_cons, List.length_nil, stepF_nm, Nat.reduceAdd, Nat.reduceLeDiff, q_iof, it_tup, sz_tup, sz_rg, x_methM hr.get (lk_pc _) tme_Rules_pieces, fnp_Rules_pieces, ar4, ak4]
    refine Wr_of (pc_c (n := n) g hr i0 s0 c0 hk hkl) ?_
    rintro _ h1 ⟨q, rfl, hq, A1, F1⟩
    try simp only [y_ok, y_exc, y_bind, y_bnd, y_cnd, y_cndt, z_nx, z_rt, z_br, z_ct, z_ex, z_exb0, z_exb1, z_wnwn, z_wnnx, z_wnrt, z_wnbr, z_wnct, z_wnex, z_wxnx, z_wxrt, z_wxbr, z_wxct, z_wxex, z_wlnx, z_wlrt, z_wlbr, z_wlct, z_wlex, z_fnnx, z_fnrt, z_fnex, z_pass, z_ret, z_retN, z_expr, z_asg, z_asgsw, z_asgtp, z_asgsub, z_asgfld, z_ifs, z_fors, z_brk, z_cont, z_trys, x_ct, x_cf, q_mp, q_opt, q_non, q_bl, q_int, q_str, q_var, q_ty, q_cls, q_gint, q_bin, q_neg, q_not, q_cmp, q_sub, q_slc, q_tup, q_lst, q_call, q_mk, q_bi, q_app, q_fld, q_meth, q_nil, q_cons, q_tnot, q_tbl, q_tvar, q_tcmp, q_tchain, q_tsub, q_tcall, q_tbi, q_tmeth, q_bool, q_rng1, q_slcn, q_slcY, z_tand, z_tor, z_and, z_or, z_ife, z_chain, b_max, b_min, b_abs, b_inti, b_intb, b_lent, sw2, sub_t0, sub_t1, o_add, o_sub, o_mul, o_fdiv, o_mod, o_pow, c_eqi, c_nei, c_eqs, c_nes, c_lt, c_le, c_gt, c_ge, c_isn, c_notn, isNon_n, isNon_i, Mi.Env.set, List.set_cons_zero, List.set_cons_succ, List.getElem?_cons_zero, List.getElem?_cons_succ, Option.getD_some, List.length_cons, List.length_nil, x_newL, stepF_nm, Nat.reduceAdd, Nat.reduceLeDiff, q_iof, it_tup, sz_tup, sz_rg]
    have ql := A1.lt
    exact hQ _ _ ⟨_, q, rfl, F1.nx, hq, by omega, At.new, A1.fr0 Fr.new, F1.trans Fr.new⟩
end
end Lw
end

section
namespace Lw
open Mi
open PySem (PyData)
/-! ### the copied arguments -/
def cpEl (i : Nat) : ME := .ife (.bi .isi (.cons (.var i) (.cons (.ty "list") .nil))) (.bi .list1 (.cons (.var i) .nil)) (.var i)
section
variable {C : CallF} {me : Mi.Env} {h : MH} {Q : Mi.MV → MH → Prop} {E : PySem.Str → Nat → MH → Prop} {S : List Nat}
theorem b_list {xs : List Mi.MV} {v : Mi.MV} (e : asSeq h v = some xs) : biM τ.tab .list1 [v] h = newL xs h := by
  show (match asSeq h v with | some xs => newL xs h | none => Res.stuck) = _
  rw [e]
theorem el_w {i : Nat} {v : Mi.MV} {d : PyData} (hx : me.ex = none) (hv : (me.sl[i]?.getD none) = some v) (a : V S h v d) (o : argOk d) (hS : h.next ∉ S) (H : ∀ w h', Fr [] h h' → V S h' w d → (∀ n, w = .ref n → h.next ≤ n ∧ n < h'.next) → Q w h') : Wr Q E (evE τ.tab C me (cpEl i) h) := by
  unfold cpEl
  try simp only [y_ok, y_exc, y_bind, y_bnd, y_cnd, y_cndt, z_nx, z_rt, z_br, z_ct, z_ex, z_exb0, z_exb1, z_wnwn, z_wnnx, z_wnrt, z_wnbr, z_wnct, z_wnex, z_wxnx, z_wxrt, z_wxbr, z_wxct, z_wxex, z_wlnx, z_wlrt, z_wlbr, z_wlct, z_wlex, z_fnnx, z_fnrt, z_fnex, z_pass, z_ret, z_retN, z_expr, z_asg, z_asgsw, z_asgtp, z_asgsub, z_asgfld, z_ifs, z_fors, z_brk, z_cont, z_trys, x_ct, x_cf, q_mp, q_opt, q_non, q_bl, q_int, q_str, q_var, q_ty, q_cls, q_gint, q_bin, q_neg, q_not, q_cmp, q_sub, q_slc, q_tup, q_lst, q_call, q_mk, q_bi, q_app, q_fld, q_meth, q_nil, q_cons, q_tnot, q_tbl, q_tvar, q_tcmp, q_tchain, q_tsub, q_tcall, q_tbi, q_tmeth, q_bool, q_rng1, q_slcn, q_slcY, z_tand, z_tor, z_and, z_or, z_ife, z_chain, b_max, b_min, b_abs, b_inti, b_intb, b_lent, sw2, sub_t0, sub_t1, o_add, o_sub, o_mul, o_fdiv, o_mod, o_pow, c_eqi, c_nei, c_eqs, c_nes, c_lt, c_le, c_gt, c_ge, c_isn, c_notn, isNon_n, isNon_i, Mi.Env.set, List.set_cons_zero, List.set_cons_succ, List.getElem?_cons_zero, List.getElem?_cons_succ, Option.getD_some, List.length_cons, List.length_nil, stepF_nm, Nat.reduceAdd, Nat.reduceLeDiff, q_iof, it_tup, sz_tup, sz_rg, hx, hv, isi_list a]
  cases a with
  | lst l s e r =>
    rename_i n xs ds
    try simp only [y_ok, y_exc, y_bind, y_bnd, y_cnd, y_cndt, z_nx, z_rt, z_br, z_ct, z_ex, z_exb0, z_exb1, z_wnwn, z_wnnx, z_wnrt, z_wnbr, z_wnct, z_wnex, z_wxnx, z_wxrt, z_wxbr, z_wxct, z_wxex, z_wlnx, z_wlrt, z_wlbr, z_wlct, z_wlex, z_fnnx, z_fnrt, z_fnex, z_pass, z_ret, z_retN, z_expr, z_asg, z_asgsw, z_asgtp, z_asgsub, z_asgfld, z_ifs, z_fors, z_brk, z_cont, z_trys, x_ct, x_cf, q_mp, q_opt, q_non, q_bl, q_int, q_str, q_var, q_ty, q_cls, q_gint, q_bin, q_neg, q_not, q_cmp, q_sub, q_slc, q_tup, q_lst, q_call, q_mk, q_bi, q_app, q_fld, q_meth, q_nil, q_cons, q_tnot, q_tbl, q_tvar, q_tcmp, q_tchain, q_tsub, q_tcall, q_tbi, q_tmeth, q_bool, q_rng1, q_slcn, q_slcY, z_tand, z_tor, z_and, z_or, z_ife, z_chain, b_max, b_min, b_abs, b_inti, b_intb, b_lent, sw2, sub_t0, sub_t1, o_add, o_sub, o_mul, o_fdiv, o_mod, o_pow, c_eqi, c_nei, c_eqs, c_nes, c_lt, c_le, c_gt, c_ge, c_isn, c_notn, isNon_n, isNon_i, Mi.Env.set, List.set_cons_zero, List.set_cons_succ, List.getElem?_cons_zero, List.getElem?_cons_succ, Option.getD_some, List.length_cons, List.length_nil, stepF_nm, Nat.reduceAdd, Nat.reduceLeDiff, q_iof, it_tup, sz_tup, sz_rg, isLd, hx, hv, b_list (show asSeq h (.ref n) = some xs from asL ⟨l, e⟩)]
    have hl := r.len
    have := (o.sc _ rfl).1
    refine newL_r r hS (by omega) fun h1 w1 A1 F1 e1 => ?_
    refine H _ h1 F1 w1 fun m em => ?_
    cases em
    exact ⟨Nat.le_refl _, by omega⟩
  | _ => 
    try simp only [y_ok, y_exc, y_bind, y_bnd, y_cnd, y_cndt, z_nx, z_rt, z_br, z_ct, z_ex, z_exb0, z_exb1, z_wnwn, z_wnnx, z_wnrt, z_wnbr, z_wnct, z_wnex, z_wxnx, z_wxrt, z_wxbr, z_wxct, z_wxex, z_wlnx, z_wlrt, z_wlbr, z_wlct, z_wlex, z_fnnx, z_fnrt, z_fnex, z_pass, z_ret, z_retN, z_expr, z_asg, z_asgsw, z_asgtp, z_asgsub, z_asgfld, z_ifs, z_fors, z_brk, z_cont, z_trys, x_ct, x_cf, q_mp, q_opt, q_non, q_bl, q_int, q_str, q_var, q_ty, q_cls, q_gint, q_bin, q_neg, q_not, q_cmp, q_sub, q_slc, q_tup, q_lst, q_call, q_mk, q_bi, q_app, q_fld, q_meth, q_nil, q_cons, q_tnot, q_tbl, q_tvar, q_tcmp, q_tchain, q_tsub, q_tcall, q_tbi, q_tmeth, q_bool, q_rng1, q_slcn, q_slcY, z_tand, z_tor, z_and, z_or, z_ife, z_chain, b_max, b_min, b_abs, b_inti, b_intb, b_lent, sw2, sub_t0, sub_t1, o_add, o_sub, o_mul, o_fdiv, o_mod, o_pow, c_eqi, c_nei, c_eqs, c_nes, c_lt, c_le, c_gt, c_ge, c_isn, c_notn, isNon_n, isNon_i, Mi.Env.set, List.set_cons_zero, List.set_cons_succ, List.getElem?_cons_zero, List.getElem?_cons_succ, Option.getD_some, List.length_cons, List.length_nil, stepF_nm, Nat.reduceAdd, Nat.reduceLeDiff, q_iof, it_tup, sz_tup, sz_rg, isLd, hx, hv]
    exact H _ _ Fr.refl (by constructor <;> assumption) (by simp)
/-- the copied arguments -/
theorem copy_w {m L j : Nat} {x y z : Mi.MV} {dx dy dz : PyData} {it : MI} (hx : me.ex = none) (h11 : me.sl.length = L) (hj : j < L) (hI : evI τ.tab C me it h = .ok (.lst m) h) (A : At h m (.lst [x, y, z])) (v : Vs [] h [x, y, z] [dx, dy, dz]) (ox : argOk dx) (oy : argOk dy) (oz : argOk dz)
    (H : ∀ x' y' z' h', Fr [] h h' → Three [h.next] h' x' y' z' dx dy dz → At h' h.next (.lst [x', y', z']) → (∀ n ∈ refs [x', y', z'], h.next ≤ n) → Q (.ref h.next) h') : Wr Q E (evE τ.tab C me (.comp [j] (.nm j) it (.bl true) (cpEl j)) h) := by
  refine comp_w hx ?_
  rw [hI, y_ok, sz_lst A]
  have hsl : ∀ v : Mi.MV, (((wipeM me [j]).set j v).sl[j]?).getD none = some v := fun v => by
    simp [wipeM, Mi.Env.set, h11, hj]
  have hex : ∀ v : Mi.MV, ((wipeM me [j]).set j v).ex = none := fun v => hx
  have vr : Vs [h.next] (h.new (.lst [])) [x, y, z] [dx, dy, dz] := (v.weak (by simp)).new
  have hr := At.new (h := h) (o := .lst [])
  have hm : m ∉ [h.next] := by have := A.lt; simp; omega
  have A0 := A.fr (Fr.new (S := []) (o := .lst [])) (by simp)
  have n0 : (h.new (.lst [])).next = h.next + 1 := rfl
  have F0 : Fr [] h (h.new (.lst [])) := Fr.new
  generalize h.new (.lst []) = h0 at vr hr A0 n0 F0 ⊢
  obtain ⟨vx, vr⟩ : V [h.next] h0 x dx ∧ Vs [h.next] h0 [y, z] [dy, dz] := by cases vr; exact ⟨by assumption, by assumption⟩
  obtain ⟨vy, vr⟩ : V [h.next] h0 y dy ∧ Vs [h.next] h0 [z] [dz] := by cases vr; exact ⟨by assumption, by assumption⟩
  obtain ⟨vz, _⟩ : V [h.next] h0 z dz ∧ Vs [h.next] h0 [] [] := by cases vr; exact ⟨by assumption, by assumption⟩
  clear v A
  refine compL_1 (v := x) (at_lst A0) ?_
  refine stepG_nm ?_
  rw [q_tbl, y_ok, x_ct]
  refine el_w (hex x) (hsl x) vx ox (by simp; omega) fun x' h1 F1 wx rx => ?_
  have n1 := F1.nx
  replace vy := vy.fr0 F1
  replace vz := vz.fr0 F1
  replace A0 := A0.fr0 F1
  replace hr := hr.fr0 F1
  replace F0 := F0.trans F1
  refine ⟨[], hr.get, by simp, ?_⟩
  have P1 : Fr [h.next] h1 (h1.put h.next (.lst ([] ++ [x']))) := Fr.put (by simp)
  replace wx := wx.fr P1
  replace vy := vy.fr P1
  replace vz := vz.fr P1
  replace A0 := A0.fr P1 hm
  replace F0 : Fr [] h (h1.put h.next (.lst ([] ++ [x']))) := F0.comp P1 (by simp)
  replace hr : At (h1.put h.next (.lst ([] ++ [x']))) h.next (.lst [x']) := At.put hr.lt
  have e1 : (h1.put h.next (.lst ([] ++ [x']))).next = h1.next := rfl
  generalize h1.put h.next (.lst ([] ++ [x'])) = h1' at *
  refine compL_1 (v := y) (at_lst A0) ?_
  refine stepG_nm ?_
  rw [q_tbl, y_ok, x_ct]
  refine el_w (hex y) (hsl y) vy oy (by simp; omega) fun y' h2 F2 wy ry => ?_
  have n2 := F2.nx
  replace wx := wx.fr0 F2
  replace vz := vz.fr0 F2
  replace A0 := A0.fr0 F2
  replace hr := hr.fr0 F2
  replace F0 := F0.trans F2
  refine ⟨[x'], hr.get, by simp, ?_⟩
  have P2 : Fr [h.next] h2 (h2.put h.next (.lst ([x'] ++ [y']))) := Fr.put (by simp)
  replace wx := wx.fr P2
  replace wy := wy.fr P2
  replace vz := vz.fr P2
  replace A0 := A0.fr P2 hm
  replace F0 : Fr [] h (h2.put h.next (.lst ([x'] ++ [y']))) := F0.comp P2 (by simp)
  replace hr : At (h2.put h.next (.lst ([x'] ++ [y']))) h.next (.lst [x', y']) := At.put hr.lt
  have e2 : (h2.put h.next (.lst ([x'] ++ [y']))).next = h2.next := rfl
  generalize h2.put h.next (.lst ([x'] ++ [y'])) = h2' at *
  refine compL_1 (v := z) (at_lst A0) ?_
  refine stepG_nm ?_
  rw [q_tbl, y_ok, x_ct]
  refine el_w (hex z) (hsl z) vz oz (by simp; omega) fun z' h3 F3 wz rz => ?_
  have n3 := F3.nx
  replace wx := wx.fr0 F3
  replace wy := wy.fr0 F3
  replace A0 := A0.fr0 F3
  replace hr := hr.fr0 F3
  replace F0 := F0.trans F3
  refine ⟨[x', y'], hr.get, by simp, ?_⟩
  have P3 : Fr [h.next] h3 (h3.put h.next (.lst ([x', y'] ++ [z']))) := Fr.put (by simp)
  replace wx := wx.fr P3
  replace wy := wy.fr P3
  replace wz := wz.fr P3
  replace A0 := A0.fr P3 hm
  replace F0 : Fr [] h (h3.put h.next (.lst ([x', y'] ++ [z']))) := F0.comp P3 (by simp)
  replace hr : At (h3.put h.next (.lst ([x', y'] ++ [z']))) h.next (.lst [x', y', z']) := At.put hr.lt
  simp only [List.length_nil]
  rw [compL_0 (at_lst A0)]
  refine H x' y' z' _ F0 ⟨wx, wy, wz, ox, oy, oz, fun n e1 e2 => ?_, fun n e1 e2 => ?_, fun n e1 e2 => ?_⟩ hr fun n hn => ?_
  · have := rx n e1; have := ry n e2; omega
  · have := rx n e1; have := rz n e2; omega
  · have := ry n e1; have := rz n e2; omega
  · cases x' <;> cases y' <;> cases z' <;> simp [refs] at hn <;> simp at rx ry rz <;> omega
end
/-! ### lists of grains, compared -/
theorem nats_v {S : List Nat} {h : MH} : ∀ L : List Nat, Vs S h (nats L) (L.map fun k => PyData.int (k : Nat))
  | [] => .nil
  | k :: L => .cons (.int _) (nats_v L)
theorem nats_fz : ∀ L : List Nat, fzs (L.map fun k => PyData.int (k : Nat)) ≤ L.length + 1
  | [] => Nat.zero_le _
  | k :: L => by
    have := nats_fz L
    simp only [List.map_cons, fzs, fz, List.length_cons]
    omega
theorem nats_dp : ∀ L : List Nat, PyData.depthAll (L.map fun k => PyData.int (k : Nat)) = 0
  | [] => rfl
  | k :: L => by simp only [List.map_cons, PyData.depthAll, PyData.depth, nats_dp L]; rfl
theorem nats_lay : ∀ L : List Nat, PyData.canLayAll0 (L.map fun k => PyData.int (k : Nat)) = true
  | [] => rfl
  | k :: L => by simp only [List.map_cons, PyData.canLayAll0, PyData.canLay0, nats_lay L]; rfl
theorem nats_shaped (L : List Nat) : PySem.SeqAt.shaped (.list (L.map fun k => PyData.int (k : Nat))) = true := by
  unfold PySem.SeqAt.shaped
  simp only [PyData.canLay0, nats_lay L, PyData.depth, nats_dp L]
  rfl
theorem eq_nil {h : MH} {l m : Nat} {L : List Nat} (A : At h l (.lst (nats L))) (B : At h m (.lst [])) (hl : L.length ≤ 100) : eqM (.ref l) (.ref m) h = .ok L.isEmpty h := by
  have e1 : toD h dpt (.ref l) = some (.list (L.map fun k => PyData.int (k : Nat))) := (V.lst (S := []) A.lt (by simp) A.get (nats_v L)).toD (by have := nats_fz L; simp only [fz]; unfold dpt; omega)
  have e2 : toD h dpt (.ref m) = some (.list []) := (V.lst (S := []) B.lt (by simp) B.get .nil).toD (by simp only [fz, fzs]; unfold dpt; omega)
  show (match toD h dpt (.ref l), toD h dpt (.ref m) with
    | some d, some e => if PySem.SeqAt.shaped d = true ∧ PySem.SeqAt.shaped e = true then Res.ok (PyData.eqv d e) h else .stuck
    | _, _ => .stuck) = _
  rw [e1, e2]
  simp only
  rw [if_pos ⟨nats_shaped L, nats_shaped []⟩]
  cases L <;> simp [PyData.eqv, PyData.eqvAll]
theorem c_eqL {h : MH} {l m : Nat} {L : List Nat} (A : At h l (.lst (nats L))) (B : At h m (.lst [])) (hl : L.length ≤ 100) : cmpM .eq (.ref l) (.ref m) h = .ok (.bl L.isEmpty) h := by
  show M.bind (eqM (.ref l) (.ref m)) (fun b => M.pure (Mi.MV.bl b)) h = _
  rw [q_mb, eq_nil A B hl]; rfl
theorem c_neL {h : MH} {l m : Nat} {L : List Nat} (A : At h l (.lst (nats L))) (B : At h m (.lst [])) (hl : L.length ≤ 100) : cmpM .ne (.ref l) (.ref m) h = .ok (.bl (!L.isEmpty)) h := by
  show M.bind (eqM (.ref l) (.ref m)) (fun b => M.pure (Mi.MV.bl (!b))) h = _
  rw [q_mb, eq_nil A B hl]; rfl
/-! ### _law_grown -/
theorem c_grown {C : CallF} {h : MH} (v : Mi.MV) : callM τ.tab C "_law_grown" [v] [] [] h = C f_law_grown [v] h := x_callM tfn_law_grown (by simp [argsOf, fnp_law_grown])
theorem grown_sp {n : Nat} {h : MH} {v : Mi.MV} {d : PyData} (a : V [] h v d) (o : argOk d) : Sp (Mi.run τ.tab (n+1) f_law_grown [v] h) (fun r h' => V [] h' r (grown d) ∧ Fr [] h h') := by
  refine Sp_for fun Q E hQ => ?_
  refine (run_w { sl := [some v], ex := none } body_law_grown rfl rfl rfl ?_)
  unfold body_law_grown
  try simp only [y_ok, y_exc, y_bind, y_bnd, y_cnd, y_cndt, z_nx, z_rt, z_br, z_ct, z_ex, z_exb0, z_exb1, z_wnwn, z_wnnx, z_wnrt, z_wnbr, z_wnct, z_wnex, z_wxnx, z_wxrt, z_wxbr, z_wxct, z_wxex, z_wlnx, z_wlrt, z_wlbr, z_wlct, z_wlex, z_fnnx, z_fnrt, z_fnex, z_pass, z_ret, z_retN, z_expr, z_asg, z_asgsw, z_asgtp, z_asgsub, z_asgfld, z_ifs, z_fors, z_brk, z_cont, z_trys, x_ct, x_cf, q_mp, q_opt, q_non, q_bl, q_int, q_str, q_var, q_ty, q_cls, q_gint, q_bin, q_neg, q_not, q_cmp, q_sub, q_slc, q_tup, q_lst, q_call, q_mk, q_bi, q_app, q_fld, q_meth, q_nil, q_cons, q_tnot, q_tbl, q_tvar, q_tcmp, q_tchain, q_tsub, q_tcall, q_tbi, q_tmeth, q_bool, q_rng1, q_slcn, q_slcY, z_tand, z_tor, z_and, z_or, z_ife, z_chain, b_max, b_min, b_abs, b_inti, b_intb, b_lent, sw2, sub_t0, sub_t1, o_add, o_sub, o_mul, o_fdiv, o_mod, o_pow, c_eqi, c_nei, c_eqs, c_nes, c_lt, c_le, c_gt, c_ge, c_isn, c_notn, isNon_n, isNon_i, Mi.Env.set, List.set_cons_zero, List.set_cons_succ, List.getElem?_cons_zero, List.getElem?_cons_succ, Option.getD_some, List.length_cons, List.length_nil, stepF_nm, Nat.reduceAdd, Nat.reduceLeDiff, q_iof, it_tup, sz_tup, sz_rg, isi_list a]
  refine cnd_b (fun e => ?_) (fun e => ?_)
  · try simp only [y_ok, y_exc, y_bind, y_bnd, y_cnd, y_cndt, z_nx, z_rt, z_br, z_ct, z_ex, z_exb0, z_exb1, z_wnwn, z_wnnx, z_wnrt, z_wnbr, z_wnct, z_wnex, z_wxnx, z_wxrt, z_wxbr, z_wxct, z_wxex, z_wlnx, z_wlrt, z_wlbr, z_wlct, z_wlex, z_fnnx, z_fnrt, z_fnex, z_pass, z_ret, z_retN, z_expr, z_asg, z_asgsw, z_asgtp, z_asgsub, z_asgfld, z_ifs, z_fors, z_brk, z_cont, z_trys, x_ct, x_cf, q_mp, q_opt, q_non, q_bl, q_int, q_str, q_var, q_ty, q_cls, q_gint, q_bin, q_neg, q_not, q_cmp, q_sub, q_slc, q_tup, q_lst, q_call, q_mk, q_bi, q_app, q_fld, q_meth, q_nil, q_cons, q_tnot, q_tbl, q_tvar, q_tcmp, q_tchain, q_tsub, q_tcall, q_tbi, q_tmeth, q_bool, q_rng1, q_slcn, q_slcY, z_tand, z_tor, z_and, z_or, z_ife, z_chain, b_max, b_min, b_abs, b_inti, b_intb, b_lent, sw2, sub_t0, sub_t1, o_add, o_sub, o_mul, o_fdiv, o_mod, o_pow, c_eqi, c_nei, c_eqs, c_nes, c_lt, c_le, c_gt, c_ge, c_isn, c_notn, isNon_n, isNon_i, Mi.Env.set, List.set_cons_zero, List.set_cons_succ, List.getElem?_cons_zero, List.getElem?_cons_succ, Option.getD_some, List.length_cons, List.length_nil, stepF_nm, Nat.reduceAdd, Nat.reduceLeDiff, q_iof, it_tup, sz_tup, sz_rg]
    refine newL_v (S := []) (h := h) (.cons (.str "more") .nil) (by simp) (by simp) fun v1 h1 w1 F1 => ?_
    obtain ⟨ds, rfl⟩ : ∃ ds, d = .list ds := by cases d <;> first | exact ⟨_, rfl⟩ | (simp [isLd] at e)
    have hl := (o.lst _ rfl).1
    try simp only [y_ok, y_exc, y_bind, y_bnd, y_cnd, y_cndt, z_nx, z_rt, z_br, z_ct, z_ex, z_exb0, z_exb1, z_wnwn, z_wnnx, z_wnrt, z_wnbr, z_wnct, z_wnex, z_wxnx, z_wxrt, z_wxbr, z_wxct, z_wxex, z_wlnx, z_wlrt, z_wlbr, z_wlct, z_wlex, z_fnnx, z_fnrt, z_fnex, z_pass, z_ret, z_retN, z_expr, z_asg, z_asgsw, z_asgtp, z_asgsub, z_asgfld, z_ifs, z_fors, z_brk, z_cont, z_trys, x_ct, x_cf, q_mp, q_opt, q_non, q_bl, q_int, q_str, q_var, q_ty, q_cls, q_gint, q_bin, q_neg, q_not, q_cmp, q_sub, q_slc, q_tup, q_lst, q_call, q_mk, q_bi, q_app, q_fld, q_meth, q_nil, q_cons, q_tnot, q_tbl, q_tvar, q_tcmp, q_tchain, q_tsub, q_tcall, q_tbi, q_tmeth, q_bool, q_rng1, q_slcn, q_slcY, z_tand, z_tor, z_and, z_or, z_ife, z_chain, b_max, b_min, b_abs, b_inti, b_intb, b_lent, sw2, sub_t0, sub_t1, o_add, o_sub, o_mul, o_fdiv, o_mod, o_pow, c_eqi, c_nei, c_eqs, c_nes, c_lt, c_le, c_gt, c_ge, c_isn, c_notn, isNon_n, isNon_i, Mi.Env.set, List.set_cons_zero, List.set_cons_succ, List.getElem?_cons_zero, List.getElem?_cons_succ, Option.getD_some, List.length_cons, List.length_nil, stepF_nm, Nat.reduceAdd, Nat.reduceLeDiff, q_iof, it_tup, sz_tup, sz_rg]
    refine add_v (a.fr0 F1) w1 (by simp; omega) (by simp) fun v2 h2 w2 F2 => ?_
    exact hQ _ _ ⟨w2, F1.trans F2⟩
  · try simp only [y_ok, y_exc, y_bind, y_bnd, y_cnd, y_cndt, z_nx, z_rt, z_br, z_ct, z_ex, z_exb0, z_exb1, z_wnwn, z_wnnx, z_wnrt, z_wnbr, z_wnct, z_wnex, z_wxnx, z_wxrt, z_wxbr, z_wxct, z_wxex, z_wlnx, z_wlrt, z_wlbr, z_wlct, z_wlex, z_fnnx, z_fnrt, z_fnex, z_pass, z_ret, z_retN, z_expr, z_asg, z_asgsw, z_asgtp, z_asgsub, z_asgfld, z_ifs, z_fors, z_brk, z_cont, z_trys, x_ct, x_cf, q_mp, q_opt, q_non, q_bl, q_int, q_str, q_var, q_ty, q_cls, q_gint, q_bin, q_neg, q_not, q_cmp, q_sub, q_slc, q_tup, q_lst, q_call, q_mk, q_bi, q_app, q_fld, q_meth, q_nil, q_cons, q_tnot, q_tbl, q_tvar, q_tcmp, q_tchain, q_tsub, q_tcall, q_tbi, q_tmeth, q_bool, q_rng1, q_slcn, q_slcY, z_tand, z_tor, z_and, z_or, z_ife, z_chain, b_max, b_min, b_abs, b_inti, b_intb, b_lent, sw2, sub_t0, sub_t1, o_add, o_sub, o_mul, o_fdiv, o_mod, o_pow, c_eqi, c_nei, c_eqs, c_nes, c_lt, c_le, c_gt, c_ge, c_isn, c_notn, isNon_n, isNon_i, Mi.Env.set, List.set_cons_zero, List.set_cons_succ, List.getElem?_cons_zero, List.getElem?_cons_succ, Option.getD_some, List.length_cons, List.length_nil, stepF_nm, Nat.reduceAdd, Nat.reduceLeDiff, q_iof, it_tup, sz_tup, sz_rg]
    have e1 : grown d = d := by cases d <;> first | rfl | (simp [isLd] at e)
    exact hQ _ _ ⟨by rw [e1]; exact a, Fr.refl⟩
end Lw
end

section
namespace Lw
open Mi
open PySem (PyData)
/-! ### _law_shortest, _law_is_piece -/
theorem c_isc {C : CallF} {h : MH} (v : Mi.MV) : callM τ.tab C "_law_is_count" [v] [] [] h = C f_law_is_count [v] h := x_callM tfn_law_is_count (by simp [argsOf, fnp_law_is_count])
theorem e_isc {n : Nat} {h : MH} {v : Mi.MV} (o : okV h v) : Mi.run τ.tab (n+1) f_law_is_count [v] h = .ok (.bl (cnt v)) h := s5 n v h o
theorem c_short {C : CallF} {h : MH} (x y z : Mi.MV) : callM τ.tab C "_law_shortest" [x, y, z] [] [] h = C f_law_shortest [x, y, z] h := x_callM tfn_law_shortest (by simp [argsOf, fnp_law_shortest])
theorem c_isp {C : CallF} {h : MH} (x y : Mi.MV) : callM τ.tab C "_law_is_piece" [x, y] [] [] h = C f_law_is_piece [x, y] h := x_callM tfn_law_is_piece (by simp [argsOf, fnp_law_is_piece])
theorem q_rng2 {T : Tab} {C : CallF} {me : Mi.Env} {h : MH} (a b : ME) : evI T C me (.rng2 a b) h = M.bind (evE T C me a) (fun x => M.bind (evE T C me b) fun y => match x, y with
    | .int i, .int j => if rngOk i ∧ rngOk j then M.pure (.rng i (j - i).toNat) else M.stuck
    | _, _ => M.stuck) h := by simp only [evI] <;> rfl
theorem tpt3 {me : Mi.Env} {h : MH} {i j k : Nat} {a b c : Mi.MV} : setTL me (.tup [a, b, c]) [i, j, k] h = .ok (((me.set i a).set j b).set k c) h := (rfl)
theorem stepF_tpt3 {T : Tab} {C : CallF} {me : Mi.Env} {h : MH} {i j k : Nat} {a b c : Mi.MV} {bd : MSs} : stepF T C (.tp [i, j, k]) bd (.tup [a, b, c]) me h = exB T C bd (((me.set i a).set j b).set k c) h := (rfl)
theorem b_mxx {T : Tab} {h : MH} {l : Nat} {L : List Nat} (A : At h l (.lst (nats L))) (ne : L ≠ []) : ∃ m, m ∈ L ∧ biM T .max1 [.ref l] h = .ok (.int (m : Nat)) h := by
  cases L with
  | nil => exact absurd rfl ne
  | cons k r =>
    have h1 := maxI_mem (r.map fun k => ((k : Nat) : Int)) (k : Nat)
    rw [show ((k : Nat) : Int) :: r.map (fun k => ((k : Nat) : Int)) = (k :: r).map (fun k => ((k : Nat) : Int)) from rfl] at h1
    obtain ⟨m, hm, em⟩ := List.mem_map.mp h1
    refine ⟨m, hm, ?_⟩
    show (match (asList h (.ref l)).bind intsM with
      | some (n :: ns) => Res.ok (Mi.MV.int (maxI n ns)) h
      | _ => .stuck) = _
    rw [asA A, Option.bind_some, nats_ints]
    simp only [List.map_cons]
    rw [em]
theorem b_mn {T : Tab} {h : MH} {l k : Nat} {L : List Nat} (A : At h l (.lst (nats (k :: L)))) (p : (k :: L).Pairwise (· < ·)) : biM T .min1 [.ref l] h = .ok (.int (k : Nat)) h := by
  show (match (asList h (.ref l)).bind intsM with
      | some (n :: ns) => Res.ok (Mi.MV.int (minI n ns)) h
      | _ => .stuck) = _
  rw [asA A, Option.bind_some, nats_ints]
  simp only [List.map_cons]
  rw [min_asc p]
theorem b_lsi {h : MH} {l : Nat} {L : List Nat} (A : At h l (.lst (nats L))) (nd : L.Nodup) (hl : L.length ≤ 4000) : lsiM (.ref l) h = .ok (.int (L.length : Nat)) h := by
  show (match (asList h (.ref l)).bind intsM with
    | some ns => if ns.Nodup ∧ ns.length ≤ 4000 then Res.ok (Mi.MV.int (ns.length : Nat)) h else .stuck
    | none => .stuck) = _
  rw [asA A, Option.bind_some, nats_ints]
  simp only
  rw [if_pos ⟨List.Pairwise.map _ (fun a b hab z => hab (by omega)) nd, by simpa using hl⟩, List.length_map]
def shv (o : Option Nat) : Mi.MV := match o with | some k => .int (k : Nat) | none => .non
section
variable {n l : Nat} {h : MH} {R : List (Int × Option Int)} {t c : Int}
theorem short_sp (gp : GP R) (l4 : R.length ≤ 4) (L : At h l (.lst (R.map enc))) : Sp (Mi.run τ.tab (n+3) f_law_shortest [.ref l, .int t, .int c] h) (fun v h' => v = shv (sht R c t) ∧ Fr [] h h') := by
  refine Sp_for fun Q E hQ => ?_
  refine run_w { sl := [some (.ref l), some (.int t), some (.int c), none, none], ex := none } body_law_shortest rfl rfl rfl ?_
  have e := comp_f (T := τ.tab) (C := Mi.run τ.tab (n+2)) (me := { sl := [some (.ref l), some (.int t), some (.int c), none, none], ex := none }) (vs := [4]) (t := .nm 4) (it := .rng1 (.bi .len (.cons (.var 0) .nil))) (c := .cmp .ge (.var 1) (.call "_law_edge" (.cons (.var 0) (.cons (.var 4) (.cons (.var 2) .nil))) [] .nil [])) (e := .var 4) (h := h) (h2 := h) (J := .rng 0 R.length) (N := R.length)
    (items := fun i => .int (0 + (i : Nat))) (outs := fun i => if tellB R t c i = true then some (.int (i : Nat)) else none) rfl (by
      have : rngOk (R.length : Int) := by unfold rngOk; omega
      try simp only [y_ok, y_exc, y_bind, y_bnd, y_cnd, y_cndt, z_nx, z_rt, z_br, z_ct, z_ex, z_exb0, z_exb1, z_wnwn, z_wnnx, z_wnrt, z_wnbr, z_wnct, z_wnex, z_wxnx, z_wxrt, z_wxbr, z_wxct, z_wxex, z_wlnx, z_wlrt, z_wlbr, z_wlct, z_wlex, z_fnnx, z_fnrt, z_fnex, z_pass, z_ret, z_retN, z_expr, z_asg, z_asgsw, z_asgtp, z_asgsub, z_asgfld, z_ifs, z_fors, z_brk, z_cont, z_trys, x_ct, x_cf, q_mp, q_opt, q_non, q_bl, q_int, q_str, q_var, q_ty, q_cls, q_gint, q_bin, q_neg, q_not, q_cmp, q_sub, q_slc, q_tup, q_lst, q_call, q_mk, q_bi, q_app, q_fld, q_meth, q_nil, q_cons, q_tnot, q_tbl, q_tvar, q_tcmp, q_tchain, q_tsub, q_tcall, q_tbi, q_tmeth, q_bool, q_rng1, q_slcn, q_slcY, z_tand, z_tor, z_and, z_or, z_ife, z_chain, b_max, b_min, b_abs, b_inti, b_intb, b_lent, sw2, sub_t0, sub_t1, o_add, o_sub, o_mul, o_fdiv, o_mod, o_pow, c_eqi, c_nei, c_eqs, c_nes, c_lt, c_le, c_gt, c_ge, c_isn, c_notn, isNon_n, isNon_i, Mi.Env.set, List.set_cons_zero, List.set_cons_succ, List.getElem?_cons_zero, List.getElem?_cons_succ, Option.getD_some, List.length_cons, List.length_nil, stepF_nm, Nat.reduceAdd, Nat.reduceLeDiff, q_iof, it_tup, sz_tup, sz_rg, q_mb, q_b1, b_lenl L, List.length_map, this, if_true]
      rw [Int.toNat_natCast]) rfl (by omega)
    (fun h1 i _ hi => by
      show some (if i < R.length then _ else _) = _
      rw [if_pos hi]) (fun h1 _ => by
      show some (if R.length < R.length then _ else _) = _
      rw [if_neg (Nat.lt_irrefl _)]) (fun h1 i sm hi => by
      have L1 := L.same sm
      refine eq_of_wr ?_
      refine stepG_w (me' := { sl := [some (.ref l), some (.int t), some (.int c), none, some (.int (0 + (i : Nat)))], ex := none }) rfl ?_
      rw [Int.zero_add]
      try simp only [y_ok, y_exc, y_bind, y_bnd, y_cnd, y_cndt, z_nx, z_rt, z_br, z_ct, z_ex, z_exb0, z_exb1, z_wnwn, z_wnnx, z_wnrt, z_wnbr, z_wnct, z_wnex, z_wxnx, z_wxrt, z_wxbr, z_wxct, z_wxex, z_wlnx, z_wlrt, z_wlbr, z_wlct, z_wlex, z_fnnx, z_fnrt, z_fnex, z_pass, z_ret, z_retN, z_expr, z_asg, z_asgsw, z_asgtp, z_asgsub, z_asgfld, z_ifs, z_fors, z_brk, z_cont, z_trys, x_ct, x_cf, q_mp, q_opt, q_non, q_bl, q_int, q_str, q_var, q_ty, q_cls, q_gint, q_bin, q_neg, q_not, q_cmp, q_sub, q_slc, q_tup, q_lst, q_call, q_mk, q_bi, q_app, q_fld, q_meth, q_nil, q_cons, q_tnot, q_tbl, q_tvar, q_tcmp, q_tchain, q_tsub, q_tcall, q_tbi, q_tmeth, q_bool, q_rng1, q_slcn, q_slcY, z_tand, z_tor, z_and, z_or, z_ife, z_chain, b_max, b_min, b_abs, b_inti, b_intb, b_lent, sw2, sub_t0, sub_t1, o_add, o_sub, o_mul, o_fdiv, o_mod, o_pow, c_eqi, c_nei, c_eqs, c_nes, c_lt, c_le, c_gt, c_ge, c_isn, c_notn, isNon_n, isNon_i, Mi.Env.set, List.set_cons_zero, List.set_cons_succ, List.getElem?_cons_zero, List.getElem?_cons_succ, Option.getD_some, List.length_cons, List.length_nil, stepF_nm, Nat.reduceAdd, Nat.reduceLeDiff, q_iof, it_tup, sz_tup, sz_rg, c_edge, e_edge gp L1 (show 0 ≤ (i : Int) by omega) (show (i : Int) < R.length by omega)]
      unfold tellB
      refine cnd_d (fun hz => ?_) (fun hz => ?_)
      · try simp only [y_ok, y_exc, y_bind, y_bnd, y_cnd, y_cndt, z_nx, z_rt, z_br, z_ct, z_ex, z_exb0, z_exb1, z_wnwn, z_wnnx, z_wnrt, z_wnbr, z_wnct, z_wnex, z_wxnx, z_wxrt, z_wxbr, z_wxct, z_wxex, z_wlnx, z_wlrt, z_wlbr, z_wlct, z_wlex, z_fnnx, z_fnrt, z_fnex, z_pass, z_ret, z_retN, z_expr, z_asg, z_asgsw, z_asgtp, z_asgsub, z_asgfld, z_ifs, z_fors, z_brk, z_cont, z_trys, x_ct, x_cf, q_mp, q_opt, q_non, q_bl, q_int, q_str, q_var, q_ty, q_cls, q_gint, q_bin, q_neg, q_not, q_cmp, q_sub, q_slc, q_tup, q_lst, q_call, q_mk, q_bi, q_app, q_fld, q_meth, q_nil, q_cons, q_tnot, q_tbl, q_tvar, q_tcmp, q_tchain, q_tsub, q_tcall, q_tbi, q_tmeth, q_bool, q_rng1, q_slcn, q_slcY, z_tand, z_tor, z_and, z_or, z_ife, z_chain, b_max, b_min, b_abs, b_inti, b_intb, b_lent, sw2, sub_t0, sub_t1, o_add, o_sub, o_mul, o_fdiv, o_mod, o_pow, c_eqi, c_nei, c_eqs, c_nes, c_lt, c_le, c_gt, c_ge, c_isn, c_notn, isNon_n, isNon_i, Mi.Env.set, List.set_cons_zero, List.set_cons_succ, List.getElem?_cons_zero, List.getElem?_cons_succ, Option.getD_some, List.length_cons, List.length_nil, stepF_nm, Nat.reduceAdd, Nat.reduceLeDiff, q_iof, it_tup, sz_tup, sz_rg]; simp [hz]
      · try simp only [y_ok, y_exc, y_bind, y_bnd, y_cnd, y_cndt, z_nx, z_rt, z_br, z_ct, z_ex, z_exb0, z_exb1, z_wnwn, z_wnnx, z_wnrt, z_wnbr, z_wnct, z_wnex, z_wxnx, z_wxrt, z_wxbr, z_wxct, z_wxex, z_wlnx, z_wlrt, z_wlbr, z_wlct, z_wlex, z_fnnx, z_fnrt, z_fnex, z_pass, z_ret, z_retN, z_expr, z_asg, z_asgsw, z_asgtp, z_asgsub, z_asgfld, z_ifs, z_fors, z_brk, z_cont, z_trys, x_ct, x_cf, q_mp, q_opt, q_non, q_bl, q_int, q_str, q_var, q_ty, q_cls, q_gint, q_bin, q_neg, q_not, q_cmp, q_sub, q_slc, q_tup, q_lst, q_call, q_mk, q_bi, q_app, q_fld, q_meth, q_nil, q_cons, q_tnot, q_tbl, q_tvar, q_tcmp, q_tchain, q_tsub, q_tcall, q_tbi, q_tmeth, q_bool, q_rng1, q_slcn, q_slcY, z_tand, z_tor, z_and, z_or, z_ife, z_chain, b_max, b_min, b_abs, b_inti, b_intb, b_lent, sw2, sub_t0, sub_t1, o_add, o_sub, o_mul, o_fdiv, o_mod, o_pow, c_eqi, c_nei, c_eqs, c_nes, c_lt, c_le, c_gt, c_ge, c_isn, c_notn, isNon_n, isNon_i, Mi.Env.set, List.set_cons_zero, List.set_cons_succ, List.getElem?_cons_zero, List.getElem?_cons_succ, Option.getD_some, List.length_cons, List.length_nil, stepF_nm, Nat.reduceAdd, Nat.reduceLeDiff, q_iof, it_tup, sz_tup, sz_rg]; simp [hz])
  rw [fm_filter] at e
  have A2 := At.new (h := h) (o := .lst (nats ((List.range R.length).filter (tellB R t c))))
  have F2 : Fr [] h (h.new (.lst (nats ((List.range R.length).filter (tellB R t c))))) := Fr.new
  unfold body_law_shortest
  rw [z_exb1, z_asg _ _ rfl, e, y_ok]
  have hl : ((List.range R.length).filter (tellB R t c)).length ≤ 100 := Nat.le_trans (List.length_filter_le _ _) (by simp; omega)
  have es : sht R c t = ((List.range R.length).filter (tellB R t c)).head? := rfl
  rw [es] at hQ
  have asc : ((List.range R.length).filter (tellB R t c)).Pairwise (· < ·) := asc_filter
  generalize (List.range R.length).filter (tellB R t c) = L at A2 F2 hl hQ asc ⊢
  generalize h.new (.lst (nats L)) = h2 at A2 F2 ⊢
  generalize h.next = m at A2 ⊢
  try simp only [y_ok, y_exc, y_bind, y_bnd, y_cnd, y_cndt, z_nx, z_rt, z_br, z_ct, z_ex, z_exb0, z_exb1, z_wnwn, z_wnnx, z_wnrt, z_wnbr, z_wnct, z_wnex, z_wxnx, z_wxrt, z_wxbr, z_wxct, z_wxex, z_wlnx, z_wlrt, z_wlbr, z_wlct, z_wlex, z_fnnx, z_fnrt, z_fnex, z_pass, z_ret, z_retN, z_expr, z_asg, z_asgsw, z_asgtp, z_asgsub, z_asgfld, z_ifs, z_fors, z_brk, z_cont, z_trys, x_ct, x_cf, q_mp, q_opt, q_non, q_bl, q_int, q_str, q_var, q_ty, q_cls, q_gint, q_bin, q_neg, q_not, q_cmp, q_sub, q_slc, q_tup, q_lst, q_call, q_mk, q_bi, q_app, q_fld, q_meth, q_nil, q_cons, q_tnot, q_tbl, q_tvar, q_tcmp, q_tchain, q_tsub, q_tcall, q_tbi, q_tmeth, q_bool, q_rng1, q_slcn, q_slcY, z_tand, z_tor, z_and, z_or, z_ife, z_chain, b_max, b_min, b_abs, b_inti, b_intb, b_lent, sw2, sub_t0, sub_t1, o_add, o_sub, o_mul, o_fdiv, o_mod, o_pow, c_eqi, c_nei, c_eqs, c_nes, c_lt, c_le, c_gt, c_ge, c_isn, c_notn, isNon_n, isNon_i, Mi.Env.set, List.set_cons_zero, List.set_cons_succ, List.getElem?_cons_zero, List.getElem?_cons_succ, Option.getD_some, List.length_cons, List.length_nil, x_newL, stepF_nm, Nat.reduceAdd, Nat.reduceLeDiff, q_iof, it_tup, sz_tup, sz_rg]
  have F3 : Fr [] h2 (h2.new (.lst [])) := Fr.new
  have A3 := At.new (h := h2) (o := .lst [])
  have A2' := A2.fr0 F3
  generalize h2.new (.lst []) = h3 at A3 A2' F3 ⊢
  try simp only [y_ok, y_exc, y_bind, y_bnd, y_cnd, y_cndt, z_nx, z_rt, z_br, z_ct, z_ex, z_exb0, z_exb1, z_wnwn, z_wnnx, z_wnrt, z_wnbr, z_wnct, z_wnex, z_wxnx, z_wxrt, z_wxbr, z_wxct, z_wxex, z_wlnx, z_wlrt, z_wlbr, z_wlct, z_wlex, z_fnnx, z_fnrt, z_fnex, z_pass, z_ret, z_retN, z_expr, z_asg, z_asgsw, z_asgtp, z_asgsub, z_asgfld, z_ifs, z_fors, z_brk, z_cont, z_trys, x_ct, x_cf, q_mp, q_opt, q_non, q_bl, q_int, q_str, q_var, q_ty, q_cls, q_gint, q_bin, q_neg, q_not, q_cmp, q_sub, q_slc, q_tup, q_lst, q_call, q_mk, q_bi, q_app, q_fld, q_meth, q_nil, q_cons, q_tnot, q_tbl, q_tvar, q_tcmp, q_tchain, q_tsub, q_tcall, q_tbi, q_tmeth, q_bool, q_rng1, q_slcn, q_slcY, z_tand, z_tor, z_and, z_or, z_ife, z_chain, b_max, b_min, b_abs, b_inti, b_intb, b_lent, sw2, sub_t0, sub_t1, o_add, o_sub, o_mul, o_fdiv, o_mod, o_pow, c_eqi, c_nei, c_eqs, c_nes, c_lt, c_le, c_gt, c_ge, c_isn, c_notn, isNon_n, isNon_i, Mi.Env.set, List.set_cons_zero, List.set_cons_succ, List.getElem?_cons_zero, List.getElem?_cons_succ, Option.getD_some, List.length_cons, List.length_nil, x_newL, stepF_nm, Nat.reduceAdd, Nat.reduceLeDiff, q_iof, it_tup, sz_tup, sz_rg, c_neL A2' A3 hl]
  cases L with
  | nil =>
    try simp only [y_ok, y_exc, y_bind, y_bnd, y_cnd, y_cndt, z_nx, z_rt, z_br, z_ct, z_ex, z_exb0, z_exb1, z_wnwn, z_wnnx, z_wnrt, z_wnbr, z_wnct, z_wnex, z_wxnx, z_wxrt, z_wxbr, z_wxct, z_wxex, z_wlnx, z_wlrt, z_wlbr, z_wlct, z_wlex, z_fnnx, z_fnrt, z_fnex, z_pass, z_ret, z_retN, z_expr, z_asg, z_asgsw, z_asgtp, z_asgsub, z_asgfld, z_ifs, z_fors, z_brk, z_cont, z_trys, x_ct, x_cf, q_mp, q_opt, q_non, q_bl, q_int, q_str, q_var, q_ty, q_cls, q_gint, q_bin, q_neg, q_not, q_cmp, q_sub, q_slc, q_tup, q_lst, q_call, q_mk, q_bi, q_app, q_fld, q_meth, q_nil, q_cons, q_tnot, q_tbl, q_tvar, q_tcmp, q_tchain, q_tsub, q_tcall, q_tbi, q_tmeth, q_bool, q_rng1, q_slcn, q_slcY, z_tand, z_tor, z_and, z_or, z_ife, z_chain, b_max, b_min, b_abs, b_inti, b_intb, b_lent, sw2, sub_t0, sub_t1, o_add, o_sub, o_mul, o_fdiv, o_mod, o_pow, c_eqi, c_nei, c_eqs, c_nes, c_lt, c_le, c_gt, c_ge, c_isn, c_notn, isNon_n, isNon_i, Mi.Env.set, List.set_cons_zero, List.set_cons_succ, List.getElem?_cons_zero, List.getElem?_cons_succ, Option.getD_some, List.length_cons, List.length_nil, x_newL, stepF_nm, Nat.reduceAdd, Nat.reduceLeDiff, q_iof, it_tup, sz_tup, sz_rg, show ([] : List Nat).isEmpty = true from rfl, Bool.not_true]
    exact hQ _ _ ⟨rfl, F2.trans F3⟩
  | cons k r =>
    try simp only [y_ok, y_exc, y_bind, y_bnd, y_cnd, y_cndt, z_nx, z_rt, z_br, z_ct, z_ex, z_exb0, z_exb1, z_wnwn, z_wnnx, z_wnrt, z_wnbr, z_wnct, z_wnex, z_wxnx, z_wxrt, z_wxbr, z_wxct, z_wxex, z_wlnx, z_wlrt, z_wlbr, z_wlct, z_wlex, z_fnnx, z_fnrt, z_fnex, z_pass, z_ret, z_retN, z_expr, z_asg, z_asgsw, z_asgtp, z_asgsub, z_asgfld, z_ifs, z_fors, z_brk, z_cont, z_trys, x_ct, x_cf, q_mp, q_opt, q_non, q_bl, q_int, q_str, q_var, q_ty, q_cls, q_gint, q_bin, q_neg, q_not, q_cmp, q_sub, q_slc, q_tup, q_lst, q_call, q_mk, q_bi, q_app, q_fld, q_meth, q_nil, q_cons, q_tnot, q_tbl, q_tvar, q_tcmp, q_tchain, q_tsub, q_tcall, q_tbi, q_tmeth, q_bool, q_rng1, q_slcn, q_slcY, z_tand, z_tor, z_and, z_or, z_ife, z_chain, b_max, b_min, b_abs, b_inti, b_intb, b_lent, sw2, sub_t0, sub_t1, o_add, o_sub, o_mul, o_fdiv, o_mod, o_pow, c_eqi, c_nei, c_eqs, c_nes, c_lt, c_le, c_gt, c_ge, c_isn, c_notn, isNon_n, isNon_i, Mi.Env.set, List.set_cons_zero, List.set_cons_succ, List.getElem?_cons_zero, List.getElem?_cons_succ, Option.getD_some, List.length_cons, List.length_nil, x_newL, stepF_nm, Nat.reduceAdd, Nat.reduceLeDiff, q_iof, it_tup, sz_tup, sz_rg, show (k :: r).isEmpty = false from rfl, Bool.not_false, b_mn A2' asc]
    exact hQ _ _ ⟨rfl, F2.trans F3⟩
theorem isp_sp {p : Nat × Int × Int} {a : Int} (gp : GP R) (l4 : R.length ≤ 4) (L : At h l (.lst (R.map enc))) (ha : 0 ≤ a) (P : Pc R a c p) : Sp (Mi.run τ.tab (n+2) f_law_is_piece [.ref l, pEnc p] h) (fun v h' => v = .bl true ∧ Fr [] h h') := by
  obtain ⟨g, b, e⟩ := p
  obtain ⟨lt, lo, gl, m1, m2, _⟩ := P
  simp only at lt lo gl m1 m2
  have pos := (gp.pos _ (row_mem (R := R) (i := (g : Int)) (by omega) (by omega))).1
  have b0 : 0 ≤ b := by omega
  have e0 : 0 ≤ e := by omega
  refine Sp_for fun Q E hQ => ?_
  refine run_w { sl := [some (.ref l), some (.tup [.int g, .int b, .int e]), none, none, none, none], ex := none } body_law_is_piece rfl rfl rfl ?_
  have ec := comp_f (T := τ.tab) (C := Mi.run τ.tab (n+1)) (me := { sl := [some (.ref l), some (.tup [.int g, .int b, .int e]), none, none, none, none], ex := none }) (vs := [5]) (t := .nm 5) (it := .of (.var 1)) (c := .notE (.call "_law_is_count" (.cons (.var 5) .nil) [] .nil [])) (e := .var 5) (h := h) (h2 := h) (J := .tup [.int g, .int b, .int e]) (N := 3)
    (items := fun i => ([.int g, .int b, .int e] : List Mi.MV).getD i .non) (outs := fun i => none) rfl (by try simp only [y_ok, y_exc, y_bind, y_bnd, y_cnd, y_cndt, z_nx, z_rt, z_br, z_ct, z_ex, z_exb0, z_exb1, z_wnwn, z_wnnx, z_wnrt, z_wnbr, z_wnct, z_wnex, z_wxnx, z_wxrt, z_wxbr, z_wxct, z_wxex, z_wlnx, z_wlrt, z_wlbr, z_wlct, z_wlex, z_fnnx, z_fnrt, z_fnex, z_pass, z_ret, z_retN, z_expr, z_asg, z_asgsw, z_asgtp, z_asgsub, z_asgfld, z_ifs, z_fors, z_brk, z_cont, z_trys, x_ct, x_cf, q_mp, q_opt, q_non, q_bl, q_int, q_str, q_var, q_ty, q_cls, q_gint, q_bin, q_neg, q_not, q_cmp, q_sub, q_slc, q_tup, q_lst, q_call, q_mk, q_bi, q_app, q_fld, q_meth, q_nil, q_cons, q_tnot, q_tbl, q_tvar, q_tcmp, q_tchain, q_tsub, q_tcall, q_tbi, q_tmeth, q_bool, q_rng1, q_slcn, q_slcY, z_tand, z_tor, z_and, z_or, z_ife, z_chain, b_max, b_min, b_abs, b_inti, b_intb, b_lent, sw2, sub_t0, sub_t1, o_add, o_sub, o_mul, o_fdiv, o_mod, o_pow, c_eqi, c_nei, c_eqs, c_nes, c_lt, c_le, c_gt, c_ge, c_isn, c_notn, isNon_n, isNon_i, Mi.Env.set, List.set_cons_zero, List.set_cons_succ, List.getElem?_cons_zero, List.getElem?_cons_succ, Option.getD_some, List.length_cons, List.length_nil, stepF_nm, Nat.reduceAdd, Nat.reduceLeDiff, q_iof, it_tup, sz_tup, sz_rg, q_mb, q_b1]) rfl (by omega)
    (fun h1 i _ hi => by
      show some (([.int g, .int b, .int e] : List Mi.MV)[i]?) = _
      have : i = 0 ∨ i = 1 ∨ i = 2 := by omega
      rcases this with rfl | rfl | rfl <;> rfl) (fun h1 _ => rfl) (fun h1 i _ hi => by
      obtain ⟨j, ej, hj⟩ : ∃ j : Int, ([.int g, .int b, .int e] : List Mi.MV).getD i .non = .int j ∧ 0 ≤ j := by
        have : i = 0 ∨ i = 1 ∨ i = 2 := by omega
        rcases this with rfl | rfl | rfl
        · exact ⟨g, rfl, by omega⟩
        · exact ⟨b, rfl, b0⟩
        · exact ⟨e, rfl, e0⟩
      rw [ej]
      refine eq_of_wr ?_
      refine stepG_w (me' := { sl := [some (.ref l), some (.tup [.int g, .int b, .int e]), none, none, none, some (.int j)], ex := none }) rfl ?_
      try simp only [y_ok, y_exc, y_bind, y_bnd, y_cnd, y_cndt, z_nx, z_rt, z_br, z_ct, z_ex, z_exb0, z_exb1, z_wnwn, z_wnnx, z_wnrt, z_wnbr, z_wnct, z_wnex, z_wxnx, z_wxrt, z_wxbr, z_wxct, z_wxex, z_wlnx, z_wlrt, z_wlbr, z_wlct, z_wlex, z_fnnx, z_fnrt, z_fnex, z_pass, z_ret, z_retN, z_expr, z_asg, z_asgsw, z_asgtp, z_asgsub, z_asgfld, z_ifs, z_fors, z_brk, z_cont, z_trys, x_ct, x_cf, q_mp, q_opt, q_non, q_bl, q_int, q_str, q_var, q_ty, q_cls, q_gint, q_bin, q_neg, q_not, q_cmp, q_sub, q_slc, q_tup, q_lst, q_call, q_mk, q_bi, q_app, q_fld, q_meth, q_nil, q_cons, q_tnot, q_tbl, q_tvar, q_tcmp, q_tchain, q_tsub, q_tcall, q_tbi, q_tmeth, q_bool, q_rng1, q_slcn, q_slcY, z_tand, z_tor, z_and, z_or, z_ife, z_chain, b_max, b_min, b_abs, b_inti, b_intb, b_lent, sw2, sub_t0, sub_t1, o_add, o_sub, o_mul, o_fdiv, o_mod, o_pow, c_eqi, c_nei, c_eqs, c_nes, c_lt, c_le, c_gt, c_ge, c_isn, c_notn, isNon_n, isNon_i, Mi.Env.set, List.set_cons_zero, List.set_cons_succ, List.getElem?_cons_zero, List.getElem?_cons_succ, Option.getD_some, List.length_cons, List.length_nil, stepF_nm, Nat.reduceAdd, Nat.reduceLeDiff, q_iof, it_tup, sz_tup, sz_rg, c_isc, e_isc (show okV h1 (.int j) from trivial), show cnt (.int j) = true by simp [cnt, hj], Bool.not_true]
      simp)
  rw [show (List.range 3).filterMap (fun _ => (none : Option Mi.MV)) = [] from rfl] at ec
  have vt : V [] h (.tup [.int g, .int b, .int e]) (.tuple [.int g, .int b, .int e]) := .tup (.cons (.int _) (.cons (.int _) (.cons (.int _) .nil)))
  have is := vt.isi (T := τ.tab) (b := "tuple") (k := true) (by show subTy "tuple" "tuple" = some true; decide +kernel)
  have F2 : Fr [] h (h.new (.lst [])) := Fr.new
  have A2 := At.new (h := h) (o := .lst [])
  unfold body_law_is_piece
  try simp only [y_ok, y_exc, y_bind, y_bnd, y_cnd, y_cndt, z_nx, z_rt, z_br, z_ct, z_ex, z_exb0, z_exb1, z_wnwn, z_wnnx, z_wnrt, z_wnbr, z_wnct, z_wnex, z_wxnx, z_wxrt, z_wxbr, z_wxct, z_wxex, z_wlnx, z_wlrt, z_wlbr, z_wlct, z_wlex, z_fnnx, z_fnrt, z_fnex, z_pass, z_ret, z_retN, z_expr, z_asg, z_asgsw, z_asgtp, z_asgsub, z_asgfld, z_ifs, z_fors, z_brk, z_cont, z_trys, x_ct, x_cf, q_mp, q_opt, q_non, q_bl, q_int, q_str, q_var, q_ty, q_cls, q_gint, q_bin, q_neg, q_not, q_cmp, q_sub, q_slc, q_tup, q_lst, q_call, q_mk, q_bi, q_app, q_fld, q_meth, q_nil, q_cons, q_tnot, q_tbl, q_tvar, q_tcmp, q_tchain, q_tsub, q_tcall, q_tbi, q_tmeth, q_bool, q_rng1, q_slcn, q_slcY, z_tand, z_tor, z_and, z_or, z_ife, z_chain, b_max, b_min, b_abs, b_inti, b_intb, b_lent, sw2, sub_t0, sub_t1, o_add, o_sub, o_mul, o_fdiv, o_mod, o_pow, c_eqi, c_nei, c_eqs, c_nes, c_lt, c_le, c_gt, c_ge, c_isn, c_notn, isNon_n, isNon_i, Mi.Env.set, List.set_cons_zero, List.set_cons_succ, List.getElem?_cons_zero, List.getElem?_cons_succ, Option.getD_some, List.length_cons, List.length_nil, stepF_nm, Nat.reduceAdd, Nat.reduceLeDiff, q_iof, it_tup, sz_tup, sz_rg, is, Bool.not_true, show decide ((((3 : Nat) : Int)) = 3) = true by decide]
  rw [ec, y_ok]
  generalize h.new (.lst []) = h2 at A2 F2 ⊢
  generalize h.next = m at A2 ⊢
  have F3 : Fr [] h2 (h2.new (.lst [])) := Fr.new
  have A3 := At.new (h := h2) (o := .lst [])
  have A2' := A2.fr0 F3
  have L3 := (L.fr0 F2).fr0 F3
  try simp only [y_ok, y_exc, y_bind, y_bnd, y_cnd, y_cndt, z_nx, z_rt, z_br, z_ct, z_ex, z_exb0, z_exb1, z_wnwn, z_wnnx, z_wnrt, z_wnbr, z_wnct, z_wnex, z_wxnx, z_wxrt, z_wxbr, z_wxct, z_wxex, z_wlnx, z_wlrt, z_wlbr, z_wlct, z_wlex, z_fnnx, z_fnrt, z_fnex, z_pass, z_ret, z_retN, z_expr, z_asg, z_asgsw, z_asgtp, z_asgsub, z_asgfld, z_ifs, z_fors, z_brk, z_cont, z_trys, x_ct, x_cf, q_mp, q_opt, q_non, q_bl, q_int, q_str, q_var, q_ty, q_cls, q_gint, q_bin, q_neg, q_not, q_cmp, q_sub, q_slc, q_tup, q_lst, q_call, q_mk, q_bi, q_app, q_fld, q_meth, q_nil, q_cons, q_tnot, q_tbl, q_tvar, q_tcmp, q_tchain, q_tsub, q_tcall, q_tbi, q_tmeth, q_bool, q_rng1, q_slcn, q_slcY, z_tand, z_tor, z_and, z_or, z_ife, z_chain, b_max, b_min, b_abs, b_inti, b_intb, b_lent, sw2, sub_t0, sub_t1, o_add, o_sub, o_mul, o_fdiv, o_mod, o_pow, c_eqi, c_nei, c_eqs, c_nes, c_lt, c_le, c_gt, c_ge, c_isn, c_notn, isNon_n, isNon_i, Mi.Env.set, List.set_cons_zero, List.set_cons_succ, List.getElem?_cons_zero, List.getElem?_cons_succ, Option.getD_some, List.length_cons, List.length_nil, x_newL, stepF_nm, Nat.reduceAdd, Nat.reduceLeDiff, q_iof, it_tup, sz_tup, sz_rg]
  generalize h2.new (.lst []) = h3 at A3 A2' F3 L3 ⊢
  try simp only [y_ok, y_exc, y_bind, y_bnd, y_cnd, y_cndt, z_nx, z_rt, z_br, z_ct, z_ex, z_exb0, z_exb1, z_wnwn, z_wnnx, z_wnrt, z_wnbr, z_wnct, z_wnex, z_wxnx, z_wxrt, z_wxbr, z_wxct, z_wxex, z_wlnx, z_wlrt, z_wlbr, z_wlct, z_wlex, z_fnnx, z_fnrt, z_fnex, z_pass, z_ret, z_retN, z_expr, z_asg, z_asgsw, z_asgtp, z_asgsub, z_asgfld, z_ifs, z_fors, z_brk, z_cont, z_trys, x_ct, x_cf, q_mp, q_opt, q_non, q_bl, q_int, q_str, q_var, q_ty, q_cls, q_gint, q_bin, q_neg, q_not, q_cmp, q_sub, q_slc, q_tup, q_lst, q_call, q_mk, q_bi, q_app, q_fld, q_meth, q_nil, q_cons, q_tnot, q_tbl, q_tvar, q_tcmp, q_tchain, q_tsub, q_tcall, q_tbi, q_tmeth, q_bool, q_rng1, q_slcn, q_slcY, z_tand, z_tor, z_and, z_or, z_ife, z_chain, b_max, b_min, b_abs, b_inti, b_intb, b_lent, sw2, sub_t0, sub_t1, o_add, o_sub, o_mul, o_fdiv, o_mod, o_pow, c_eqi, c_nei, c_eqs, c_nes, c_lt, c_le, c_gt, c_ge, c_isn, c_notn, isNon_n, isNon_i, Mi.Env.set, List.set_cons_zero, List.set_cons_succ, List.getElem?_cons_zero, List.getElem?_cons_succ, Option.getD_some, List.length_cons, List.length_nil, x_newL, stepF_nm, Nat.reduceAdd, Nat.reduceLeDiff, q_iof, it_tup, sz_tup, sz_rg, c_neL (L := []) A2' A3 (by simp), show ([] : List Nat).isEmpty = true from rfl, Bool.not_true, tpt3, b_lenl L3, List.length_map, show decide ((R.length : Int) ≤ (g : Int)) = false by simp; omega, show decide (e ≤ b) = false by simp; omega, sbA L3 (show 0 ≤ (g : Int) by omega) (show (g : Int) < R.length by omega), sb0, pos, m1, m2, decide_true]
  exact hQ _ _ ⟨rfl, F2.trans F3⟩
end
end Lw
end

section
namespace Lw
open Mi
open PySem (PyData)
/-! ### _law_tiled -/
def pDat (p : Nat × Int × Int) : PyData := .tuple [.int (p.1 : Nat), .int p.2.1, .int p.2.2]
theorem pcs_v {S : List Nat} {h : MH} : ∀ P : List (Nat × Int × Int), Vs S h (P.map pEnc) (P.map pDat)
  | [] => .nil
  | p :: P => .cons (.tup (.cons (.int _) (.cons (.int _) (.cons (.int _) .nil)))) (pcs_v P)
theorem shv_s {k : Nat} : shv (some k) = .int (k : Nat) := (rfl)
/-- a loop over a list -/
theorem for_x {P : Po} {me : Mi.Env} {h : MH} {S : List Nat} {l : Nat} {xs : List Mi.MV} {step : Mi.MV → Mi.Env → MH → SR} (J : Nat → Mi.Env → MH → Prop) (a : At h l (.lst xs)) (hl : l ∉ S) (j0 : J 0 me h)
    (st : ∀ i x me1 h1, i < xs.length → xs[i]? = some x → Fr S h h1 → J i me1 h1 → Wt (P.wl fun me2 h2 => J (i + 1) me2 h2 ∧ Fr S h1 h2) (step x me1 h1))
    (fin : ∀ me1 h1, Fr S h h1 → J xs.length me1 h1 → P.nx me1 h1) : Wt P (forL step (.lst l) xs.length 0 me h) := by
  refine forL_w (N := xs.length) (items := fun i => xs[i]?.getD .non) (I := fun i me1 h1 => J i me1 h1 ∧ Fr S h h1) ?_ ?_ ?_ ?_ xs.length 0 me h (by omega) ⟨j0, Fr.refl⟩
  · rintro i me1 h1 ⟨_, f⟩ hi
    rw [at_lst (a.fr f hl)]
    simp [hi]
  · rintro me1 h1 ⟨_, f⟩
    rw [at_lst (a.fr f hl)]
    simp
  · rintro i me1 h1 hi ⟨j, f⟩
    have e1 : xs[i]? = some xs[i] := by simp [hi]
    rw [e1]
    exact Wt_mono (st i _ me1 h1 hi e1 f j) (fun _ _ z => ⟨z.1, f.trans z.2⟩) (fun _ _ => id) (fun _ _ => id) (fun _ _ z => ⟨z.1, f.trans z.2⟩) (fun _ _ _ _ => id)
  · rintro me1 h1 ⟨j, f⟩
    exact fin me1 h1 f j
/-- a comprehension that takes nothing -/
theorem compL_n {step : Mi.MV → M (Option Mi.MV)} {it : Mi.It} {r N : Nat} {h0 : MH} (hit : ∀ h i, Fr [] h0 h → i < N → ∃ v, it.at h i = some (some v) ∧ Sp (step v h) (fun o h' => o = none ∧ Fr [] h h')) (hend : ∀ h, Fr [] h0 h → it.at h N = some none) : ∀ (k i : Nat) (h : MH), Fr [] h0 h → i + k = N → Sp (Mi.compL step it r k i h) (fun _ h' => Fr [] h h')
  | 0, i, h, f, hk => by
    refine Sp_for fun Q E hQ => ?_
    rw [compL_0 (by rw [show i = N by omega]; exact hend h f)]
    exact hQ _ _ Fr.refl
  | k + 1, i, h, f, hk => by
    obtain ⟨v, e, s⟩ := hit h i f (by omega)
    refine Sp_for fun Q E hQ => ?_
    refine compL_1 e ?_
    refine Wr_of s ?_
    rintro _ h1 ⟨rfl, f1⟩
    refine Wr_of (compL_n hit hend k (i + 1) h1 (f.trans f1) (by omega)) ?_
    exact fun a h2 f2 => hQ _ _ (f1.trans f2)
theorem range_map {α β : Type} {d : α} {g : α → β} (P : List α) : (List.range P.length).map (fun i => g (P.getD i d)) = P.map g := by
  apply List.ext_getElem
  · simp
  · intro i h1 h2
    simp at h1
    simp [List.getD, h1]
section
variable {n l m q : Nat} {h : MH} {R : List (Int × Option Int)} {a s c : Int} {P : List (Nat × Int × Int)}
theorem grains_ev {C : CallF} {me : Mi.Env} {k : Nat} {it : ME} (hx : me.ex = none) (hk : k < me.sl.length) (ei : evE τ.tab C me it h = .ok (.ref q) h) (A : At h q (.lst (P.map pEnc))) (hl : P.length ≤ 4) : evE τ.tab C me (.comp [k] (.nm k) (.of it) (.bl true) (.sub (.var k) (.int 0))) h = .ok (.ref h.next) (h.new (.lst (nats (P.map (·.1))))) := by
  have e := comp_ok (C := C) (me := me) (vs := [k]) (t := .nm k) (it := .of it) (c := .bl true) (e := .sub (.var k) (.int 0)) (h := h) (J := .lst q) (N := P.length) (items := fun i => pEnc (P.getD i (0, 0, 0))) (outs := fun i => .int ((P.getD i (0, 0, 0)).1 : Nat)) hx (by try simp only [y_ok, y_exc, y_bind, y_bnd, y_cnd, y_cndt, z_nx, z_rt, z_br, z_ct, z_ex, z_exb0, z_exb1, z_wnwn, z_wnnx, z_wnrt, z_wnbr, z_wnct, z_wnex, z_wxnx, z_wxrt, z_wxbr, z_wxct, z_wxex, z_wlnx, z_wlrt, z_wlbr, z_wlct, z_wlex, z_fnnx, z_fnrt, z_fnex, z_pass, z_ret, z_retN, z_expr, z_asg, z_asgsw, z_asgtp, z_asgsub, z_asgfld, z_ifs, z_fors, z_brk, z_cont, z_trys, x_ct, x_cf, q_mp, q_opt, q_non, q_bl, q_int, q_str, q_var, q_ty, q_cls, q_gint, q_bin, q_neg, q_not, q_cmp, q_sub, q_slc, q_tup, q_lst, q_call, q_mk, q_bi, q_app, q_fld, q_meth, q_nil, q_cons, q_tnot, q_tbl, q_tvar, q_tcmp, q_tchain, q_tsub, q_tcall, q_tbi, q_tmeth, q_bool, q_rng1, q_slcn, q_slcY, z_tand, z_tor, z_and, z_or, z_ife, z_chain, b_max, b_min, b_abs, b_inti, b_intb, b_lent, sw2, sub_t0, sub_t1, o_add, o_sub, o_mul, o_fdiv, o_mod, o_pow, c_eqi, c_nei, c_eqs, c_nes, c_lt, c_le, c_gt, c_ge, c_isn, c_notn, isNon_n, isNon_i, Mi.Env.set, List.set_cons_zero, List.set_cons_succ, List.getElem?_cons_zero, List.getElem?_cons_succ, Option.getD_some, List.length_cons, List.length_nil, stepF_nm, Nat.reduceAdd, Nat.reduceLeDiff, q_iof, it_tup, sz_tup, sz_rg, q_mb, q_b1, ei, it_lst A]) (by rw [sz_lst A]; simp) (by omega)
    (fun h1 i sm hi => by
      rw [at_lst (A.same sm)]
      simp [List.getD, hi]) (fun h1 sm => by
      rw [at_lst (A.same sm)]
      simp) (fun h1 i _ hi => by
      have hv : (((wipeM me [k]).set k (pEnc (P.getD i (0, 0, 0)))).sl[k]?).getD none = some (pEnc (P.getD i (0, 0, 0))) := by
        simp [wipeM, Mi.Env.set, hk]
      generalize P.getD i (0, 0, 0) = p at hv
      unfold stepC
      simp only [setT]
      unfold quiet
      simp only [M.bind, q_tbl, if_true, q_mp]
      have : evE τ.tab C ((wipeM me [k]).set k (pEnc p)) (.sub (.var k) (.int 0)) h1 = .ok (.int (p.1 : Nat)) h1 := by
        refine eq_of_wr ?_
        simp only [pEnc, Mi.Env.set] at hv
        try simp only [y_ok, y_exc, y_bind, y_bnd, y_cnd, y_cndt, z_nx, z_rt, z_br, z_ct, z_ex, z_exb0, z_exb1, z_wnwn, z_wnnx, z_wnrt, z_wnbr, z_wnct, z_wnex, z_wxnx, z_wxrt, z_wxbr, z_wxct, z_wxex, z_wlnx, z_wlrt, z_wlbr, z_wlct, z_wlex, z_fnnx, z_fnrt, z_fnex, z_pass, z_ret, z_retN, z_expr, z_asg, z_asgsw, z_asgtp, z_asgsub, z_asgfld, z_ifs, z_fors, z_brk, z_cont, z_trys, x_ct, x_cf, q_mp, q_opt, q_non, q_bl, q_int, q_str, q_var, q_ty, q_cls, q_gint, q_bin, q_neg, q_not, q_cmp, q_sub, q_slc, q_tup, q_lst, q_call, q_mk, q_bi, q_app, q_fld, q_meth, q_nil, q_cons, q_tnot, q_tbl, q_tvar, q_tcmp, q_tchain, q_tsub, q_tcall, q_tbi, q_tmeth, q_bool, q_rng1, q_slcn, q_slcY, z_tand, z_tor, z_and, z_or, z_ife, z_chain, b_max, b_min, b_abs, b_inti, b_intb, b_lent, sw2, sub_t0, sub_t1, o_add, o_sub, o_mul, o_fdiv, o_mod, o_pow, c_eqi, c_nei, c_eqs, c_nes, c_lt, c_le, c_gt, c_ge, c_isn, c_notn, isNon_n, isNon_i, Mi.Env.set, List.set_cons_zero, List.set_cons_succ, List.getElem?_cons_zero, List.getElem?_cons_succ, Option.getD_some, List.length_cons, List.length_nil, stepF_nm, Nat.reduceAdd, Nat.reduceLeDiff, q_iof, it_tup, sz_tup, sz_rg, pEnc, hv]
        exact ⟨trivial, trivial⟩
      rw [this])
  rw [range_map (g := fun p : Nat × Int × Int => Mi.MV.int (p.1 : Nat)) P] at e
  rw [e]
  unfold nats
  rw [List.map_map]; rfl
theorem tiled_sp (gr : GR R) (L : At h l (.lst (R.map enc))) (A : At h m (.lst [.int a, .int s, .int c])) (Aq : At h q (.lst (P.map pEnc))) (ha : 0 ≤ a) (bd : a + s < 2 ^ 60) (hP : ∀ p ∈ P, Pc R a c p ∧ p.2.2 ≤ a + s) (ch : Chn a P (a + s)) (nd : (P.map (·.1)).Nodup) (hl : P.length ≤ 4) :
    Sp (Mi.run τ.tab (n+4) f_law_tiled [.ref l, .ref m, .ref q] h) (fun v h' => v = .bl true ∧ Fr [] h h') := by
  have gp := gr.toGP
  have l4 := gr.len.2
  refine Sp_for fun Q E hQ => ?_
  refine run_w { sl := [some (.ref l), some (.ref m), some (.ref q), none, none, none, none, none, none, none, none, none, none], ex := none } body_law_tiled rfl rfl rfl ?_
  have vq : V [] h (.ref q) (.list (P.map pDat)) := .lst Aq.lt (by simp) Aq.get (pcs_v P)
  unfold body_law_tiled
  try simp only [y_ok, y_exc, y_bind, y_bnd, y_cnd, y_cndt, z_nx, z_rt, z_br, z_ct, z_ex, z_exb0, z_exb1, z_wnwn, z_wnnx, z_wnrt, z_wnbr, z_wnct, z_wnex, z_wxnx, z_wxrt, z_wxbr, z_wxct, z_wxex, z_wlnx, z_wlrt, z_wlbr, z_wlct, z_wlex, z_fnnx, z_fnrt, z_fnex, z_pass, z_ret, z_retN, z_expr, z_asg, z_asgsw, z_asgtp, z_asgsub, z_asgfld, z_ifs, z_fors, z_brk, z_cont, z_trys, x_ct, x_cf, q_mp, q_opt, q_non, q_bl, q_int, q_str, q_var, q_ty, q_cls, q_gint, q_bin, q_neg, q_not, q_cmp, q_sub, q_slc, q_tup, q_lst, q_call, q_mk, q_bi, q_app, q_fld, q_meth, q_nil, q_cons, q_tnot, q_tbl, q_tvar, q_tcmp, q_tchain, q_tsub, q_tcall, q_tbi, q_tmeth, q_bool, q_rng1, q_slcn, q_slcY, z_tand, z_tor, z_and, z_or, z_ife, z_chain, b_max, b_min, b_abs, b_inti, b_intb, b_lent, sw2, sub_t0, sub_t1, o_add, o_sub, o_mul, o_fdiv, o_mod, o_pow, c_eqi, c_nei, c_eqs, c_nes, c_lt, c_le, c_gt, c_ge, c_isn, c_notn, isNon_n, isNon_i, Mi.Env.set, List.set_cons_zero, List.set_cons_succ, List.getElem?_cons_zero, List.getElem?_cons_succ, Option.getD_some, List.length_cons, List.length_nil, stepF_nm, Nat.reduceAdd, Nat.reduceLeDiff, q_iof, it_tup, sz_tup, sz_rg, tp3 A, isi_list vq, show isLd (.list (P.map pDat)) = true from rfl, Bool.not_true]
  refine comp_w rfl ?_
  try simp only [y_ok, y_exc, y_bind, y_bnd, y_cnd, y_cndt, z_nx, z_rt, z_br, z_ct, z_ex, z_exb0, z_exb1, z_wnwn, z_wnnx, z_wnrt, z_wnbr, z_wnct, z_wnex, z_wxnx, z_wxrt, z_wxbr, z_wxct, z_wxex, z_wlnx, z_wlrt, z_wlbr, z_wlct, z_wlex, z_fnnx, z_fnrt, z_fnex, z_pass, z_ret, z_retN, z_expr, z_asg, z_asgsw, z_asgtp, z_asgsub, z_asgfld, z_ifs, z_fors, z_brk, z_cont, z_trys, x_ct, x_cf, q_mp, q_opt, q_non, q_bl, q_int, q_str, q_var, q_ty, q_cls, q_gint, q_bin, q_neg, q_not, q_cmp, q_sub, q_slc, q_tup, q_lst, q_call, q_mk, q_bi, q_app, q_fld, q_meth, q_nil, q_cons, q_tnot, q_tbl, q_tvar, q_tcmp, q_tchain, q_tsub, q_tcall, q_tbi, q_tmeth, q_bool, q_rng1, q_slcn, q_slcY, z_tand, z_tor, z_and, z_or, z_ife, z_chain, b_max, b_min, b_abs, b_inti, b_intb, b_lent, sw2, sub_t0, sub_t1, o_add, o_sub, o_mul, o_fdiv, o_mod, o_pow, c_eqi, c_nei, c_eqs, c_nes, c_lt, c_le, c_gt, c_ge, c_isn, c_notn, isNon_n, isNon_i, Mi.Env.set, List.set_cons_zero, List.set_cons_succ, List.getElem?_cons_zero, List.getElem?_cons_succ, Option.getD_some, List.length_cons, List.length_nil, stepF_nm, Nat.reduceAdd, Nat.reduceLeDiff, q_iof, it_tup, sz_tup, sz_rg, it_lst Aq, sz_lst Aq]
  have F0 : Fr [] h (h.new (.lst [])) := Fr.new
  have A0 := At.new (h := h) (o := .lst [])
  generalize h.new (.lst []) = h0 at F0 A0 ⊢
  have L0 := L.fr0 F0
  have Aq0 := Aq.fr0 F0
  generalize h.next = r0 at A0 ⊢
  refine Wr_of (compL_n (N := (P.map pEnc).length) (h0 := h0) (fun h1 i f hi => ?_) (fun h1 f => by rw [at_lst (Aq0.fr0 f)]; simp) _ 0 h0 Fr.refl (by omega)) ?_
  · have hi2 : i < P.length := by simpa using hi
    refine ⟨pEnc P[i], by rw [at_lst (Aq0.fr0 f)]; simp [hi2], ?_⟩
    have pc := (hP P[i] (List.getElem_mem hi2)).1
    refine Sp_for fun Q E hQ => ?_
    refine stepG_w (me' := { sl := [some (.ref l), some (.ref m), some (.ref q), some (.int a), some (.int s), some (.int c), none, none, none, none, none, none, some (pEnc P[i])], ex := none }) rfl ?_
    try simp only [y_ok, y_exc, y_bind, y_bnd, y_cnd, y_cndt, z_nx, z_rt, z_br, z_ct, z_ex, z_exb0, z_exb1, z_wnwn, z_wnnx, z_wnrt, z_wnbr, z_wnct, z_wnex, z_wxnx, z_wxrt, z_wxbr, z_wxct, z_wxex, z_wlnx, z_wlrt, z_wlbr, z_wlct, z_wlex, z_fnnx, z_fnrt, z_fnex, z_pass, z_ret, z_retN, z_expr, z_asg, z_asgsw, z_asgtp, z_asgsub, z_asgfld, z_ifs, z_fors, z_brk, z_cont, z_trys, x_ct, x_cf, q_mp, q_opt, q_non, q_bl, q_int, q_str, q_var, q_ty, q_cls, q_gint, q_bin, q_neg, q_not, q_cmp, q_sub, q_slc, q_tup, q_lst, q_call, q_mk, q_bi, q_app, q_fld, q_meth, q_nil, q_cons, q_tnot, q_tbl, q_tvar, q_tcmp, q_tchain, q_tsub, q_tcall, q_tbi, q_tmeth, q_bool, q_rng1, q_slcn, q_slcY, z_tand, z_tor, z_and, z_or, z_ife, z_chain, b_max, b_min, b_abs, b_inti, b_intb, b_lent, sw2, sub_t0, sub_t1, o_add, o_sub, o_mul, o_fdiv, o_mod, o_pow, c_eqi, c_nei, c_eqs, c_nes, c_lt, c_le, c_gt, c_ge, c_isn, c_notn, isNon_n, isNon_i, Mi.Env.set, List.set_cons_zero, List.set_cons_succ, List.getElem?_cons_zero, List.getElem?_cons_succ, Option.getD_some, List.length_cons, List.length_nil, stepF_nm, Nat.reduceAdd, Nat.reduceLeDiff, q_iof, it_tup, sz_tup, sz_rg, c_isp]
    refine Wr_of (isp_sp (n := n+1) gp l4 (L0.fr0 f) ha pc) ?_
    rintro _ h2 ⟨rfl, F2⟩
    try simp only [y_ok, y_exc, y_bind, y_bnd, y_cnd, y_cndt, z_nx, z_rt, z_br, z_ct, z_ex, z_exb0, z_exb1, z_wnwn, z_wnnx, z_wnrt, z_wnbr, z_wnct, z_wnex, z_wxnx, z_wxrt, z_wxbr, z_wxct, z_wxex, z_wlnx, z_wlrt, z_wlbr, z_wlct, z_wlex, z_fnnx, z_fnrt, z_fnex, z_pass, z_ret, z_retN, z_expr, z_asg, z_asgsw, z_asgtp, z_asgsub, z_asgfld, z_ifs, z_fors, z_brk, z_cont, z_trys, x_ct, x_cf, q_mp, q_opt, q_non, q_bl, q_int, q_str, q_var, q_ty, q_cls, q_gint, q_bin, q_neg, q_not, q_cmp, q_sub, q_slc, q_tup, q_lst, q_call, q_mk, q_bi, q_app, q_fld, q_meth, q_nil, q_cons, q_tnot, q_tbl, q_tvar, q_tcmp, q_tchain, q_tsub, q_tcall, q_tbi, q_tmeth, q_bool, q_rng1, q_slcn, q_slcY, z_tand, z_tor, z_and, z_or, z_ife, z_chain, b_max, b_min, b_abs, b_inti, b_intb, b_lent, sw2, sub_t0, sub_t1, o_add, o_sub, o_mul, o_fdiv, o_mod, o_pow, c_eqi, c_nei, c_eqs, c_nes, c_lt, c_le, c_gt, c_ge, c_isn, c_notn, isNon_n, isNon_i, Mi.Env.set, List.set_cons_zero, List.set_cons_succ, List.getElem?_cons_zero, List.getElem?_cons_succ, Option.getD_some, List.length_cons, List.length_nil, stepF_nm, Nat.reduceAdd, Nat.reduceLeDiff, q_iof, it_tup, sz_tup, sz_rg, Bool.not_true]
    exact hQ _ _ ⟨rfl, F2⟩
  intro _ h1 F1
  have A1 := A0.fr0 F1
  have F1 := F0.trans F1
  try simp only [y_ok, y_exc, y_bind, y_bnd, y_cnd, y_cndt, z_nx, z_rt, z_br, z_ct, z_ex, z_exb0, z_exb1, z_wnwn, z_wnnx, z_wnrt, z_wnbr, z_wnct, z_wnex, z_wxnx, z_wxrt, z_wxbr, z_wxct, z_wxex, z_wlnx, z_wlrt, z_wlbr, z_wlct, z_wlex, z_fnnx, z_fnrt, z_fnex, z_pass, z_ret, z_retN, z_expr, z_asg, z_asgsw, z_asgtp, z_asgsub, z_asgfld, z_ifs, z_fors, z_brk, z_cont, z_trys, x_ct, x_cf, q_mp, q_opt, q_non, q_bl, q_int, q_str, q_var, q_ty, q_cls, q_gint, q_bin, q_neg, q_not, q_cmp, q_sub, q_slc, q_tup, q_lst, q_call, q_mk, q_bi, q_app, q_fld, q_meth, q_nil, q_cons, q_tnot, q_tbl, q_tvar, q_tcmp, q_tchain, q_tsub, q_tcall, q_tbi, q_tmeth, q_bool, q_rng1, q_slcn, q_slcY, z_tand, z_tor, z_and, z_or, z_ife, z_chain, b_max, b_min, b_abs, b_inti, b_intb, b_lent, sw2, sub_t0, sub_t1, o_add, o_sub, o_mul, o_fdiv, o_mod, o_pow, c_eqi, c_nei, c_eqs, c_nes, c_lt, c_le, c_gt, c_ge, c_isn, c_notn, isNon_n, isNon_i, Mi.Env.set, List.set_cons_zero, List.set_cons_succ, List.getElem?_cons_zero, List.getElem?_cons_succ, Option.getD_some, List.length_cons, List.length_nil, x_newL, stepF_nm, Nat.reduceAdd, Nat.reduceLeDiff, q_iof, it_tup, sz_tup, sz_rg]
  have F2 : Fr [] h1 (h1.new (.lst [])) := Fr.new
  have A2 := At.new (h := h1) (o := .lst [])
  have A1' := A1.fr0 F2
  have F2 := F1.trans F2
  generalize h1.new (.lst []) = h2 at A2 A1' F2 ⊢
  try simp only [y_ok, y_exc, y_bind, y_bnd, y_cnd, y_cndt, z_nx, z_rt, z_br, z_ct, z_ex, z_exb0, z_exb1, z_wnwn, z_wnnx, z_wnrt, z_wnbr, z_wnct, z_wnex, z_wxnx, z_wxrt, z_wxbr, z_wxct, z_wxex, z_wlnx, z_wlrt, z_wlbr, z_wlct, z_wlex, z_fnnx, z_fnrt, z_fnex, z_pass, z_ret, z_retN, z_expr, z_asg, z_asgsw, z_asgtp, z_asgsub, z_asgfld, z_ifs, z_fors, z_brk, z_cont, z_trys, x_ct, x_cf, q_mp, q_opt, q_non, q_bl, q_int, q_str, q_var, q_ty, q_cls, q_gint, q_bin, q_neg, q_not, q_cmp, q_sub, q_slc, q_tup, q_lst, q_call, q_mk, q_bi, q_app, q_fld, q_meth, q_nil, q_cons, q_tnot, q_tbl, q_tvar, q_tcmp, q_tchain, q_tsub, q_tcall, q_tbi, q_tmeth, q_bool, q_rng1, q_slcn, q_slcY, z_tand, z_tor, z_and, z_or, z_ife, z_chain, b_max, b_min, b_abs, b_inti, b_intb, b_lent, sw2, sub_t0, sub_t1, o_add, o_sub, o_mul, o_fdiv, o_mod, o_pow, c_eqi, c_nei, c_eqs, c_nes, c_lt, c_le, c_gt, c_ge, c_isn, c_notn, isNon_n, isNon_i, Mi.Env.set, List.set_cons_zero, List.set_cons_succ, List.getElem?_cons_zero, List.getElem?_cons_succ, Option.getD_some, List.length_cons, List.length_nil, x_newL, stepF_nm, Nat.reduceAdd, Nat.reduceLeDiff, q_iof, it_tup, sz_tup, sz_rg, c_neL (L := []) A1' A2 (by simp), show ([] : List Nat).isEmpty = true from rfl, Bool.not_true]
  have L2 := L.fr0 F2
  have Aq2 := Aq.fr0 F2
  try simp only [y_ok, y_exc, y_bind, y_bnd, y_cnd, y_cndt, z_nx, z_rt, z_br, z_ct, z_ex, z_exb0, z_exb1, z_wnwn, z_wnnx, z_wnrt, z_wnbr, z_wnct, z_wnex, z_wxnx, z_wxrt, z_wxbr, z_wxct, z_wxex, z_wlnx, z_wlrt, z_wlbr, z_wlct, z_wlex, z_fnnx, z_fnrt, z_fnex, z_pass, z_ret, z_retN, z_expr, z_asg, z_asgsw, z_asgtp, z_asgsub, z_asgfld, z_ifs, z_fors, z_brk, z_cont, z_trys, x_ct, x_cf, q_mp, q_opt, q_non, q_bl, q_int, q_str, q_var, q_ty, q_cls, q_gint, q_bin, q_neg, q_not, q_cmp, q_sub, q_slc, q_tup, q_lst, q_call, q_mk, q_bi, q_app, q_fld, q_meth, q_nil, q_cons, q_tnot, q_tbl, q_tvar, q_tcmp, q_tchain, q_tsub, q_tcall, q_tbi, q_tmeth, q_bool, q_rng1, q_slcn, q_slcY, z_tand, z_tor, z_and, z_or, z_ife, z_chain, b_max, b_min, b_abs, b_inti, b_intb, b_lent, sw2, sub_t0, sub_t1, o_add, o_sub, o_mul, o_fdiv, o_mod, o_pow, c_eqi, c_nei, c_eqs, c_nes, c_lt, c_le, c_gt, c_ge, c_isn, c_notn, isNon_n, isNon_i, Mi.Env.set, List.set_cons_zero, List.set_cons_succ, List.getElem?_cons_zero, List.getElem?_cons_succ, Option.getD_some, List.length_cons, List.length_nil, stepF_nm, Nat.reduceAdd, Nat.reduceLeDiff, q_iof, it_tup, sz_tup, sz_rg, it_lst Aq2, sz_lst Aq2]
  refine for_x (S := []) (J := fun i me h' => ∃ z o7 o8 o9 o10, Chn z (P.drop i) (a + s) ∧ me = { sl := [some (.ref l), some (.ref m), some (.ref q), some (.int a), some (.int s), some (.int c), some (.int z), o7, o8, o9, o10, none, none], ex := none }) Aq2 (by simp) ⟨a, _, _, _, _, ch, rfl⟩ ?_ ?_
  · rintro i x _ h3 hi hx F3 ⟨z, o7, o8, o9, o10, cz, rfl⟩
    have hi2 : i < P.length := by simpa using hi
    have ed := List.drop_eq_getElem_cons hi2
    have ex : x = pEnc P[i] := by simp [hi2] at hx; exact hx.symm
    subst ex
    obtain ⟨pc, hb⟩ := hP P[i] (List.getElem_mem hi2)
    rw [ed] at cz
    generalize P[i] = p at pc hb cz
    obtain ⟨g, b, e⟩ := p
    obtain ⟨cz1, cz2⟩ := cz
    simp only at cz1 cz2 hb
    subst cz1
    obtain ⟨lt, lo, gl, m1, m2, sh⟩ := pc
    simp only at lt lo gl m1 m2 sh
    have L3 := L2.fr0 F3
    unfold pEnc
    rw [stepF_tpt3]
    try simp only [y_ok, y_exc, y_bind, y_bnd, y_cnd, y_cndt, z_nx, z_rt, z_br, z_ct, z_ex, z_exb0, z_exb1, z_wnwn, z_wnnx, z_wnrt, z_wnbr, z_wnct, z_wnex, z_wxnx, z_wxrt, z_wxbr, z_wxct, z_wxex, z_wlnx, z_wlrt, z_wlbr, z_wlct, z_wlex, z_fnnx, z_fnrt, z_fnex, z_pass, z_ret, z_retN, z_expr, z_asg, z_asgsw, z_asgtp, z_asgsub, z_asgfld, z_ifs, z_fors, z_brk, z_cont, z_trys, x_ct, x_cf, q_mp, q_opt, q_non, q_bl, q_int, q_str, q_var, q_ty, q_cls, q_gint, q_bin, q_neg, q_not, q_cmp, q_sub, q_slc, q_tup, q_lst, q_call, q_mk, q_bi, q_app, q_fld, q_meth, q_nil, q_cons, q_tnot, q_tbl, q_tvar, q_tcmp, q_tchain, q_tsub, q_tcall, q_tbi, q_tmeth, q_bool, q_rng1, q_slcn, q_slcY, z_tand, z_tor, z_and, z_or, z_ife, z_chain, b_max, b_min, b_abs, b_inti, b_intb, b_lent, sw2, sub_t0, sub_t1, o_add, o_sub, o_mul, o_fdiv, o_mod, o_pow, c_eqi, c_nei, c_eqs, c_nes, c_lt, c_le, c_gt, c_ge, c_isn, c_notn, isNon_n, isNon_i, Mi.Env.set, List.set_cons_zero, List.set_cons_succ, List.getElem?_cons_zero, List.getElem?_cons_succ, Option.getD_some, List.length_cons, List.length_nil, stepF_nm, Nat.reduceAdd, Nat.reduceLeDiff, q_iof, it_tup, sz_tup, sz_rg, decide_true, Bool.not_true, c_short]
    refine Wr_of (short_sp (n := n) gp l4 L3) ?_
    rintro _ h4 ⟨rfl, F4⟩
    have L4 := L3.fr0 F4
    rw [sh b (by omega) lt]
    try simp only [y_ok, y_exc, y_bind, y_bnd, y_cnd, y_cndt, z_nx, z_rt, z_br, z_ct, z_ex, z_exb0, z_exb1, z_wnwn, z_wnnx, z_wnrt, z_wnbr, z_wnct, z_wnex, z_wxnx, z_wxrt, z_wxbr, z_wxct, z_wxex, z_wlnx, z_wlrt, z_wlbr, z_wlct, z_wlex, z_fnnx, z_fnrt, z_fnex, z_pass, z_ret, z_retN, z_expr, z_asg, z_asgsw, z_asgtp, z_asgsub, z_asgfld, z_ifs, z_fors, z_brk, z_cont, z_trys, x_ct, x_cf, q_mp, q_opt, q_non, q_bl, q_int, q_str, q_var, q_ty, q_cls, q_gint, q_bin, q_neg, q_not, q_cmp, q_sub, q_slc, q_tup, q_lst, q_call, q_mk, q_bi, q_app, q_fld, q_meth, q_nil, q_cons, q_tnot, q_tbl, q_tvar, q_tcmp, q_tchain, q_tsub, q_tcall, q_tbi, q_tmeth, q_bool, q_rng1, q_slcn, q_slcY, z_tand, z_tor, z_and, z_or, z_ife, z_chain, b_max, b_min, b_abs, b_inti, b_intb, b_lent, sw2, sub_t0, sub_t1, o_add, o_sub, o_mul, o_fdiv, o_mod, o_pow, c_eqi, c_nei, c_eqs, c_nes, c_lt, c_le, c_gt, c_ge, c_isn, c_notn, isNon_n, isNon_i, Mi.Env.set, List.set_cons_zero, List.set_cons_succ, List.getElem?_cons_zero, List.getElem?_cons_succ, Option.getD_some, List.length_cons, List.length_nil, stepF_nm, Nat.reduceAdd, Nat.reduceLeDiff, q_iof, it_tup, sz_tup, sz_rg, shv_s, decide_true, Bool.not_true, c_short]
    refine Wr_of (short_sp (n := n) gp l4 L4) ?_
    rintro _ h5 ⟨rfl, F5⟩
    have L5 := L4.fr0 F5
    rw [sh (e - 1) (by omega) (by omega)]
    have r1 : rngOk b := by unfold rngOk; omega
    have r2 : rngOk (if b + 60 < e then b + 60 else e) := by unfold rngOk; split <;> omega
    try simp only [y_ok, y_exc, y_bind, y_bnd, y_cnd, y_cndt, z_nx, z_rt, z_br, z_ct, z_ex, z_exb0, z_exb1, z_wnwn, z_wnnx, z_wnrt, z_wnbr, z_wnct, z_wnex, z_wxnx, z_wxrt, z_wxbr, z_wxct, z_wxex, z_wlnx, z_wlrt, z_wlbr, z_wlct, z_wlex, z_fnnx, z_fnrt, z_fnex, z_pass, z_ret, z_retN, z_expr, z_asg, z_asgsw, z_asgtp, z_asgsub, z_asgfld, z_ifs, z_fors, z_brk, z_cont, z_trys, x_ct, x_cf, q_mp, q_opt, q_non, q_bl, q_int, q_str, q_var, q_ty, q_cls, q_gint, q_bin, q_neg, q_not, q_cmp, q_sub, q_slc, q_tup, q_lst, q_call, q_mk, q_bi, q_app, q_fld, q_meth, q_nil, q_cons, q_tnot, q_tbl, q_tvar, q_tcmp, q_tchain, q_tsub, q_tcall, q_tbi, q_tmeth, q_bool, q_rng1, q_slcn, q_slcY, z_tand, z_tor, z_and, z_or, z_ife, z_chain, b_max, b_min, b_abs, b_inti, b_intb, b_lent, sw2, sub_t0, sub_t1, o_add, o_sub, o_mul, o_fdiv, o_mod, o_pow, c_eqi, c_nei, c_eqs, c_nes, c_lt, c_le, c_gt, c_ge, c_isn, c_notn, isNon_n, isNon_i, Mi.Env.set, List.set_cons_zero, List.set_cons_succ, List.getElem?_cons_zero, List.getElem?_cons_succ, Option.getD_some, List.length_cons, List.length_nil, stepF_nm, Nat.reduceAdd, Nat.reduceLeDiff, q_iof, it_tup, sz_tup, sz_rg, shv_s, decide_true, Bool.not_true, q_rng2, r1, r2, and_self, if_true]
    have hN : ∀ i : Nat, i < ((if b + 60 < e then b + 60 else e) - b).toNat → b + i < e := fun i hi => by
      split at hi <;> omega
    generalize ((if b + 60 < e then b + 60 else e) - b).toNat = N at hN ⊢
    refine for_rg (J := fun j me h' => Fr [] h5 h' ∧ ∃ o10, me = { sl := [some (.ref l), some (.ref m), some (.ref q), some (.int a), some (.int s), some (.int c), some (.int b), some (.int (g : Nat)), some (.int b), some (.int e), o10, none, none], ex := none }) ⟨Fr.refl, _, rfl⟩ ?_ ?_
    · rintro j _ h6 hj ⟨F6, o10, rfl⟩
      have := hN j hj
      try simp only [y_ok, y_exc, y_bind, y_bnd, y_cnd, y_cndt, z_nx, z_rt, z_br, z_ct, z_ex, z_exb0, z_exb1, z_wnwn, z_wnnx, z_wnrt, z_wnbr, z_wnct, z_wnex, z_wxnx, z_wxrt, z_wxbr, z_wxct, z_wxex, z_wlnx, z_wlrt, z_wlbr, z_wlct, z_wlex, z_fnnx, z_fnrt, z_fnex, z_pass, z_ret, z_retN, z_expr, z_asg, z_asgsw, z_asgtp, z_asgsub, z_asgfld, z_ifs, z_fors, z_brk, z_cont, z_trys, x_ct, x_cf, q_mp, q_opt, q_non, q_bl, q_int, q_str, q_var, q_ty, q_cls, q_gint, q_bin, q_neg, q_not, q_cmp, q_sub, q_slc, q_tup, q_lst, q_call, q_mk, q_bi, q_app, q_fld, q_meth, q_nil, q_cons, q_tnot, q_tbl, q_tvar, q_tcmp, q_tchain, q_tsub, q_tcall, q_tbi, q_tmeth, q_bool, q_rng1, q_slcn, q_slcY, z_tand, z_tor, z_and, z_or, z_ife, z_chain, b_max, b_min, b_abs, b_inti, b_intb, b_lent, sw2, sub_t0, sub_t1, o_add, o_sub, o_mul, o_fdiv, o_mod, o_pow, c_eqi, c_nei, c_eqs, c_nes, c_lt, c_le, c_gt, c_ge, c_isn, c_notn, isNon_n, isNon_i, Mi.Env.set, List.set_cons_zero, List.set_cons_succ, List.getElem?_cons_zero, List.getElem?_cons_succ, Option.getD_some, List.length_cons, List.length_nil, stepF_nm, Nat.reduceAdd, Nat.reduceLeDiff, q_iof, it_tup, sz_tup, sz_rg, c_short]
      refine Wr_of (short_sp (n := n) gp l4 (L5.fr0 F6)) ?_
      rintro _ h7 ⟨rfl, F7⟩
      rw [sh (b + j) (by omega) (by omega)]
      try simp only [y_ok, y_exc, y_bind, y_bnd, y_cnd, y_cndt, z_nx, z_rt, z_br, z_ct, z_ex, z_exb0, z_exb1, z_wnwn, z_wnnx, z_wnrt, z_wnbr, z_wnct, z_wnex, z_wxnx, z_wxrt, z_wxbr, z_wxct, z_wxex, z_wlnx, z_wlrt, z_wlbr, z_wlct, z_wlex, z_fnnx, z_fnrt, z_fnex, z_pass, z_ret, z_retN, z_expr, z_asg, z_asgsw, z_asgtp, z_asgsub, z_asgfld, z_ifs, z_fors, z_brk, z_cont, z_trys, x_ct, x_cf, q_mp, q_opt, q_non, q_bl, q_int, q_str, q_var, q_ty, q_cls, q_gint, q_bin, q_neg, q_not, q_cmp, q_sub, q_slc, q_tup, q_lst, q_call, q_mk, q_bi, q_app, q_fld, q_meth, q_nil, q_cons, q_tnot, q_tbl, q_tvar, q_tcmp, q_tchain, q_tsub, q_tcall, q_tbi, q_tmeth, q_bool, q_rng1, q_slcn, q_slcY, z_tand, z_tor, z_and, z_or, z_ife, z_chain, b_max, b_min, b_abs, b_inti, b_intb, b_lent, sw2, sub_t0, sub_t1, o_add, o_sub, o_mul, o_fdiv, o_mod, o_pow, c_eqi, c_nei, c_eqs, c_nes, c_lt, c_le, c_gt, c_ge, c_isn, c_notn, isNon_n, isNon_i, Mi.Env.set, List.set_cons_zero, List.set_cons_succ, List.getElem?_cons_zero, List.getElem?_cons_succ, Option.getD_some, List.length_cons, List.length_nil, stepF_nm, Nat.reduceAdd, Nat.reduceLeDiff, q_iof, it_tup, sz_tup, sz_rg, shv_s, decide_true, Bool.not_true]
      exact ⟨F6.trans F7, _, rfl⟩
    · rintro _ h6 ⟨F6, o10, rfl⟩
      try simp only [y_ok, y_exc, y_bind, y_bnd, y_cnd, y_cndt, z_nx, z_rt, z_br, z_ct, z_ex, z_exb0, z_exb1, z_wnwn, z_wnnx, z_wnrt, z_wnbr, z_wnct, z_wnex, z_wxnx, z_wxrt, z_wxbr, z_wxct, z_wxex, z_wlnx, z_wlrt, z_wlbr, z_wlct, z_wlex, z_fnnx, z_fnrt, z_fnex, z_pass, z_ret, z_retN, z_expr, z_asg, z_asgsw, z_asgtp, z_asgsub, z_asgfld, z_ifs, z_fors, z_brk, z_cont, z_trys, x_ct, x_cf, q_mp, q_opt, q_non, q_bl, q_int, q_str, q_var, q_ty, q_cls, q_gint, q_bin, q_neg, q_not, q_cmp, q_sub, q_slc, q_tup, q_lst, q_call, q_mk, q_bi, q_app, q_fld, q_meth, q_nil, q_cons, q_tnot, q_tbl, q_tvar, q_tcmp, q_tchain, q_tsub, q_tcall, q_tbi, q_tmeth, q_bool, q_rng1, q_slcn, q_slcY, z_tand, z_tor, z_and, z_or, z_ife, z_chain, b_max, b_min, b_abs, b_inti, b_intb, b_lent, sw2, sub_t0, sub_t1, o_add, o_sub, o_mul, o_fdiv, o_mod, o_pow, c_eqi, c_nei, c_eqs, c_nes, c_lt, c_le, c_gt, c_ge, c_isn, c_notn, isNon_n, isNon_i, Mi.Env.set, List.set_cons_zero, List.set_cons_succ, List.getElem?_cons_zero, List.getElem?_cons_succ, Option.getD_some, List.length_cons, List.length_nil, stepF_nm, Nat.reduceAdd, Nat.reduceLeDiff, q_iof, it_tup, sz_tup, sz_rg]
      exact ⟨⟨e, _, _, _, _, cz2, rfl⟩, (F4.trans F5).trans F6⟩
  · rintro _ h3 F3 ⟨z, o7, o8, o9, o10, cz, rfl⟩
    have ez : z = a + s := by
      rw [List.drop_of_length_le (by simp)] at cz
      exact cz
    subst ez
    have Aq3 := Aq2.fr0 F3
    have eg := grains_ev (C := Mi.run τ.tab (n+3)) (me := { sl := [some (.ref l), some (.ref m), some (.ref q), some (.int a), some (.int s), some (.int c), some (.int (a + s)), o7, o8, o9, o10, none, none], ex := none }) (k := 12) (it := .var 2) rfl (by simp) (by try simp only [y_ok, y_exc, y_bind, y_bnd, y_cnd, y_cndt, z_nx, z_rt, z_br, z_ct, z_ex, z_exb0, z_exb1, z_wnwn, z_wnnx, z_wnrt, z_wnbr, z_wnct, z_wnex, z_wxnx, z_wxrt, z_wxbr, z_wxct, z_wxex, z_wlnx, z_wlrt, z_wlbr, z_wlct, z_wlex, z_fnnx, z_fnrt, z_fnex, z_pass, z_ret, z_retN, z_expr, z_asg, z_asgsw, z_asgtp, z_asgsub, z_asgfld, z_ifs, z_fors, z_brk, z_cont, z_trys, x_ct, x_cf, q_mp, q_opt, q_non, q_bl, q_int, q_str, q_var, q_ty, q_cls, q_gint, q_bin, q_neg, q_not, q_cmp, q_sub, q_slc, q_tup, q_lst, q_call, q_mk, q_bi, q_app, q_fld, q_meth, q_nil, q_cons, q_tnot, q_tbl, q_tvar, q_tcmp, q_tchain, q_tsub, q_tcall, q_tbi, q_tmeth, q_bool, q_rng1, q_slcn, q_slcY, z_tand, z_tor, z_and, z_or, z_ife, z_chain, b_max, b_min, b_abs, b_inti, b_intb, b_lent, sw2, sub_t0, sub_t1, o_add, o_sub, o_mul, o_fdiv, o_mod, o_pow, c_eqi, c_nei, c_eqs, c_nes, c_lt, c_le, c_gt, c_ge, c_isn, c_notn, isNon_n, isNon_i, Mi.Env.set, List.set_cons_zero, List.set_cons_succ, List.getElem?_cons_zero, List.getElem?_cons_succ, Option.getD_some, List.length_cons, List.length_nil, stepF_nm, Nat.reduceAdd, Nat.reduceLeDiff, q_iof, it_tup, sz_tup, sz_rg]) Aq3 hl
    simp only [z_wnnx]
    rw [z_exb1, z_asg _ _ rfl, eg, y_ok]
    have A4 := At.new (h := h3) (o := .lst (nats (P.map (·.1))))
    have F4 : Fr [] h3 (h3.new (.lst (nats (P.map (·.1))))) := Fr.new
    generalize h3.new (.lst (nats (P.map (·.1)))) = h4 at A4 F4 ⊢
    have e1 := b_lsi A4 nd (by simpa using (by omega : P.length ≤ 4000))
    try simp only [y_ok, y_exc, y_bind, y_bnd, y_cnd, y_cndt, z_nx, z_rt, z_br, z_ct, z_ex, z_exb0, z_exb1, z_wnwn, z_wnnx, z_wnrt, z_wnbr, z_wnct, z_wnex, z_wxnx, z_wxrt, z_wxbr, z_wxct, z_wxex, z_wlnx, z_wlrt, z_wlbr, z_wlct, z_wlex, z_fnnx, z_fnrt, z_fnex, z_pass, z_ret, z_retN, z_expr, z_asg, z_asgsw, z_asgtp, z_asgsub, z_asgfld, z_ifs, z_fors, z_brk, z_cont, z_trys, x_ct, x_cf, q_mp, q_opt, q_non, q_bl, q_int, q_str, q_var, q_ty, q_cls, q_gint, q_bin, q_neg, q_not, q_cmp, q_sub, q_slc, q_tup, q_lst, q_call, q_mk, q_bi, q_app, q_fld, q_meth, q_nil, q_cons, q_tnot, q_tbl, q_tvar, q_tcmp, q_tchain, q_tsub, q_tcall, q_tbi, q_tmeth, q_bool, q_rng1, q_slcn, q_slcY, z_tand, z_tor, z_and, z_or, z_ife, z_chain, b_max, b_min, b_abs, b_inti, b_intb, b_lent, sw2, sub_t0, sub_t1, o_add, o_sub, o_mul, o_fdiv, o_mod, o_pow, c_eqi, c_nei, c_eqs, c_nes, c_lt, c_le, c_gt, c_ge, c_isn, c_notn, isNon_n, isNon_i, Mi.Env.set, List.set_cons_zero, List.set_cons_succ, List.getElem?_cons_zero, List.getElem?_cons_succ, Option.getD_some, List.length_cons, List.length_nil, stepF_nm, Nat.reduceAdd, Nat.reduceLeDiff, q_iof, it_tup, sz_tup, sz_rg, q_lsi, e1, b_lenl A4, decide_true]
    refine hQ _ _ ⟨?_, (F2.trans F3).trans F4⟩
    simp [nats]
end
end Lw
end

section
namespace Lw
open Mi
open PySem (PyData)
/-! ### _law_asked_right -/
section
variable {S S' : List Nat} {h h' : MH}
theorem V.rep2 {T : Tab} {v : Mi.MV} {d : PyData} {w z : Nat} (a : V S h v d) (s : Sh d w z) (hf : fz d ≤ 4000) (hw : w ≤ 500000) (hz : z ≤ 1000) : biM T .repr [v] h = .ok (.str d.shown) h := by
  have e := a.toD (k := dpt) (by unfold dpt; omega)
  have hl := PyData.shown_le 30 (by decide) d s.ls
  have h1 := s.wt
  have h2 := s.dp
  have hx : d.shown.length ≤ PySem.sizeLine := by
    rw [PySem.sizeLine_eq]
    have : (30 + 2) * d.weight ≤ 32 * 500000 := Nat.mul_le_mul_left 32 (by omega)
    omega
  show (match Mi.toD h dpt v with
    | some d => if d.showable = true ∧ d.shown.length ≤ PySem.sizeLine ∧ d.depth ≤ 1000 then Res.ok (Mi.MV.str d.shown) h else Res.stuck
    | none => Res.stuck) = _
  rw [e]
  simp only [s.sh, hx, show d.depth ≤ 1000 by omega, and_self, if_true]
theorem V.same {v v' : Mi.MV} {d : PyData} (a : V S h v d) (b : V S' h' v' d) : cnt v = cnt v' ∧ vi v = vi v' := by
  cases a <;> cases b <;> exact ⟨rfl, rfl⟩
theorem wOk_same {x y x' y' : Mi.MV} {dx dy : PyData} (a : V S h x dx) (b : V S h y dy) (a' : V S' h' x' dx) (b' : V S' h' y' dy) : wOk x' y' = wOk x y := by
  obtain ⟨q2, q3⟩ := V.same a a'
  obtain ⟨q4, q6⟩ := V.same b b'
  unfold wOk
  rw [q2, q4, q6]
theorem b_mx {T : Tab} {l : Nat} {L : List Nat} (A : At h l (.lst (nats L))) (ne : L ≠ []) (p : L.Pairwise (· < ·)) : biM T .max1 [.ref l] h = .ok (.int (L.getLastD 0 : Nat)) h := by
  cases L with
  | nil => exact absurd rfl ne
  | cons k r =>
    show (match (asList h (.ref l)).bind intsM with
      | some (n :: ns) => Res.ok (Mi.MV.int (maxI n ns)) h
      | _ => .stuck) = _
    rw [asA A, Option.bind_some, nats_ints]
    simp only [List.map_cons]
    rw [max_asc p]
end
section
variable {C : CallF} {h : MH}
theorem c_call (x y z : Mi.MV) : callM τ.tab C "_law_call" [x, y, z] [] [] h = C f_law_call [x, y, z] h := x_callM tfn_law_call (by simp [argsOf, fnp_law_call])
theorem c_tiled (x y z : Mi.MV) : callM τ.tab C "_law_tiled" [x, y, z] [] [] h = C f_law_tiled [x, y, z] h := x_callM tfn_law_tiled (by simp [argsOf, fnp_law_tiled])
theorem sh_pair {w : PySem.Str} {d : PyData} {w0 z0 : Nat} (hw : (w.cps.toList.all (fun c => decide (c < 16 ^ 8)) && decide (w.cps.size ≤ 10)) = true) (s : Sh d w0 z0) (o : okC d = true) : Sh (.list [.str w, .str d.shown]) (32 * w0 + 50) 1 :=
  (sh_lst (shs_cons (sh_sm (w := 10) hw) (shs_cons (sh_txt s o) shs_nil))).up (by omega) (by omega)
theorem vpair {m : Nat} {w t : PySem.Str} (T2 : At h m (.lst [.str w, .str t])) : V [] h (.ref m) (.list [.str w, .str t]) := .lst T2.lt (by simp) T2.get (.cons (.str _) (.cons (.str _) .nil))
end
theorem tell_ev {n l mf : Nat} {h : MH} {R : List (Int × Option Int)} {a s c : Int} {v0 v2 v3 v5 v7 v9 v10 : Option Mi.MV} (gp : GP R) (hl : R.length ≤ 4) (L : At h l (.lst (R.map enc))) (A1 : At h mf (.lst (nats (fits R a s)))) : evE τ.tab (Mi.run τ.tab (n+2)) { sl := [v0, some (.ref l), v2, v3, some (.int a), v5, some (.int c), v7, some (.ref mf), v9, v10, none], ex := none } (.comp [11] (.nm 11) (.of (.var 8)) (.cmp .ge (.var 4) (.call "_law_edge" (.cons (.var 1) (.cons (.var 11) (.cons (.var 6) .nil))) [] .nil [])) (.var 11)) h = .ok (.ref h.next) (h.new (.lst (nats (tell R a s c)))) := by
  have hb := fits_len (R := R) (a := a) (s := s)
  have e := comp_f (T := τ.tab) (C := Mi.run τ.tab (n+2)) (me := { sl := [v0, some (.ref l), v2, v3, some (.int a), v5, some (.int c), v7, some (.ref mf), v9, v10, none], ex := none }) (vs := [11]) (t := .nm 11) (it := .of (.var 8)) (c := .cmp .ge (.var 4) (.call "_law_edge" (.cons (.var 1) (.cons (.var 11) (.cons (.var 6) .nil))) [] .nil [])) (e := .var 11) (h := h) (h2 := h) (J := .lst mf) (N := (fits R a s).length)
    (items := fun i => .int ((fits R a s).getD i 0 : Nat)) (outs := fun i => if tellB R a c ((fits R a s).getD i 0) = true then some (.int ((fits R a s).getD i 0 : Nat)) else none) rfl (by try simp only [y_ok, y_exc, y_bind, y_bnd, y_cnd, y_cndt, z_nx, z_rt, z_br, z_ct, z_ex, z_exb0, z_exb1, z_wnwn, z_wnnx, z_wnrt, z_wnbr, z_wnct, z_wnex, z_wxnx, z_wxrt, z_wxbr, z_wxct, z_wxex, z_wlnx, z_wlrt, z_wlbr, z_wlct, z_wlex, z_fnnx, z_fnrt, z_fnex, z_pass, z_ret, z_retN, z_expr, z_asg, z_asgsw, z_asgtp, z_asgsub, z_asgfld, z_ifs, z_fors, z_brk, z_cont, z_trys, x_ct, x_cf, q_mp, q_opt, q_non, q_bl, q_int, q_str, q_var, q_ty, q_cls, q_gint, q_bin, q_neg, q_not, q_cmp, q_sub, q_slc, q_tup, q_lst, q_call, q_mk, q_bi, q_app, q_fld, q_meth, q_nil, q_cons, q_tnot, q_tbl, q_tvar, q_tcmp, q_tchain, q_tsub, q_tcall, q_tbi, q_tmeth, q_bool, q_rng1, q_slcn, q_slcY, z_tand, z_tor, z_and, z_or, z_ife, z_chain, b_max, b_min, b_abs, b_inti, b_intb, b_lent, sw2, sub_t0, sub_t1, o_add, o_sub, o_mul, o_fdiv, o_mod, o_pow, c_eqi, c_nei, c_eqs, c_nes, c_lt, c_le, c_gt, c_ge, c_isn, c_notn, isNon_n, isNon_i, Mi.Env.set, List.set_cons_zero, List.set_cons_succ, List.getElem?_cons_zero, List.getElem?_cons_succ, Option.getD_some, List.length_cons, List.length_nil, stepF_nm, Nat.reduceAdd, Nat.reduceLeDiff, q_iof, it_tup, sz_tup, sz_rg, q_mb, q_b1, it_lst A1]) (by rw [sz_lst A1]; simp [nats]) (by omega)
    (fun h3 i sm hi => by
      rw [at_lst (A1.same sm)]
      simp [nats, hi]) (fun h3 sm => by
      rw [at_lst (A1.same sm)]
      simp [nats]) (fun h3 i sm hi => by
      have L3 := L.same sm
      have hk : (fits R a s).getD i 0 < R.length := by
        refine fits_lt (a := a) (s := s) ?_
        have : (fits R a s).getD i 0 = (fits R a s)[i] := by simp [List.getD, hi]
        rw [this]; exact List.getElem_mem hi
      generalize (fits R a s).getD i 0 = k at hk
      refine eq_of_wr ?_
      refine stepG_w (me' := { sl := [v0, some (.ref l), v2, v3, some (.int a), v5, some (.int c), v7, some (.ref mf), v9, v10, some (.int (k : Nat))], ex := none }) rfl ?_
      try simp only [y_ok, y_exc, y_bind, y_bnd, y_cnd, y_cndt, z_nx, z_rt, z_br, z_ct, z_ex, z_exb0, z_exb1, z_wnwn, z_wnnx, z_wnrt, z_wnbr, z_wnct, z_wnex, z_wxnx, z_wxrt, z_wxbr, z_wxct, z_wxex, z_wlnx, z_wlrt, z_wlbr, z_wlct, z_wlex, z_fnnx, z_fnrt, z_fnex, z_pass, z_ret, z_retN, z_expr, z_asg, z_asgsw, z_asgtp, z_asgsub, z_asgfld, z_ifs, z_fors, z_brk, z_cont, z_trys, x_ct, x_cf, q_mp, q_opt, q_non, q_bl, q_int, q_str, q_var, q_ty, q_cls, q_gint, q_bin, q_neg, q_not, q_cmp, q_sub, q_slc, q_tup, q_lst, q_call, q_mk, q_bi, q_app, q_fld, q_meth, q_nil, q_cons, q_tnot, q_tbl, q_tvar, q_tcmp, q_tchain, q_tsub, q_tcall, q_tbi, q_tmeth, q_bool, q_rng1, q_slcn, q_slcY, z_tand, z_tor, z_and, z_or, z_ife, z_chain, b_max, b_min, b_abs, b_inti, b_intb, b_lent, sw2, sub_t0, sub_t1, o_add, o_sub, o_mul, o_fdiv, o_mod, o_pow, c_eqi, c_nei, c_eqs, c_nes, c_lt, c_le, c_gt, c_ge, c_isn, c_notn, isNon_n, isNon_i, Mi.Env.set, List.set_cons_zero, List.set_cons_succ, List.getElem?_cons_zero, List.getElem?_cons_succ, Option.getD_some, List.length_cons, List.length_nil, stepF_nm, Nat.reduceAdd, Nat.reduceLeDiff, q_iof, it_tup, sz_tup, sz_rg, c_edge, e_edge gp L3 (show 0 ≤ (k : Int) by omega) (show (k : Int) < R.length by omega)]
      unfold tellB
      refine cnd_d (fun hz => ?_) (fun hz => ?_)
      · try simp only [y_ok, y_exc, y_bind, y_bnd, y_cnd, y_cndt, z_nx, z_rt, z_br, z_ct, z_ex, z_exb0, z_exb1, z_wnwn, z_wnnx, z_wnrt, z_wnbr, z_wnct, z_wnex, z_wxnx, z_wxrt, z_wxbr, z_wxct, z_wxex, z_wlnx, z_wlrt, z_wlbr, z_wlct, z_wlex, z_fnnx, z_fnrt, z_fnex, z_pass, z_ret, z_retN, z_expr, z_asg, z_asgsw, z_asgtp, z_asgsub, z_asgfld, z_ifs, z_fors, z_brk, z_cont, z_trys, x_ct, x_cf, q_mp, q_opt, q_non, q_bl, q_int, q_str, q_var, q_ty, q_cls, q_gint, q_bin, q_neg, q_not, q_cmp, q_sub, q_slc, q_tup, q_lst, q_call, q_mk, q_bi, q_app, q_fld, q_meth, q_nil, q_cons, q_tnot, q_tbl, q_tvar, q_tcmp, q_tchain, q_tsub, q_tcall, q_tbi, q_tmeth, q_bool, q_rng1, q_slcn, q_slcY, z_tand, z_tor, z_and, z_or, z_ife, z_chain, b_max, b_min, b_abs, b_inti, b_intb, b_lent, sw2, sub_t0, sub_t1, o_add, o_sub, o_mul, o_fdiv, o_mod, o_pow, c_eqi, c_nei, c_eqs, c_nes, c_lt, c_le, c_gt, c_ge, c_isn, c_notn, isNon_n, isNon_i, Mi.Env.set, List.set_cons_zero, List.set_cons_succ, List.getElem?_cons_zero, List.getElem?_cons_succ, Option.getD_some, List.length_cons, List.length_nil, stepF_nm, Nat.reduceAdd, Nat.reduceLeDiff, q_iof, it_tup, sz_tup, sz_rg]; simp [hz]
      · try simp only [y_ok, y_exc, y_bind, y_bnd, y_cnd, y_cndt, z_nx, z_rt, z_br, z_ct, z_ex, z_exb0, z_exb1, z_wnwn, z_wnnx, z_wnrt, z_wnbr, z_wnct, z_wnex, z_wxnx, z_wxrt, z_wxbr, z_wxct, z_wxex, z_wlnx, z_wlrt, z_wlbr, z_wlct, z_wlex, z_fnnx, z_fnrt, z_fnex, z_pass, z_ret, z_retN, z_expr, z_asg, z_asgsw, z_asgtp, z_asgsub, z_asgfld, z_ifs, z_fors, z_brk, z_cont, z_trys, x_ct, x_cf, q_mp, q_opt, q_non, q_bl, q_int, q_str, q_var, q_ty, q_cls, q_gint, q_bin, q_neg, q_not, q_cmp, q_sub, q_slc, q_tup, q_lst, q_call, q_mk, q_bi, q_app, q_fld, q_meth, q_nil, q_cons, q_tnot, q_tbl, q_tvar, q_tcmp, q_tchain, q_tsub, q_tcall, q_tbi, q_tmeth, q_bool, q_rng1, q_slcn, q_slcY, z_tand, z_tor, z_and, z_or, z_ife, z_chain, b_max, b_min, b_abs, b_inti, b_intb, b_lent, sw2, sub_t0, sub_t1, o_add, o_sub, o_mul, o_fdiv, o_mod, o_pow, c_eqi, c_nei, c_eqs, c_nes, c_lt, c_le, c_gt, c_ge, c_isn, c_notn, isNon_n, isNon_i, Mi.Env.set, List.set_cons_zero, List.set_cons_succ, List.getElem?_cons_zero, List.getElem?_cons_succ, Option.getD_some, List.length_cons, List.length_nil, stepF_nm, Nat.reduceAdd, Nat.reduceLeDiff, q_iof, it_tup, sz_tup, sz_rg]; simp [hz])
  rw [fm_list] at e
  exact e
theorem chn_le : ∀ {P : List (Nat × Int × Int)} {x z : Int}, (∀ p ∈ P, p.2.1 < p.2.2) → Chn x P z → x ≤ z ∧ ∀ p ∈ P, p.2.2 ≤ z
  | [], x, z, _, c => by
    have : x = z := c
    exact ⟨by omega, fun p hp => by cases hp⟩
  | p :: P, x, z, hp, c => by
    obtain ⟨c1, c2⟩ := c
    have h1 := hp p List.mem_cons_self
    obtain ⟨i1, i2⟩ := chn_le (fun q hq => hp q (List.mem_cons_of_mem _ hq)) c2
    refine ⟨by omega, fun q hq => ?_⟩
    rcases List.mem_cons.mp hq with rfl | hq
    · exact i1
    · exact i2 q hq
theorem pcs_fin {R : List (Int × Option Int)} {a s c : Int} {k : Nat} (gr : GR R) (s0 : 0 < s) (c0 : 0 ≤ c) (ht : (tell R a s c).head? = some k) : k < R.length ∧ (∀ p ∈ (pcs R a s c (k+1)).1, (Pc R a c p ∧ p.2.2 ≤ a + s) ∧ p.1 ≤ k) ∧ Chn a (pcs R a s c (k+1)).1 (a + s) ∧ (((pcs R a s c (k+1)).1).map (·.1)).Nodup ∧ (pcs R a s c (k+1)).1 ≠ [] := by
  have hm : k ∈ tell R a s c := List.mem_of_head? ht
  obtain ⟨hf, hb⟩ := List.mem_filter.mp hm
  have hl := fits_lt hf
  have hd := (List.mem_filter.mp hf).2
  unfold fitB at hd
  rw [Bool.and_eq_true] at hd
  have da := Int.dvd_of_emod_eq_zero (of_decide_eq_true hd.1)
  have ds := Int.dvd_of_emod_eq_zero (of_decide_eq_true hd.2)
  have P := pcs_ok gr s0 c0 hl da ds (k + 1) (Nat.le_refl _)
  have he : edg R (k : Nat) c ≤ a := of_decide_eq_true hb
  have h1 := P.ed k (Nat.lt_succ_self _)
  have h2 := P.lo
  have e2 : bg R a c k = a := by unfold bg; rw [if_neg (by omega)]
  have h3 : (pcs R a s c (k+1)).2 = a := by omega
  have ch := P.ch
  rw [h3] at ch
  have hle := (chn_le (fun p hp => (P.pc p hp).1.lt) ch).2
  refine ⟨hl, fun p hp => ⟨⟨(P.pc p hp).1, hle p hp⟩, by have := (P.pc p hp).2; omega⟩, ch, ?_, fun z => ?_⟩
  · exact List.Pairwise.map _ (fun p q hpq z => by omega) P.de
  · rw [z] at ch
    have : a = a + s := ch
    omega
theorem okC_two {d e : PyData} (a : okC d = true) (b : okC e = true) : okC (.tuple [d, e]) = true := by
  show (okC d && (okC e && okCs [])) = true
  rw [a, b]; rfl
theorem asked_sp {n r l : Nat} {h : MH} {R : List (Int × Option Int)} {way : Int} {args : Mi.MV} {dx dy dz : PyData} (gr : GR R) (hr : isRA h r R) (L : At h l (.lst (R.map enc))) (v : V [] h args (.list [dx, dy, dz])) (ox : argOk dx) (oy : argOk dy) (oz : argOk dz) (hb : ∀ a s, dx = .int a → dy = .int s → a + s < 2 ^ 60) :
    Sp (Mi.run τ.tab (n+10) f_law_asked_right [.ref r, .ref l, args, .int way] h) (fun v h' => v = .bl true ∧ Fr [] h h') := by
  obtain ⟨m, xs, rfl, _, A, vs⟩ := v.at_
  obtain ⟨x, y, z, rfl, vx, vy, vz⟩ : ∃ x y z, xs = [x, y, z] ∧ V [] h x dx ∧ V [] h y dy ∧ V [] h z dz := by
    cases vs with
    | cons a t => cases t with
      | cons b t => cases t with
        | cons c t => cases t; exact ⟨_, _, _, rfl, a, b, c⟩
  have two : (2 : Nat) ≤ PySem.sizeLine := by rw [PySem.sizeLine_eq]; decide
  have gl := gr.len
  refine Sp_for fun Q E hQ => ?_
  refine (run_w { sl := [some (.ref r), some (.ref l), some (.ref m), some (.int way), none, none, none, none, none, none, none, none], ex := none } body_law_asked_right rfl rfl rfl ?_)
  unfold body_law_asked_right
  try simp only [y_ok, y_exc, y_bind, y_bnd, y_cnd, y_cndt, z_nx, z_rt, z_br, z_ct, z_ex, z_exb0, z_exb1, z_wnwn, z_wnnx, z_wnrt, z_wnbr, z_wnct, z_wnex, z_wxnx, z_wxrt, z_wxbr, z_wxct, z_wxex, z_wlnx, z_wlrt, z_wlbr, z_wlct, z_wlex, z_fnnx, z_fnrt, z_fnex, z_pass, z_ret, z_retN, z_expr, z_asg, z_asgsw, z_asgtp, z_asgsub, z_asgfld, z_ifs, z_fors, z_brk, z_cont, z_trys, x_ct, x_cf, q_mp, q_opt, q_non, q_bl, q_int, q_str, q_var, q_ty, q_cls, q_gint, q_bin, q_neg, q_not, q_cmp, q_sub, q_slc, q_tup, q_lst, q_call, q_mk, q_bi, q_app, q_fld, q_meth, q_nil, q_cons, q_tnot, q_tbl, q_tvar, q_tcmp, q_tchain, q_tsub, q_tcall, q_tbi, q_tmeth, q_bool, q_rng1, q_slcn, q_slcY, z_tand, z_tor, z_and, z_or, z_ife, z_chain, b_max, b_min, b_abs, b_inti, b_intb, b_lent, sw2, sub_t0, sub_t1, o_add, o_sub, o_mul, o_fdiv, o_mod, o_pow, c_eqi, c_nei, c_eqs, c_nes, c_lt, c_le, c_gt, c_ge, c_isn, c_notn, isNon_n, isNon_i, Mi.Env.set, List.set_cons_zero, List.set_cons_succ, List.getElem?_cons_zero, List.getElem?_cons_succ, Option.getD_some, List.length_cons, List.length_nil, x_newL, stepF_nm, Nat.reduceAdd, Nat.reduceLeDiff, q_iof, it_tup, sz_tup, sz_rg, tp3 A]
  refine copy_w rfl rfl (by simp) (by try simp only [y_ok, y_exc, y_bind, y_bnd, y_cnd, y_cndt, z_nx, z_rt, z_br, z_ct, z_ex, z_exb0, z_exb1, z_wnwn, z_wnnx, z_wnrt, z_wnbr, z_wnct, z_wnex, z_wxnx, z_wxrt, z_wxbr, z_wxct, z_wxex, z_wlnx, z_wlrt, z_wlbr, z_wlct, z_wlex, z_fnnx, z_fnrt, z_fnex, z_pass, z_ret, z_retN, z_expr, z_asg, z_asgsw, z_asgtp, z_asgsub, z_asgfld, z_ifs, z_fors, z_brk, z_cont, z_trys, x_ct, x_cf, q_mp, q_opt, q_non, q_bl, q_int, q_str, q_var, q_ty, q_cls, q_gint, q_bin, q_neg, q_not, q_cmp, q_sub, q_slc, q_tup, q_lst, q_call, q_mk, q_bi, q_app, q_fld, q_meth, q_nil, q_cons, q_tnot, q_tbl, q_tvar, q_tcmp, q_tchain, q_tsub, q_tcall, q_tbi, q_tmeth, q_bool, q_rng1, q_slcn, q_slcY, z_tand, z_tor, z_and, z_or, z_ife, z_chain, b_max, b_min, b_abs, b_inti, b_intb, b_lent, sw2, sub_t0, sub_t1, o_add, o_sub, o_mul, o_fdiv, o_mod, o_pow, c_eqi, c_nei, c_eqs, c_nes, c_lt, c_le, c_gt, c_ge, c_isn, c_notn, isNon_n, isNon_i, Mi.Env.set, List.set_cons_zero, List.set_cons_succ, List.getElem?_cons_zero, List.getElem?_cons_succ, Option.getD_some, List.length_cons, List.length_nil, stepF_nm, Nat.reduceAdd, Nat.reduceLeDiff, q_iof, it_tup, sz_tup, sz_rg, q_mb, q_b1, it_lst A]) A vs ox oy oz fun x' y' z' h1 F1 t1 A1 rf => ?_
  have hr1 := hr.fr0 F1
  have okx := vx.okv
  have oky := vy.okv
  have okz := vz.okv
  have ew := wOk_same vx vy t1.vx t1.vy
  have ez := V.same vz t1.vz
  have shW : Sh (.tuple [grown dx, grown dy]) 502 2 := (sh_tup (shs_cons ox.sh (shs_cons oy.sh shs_nil))).up (by omega) (by omega)
  have okW := okC_two ox.ok oy.ok
  cases hv : wOk x y with
  | false =>
    rw [hv] at ew
    try simp only [y_ok, y_exc, y_bind, y_bnd, y_cnd, y_cndt, z_nx, z_rt, z_br, z_ct, z_ex, z_exb0, z_exb1, z_wnwn, z_wnnx, z_wnrt, z_wnbr, z_wnct, z_wnex, z_wxnx, z_wxrt, z_wxbr, z_wxct, z_wxex, z_wlnx, z_wlrt, z_wlbr, z_wlct, z_wlex, z_fnnx, z_fnrt, z_fnex, z_pass, z_ret, z_retN, z_expr, z_asg, z_asgsw, z_asgtp, z_asgsub, z_asgfld, z_ifs, z_fors, z_brk, z_cont, z_trys, x_ct, x_cf, q_mp, q_opt, q_non, q_bl, q_int, q_str, q_var, q_ty, q_cls, q_gint, q_bin, q_neg, q_not, q_cmp, q_sub, q_slc, q_tup, q_lst, q_call, q_mk, q_bi, q_app, q_fld, q_meth, q_nil, q_cons, q_tnot, q_tbl, q_tvar, q_tcmp, q_tchain, q_tsub, q_tcall, q_tbi, q_tmeth, q_bool, q_rng1, q_slcn, q_slcY, z_tand, z_tor, z_and, z_or, z_ife, z_chain, b_max, b_min, b_abs, b_inti, b_intb, b_lent, sw2, sub_t0, sub_t1, o_add, o_sub, o_mul, o_fdiv, o_mod, o_pow, c_eqi, c_nei, c_eqs, c_nes, c_lt, c_le, c_gt, c_ge, c_isn, c_notn, isNon_n, isNon_i, Mi.Env.set, List.set_cons_zero, List.set_cons_succ, List.getElem?_cons_zero, List.getElem?_cons_succ, Option.getD_some, List.length_cons, List.length_nil, stepF_nm, Nat.reduceAdd, Nat.reduceLeDiff, q_iof, it_tup, sz_tup, sz_rg, c_call]
    refine Wr_of (call_w (n := n) hr1 t1 A1 ew) ?_
    rintro _ h2 ⟨m2, rfl, _, T2, F2⟩
    replace F1 : Fr [] h h2 := F1.comp F2 (fun n hn => .inr (rf n hn))
    replace hr := hr.fr0 F1
    replace L := L.fr0 F1
    replace vx := vx.fr0 F1
    replace vy := vy.fr0 F1
    replace vz := vz.fr0 F1
    replace okx := vx.okv
    replace oky := vy.okv
    cases hx : cnt x with
    | false =>
      try simp only [y_ok, y_exc, y_bind, y_bnd, y_cnd, y_cndt, z_nx, z_rt, z_br, z_ct, z_ex, z_exb0, z_exb1, z_wnwn, z_wnnx, z_wnrt, z_wnbr, z_wnct, z_wnex, z_wxnx, z_wxrt, z_wxbr, z_wxct, z_wxex, z_wlnx, z_wlrt, z_wlbr, z_wlct, z_wlex, z_fnnx, z_fnrt, z_fnex, z_pass, z_ret, z_retN, z_expr, z_asg, z_asgsw, z_asgtp, z_asgsub, z_asgfld, z_ifs, z_fors, z_brk, z_cont, z_trys, x_ct, x_cf, q_mp, q_opt, q_non, q_bl, q_int, q_str, q_var, q_ty, q_cls, q_gint, q_bin, q_neg, q_not, q_cmp, q_sub, q_slc, q_tup, q_lst, q_call, q_mk, q_bi, q_app, q_fld, q_meth, q_nil, q_cons, q_tnot, q_tbl, q_tvar, q_tcmp, q_tchain, q_tsub, q_tcall, q_tbi, q_tmeth, q_bool, q_rng1, q_slcn, q_slcY, z_tand, z_tor, z_and, z_or, z_ife, z_chain, b_max, b_min, b_abs, b_inti, b_intb, b_lent, sw2, sub_t0, sub_t1, o_add, o_sub, o_mul, o_fdiv, o_mod, o_pow, c_eqi, c_nei, c_eqs, c_nes, c_lt, c_le, c_gt, c_ge, c_isn, c_notn, isNon_n, isNon_i, Mi.Env.set, List.set_cons_zero, List.set_cons_succ, List.getElem?_cons_zero, List.getElem?_cons_succ, Option.getD_some, List.length_cons, List.length_nil, stepF_nm, Nat.reduceAdd, Nat.reduceLeDiff, q_iof, it_tup, sz_tup, sz_rg, c_isc, e_isc okx, e_isc oky, hx, Bool.not_false]
      try simp only [y_ok, y_exc, y_bind, y_bnd, y_cnd, y_cndt, z_nx, z_rt, z_br, z_ct, z_ex, z_exb0, z_exb1, z_wnwn, z_wnnx, z_wnrt, z_wnbr, z_wnct, z_wnex, z_wxnx, z_wxrt, z_wxbr, z_wxct, z_wxex, z_wlnx, z_wlrt, z_wlbr, z_wlct, z_wlex, z_fnnx, z_fnrt, z_fnex, z_pass, z_ret, z_retN, z_expr, z_asg, z_asgsw, z_asgtp, z_asgsub, z_asgfld, z_ifs, z_fors, z_brk, z_cont, z_trys, x_ct, x_cf, q_mp, q_opt, q_non, q_bl, q_int, q_str, q_var, q_ty, q_cls, q_gint, q_bin, q_neg, q_not, q_cmp, q_sub, q_slc, q_tup, q_lst, q_call, q_mk, q_bi, q_app, q_fld, q_meth, q_nil, q_cons, q_tnot, q_tbl, q_tvar, q_tcmp, q_tchain, q_tsub, q_tcall, q_tbi, q_tmeth, q_bool, q_rng1, q_slcn, q_slcY, z_tand, z_tor, z_and, z_or, z_ife, z_chain, b_max, b_min, b_abs, b_inti, b_intb, b_lent, sw2, sub_t0, sub_t1, o_add, o_sub, o_mul, o_fdiv, o_mod, o_pow, c_eqi, c_nei, c_eqs, c_nes, c_lt, c_le, c_gt, c_ge, c_isn, c_notn, isNon_n, isNon_i, Mi.Env.set, List.set_cons_zero, List.set_cons_succ, List.getElem?_cons_zero, List.getElem?_cons_succ, Option.getD_some, List.length_cons, List.length_nil, stepF_nm, Nat.reduceAdd, Nat.reduceLeDiff, q_iof, it_tup, sz_tup, sz_rg, (vpair T2).rep2 (sh_pair (by decide +kernel) shW okW) (by simp [fz, fzs]) (by omega) (by omega), c_grown]
      refine Wr_of (grown_sp (n := n + 8) vx ox) ?_
      rintro v3 h3 ⟨w3, F3⟩
      have vy3 := vy.fr0 F3
      try simp only [y_ok, y_exc, y_bind, y_bnd, y_cnd, y_cndt, z_nx, z_rt, z_br, z_ct, z_ex, z_exb0, z_exb1, z_wnwn, z_wnnx, z_wnrt, z_wnbr, z_wnct, z_wnex, z_wxnx, z_wxrt, z_wxbr, z_wxct, z_wxex, z_wlnx, z_wlrt, z_wlbr, z_wlct, z_wlex, z_fnnx, z_fnrt, z_fnex, z_pass, z_ret, z_retN, z_expr, z_asg, z_asgsw, z_asgtp, z_asgsub, z_asgfld, z_ifs, z_fors, z_brk, z_cont, z_trys, x_ct, x_cf, q_mp, q_opt, q_non, q_bl, q_int, q_str, q_var, q_ty, q_cls, q_gint, q_bin, q_neg, q_not, q_cmp, q_sub, q_slc, q_tup, q_lst, q_call, q_mk, q_bi, q_app, q_fld, q_meth, q_nil, q_cons, q_tnot, q_tbl, q_tvar, q_tcmp, q_tchain, q_tsub, q_tcall, q_tbi, q_tmeth, q_bool, q_rng1, q_slcn, q_slcY, z_tand, z_tor, z_and, z_or, z_ife, z_chain, b_max, b_min, b_abs, b_inti, b_intb, b_lent, sw2, sub_t0, sub_t1, o_add, o_sub, o_mul, o_fdiv, o_mod, o_pow, c_eqi, c_nei, c_eqs, c_nes, c_lt, c_le, c_gt, c_ge, c_isn, c_notn, isNon_n, isNon_i, Mi.Env.set, List.set_cons_zero, List.set_cons_succ, List.getElem?_cons_zero, List.getElem?_cons_succ, Option.getD_some, List.length_cons, List.length_nil, stepF_nm, Nat.reduceAdd, Nat.reduceLeDiff, q_iof, it_tup, sz_tup, sz_rg, c_grown]
      refine Wr_of (grown_sp (n := n + 8) vy3 oy) ?_
      rintro v4 h4 ⟨w4, F4⟩
      have w34 : V [] h4 (.tup [v3, v4]) (.tuple [grown dx, grown dy]) := .tup (.cons (w3.fr0 F4) (.cons w4 .nil))
      try simp only [y_ok, y_exc, y_bind, y_bnd, y_cnd, y_cndt, z_nx, z_rt, z_br, z_ct, z_ex, z_exb0, z_exb1, z_wnwn, z_wnnx, z_wnrt, z_wnbr, z_wnct, z_wnex, z_wxnx, z_wxrt, z_wxbr, z_wxct, z_wxex, z_wlnx, z_wlrt, z_wlbr, z_wlct, z_wlex, z_fnnx, z_fnrt, z_fnex, z_pass, z_ret, z_retN, z_expr, z_asg, z_asgsw, z_asgtp, z_asgsub, z_asgfld, z_ifs, z_fors, z_brk, z_cont, z_trys, x_ct, x_cf, q_mp, q_opt, q_non, q_bl, q_int, q_str, q_var, q_ty, q_cls, q_gint, q_bin, q_neg, q_not, q_cmp, q_sub, q_slc, q_tup, q_lst, q_call, q_mk, q_bi, q_app, q_fld, q_meth, q_nil, q_cons, q_tnot, q_tbl, q_tvar, q_tcmp, q_tchain, q_tsub, q_tcall, q_tbi, q_tmeth, q_bool, q_rng1, q_slcn, q_slcY, z_tand, z_tor, z_and, z_or, z_ife, z_chain, b_max, b_min, b_abs, b_inti, b_intb, b_lent, sw2, sub_t0, sub_t1, o_add, o_sub, o_mul, o_fdiv, o_mod, o_pow, c_eqi, c_nei, c_eqs, c_nes, c_lt, c_le, c_gt, c_ge, c_isn, c_notn, isNon_n, isNon_i, Mi.Env.set, List.set_cons_zero, List.set_cons_succ, List.getElem?_cons_zero, List.getElem?_cons_succ, Option.getD_some, List.length_cons, List.length_nil, stepF_nm, Nat.reduceAdd, Nat.reduceLeDiff, q_iof, it_tup, sz_tup, sz_rg, two, if_true, w34.rep shW (by omega) (by omega)]
      refine newL_r (S := []) (h := h4) (.cons (.str "window") (.cons (.str (PyData.tuple [grown dx, grown dy]).shown) .nil)) (by simp) (by simp) fun h5 w5 _ F5 _ => ?_
      try simp only [y_ok, y_exc, y_bind, y_bnd, y_cnd, y_cndt, z_nx, z_rt, z_br, z_ct, z_ex, z_exb0, z_exb1, z_wnwn, z_wnnx, z_wnrt, z_wnbr, z_wnct, z_wnex, z_wxnx, z_wxrt, z_wxbr, z_wxct, z_wxex, z_wlnx, z_wlrt, z_wlbr, z_wlct, z_wlex, z_fnnx, z_fnrt, z_fnex, z_pass, z_ret, z_retN, z_expr, z_asg, z_asgsw, z_asgtp, z_asgsub, z_asgfld, z_ifs, z_fors, z_brk, z_cont, z_trys, x_ct, x_cf, q_mp, q_opt, q_non, q_bl, q_int, q_str, q_var, q_ty, q_cls, q_gint, q_bin, q_neg, q_not, q_cmp, q_sub, q_slc, q_tup, q_lst, q_call, q_mk, q_bi, q_app, q_fld, q_meth, q_nil, q_cons, q_tnot, q_tbl, q_tvar, q_tcmp, q_tchain, q_tsub, q_tcall, q_tbi, q_tmeth, q_bool, q_rng1, q_slcn, q_slcY, z_tand, z_tor, z_and, z_or, z_ife, z_chain, b_max, b_min, b_abs, b_inti, b_intb, b_lent, sw2, sub_t0, sub_t1, o_add, o_sub, o_mul, o_fdiv, o_mod, o_pow, c_eqi, c_nei, c_eqs, c_nes, c_lt, c_le, c_gt, c_ge, c_isn, c_notn, isNon_n, isNon_i, Mi.Env.set, List.set_cons_zero, List.set_cons_succ, List.getElem?_cons_zero, List.getElem?_cons_succ, Option.getD_some, List.length_cons, List.length_nil, stepF_nm, Nat.reduceAdd, Nat.reduceLeDiff, q_iof, it_tup, sz_tup, sz_rg, w5.rep2 (sh_pair (by decide +kernel) shW okW) (by simp [fz, fzs]) (by omega) (by omega), decide_true]
      exact hQ _ _ ⟨rfl, ((F1.trans F3).trans F4).trans F5⟩
    | true =>
      cases hy : cnt y with
      | false =>
        try simp only [y_ok, y_exc, y_bind, y_bnd, y_cnd, y_cndt, z_nx, z_rt, z_br, z_ct, z_ex, z_exb0, z_exb1, z_wnwn, z_wnnx, z_wnrt, z_wnbr, z_wnct, z_wnex, z_wxnx, z_wxrt, z_wxbr, z_wxct, z_wxex, z_wlnx, z_wlrt, z_wlbr, z_wlct, z_wlex, z_fnnx, z_fnrt, z_fnex, z_pass, z_ret, z_retN, z_expr, z_asg, z_asgsw, z_asgtp, z_asgsub, z_asgfld, z_ifs, z_fors, z_brk, z_cont, z_trys, x_ct, x_cf, q_mp, q_opt, q_non, q_bl, q_int, q_str, q_var, q_ty, q_cls, q_gint, q_bin, q_neg, q_not, q_cmp, q_sub, q_slc, q_tup, q_lst, q_call, q_mk, q_bi, q_app, q_fld, q_meth, q_nil, q_cons, q_tnot, q_tbl, q_tvar, q_tcmp, q_tchain, q_tsub, q_tcall, q_tbi, q_tmeth, q_bool, q_rng1, q_slcn, q_slcY, z_tand, z_tor, z_and, z_or, z_ife, z_chain, b_max, b_min, b_abs, b_inti, b_intb, b_lent, sw2, sub_t0, sub_t1, o_add, o_sub, o_mul, o_fdiv, o_mod, o_pow, c_eqi, c_nei, c_eqs, c_nes, c_lt, c_le, c_gt, c_ge, c_isn, c_notn, isNon_n, isNon_i, Mi.Env.set, List.set_cons_zero, List.set_cons_succ, List.getElem?_cons_zero, List.getElem?_cons_succ, Option.getD_some, List.length_cons, List.length_nil, stepF_nm, Nat.reduceAdd, Nat.reduceLeDiff, q_iof, it_tup, sz_tup, sz_rg, c_isc, e_isc okx, e_isc oky, hx, hy, Bool.not_false, Bool.not_true]
        try simp only [y_ok, y_exc, y_bind, y_bnd, y_cnd, y_cndt, z_nx, z_rt, z_br, z_ct, z_ex, z_exb0, z_exb1, z_wnwn, z_wnnx, z_wnrt, z_wnbr, z_wnct, z_wnex, z_wxnx, z_wxrt, z_wxbr, z_wxct, z_wxex, z_wlnx, z_wlrt, z_wlbr, z_wlct, z_wlex, z_fnnx, z_fnrt, z_fnex, z_pass, z_ret, z_retN, z_expr, z_asg, z_asgsw, z_asgtp, z_asgsub, z_asgfld, z_ifs, z_fors, z_brk, z_cont, z_trys, x_ct, x_cf, q_mp, q_opt, q_non, q_bl, q_int, q_str, q_var, q_ty, q_cls, q_gint, q_bin, q_neg, q_not, q_cmp, q_sub, q_slc, q_tup, q_lst, q_call, q_mk, q_bi, q_app, q_fld, q_meth, q_nil, q_cons, q_tnot, q_tbl, q_tvar, q_tcmp, q_tchain, q_tsub, q_tcall, q_tbi, q_tmeth, q_bool, q_rng1, q_slcn, q_slcY, z_tand, z_tor, z_and, z_or, z_ife, z_chain, b_max, b_min, b_abs, b_inti, b_intb, b_lent, sw2, sub_t0, sub_t1, o_add, o_sub, o_mul, o_fdiv, o_mod, o_pow, c_eqi, c_nei, c_eqs, c_nes, c_lt, c_le, c_gt, c_ge, c_isn, c_notn, isNon_n, isNon_i, Mi.Env.set, List.set_cons_zero, List.set_cons_succ, List.getElem?_cons_zero, List.getElem?_cons_succ, Option.getD_some, List.length_cons, List.length_nil, stepF_nm, Nat.reduceAdd, Nat.reduceLeDiff, q_iof, it_tup, sz_tup, sz_rg, (vpair T2).rep2 (sh_pair (by decide +kernel) shW okW) (by simp [fz, fzs]) (by omega) (by omega), c_grown]
        refine Wr_of (grown_sp (n := n + 8) vx ox) ?_
        rintro v3 h3 ⟨w3, F3⟩
        have vy3 := vy.fr0 F3
        try simp only [y_ok, y_exc, y_bind, y_bnd, y_cnd, y_cndt, z_nx, z_rt, z_br, z_ct, z_ex, z_exb0, z_exb1, z_wnwn, z_wnnx, z_wnrt, z_wnbr, z_wnct, z_wnex, z_wxnx, z_wxrt, z_wxbr, z_wxct, z_wxex, z_wlnx, z_wlrt, z_wlbr, z_wlct, z_wlex, z_fnnx, z_fnrt, z_fnex, z_pass, z_ret, z_retN, z_expr, z_asg, z_asgsw, z_asgtp, z_asgsub, z_asgfld, z_ifs, z_fors, z_brk, z_cont, z_trys, x_ct, x_cf, q_mp, q_opt, q_non, q_bl, q_int, q_str, q_var, q_ty, q_cls, q_gint, q_bin, q_neg, q_not, q_cmp, q_sub, q_slc, q_tup, q_lst, q_call, q_mk, q_bi, q_app, q_fld, q_meth, q_nil, q_cons, q_tnot, q_tbl, q_tvar, q_tcmp, q_tchain, q_tsub, q_tcall, q_tbi, q_tmeth, q_bool, q_rng1, q_slcn, q_slcY, z_tand, z_tor, z_and, z_or, z_ife, z_chain, b_max, b_min, b_abs, b_inti, b_intb, b_lent, sw2, sub_t0, sub_t1, o_add, o_sub, o_mul, o_fdiv, o_mod, o_pow, c_eqi, c_nei, c_eqs, c_nes, c_lt, c_le, c_gt, c_ge, c_isn, c_notn, isNon_n, isNon_i, Mi.Env.set, List.set_cons_zero, List.set_cons_succ, List.getElem?_cons_zero, List.getElem?_cons_succ, Option.getD_some, List.length_cons, List.length_nil, stepF_nm, Nat.reduceAdd, Nat.reduceLeDiff, q_iof, it_tup, sz_tup, sz_rg, c_grown]
        refine Wr_of (grown_sp (n := n + 8) vy3 oy) ?_
        rintro v4 h4 ⟨w4, F4⟩
        have w34 : V [] h4 (.tup [v3, v4]) (.tuple [grown dx, grown dy]) := .tup (.cons (w3.fr0 F4) (.cons w4 .nil))
        try simp only [y_ok, y_exc, y_bind, y_bnd, y_cnd, y_cndt, z_nx, z_rt, z_br, z_ct, z_ex, z_exb0, z_exb1, z_wnwn, z_wnnx, z_wnrt, z_wnbr, z_wnct, z_wnex, z_wxnx, z_wxrt, z_wxbr, z_wxct, z_wxex, z_wlnx, z_wlrt, z_wlbr, z_wlct, z_wlex, z_fnnx, z_fnrt, z_fnex, z_pass, z_ret, z_retN, z_expr, z_asg, z_asgsw, z_asgtp, z_asgsub, z_asgfld, z_ifs, z_fors, z_brk, z_cont, z_trys, x_ct, x_cf, q_mp, q_opt, q_non, q_bl, q_int, q_str, q_var, q_ty, q_cls, q_gint, q_bin, q_neg, q_not, q_cmp, q_sub, q_slc, q_tup, q_lst, q_call, q_mk, q_bi, q_app, q_fld, q_meth, q_nil, q_cons, q_tnot, q_tbl, q_tvar, q_tcmp, q_tchain, q_tsub, q_tcall, q_tbi, q_tmeth, q_bool, q_rng1, q_slcn, q_slcY, z_tand, z_tor, z_and, z_or, z_ife, z_chain, b_max, b_min, b_abs, b_inti, b_intb, b_lent, sw2, sub_t0, sub_t1, o_add, o_sub, o_mul, o_fdiv, o_mod, o_pow, c_eqi, c_nei, c_eqs, c_nes, c_lt, c_le, c_gt, c_ge, c_isn, c_notn, isNon_n, isNon_i, Mi.Env.set, List.set_cons_zero, List.set_cons_succ, List.getElem?_cons_zero, List.getElem?_cons_succ, Option.getD_some, List.length_cons, List.length_nil, stepF_nm, Nat.reduceAdd, Nat.reduceLeDiff, q_iof, it_tup, sz_tup, sz_rg, two, if_true, w34.rep shW (by omega) (by omega)]
        refine newL_r (S := []) (h := h4) (.cons (.str "window") (.cons (.str (PyData.tuple [grown dx, grown dy]).shown) .nil)) (by simp) (by simp) fun h5 w5 _ F5 _ => ?_
        try simp only [y_ok, y_exc, y_bind, y_bnd, y_cnd, y_cndt, z_nx, z_rt, z_br, z_ct, z_ex, z_exb0, z_exb1, z_wnwn, z_wnnx, z_wnrt, z_wnbr, z_wnct, z_wnex, z_wxnx, z_wxrt, z_wxbr, z_wxct, z_wxex, z_wlnx, z_wlrt, z_wlbr, z_wlct, z_wlex, z_fnnx, z_fnrt, z_fnex, z_pass, z_ret, z_retN, z_expr, z_asg, z_asgsw, z_asgtp, z_asgsub, z_asgfld, z_ifs, z_fors, z_brk, z_cont, z_trys, x_ct, x_cf, q_mp, q_opt, q_non, q_bl, q_int, q_str, q_var, q_ty, q_cls, q_gint, q_bin, q_neg, q_not, q_cmp, q_sub, q_slc, q_tup, q_lst, q_call, q_mk, q_bi, q_app, q_fld, q_meth, q_nil, q_cons, q_tnot, q_tbl, q_tvar, q_tcmp, q_tchain, q_tsub, q_tcall, q_tbi, q_tmeth, q_bool, q_rng1, q_slcn, q_slcY, z_tand, z_tor, z_and, z_or, z_ife, z_chain, b_max, b_min, b_abs, b_inti, b_intb, b_lent, sw2, sub_t0, sub_t1, o_add, o_sub, o_mul, o_fdiv, o_mod, o_pow, c_eqi, c_nei, c_eqs, c_nes, c_lt, c_le, c_gt, c_ge, c_isn, c_notn, isNon_n, isNon_i, Mi.Env.set, List.set_cons_zero, List.set_cons_succ, List.getElem?_cons_zero, List.getElem?_cons_succ, Option.getD_some, List.length_cons, List.length_nil, stepF_nm, Nat.reduceAdd, Nat.reduceLeDiff, q_iof, it_tup, sz_tup, sz_rg, w5.rep2 (sh_pair (by decide +kernel) shW okW) (by simp [fz, fzs]) (by omega) (by omega), decide_true]
        exact hQ _ _ ⟨rfl, ((F1.trans F3).trans F4).trans F5⟩
      | true =>
        obtain ⟨s, rfl, s0⟩ := cnt_ex hy
        have sz : s = 0 := by
          apply Classical.byContradiction
          intro q
          have : wOk x (.int s) = true := by simp [wOk, hx, hy, vi, q]
          rw [this] at hv; cases hv
        try simp only [y_ok, y_exc, y_bind, y_bnd, y_cnd, y_cndt, z_nx, z_rt, z_br, z_ct, z_ex, z_exb0, z_exb1, z_wnwn, z_wnnx, z_wnrt, z_wnbr, z_wnct, z_wnex, z_wxnx, z_wxrt, z_wxbr, z_wxct, z_wxex, z_wlnx, z_wlrt, z_wlbr, z_wlct, z_wlex, z_fnnx, z_fnrt, z_fnex, z_pass, z_ret, z_retN, z_expr, z_asg, z_asgsw, z_asgtp, z_asgsub, z_asgfld, z_ifs, z_fors, z_brk, z_cont, z_trys, x_ct, x_cf, q_mp, q_opt, q_non, q_bl, q_int, q_str, q_var, q_ty, q_cls, q_gint, q_bin, q_neg, q_not, q_cmp, q_sub, q_slc, q_tup, q_lst, q_call, q_mk, q_bi, q_app, q_fld, q_meth, q_nil, q_cons, q_tnot, q_tbl, q_tvar, q_tcmp, q_tchain, q_tsub, q_tcall, q_tbi, q_tmeth, q_bool, q_rng1, q_slcn, q_slcY, z_tand, z_tor, z_and, z_or, z_ife, z_chain, b_max, b_min, b_abs, b_inti, b_intb, b_lent, sw2, sub_t0, sub_t1, o_add, o_sub, o_mul, o_fdiv, o_mod, o_pow, c_eqi, c_nei, c_eqs, c_nes, c_lt, c_le, c_gt, c_ge, c_isn, c_notn, isNon_n, isNon_i, Mi.Env.set, List.set_cons_zero, List.set_cons_succ, List.getElem?_cons_zero, List.getElem?_cons_succ, Option.getD_some, List.length_cons, List.length_nil, stepF_nm, Nat.reduceAdd, Nat.reduceLeDiff, q_iof, it_tup, sz_tup, sz_rg, c_isc, e_isc okx, e_isc oky, hx, hy, Bool.not_true, show decide (s = 0) = true by simp [sz]]
        try simp only [y_ok, y_exc, y_bind, y_bnd, y_cnd, y_cndt, z_nx, z_rt, z_br, z_ct, z_ex, z_exb0, z_exb1, z_wnwn, z_wnnx, z_wnrt, z_wnbr, z_wnct, z_wnex, z_wxnx, z_wxrt, z_wxbr, z_wxct, z_wxex, z_wlnx, z_wlrt, z_wlbr, z_wlct, z_wlex, z_fnnx, z_fnrt, z_fnex, z_pass, z_ret, z_retN, z_expr, z_asg, z_asgsw, z_asgtp, z_asgsub, z_asgfld, z_ifs, z_fors, z_brk, z_cont, z_trys, x_ct, x_cf, q_mp, q_opt, q_non, q_bl, q_int, q_str, q_var, q_ty, q_cls, q_gint, q_bin, q_neg, q_not, q_cmp, q_sub, q_slc, q_tup, q_lst, q_call, q_mk, q_bi, q_app, q_fld, q_meth, q_nil, q_cons, q_tnot, q_tbl, q_tvar, q_tcmp, q_tchain, q_tsub, q_tcall, q_tbi, q_tmeth, q_bool, q_rng1, q_slcn, q_slcY, z_tand, z_tor, z_and, z_or, z_ife, z_chain, b_max, b_min, b_abs, b_inti, b_intb, b_lent, sw2, sub_t0, sub_t1, o_add, o_sub, o_mul, o_fdiv, o_mod, o_pow, c_eqi, c_nei, c_eqs, c_nes, c_lt, c_le, c_gt, c_ge, c_isn, c_notn, isNon_n, isNon_i, Mi.Env.set, List.set_cons_zero, List.set_cons_succ, List.getElem?_cons_zero, List.getElem?_cons_succ, Option.getD_some, List.length_cons, List.length_nil, stepF_nm, Nat.reduceAdd, Nat.reduceLeDiff, q_iof, it_tup, sz_tup, sz_rg, (vpair T2).rep2 (sh_pair (by decide +kernel) shW okW) (by simp [fz, fzs]) (by omega) (by omega), c_grown]
        refine Wr_of (grown_sp (n := n + 8) vx ox) ?_
        rintro v3 h3 ⟨w3, F3⟩
        have vy3 := vy.fr0 F3
        try simp only [y_ok, y_exc, y_bind, y_bnd, y_cnd, y_cndt, z_nx, z_rt, z_br, z_ct, z_ex, z_exb0, z_exb1, z_wnwn, z_wnnx, z_wnrt, z_wnbr, z_wnct, z_wnex, z_wxnx, z_wxrt, z_wxbr, z_wxct, z_wxex, z_wlnx, z_wlrt, z_wlbr, z_wlct, z_wlex, z_fnnx, z_fnrt, z_fnex, z_pass, z_ret, z_retN, z_expr, z_asg, z_asgsw, z_asgtp, z_asgsub, z_asgfld, z_ifs, z_fors, z_brk, z_cont, z_trys, x_ct, x_cf, q_mp, q_opt, q_non, q_bl, q_int, q_str, q_var, q_ty, q_cls, q_gint, q_bin, q_neg, q_not, q_cmp, q_sub, q_slc, q_tup, q_lst, q_call, q_mk, q_bi, q_app, q_fld, q_meth, q_nil, q_cons, q_tnot, q_tbl, q_tvar, q_tcmp, q_tchain, q_tsub, q_tcall, q_tbi, q_tmeth, q_bool, q_rng1, q_slcn, q_slcY, z_tand, z_tor, z_and, z_or, z_ife, z_chain, b_max, b_min, b_abs, b_inti, b_intb, b_lent, sw2, sub_t0, sub_t1, o_add, o_sub, o_mul, o_fdiv, o_mod, o_pow, c_eqi, c_nei, c_eqs, c_nes, c_lt, c_le, c_gt, c_ge, c_isn, c_notn, isNon_n, isNon_i, Mi.Env.set, List.set_cons_zero, List.set_cons_succ, List.getElem?_cons_zero, List.getElem?_cons_succ, Option.getD_some, List.length_cons, List.length_nil, stepF_nm, Nat.reduceAdd, Nat.reduceLeDiff, q_iof, it_tup, sz_tup, sz_rg, c_grown]
        refine Wr_of (grown_sp (n := n + 8) vy3 oy) ?_
        rintro v4 h4 ⟨w4, F4⟩
        have w34 : V [] h4 (.tup [v3, v4]) (.tuple [grown dx, grown dy]) := .tup (.cons (w3.fr0 F4) (.cons w4 .nil))
        try simp only [y_ok, y_exc, y_bind, y_bnd, y_cnd, y_cndt, z_nx, z_rt, z_br, z_ct, z_ex, z_exb0, z_exb1, z_wnwn, z_wnnx, z_wnrt, z_wnbr, z_wnct, z_wnex, z_wxnx, z_wxrt, z_wxbr, z_wxct, z_wxex, z_wlnx, z_wlrt, z_wlbr, z_wlct, z_wlex, z_fnnx, z_fnrt, z_fnex, z_pass, z_ret, z_retN, z_expr, z_asg, z_asgsw, z_asgtp, z_asgsub, z_asgfld, z_ifs, z_fors, z_brk, z_cont, z_trys, x_ct, x_cf, q_mp, q_opt, q_non, q_bl, q_int, q_str, q_var, q_ty, q_cls, q_gint, q_bin, q_neg, q_not, q_cmp, q_sub, q_slc, q_tup, q_lst, q_call, q_mk, q_bi, q_app, q_fld, q_meth, q_nil, q_cons, q_tnot, q_tbl, q_tvar, q_tcmp, q_tchain, q_tsub, q_tcall, q_tbi, q_tmeth, q_bool, q_rng1, q_slcn, q_slcY, z_tand, z_tor, z_and, z_or, z_ife, z_chain, b_max, b_min, b_abs, b_inti, b_intb, b_lent, sw2, sub_t0, sub_t1, o_add, o_sub, o_mul, o_fdiv, o_mod, o_pow, c_eqi, c_nei, c_eqs, c_nes, c_lt, c_le, c_gt, c_ge, c_isn, c_notn, isNon_n, isNon_i, Mi.Env.set, List.set_cons_zero, List.set_cons_succ, List.getElem?_cons_zero, List.getElem?_cons_succ, Option.getD_some, List.length_cons, List.length_nil, stepF_nm, Nat.reduceAdd, Nat.reduceLeDiff, q_iof, it_tup, sz_tup, sz_rg, two, if_true, w34.rep shW (by omega) (by omega)]
        refine newL_r (S := []) (h := h4) (.cons (.str "window") (.cons (.str (PyData.tuple [grown dx, grown dy]).shown) .nil)) (by simp) (by simp) fun h5 w5 _ F5 _ => ?_
        try simp only [y_ok, y_exc, y_bind, y_bnd, y_cnd, y_cndt, z_nx, z_rt, z_br, z_ct, z_ex, z_exb0, z_exb1, z_wnwn, z_wnnx, z_wnrt, z_wnbr, z_wnct, z_wnex, z_wxnx, z_wxrt, z_wxbr, z_wxct, z_wxex, z_wlnx, z_wlrt, z_wlbr, z_wlct, z_wlex, z_fnnx, z_fnrt, z_fnex, z_pass, z_ret, z_retN, z_expr, z_asg, z_asgsw, z_asgtp, z_asgsub, z_asgfld, z_ifs, z_fors, z_brk, z_cont, z_trys, x_ct, x_cf, q_mp, q_opt, q_non, q_bl, q_int, q_str, q_var, q_ty, q_cls, q_gint, q_bin, q_neg, q_not, q_cmp, q_sub, q_slc, q_tup, q_lst, q_call, q_mk, q_bi, q_app, q_fld, q_meth, q_nil, q_cons, q_tnot, q_tbl, q_tvar, q_tcmp, q_tchain, q_tsub, q_tcall, q_tbi, q_tmeth, q_bool, q_rng1, q_slcn, q_slcY, z_tand, z_tor, z_and, z_or, z_ife, z_chain, b_max, b_min, b_abs, b_inti, b_intb, b_lent, sw2, sub_t0, sub_t1, o_add, o_sub, o_mul, o_fdiv, o_mod, o_pow, c_eqi, c_nei, c_eqs, c_nes, c_lt, c_le, c_gt, c_ge, c_isn, c_notn, isNon_n, isNon_i, Mi.Env.set, List.set_cons_zero, List.set_cons_succ, List.getElem?_cons_zero, List.getElem?_cons_succ, Option.getD_some, List.length_cons, List.length_nil, stepF_nm, Nat.reduceAdd, Nat.reduceLeDiff, q_iof, it_tup, sz_tup, sz_rg, w5.rep2 (sh_pair (by decide +kernel) shW okW) (by simp [fz, fzs]) (by omega) (by omega), decide_true]
        exact hQ _ _ ⟨rfl, ((F1.trans F3).trans F4).trans F5⟩
  | true =>
    rw [hv] at ew
    obtain ⟨a, s, rfl, rfl, a0, s0, a1, s1⟩ := wOk_ex vx vy ox oy hv
    have hx : cnt (.int a) = true := by simp [cnt, a0]
    have hy : cnt (.int s) = true := by simp [cnt]; omega
    have hs : decide (s = 0) = false := by simp; omega
    cases hz : cnt z with
    | false =>
      try simp only [y_ok, y_exc, y_bind, y_bnd, y_cnd, y_cndt, z_nx, z_rt, z_br, z_ct, z_ex, z_exb0, z_exb1, z_wnwn, z_wnnx, z_wnrt, z_wnbr, z_wnct, z_wnex, z_wxnx, z_wxrt, z_wxbr, z_wxct, z_wxex, z_wlnx, z_wlrt, z_wlbr, z_wlct, z_wlex, z_fnnx, z_fnrt, z_fnex, z_pass, z_ret, z_retN, z_expr, z_asg, z_asgsw, z_asgtp, z_asgsub, z_asgfld, z_ifs, z_fors, z_brk, z_cont, z_trys, x_ct, x_cf, q_mp, q_opt, q_non, q_bl, q_int, q_str, q_var, q_ty, q_cls, q_gint, q_bin, q_neg, q_not, q_cmp, q_sub, q_slc, q_tup, q_lst, q_call, q_mk, q_bi, q_app, q_fld, q_meth, q_nil, q_cons, q_tnot, q_tbl, q_tvar, q_tcmp, q_tchain, q_tsub, q_tcall, q_tbi, q_tmeth, q_bool, q_rng1, q_slcn, q_slcY, z_tand, z_tor, z_and, z_or, z_ife, z_chain, b_max, b_min, b_abs, b_inti, b_intb, b_lent, sw2, sub_t0, sub_t1, o_add, o_sub, o_mul, o_fdiv, o_mod, o_pow, c_eqi, c_nei, c_eqs, c_nes, c_lt, c_le, c_gt, c_ge, c_isn, c_notn, isNon_n, isNon_i, Mi.Env.set, List.set_cons_zero, List.set_cons_succ, List.getElem?_cons_zero, List.getElem?_cons_succ, Option.getD_some, List.length_cons, List.length_nil, stepF_nm, Nat.reduceAdd, Nat.reduceLeDiff, q_iof, it_tup, sz_tup, sz_rg, c_call]
      refine Wr_of (call_t (n := n) hr1 t1 A1 ew (by rw [← ez.1]; exact hz)) ?_
      rintro _ h2 ⟨m2, rfl, _, T2, F2⟩
      replace F1 : Fr [] h h2 := F1.comp F2 (fun n hn => .inr (rf n hn))
      replace hr := hr.fr0 F1
      replace L := L.fr0 F1
      replace vx := vx.fr0 F1
      replace vy := vy.fr0 F1
      replace vz := vz.fr0 F1
      replace okx := vx.okv
      replace oky := vy.okv
      replace okz := vz.okv
      try simp only [y_ok, y_exc, y_bind, y_bnd, y_cnd, y_cndt, z_nx, z_rt, z_br, z_ct, z_ex, z_exb0, z_exb1, z_wnwn, z_wnnx, z_wnrt, z_wnbr, z_wnct, z_wnex, z_wxnx, z_wxrt, z_wxbr, z_wxct, z_wxex, z_wlnx, z_wlrt, z_wlbr, z_wlct, z_wlex, z_fnnx, z_fnrt, z_fnex, z_pass, z_ret, z_retN, z_expr, z_asg, z_asgsw, z_asgtp, z_asgsub, z_asgfld, z_ifs, z_fors, z_brk, z_cont, z_trys, x_ct, x_cf, q_mp, q_opt, q_non, q_bl, q_int, q_str, q_var, q_ty, q_cls, q_gint, q_bin, q_neg, q_not, q_cmp, q_sub, q_slc, q_tup, q_lst, q_call, q_mk, q_bi, q_app, q_fld, q_meth, q_nil, q_cons, q_tnot, q_tbl, q_tvar, q_tcmp, q_tchain, q_tsub, q_tcall, q_tbi, q_tmeth, q_bool, q_rng1, q_slcn, q_slcY, z_tand, z_tor, z_and, z_or, z_ife, z_chain, b_max, b_min, b_abs, b_inti, b_intb, b_lent, sw2, sub_t0, sub_t1, o_add, o_sub, o_mul, o_fdiv, o_mod, o_pow, c_eqi, c_nei, c_eqs, c_nes, c_lt, c_le, c_gt, c_ge, c_isn, c_notn, isNon_n, isNon_i, Mi.Env.set, List.set_cons_zero, List.set_cons_succ, List.getElem?_cons_zero, List.getElem?_cons_succ, Option.getD_some, List.length_cons, List.length_nil, stepF_nm, Nat.reduceAdd, Nat.reduceLeDiff, q_iof, it_tup, sz_tup, sz_rg, c_isc, e_isc okx, e_isc oky, e_isc okz, hx, hy, hz, hs, Bool.not_true, Bool.not_false, (vpair T2).rep2 (sh_pair (by decide +kernel) oz.sh oz.ok) (by simp [fz, fzs]) (by omega) (by omega), c_grown]
      refine Wr_of (grown_sp (n := n + 8) vz oz) ?_
      rintro v3 h3 ⟨w3, F3⟩
      try simp only [y_ok, y_exc, y_bind, y_bnd, y_cnd, y_cndt, z_nx, z_rt, z_br, z_ct, z_ex, z_exb0, z_exb1, z_wnwn, z_wnnx, z_wnrt, z_wnbr, z_wnct, z_wnex, z_wxnx, z_wxrt, z_wxbr, z_wxct, z_wxex, z_wlnx, z_wlrt, z_wlbr, z_wlct, z_wlex, z_fnnx, z_fnrt, z_fnex, z_pass, z_ret, z_retN, z_expr, z_asg, z_asgsw, z_asgtp, z_asgsub, z_asgfld, z_ifs, z_fors, z_brk, z_cont, z_trys, x_ct, x_cf, q_mp, q_opt, q_non, q_bl, q_int, q_str, q_var, q_ty, q_cls, q_gint, q_bin, q_neg, q_not, q_cmp, q_sub, q_slc, q_tup, q_lst, q_call, q_mk, q_bi, q_app, q_fld, q_meth, q_nil, q_cons, q_tnot, q_tbl, q_tvar, q_tcmp, q_tchain, q_tsub, q_tcall, q_tbi, q_tmeth, q_bool, q_rng1, q_slcn, q_slcY, z_tand, z_tor, z_and, z_or, z_ife, z_chain, b_max, b_min, b_abs, b_inti, b_intb, b_lent, sw2, sub_t0, sub_t1, o_add, o_sub, o_mul, o_fdiv, o_mod, o_pow, c_eqi, c_nei, c_eqs, c_nes, c_lt, c_le, c_gt, c_ge, c_isn, c_notn, isNon_n, isNon_i, Mi.Env.set, List.set_cons_zero, List.set_cons_succ, List.getElem?_cons_zero, List.getElem?_cons_succ, Option.getD_some, List.length_cons, List.length_nil, stepF_nm, Nat.reduceAdd, Nat.reduceLeDiff, q_iof, it_tup, sz_tup, sz_rg, w3.rep oz.sh (by omega) (by omega)]
      refine newL_r (S := []) (h := h3) (.cons (.str "time") (.cons (.str (grown dz).shown) .nil)) (by simp) (by simp) fun h5 w5 _ F5 _ => ?_
      try simp only [y_ok, y_exc, y_bind, y_bnd, y_cnd, y_cndt, z_nx, z_rt, z_br, z_ct, z_ex, z_exb0, z_exb1, z_wnwn, z_wnnx, z_wnrt, z_wnbr, z_wnct, z_wnex, z_wxnx, z_wxrt, z_wxbr, z_wxct, z_wxex, z_wlnx, z_wlrt, z_wlbr, z_wlct, z_wlex, z_fnnx, z_fnrt, z_fnex, z_pass, z_ret, z_retN, z_expr, z_asg, z_asgsw, z_asgtp, z_asgsub, z_asgfld, z_ifs, z_fors, z_brk, z_cont, z_trys, x_ct, x_cf, q_mp, q_opt, q_non, q_bl, q_int, q_str, q_var, q_ty, q_cls, q_gint, q_bin, q_neg, q_not, q_cmp, q_sub, q_slc, q_tup, q_lst, q_call, q_mk, q_bi, q_app, q_fld, q_meth, q_nil, q_cons, q_tnot, q_tbl, q_tvar, q_tcmp, q_tchain, q_tsub, q_tcall, q_tbi, q_tmeth, q_bool, q_rng1, q_slcn, q_slcY, z_tand, z_tor, z_and, z_or, z_ife, z_chain, b_max, b_min, b_abs, b_inti, b_intb, b_lent, sw2, sub_t0, sub_t1, o_add, o_sub, o_mul, o_fdiv, o_mod, o_pow, c_eqi, c_nei, c_eqs, c_nes, c_lt, c_le, c_gt, c_ge, c_isn, c_notn, isNon_n, isNon_i, Mi.Env.set, List.set_cons_zero, List.set_cons_succ, List.getElem?_cons_zero, List.getElem?_cons_succ, Option.getD_some, List.length_cons, List.length_nil, stepF_nm, Nat.reduceAdd, Nat.reduceLeDiff, q_iof, it_tup, sz_tup, sz_rg, w5.rep2 (sh_pair (by decide +kernel) oz.sh oz.ok) (by simp [fz, fzs]) (by omega) (by omega), decide_true]
      exact hQ _ _ ⟨rfl, (F1.trans F3).trans F5⟩
    | true =>
      obtain ⟨c, rfl, c0⟩ := cnt_ex hz
      obtain ⟨rfl, rfl, rfl⟩ : x' = .int a ∧ y' = .int s ∧ z' = .int c := by
        refine ⟨?_, ?_, ?_⟩
        · cases vx; cases t1.vx; rfl
        · cases vy; cases t1.vy; rfl
        · cases vz; cases t1.vz; rfl
      have fin : ∀ (h2 : MH) (m2 : Nat) (T : List Mi.MV), At h2 m2 (.lst T) → Fr [] h h2 → True := fun _ _ _ _ _ => trivial
      have bd : a + s < 2 ^ 60 := hb a s (by cases vx; rfl) (by cases vy; rfl)
      cases ht : (tell R a s c).head? with
      | none =>
        have hn : tell R a s c = [] := List.head?_eq_none_iff.mp ht
        have lf := fits_lt (last_mem (a := a) (s := s) gr)
        try simp only [y_ok, y_exc, y_bind, y_bnd, y_cnd, y_cndt, z_nx, z_rt, z_br, z_ct, z_ex, z_exb0, z_exb1, z_wnwn, z_wnnx, z_wnrt, z_wnbr, z_wnct, z_wnex, z_wxnx, z_wxrt, z_wxbr, z_wxct, z_wxex, z_wlnx, z_wlrt, z_wlbr, z_wlct, z_wlex, z_fnnx, z_fnrt, z_fnex, z_pass, z_ret, z_retN, z_expr, z_asg, z_asgsw, z_asgtp, z_asgsub, z_asgfld, z_ifs, z_fors, z_brk, z_cont, z_trys, x_ct, x_cf, q_mp, q_opt, q_non, q_bl, q_int, q_str, q_var, q_ty, q_cls, q_gint, q_bin, q_neg, q_not, q_cmp, q_sub, q_slc, q_tup, q_lst, q_call, q_mk, q_bi, q_app, q_fld, q_meth, q_nil, q_cons, q_tnot, q_tbl, q_tvar, q_tcmp, q_tchain, q_tsub, q_tcall, q_tbi, q_tmeth, q_bool, q_rng1, q_slcn, q_slcY, z_tand, z_tor, z_and, z_or, z_ife, z_chain, b_max, b_min, b_abs, b_inti, b_intb, b_lent, sw2, sub_t0, sub_t1, o_add, o_sub, o_mul, o_fdiv, o_mod, o_pow, c_eqi, c_nei, c_eqs, c_nes, c_lt, c_le, c_gt, c_ge, c_isn, c_notn, isNon_n, isNon_i, Mi.Env.set, List.set_cons_zero, List.set_cons_succ, List.getElem?_cons_zero, List.getElem?_cons_succ, Option.getD_some, List.length_cons, List.length_nil, stepF_nm, Nat.reduceAdd, Nat.reduceLeDiff, q_iof, it_tup, sz_tup, sz_rg, c_call]
        refine Wr_of (call_g (n := n) gr hr1 A1 a0 s0 c0 a1 ht) ?_
        rintro _ h2 ⟨m2, rfl, _, T2, F2⟩
        replace F1 := F1.trans F2
        replace hr := hr.fr0 F1
        replace L := L.fr0 F1
        have ef := e_fits (n := n + 8) (a := a) (s := s) gr.toGP gl.2 L
        try simp only [y_ok, y_exc, y_bind, y_bnd, y_cnd, y_cndt, z_nx, z_rt, z_br, z_ct, z_ex, z_exb0, z_exb1, z_wnwn, z_wnnx, z_wnrt, z_wnbr, z_wnct, z_wnex, z_wxnx, z_wxrt, z_wxbr, z_wxct, z_wxex, z_wlnx, z_wlrt, z_wlbr, z_wlct, z_wlex, z_fnnx, z_fnrt, z_fnex, z_pass, z_ret, z_retN, z_expr, z_asg, z_asgsw, z_asgtp, z_asgsub, z_asgfld, z_ifs, z_fors, z_brk, z_cont, z_trys, x_ct, x_cf, q_mp, q_opt, q_non, q_bl, q_int, q_str, q_var, q_ty, q_cls, q_gint, q_bin, q_neg, q_not, q_cmp, q_sub, q_slc, q_tup, q_lst, q_call, q_mk, q_bi, q_app, q_fld, q_meth, q_nil, q_cons, q_tnot, q_tbl, q_tvar, q_tcmp, q_tchain, q_tsub, q_tcall, q_tbi, q_tmeth, q_bool, q_rng1, q_slcn, q_slcY, z_tand, z_tor, z_and, z_or, z_ife, z_chain, b_max, b_min, b_abs, b_inti, b_intb, b_lent, sw2, sub_t0, sub_t1, o_add, o_sub, o_mul, o_fdiv, o_mod, o_pow, c_eqi, c_nei, c_eqs, c_nes, c_lt, c_le, c_gt, c_ge, c_isn, c_notn, isNon_n, isNon_i, Mi.Env.set, List.set_cons_zero, List.set_cons_succ, List.getElem?_cons_zero, List.getElem?_cons_succ, Option.getD_some, List.length_cons, List.length_nil, stepF_nm, Nat.reduceAdd, Nat.reduceLeDiff, q_iof, it_tup, sz_tup, sz_rg, c_isc, e_isc (show okV h2 (.int a) from trivial), e_isc (show okV h2 (.int s) from trivial), e_isc (show okV h2 (.int c) from trivial), hx, hy, hz, hs, Bool.not_true, c_fits, ef]
        have A3 := At.new (h := h2) (o := .lst (nats (fits R a s)))
        have F3 : Fr [] h2 (h2.new (.lst (nats (fits R a s)))) := Fr.new
        generalize h2.new (.lst (nats (fits R a s))) = h3 at A3 F3 ⊢
        generalize h2.next = mf at A3 ⊢
        replace L := L.fr0 F3
        replace T2 := T2.fr0 F3
        replace F1 := F1.trans F3
        have ec := tell_ev (n := n + 7) (c := c) (v0 := some (.ref r)) (v2 := some (.ref m)) (v3 := some (.int way)) (v5 := some (.int s)) (v7 := some (.ref m2)) (v9 := none) (v10 := none) gr.toGP gl.2 L A3
        rw [ec, y_ok]
        have A4 := At.new (h := h3) (o := .lst (nats (tell R a s c)))
        have F4 : Fr [] h3 (h3.new (.lst (nats (tell R a s c)))) := Fr.new
        generalize h3.new (.lst (nats (tell R a s c))) = h4 at A4 F4 ⊢
        generalize h3.next = mt at A4 ⊢
        replace L := L.fr0 F4
        replace T2 := T2.fr0 F4
        replace A3 := A3.fr0 F4
        replace F1 := F1.trans F4
        try simp only [y_ok, y_exc, y_bind, y_bnd, y_cnd, y_cndt, z_nx, z_rt, z_br, z_ct, z_ex, z_exb0, z_exb1, z_wnwn, z_wnnx, z_wnrt, z_wnbr, z_wnct, z_wnex, z_wxnx, z_wxrt, z_wxbr, z_wxct, z_wxex, z_wlnx, z_wlrt, z_wlbr, z_wlct, z_wlex, z_fnnx, z_fnrt, z_fnex, z_pass, z_ret, z_retN, z_expr, z_asg, z_asgsw, z_asgtp, z_asgsub, z_asgfld, z_ifs, z_fors, z_brk, z_cont, z_trys, x_ct, x_cf, q_mp, q_opt, q_non, q_bl, q_int, q_str, q_var, q_ty, q_cls, q_gint, q_bin, q_neg, q_not, q_cmp, q_sub, q_slc, q_tup, q_lst, q_call, q_mk, q_bi, q_app, q_fld, q_meth, q_nil, q_cons, q_tnot, q_tbl, q_tvar, q_tcmp, q_tchain, q_tsub, q_tcall, q_tbi, q_tmeth, q_bool, q_rng1, q_slcn, q_slcY, z_tand, z_tor, z_and, z_or, z_ife, z_chain, b_max, b_min, b_abs, b_inti, b_intb, b_lent, sw2, sub_t0, sub_t1, o_add, o_sub, o_mul, o_fdiv, o_mod, o_pow, c_eqi, c_nei, c_eqs, c_nes, c_lt, c_le, c_gt, c_ge, c_isn, c_notn, isNon_n, isNon_i, Mi.Env.set, List.set_cons_zero, List.set_cons_succ, List.getElem?_cons_zero, List.getElem?_cons_succ, Option.getD_some, List.length_cons, List.length_nil, x_newL, stepF_nm, Nat.reduceAdd, Nat.reduceLeDiff, q_iof, it_tup, sz_tup, sz_rg]
        have A5 := At.new (h := h4) (o := .lst [])
        have F5 : Fr [] h4 (h4.new (.lst [])) := Fr.new
        generalize h4.new (.lst []) = h5 at A5 F5 ⊢
        replace L := L.fr0 F5
        replace T2 := T2.fr0 F5
        replace A3 := A3.fr0 F5
        replace A4 := A4.fr0 F5
        replace F1 := F1.trans F5
        have shG : Sh (.list [.int a, .int (lastF R a s : Nat)]) 200 1 := (sh_lst (shs_cons (sh_int (by omega)) (shs_cons (sh_int (by omega)) shs_nil))).up (by omega) (by omega)
        have e1 := c_eqL A4 A5 (Nat.le_trans (Nat.le_trans (List.length_filter_le _ _) fits_len) (by omega))
        rw [hn] at e1
        try simp only [y_ok, y_exc, y_bind, y_bnd, y_cnd, y_cndt, z_nx, z_rt, z_br, z_ct, z_ex, z_exb0, z_exb1, z_wnwn, z_wnnx, z_wnrt, z_wnbr, z_wnct, z_wnex, z_wxnx, z_wxrt, z_wxbr, z_wxct, z_wxex, z_wlnx, z_wlrt, z_wlbr, z_wlct, z_wlex, z_fnnx, z_fnrt, z_fnex, z_pass, z_ret, z_retN, z_expr, z_asg, z_asgsw, z_asgtp, z_asgsub, z_asgfld, z_ifs, z_fors, z_brk, z_cont, z_trys, x_ct, x_cf, q_mp, q_opt, q_non, q_bl, q_int, q_str, q_var, q_ty, q_cls, q_gint, q_bin, q_neg, q_not, q_cmp, q_sub, q_slc, q_tup, q_lst, q_call, q_mk, q_bi, q_app, q_fld, q_meth, q_nil, q_cons, q_tnot, q_tbl, q_tvar, q_tcmp, q_tchain, q_tsub, q_tcall, q_tbi, q_tmeth, q_bool, q_rng1, q_slcn, q_slcY, z_tand, z_tor, z_and, z_or, z_ife, z_chain, b_max, b_min, b_abs, b_inti, b_intb, b_lent, sw2, sub_t0, sub_t1, o_add, o_sub, o_mul, o_fdiv, o_mod, o_pow, c_eqi, c_nei, c_eqs, c_nes, c_lt, c_le, c_gt, c_ge, c_isn, c_notn, isNon_n, isNon_i, Mi.Env.set, List.set_cons_zero, List.set_cons_succ, List.getElem?_cons_zero, List.getElem?_cons_succ, Option.getD_some, List.length_cons, List.length_nil, stepF_nm, Nat.reduceAdd, Nat.reduceLeDiff, q_iof, it_tup, sz_tup, sz_rg, e1, show ([] : List Nat).isEmpty = true from rfl, (vpair T2).rep2 (sh_pair (by decide +kernel) shG rfl) (by simp [fz, fzs]) (by omega) (by omega), b_mx A3 (fits_ne gr) asc_filter]
        refine newL_r (S := []) (h := h5) (.cons (.int a) (.cons (.int (lastF R a s : Nat)) .nil)) (by simp) (by simp) fun h6 w6 _ F6 _ => ?_
        try simp only [y_ok, y_exc, y_bind, y_bnd, y_cnd, y_cndt, z_nx, z_rt, z_br, z_ct, z_ex, z_exb0, z_exb1, z_wnwn, z_wnnx, z_wnrt, z_wnbr, z_wnct, z_wnex, z_wxnx, z_wxrt, z_wxbr, z_wxct, z_wxex, z_wlnx, z_wlrt, z_wlbr, z_wlct, z_wlex, z_fnnx, z_fnrt, z_fnex, z_pass, z_ret, z_retN, z_expr, z_asg, z_asgsw, z_asgtp, z_asgsub, z_asgfld, z_ifs, z_fors, z_brk, z_cont, z_trys, x_ct, x_cf, q_mp, q_opt, q_non, q_bl, q_int, q_str, q_var, q_ty, q_cls, q_gint, q_bin, q_neg, q_not, q_cmp, q_sub, q_slc, q_tup, q_lst, q_call, q_mk, q_bi, q_app, q_fld, q_meth, q_nil, q_cons, q_tnot, q_tbl, q_tvar, q_tcmp, q_tchain, q_tsub, q_tcall, q_tbi, q_tmeth, q_bool, q_rng1, q_slcn, q_slcY, z_tand, z_tor, z_and, z_or, z_ife, z_chain, b_max, b_min, b_abs, b_inti, b_intb, b_lent, sw2, sub_t0, sub_t1, o_add, o_sub, o_mul, o_fdiv, o_mod, o_pow, c_eqi, c_nei, c_eqs, c_nes, c_lt, c_le, c_gt, c_ge, c_isn, c_notn, isNon_n, isNon_i, Mi.Env.set, List.set_cons_zero, List.set_cons_succ, List.getElem?_cons_zero, List.getElem?_cons_succ, Option.getD_some, List.length_cons, List.length_nil, stepF_nm, Nat.reduceAdd, Nat.reduceLeDiff, q_iof, it_tup, sz_tup, sz_rg, w6.rep shG (by omega) (by omega)]
        refine newL_r (S := []) (h := h6) (.cons (.str "gone") (.cons (.str (PyData.list [.int a, .int (lastF R a s : Nat)]).shown) .nil)) (by simp) (by simp) fun h7 w7 _ F7 _ => ?_
        try simp only [y_ok, y_exc, y_bind, y_bnd, y_cnd, y_cndt, z_nx, z_rt, z_br, z_ct, z_ex, z_exb0, z_exb1, z_wnwn, z_wnnx, z_wnrt, z_wnbr, z_wnct, z_wnex, z_wxnx, z_wxrt, z_wxbr, z_wxct, z_wxex, z_wlnx, z_wlrt, z_wlbr, z_wlct, z_wlex, z_fnnx, z_fnrt, z_fnex, z_pass, z_ret, z_retN, z_expr, z_asg, z_asgsw, z_asgtp, z_asgsub, z_asgfld, z_ifs, z_fors, z_brk, z_cont, z_trys, x_ct, x_cf, q_mp, q_opt, q_non, q_bl, q_int, q_str, q_var, q_ty, q_cls, q_gint, q_bin, q_neg, q_not, q_cmp, q_sub, q_slc, q_tup, q_lst, q_call, q_mk, q_bi, q_app, q_fld, q_meth, q_nil, q_cons, q_tnot, q_tbl, q_tvar, q_tcmp, q_tchain, q_tsub, q_tcall, q_tbi, q_tmeth, q_bool, q_rng1, q_slcn, q_slcY, z_tand, z_tor, z_and, z_or, z_ife, z_chain, b_max, b_min, b_abs, b_inti, b_intb, b_lent, sw2, sub_t0, sub_t1, o_add, o_sub, o_mul, o_fdiv, o_mod, o_pow, c_eqi, c_nei, c_eqs, c_nes, c_lt, c_le, c_gt, c_ge, c_isn, c_notn, isNon_n, isNon_i, Mi.Env.set, List.set_cons_zero, List.set_cons_succ, List.getElem?_cons_zero, List.getElem?_cons_succ, Option.getD_some, List.length_cons, List.length_nil, stepF_nm, Nat.reduceAdd, Nat.reduceLeDiff, q_iof, it_tup, sz_tup, sz_rg, w7.rep2 (sh_pair (by decide +kernel) shG rfl) (by simp [fz, fzs]) (by omega) (by omega), decide_true]
        exact hQ _ _ ⟨rfl, (F1.trans F6).trans F7⟩
      | some k =>
        obtain ⟨kl, pP, ch, nd, ne⟩ := pcs_fin gr s0 c0 ht
        obtain ⟨rest, hn⟩ : ∃ rest, tell R a s c = k :: rest := by
          cases hq : tell R a s c with
          | nil => rw [hq] at ht; cases ht
          | cons x rest => rw [hq] at ht; cases ht; exact ⟨_, rfl⟩
        have asc : (k :: rest).Pairwise (· < ·) := by rw [← hn]; exact tell_asc
        try simp only [y_ok, y_exc, y_bind, y_bnd, y_cnd, y_cndt, z_nx, z_rt, z_br, z_ct, z_ex, z_exb0, z_exb1, z_wnwn, z_wnnx, z_wnrt, z_wnbr, z_wnct, z_wnex, z_wxnx, z_wxrt, z_wxbr, z_wxct, z_wxex, z_wlnx, z_wlrt, z_wlbr, z_wlct, z_wlex, z_fnnx, z_fnrt, z_fnex, z_pass, z_ret, z_retN, z_expr, z_asg, z_asgsw, z_asgtp, z_asgsub, z_asgfld, z_ifs, z_fors, z_brk, z_cont, z_trys, x_ct, x_cf, q_mp, q_opt, q_non, q_bl, q_int, q_str, q_var, q_ty, q_cls, q_gint, q_bin, q_neg, q_not, q_cmp, q_sub, q_slc, q_tup, q_lst, q_call, q_mk, q_bi, q_app, q_fld, q_meth, q_nil, q_cons, q_tnot, q_tbl, q_tvar, q_tcmp, q_tchain, q_tsub, q_tcall, q_tbi, q_tmeth, q_bool, q_rng1, q_slcn, q_slcY, z_tand, z_tor, z_and, z_or, z_ife, z_chain, b_max, b_min, b_abs, b_inti, b_intb, b_lent, sw2, sub_t0, sub_t1, o_add, o_sub, o_mul, o_fdiv, o_mod, o_pow, c_eqi, c_nei, c_eqs, c_nes, c_lt, c_le, c_gt, c_ge, c_isn, c_notn, isNon_n, isNon_i, Mi.Env.set, List.set_cons_zero, List.set_cons_succ, List.getElem?_cons_zero, List.getElem?_cons_succ, Option.getD_some, List.length_cons, List.length_nil, stepF_nm, Nat.reduceAdd, Nat.reduceLeDiff, q_iof, it_tup, sz_tup, sz_rg, c_call]
        refine Wr_of (call_c (n := n) gr hr1 A1 a0 s0 c0 ht kl) ?_
        rintro _ h2 ⟨m2, q, rfl, hm2, hq2, qm, T2, Aq, F2⟩
        have pl := pcs_len (R := R) (a := a) (s := s) (c := c) (k + 1)
        generalize (pcs R a s c (k+1)).1 = P at pP ch nd ne Aq pl
        have hq0 : h.next ≤ q := Nat.le_trans F1.nx hq2
        replace F1 := F1.trans F2
        replace hr := hr.fr0 F1
        replace L := L.fr0 F1
        replace A := A.fr0 F1
        have ef := e_fits (n := n + 8) (a := a) (s := s) gr.toGP gl.2 L
        try simp only [y_ok, y_exc, y_bind, y_bnd, y_cnd, y_cndt, z_nx, z_rt, z_br, z_ct, z_ex, z_exb0, z_exb1, z_wnwn, z_wnnx, z_wnrt, z_wnbr, z_wnct, z_wnex, z_wxnx, z_wxrt, z_wxbr, z_wxct, z_wxex, z_wlnx, z_wlrt, z_wlbr, z_wlct, z_wlex, z_fnnx, z_fnrt, z_fnex, z_pass, z_ret, z_retN, z_expr, z_asg, z_asgsw, z_asgtp, z_asgsub, z_asgfld, z_ifs, z_fors, z_brk, z_cont, z_trys, x_ct, x_cf, q_mp, q_opt, q_non, q_bl, q_int, q_str, q_var, q_ty, q_cls, q_gint, q_bin, q_neg, q_not, q_cmp, q_sub, q_slc, q_tup, q_lst, q_call, q_mk, q_bi, q_app, q_fld, q_meth, q_nil, q_cons, q_tnot, q_tbl, q_tvar, q_tcmp, q_tchain, q_tsub, q_tcall, q_tbi, q_tmeth, q_bool, q_rng1, q_slcn, q_slcY, z_tand, z_tor, z_and, z_or, z_ife, z_chain, b_max, b_min, b_abs, b_inti, b_intb, b_lent, sw2, sub_t0, sub_t1, o_add, o_sub, o_mul, o_fdiv, o_mod, o_pow, c_eqi, c_nei, c_eqs, c_nes, c_lt, c_le, c_gt, c_ge, c_isn, c_notn, isNon_n, isNon_i, Mi.Env.set, List.set_cons_zero, List.set_cons_succ, List.getElem?_cons_zero, List.getElem?_cons_succ, Option.getD_some, List.length_cons, List.length_nil, stepF_nm, Nat.reduceAdd, Nat.reduceLeDiff, q_iof, it_tup, sz_tup, sz_rg, c_isc, e_isc (show okV h2 (.int a) from trivial), e_isc (show okV h2 (.int s) from trivial), e_isc (show okV h2 (.int c) from trivial), hx, hy, hz, hs, Bool.not_true, c_fits, ef]
        have A3 := At.new (h := h2) (o := .lst (nats (fits R a s)))
        have F3 : Fr [] h2 (h2.new (.lst (nats (fits R a s)))) := Fr.new
        generalize h2.new (.lst (nats (fits R a s))) = h3 at A3 F3 ⊢
        generalize h2.next = mf at A3 ⊢
        replace L := L.fr0 F3
        replace T2 := T2.fr0 F3
        replace Aq := Aq.fr0 F3
        replace A := A.fr0 F3
        replace F1 := F1.trans F3
        have ec := tell_ev (n := n + 7) (c := c) (v0 := some (.ref r)) (v2 := some (.ref m)) (v3 := some (.int way)) (v5 := some (.int s)) (v7 := some (.ref m2)) (v9 := none) (v10 := none) gr.toGP gl.2 L A3
        rw [ec, y_ok]
        have A4 := At.new (h := h3) (o := .lst (nats (tell R a s c)))
        have F4 : Fr [] h3 (h3.new (.lst (nats (tell R a s c)))) := Fr.new
        generalize h3.new (.lst (nats (tell R a s c))) = h4 at A4 F4 ⊢
        generalize h3.next = mt at A4 ⊢
        replace L := L.fr0 F4
        replace T2 := T2.fr0 F4
        replace Aq := Aq.fr0 F4
        replace A := A.fr0 F4
        replace F1 := F1.trans F4
        try simp only [y_ok, y_exc, y_bind, y_bnd, y_cnd, y_cndt, z_nx, z_rt, z_br, z_ct, z_ex, z_exb0, z_exb1, z_wnwn, z_wnnx, z_wnrt, z_wnbr, z_wnct, z_wnex, z_wxnx, z_wxrt, z_wxbr, z_wxct, z_wxex, z_wlnx, z_wlrt, z_wlbr, z_wlct, z_wlex, z_fnnx, z_fnrt, z_fnex, z_pass, z_ret, z_retN, z_expr, z_asg, z_asgsw, z_asgtp, z_asgsub, z_asgfld, z_ifs, z_fors, z_brk, z_cont, z_trys, x_ct, x_cf, q_mp, q_opt, q_non, q_bl, q_int, q_str, q_var, q_ty, q_cls, q_gint, q_bin, q_neg, q_not, q_cmp, q_sub, q_slc, q_tup, q_lst, q_call, q_mk, q_bi, q_app, q_fld, q_meth, q_nil, q_cons, q_tnot, q_tbl, q_tvar, q_tcmp, q_tchain, q_tsub, q_tcall, q_tbi, q_tmeth, q_bool, q_rng1, q_slcn, q_slcY, z_tand, z_tor, z_and, z_or, z_ife, z_chain, b_max, b_min, b_abs, b_inti, b_intb, b_lent, sw2, sub_t0, sub_t1, o_add, o_sub, o_mul, o_fdiv, o_mod, o_pow, c_eqi, c_nei, c_eqs, c_nes, c_lt, c_le, c_gt, c_ge, c_isn, c_notn, isNon_n, isNon_i, Mi.Env.set, List.set_cons_zero, List.set_cons_succ, List.getElem?_cons_zero, List.getElem?_cons_succ, Option.getD_some, List.length_cons, List.length_nil, x_newL, stepF_nm, Nat.reduceAdd, Nat.reduceLeDiff, q_iof, it_tup, sz_tup, sz_rg]
        have A5 := At.new (h := h4) (o := .lst [])
        have F5 : Fr [] h4 (h4.new (.lst [])) := Fr.new
        generalize h4.new (.lst []) = h5 at A5 F5 ⊢
        replace L := L.fr0 F5
        replace T2 := T2.fr0 F5
        replace Aq := Aq.fr0 F5
        replace A := A.fr0 F5
        replace A4 := A4.fr0 F5
        replace F1 := F1.trans F5
        have e1 := c_eqL A4 A5 (Nat.le_trans (Nat.le_trans (List.length_filter_le _ _) fits_len) (by omega))
        rw [hn] at e1
        have t0 : subM (.ref m2) (.int 0) h5 = .ok (.str "told") h5 := sub_ix (asL T2) rfl
        have t1 : subM (.ref m2) (.int 1) h5 = .ok (.ref q) h5 := sub_ix (asL T2) rfl
        try simp only [y_ok, y_exc, y_bind, y_bnd, y_cnd, y_cndt, z_nx, z_rt, z_br, z_ct, z_ex, z_exb0, z_exb1, z_wnwn, z_wnnx, z_wnrt, z_wnbr, z_wnct, z_wnex, z_wxnx, z_wxrt, z_wxbr, z_wxct, z_wxex, z_wlnx, z_wlrt, z_wlbr, z_wlct, z_wlex, z_fnnx, z_fnrt, z_fnex, z_pass, z_ret, z_retN, z_expr, z_asg, z_asgsw, z_asgtp, z_asgsub, z_asgfld, z_ifs, z_fors, z_brk, z_cont, z_trys, x_ct, x_cf, q_mp, q_opt, q_non, q_bl, q_int, q_str, q_var, q_ty, q_cls, q_gint, q_bin, q_neg, q_not, q_cmp, q_sub, q_slc, q_tup, q_lst, q_call, q_mk, q_bi, q_app, q_fld, q_meth, q_nil, q_cons, q_tnot, q_tbl, q_tvar, q_tcmp, q_tchain, q_tsub, q_tcall, q_tbi, q_tmeth, q_bool, q_rng1, q_slcn, q_slcY, z_tand, z_tor, z_and, z_or, z_ife, z_chain, b_max, b_min, b_abs, b_inti, b_intb, b_lent, sw2, sub_t0, sub_t1, o_add, o_sub, o_mul, o_fdiv, o_mod, o_pow, c_eqi, c_nei, c_eqs, c_nes, c_lt, c_le, c_gt, c_ge, c_isn, c_notn, isNon_n, isNon_i, Mi.Env.set, List.set_cons_zero, List.set_cons_succ, List.getElem?_cons_zero, List.getElem?_cons_succ, Option.getD_some, List.length_cons, List.length_nil, stepF_nm, Nat.reduceAdd, Nat.reduceLeDiff, q_iof, it_tup, sz_tup, sz_rg, e1, show (k :: rest).isEmpty = false from rfl, t0, t1, decide_true, Bool.not_true, c_tiled]
        refine Wr_of (tiled_sp (n := n + 5) gr L A Aq a0 bd (fun p hp => (pP p hp).1) ch nd (by omega)) ?_
        rintro _ h6 ⟨rfl, F6⟩
        replace L := L.fr0 F6
        replace T2 := T2.fr0 F6
        replace Aq := Aq.fr0 F6
        replace A4 := A4.fr0 F6
        replace F1 := F1.trans F6
        have t2 : subM (.ref m2) (.int 1) h6 = .ok (.ref q) h6 := sub_ix (asL T2) rfl
        have eg := grains_ev (C := Mi.run τ.tab (n+9)) (me := { sl := [some (.ref r), some (.ref l), some (.ref m), some (.int way), some (.int a), some (.int s), some (.int c), some (.ref m2), some (.ref mf), some (.ref mt), none, none], ex := none }) (k := 10) (it := .sub (.var 7) (.int 1)) rfl (by simp) (by try simp only [y_ok, y_exc, y_bind, y_bnd, y_cnd, y_cndt, z_nx, z_rt, z_br, z_ct, z_ex, z_exb0, z_exb1, z_wnwn, z_wnnx, z_wnrt, z_wnbr, z_wnct, z_wnex, z_wxnx, z_wxrt, z_wxbr, z_wxct, z_wxex, z_wlnx, z_wlrt, z_wlbr, z_wlct, z_wlex, z_fnnx, z_fnrt, z_fnex, z_pass, z_ret, z_retN, z_expr, z_asg, z_asgsw, z_asgtp, z_asgsub, z_asgfld, z_ifs, z_fors, z_brk, z_cont, z_trys, x_ct, x_cf, q_mp, q_opt, q_non, q_bl, q_int, q_str, q_var, q_ty, q_cls, q_gint, q_bin, q_neg, q_not, q_cmp, q_sub, q_slc, q_tup, q_lst, q_call, q_mk, q_bi, q_app, q_fld, q_meth, q_nil, q_cons, q_tnot, q_tbl, q_tvar, q_tcmp, q_tchain, q_tsub, q_tcall, q_tbi, q_tmeth, q_bool, q_rng1, q_slcn, q_slcY, z_tand, z_tor, z_and, z_or, z_ife, z_chain, b_max, b_min, b_abs, b_inti, b_intb, b_lent, sw2, sub_t0, sub_t1, o_add, o_sub, o_mul, o_fdiv, o_mod, o_pow, c_eqi, c_nei, c_eqs, c_nes, c_lt, c_le, c_gt, c_ge, c_isn, c_notn, isNon_n, isNon_i, Mi.Env.set, List.set_cons_zero, List.set_cons_succ, List.getElem?_cons_zero, List.getElem?_cons_succ, Option.getD_some, List.length_cons, List.length_nil, stepF_nm, Nat.reduceAdd, Nat.reduceLeDiff, q_iof, it_tup, sz_tup, sz_rg, q_mb, q_b1, t2]) Aq (by omega)
        try simp only [y_ok, y_exc, y_bind, y_bnd, y_cnd, y_cndt, z_nx, z_rt, z_br, z_ct, z_ex, z_exb0, z_exb1, z_wnwn, z_wnnx, z_wnrt, z_wnbr, z_wnct, z_wnex, z_wxnx, z_wxrt, z_wxbr, z_wxct, z_wxex, z_wlnx, z_wlrt, z_wlbr, z_wlct, z_wlex, z_fnnx, z_fnrt, z_fnex, z_pass, z_ret, z_retN, z_expr, z_asg, z_asgsw, z_asgtp, z_asgsub, z_asgfld, z_ifs, z_fors, z_brk, z_cont, z_trys, x_ct, x_cf, q_mp, q_opt, q_non, q_bl, q_int, q_str, q_var, q_ty, q_cls, q_gint, q_bin, q_neg, q_not, q_cmp, q_sub, q_slc, q_tup, q_lst, q_call, q_mk, q_bi, q_app, q_fld, q_meth, q_nil, q_cons, q_tnot, q_tbl, q_tvar, q_tcmp, q_tchain, q_tsub, q_tcall, q_tbi, q_tmeth, q_bool, q_rng1, q_slcn, q_slcY, z_tand, z_tor, z_and, z_or, z_ife, z_chain, b_max, b_min, b_abs, b_inti, b_intb, b_lent, sw2, sub_t0, sub_t1, o_add, o_sub, o_mul, o_fdiv, o_mod, o_pow, c_eqi, c_nei, c_eqs, c_nes, c_lt, c_le, c_gt, c_ge, c_isn, c_notn, isNon_n, isNon_i, Mi.Env.set, List.set_cons_zero, List.set_cons_succ, List.getElem?_cons_zero, List.getElem?_cons_succ, Option.getD_some, List.length_cons, List.length_nil, stepF_nm, Nat.reduceAdd, Nat.reduceLeDiff, q_iof, it_tup, sz_tup, sz_rg, Bool.not_true]
        rw [eg, y_ok]
        have A7 := At.new (h := h6) (o := .lst (nats (P.map (·.1))))
        have F7 : Fr [] h6 (h6.new (.lst (nats (P.map (·.1))))) := Fr.new
        generalize h6.new (.lst (nats (P.map (·.1)))) = h7 at A7 F7 ⊢
        replace L := L.fr0 F7
        replace T2 := T2.fr0 F7
        replace Aq := Aq.fr0 F7
        replace A4 := A4.fr0 F7
        replace F1 := F1.trans F7
        obtain ⟨mx, hmx, emx⟩ := b_mxx (T := τ.tab) A7 (by simpa using ne)
        rw [hn] at A4
        have hmk : mx ≤ k := by
          obtain ⟨p, hp, rfl⟩ := List.mem_map.mp hmx
          exact (pP p hp).2
        have t3 : subM (.ref m2) (.int 1) h7 = .ok (.ref q) h7 := sub_ix (asL T2) rfl
        try simp only [y_ok, y_exc, y_bind, y_bnd, y_cnd, y_cndt, z_nx, z_rt, z_br, z_ct, z_ex, z_exb0, z_exb1, z_wnwn, z_wnnx, z_wnrt, z_wnbr, z_wnct, z_wnex, z_wxnx, z_wxrt, z_wxbr, z_wxct, z_wxex, z_wlnx, z_wlrt, z_wlbr, z_wlct, z_wlex, z_fnnx, z_fnrt, z_fnex, z_pass, z_ret, z_retN, z_expr, z_asg, z_asgsw, z_asgtp, z_asgsub, z_asgfld, z_ifs, z_fors, z_brk, z_cont, z_trys, x_ct, x_cf, q_mp, q_opt, q_non, q_bl, q_int, q_str, q_var, q_ty, q_cls, q_gint, q_bin, q_neg, q_not, q_cmp, q_sub, q_slc, q_tup, q_lst, q_call, q_mk, q_bi, q_app, q_fld, q_meth, q_nil, q_cons, q_tnot, q_tbl, q_tvar, q_tcmp, q_tchain, q_tsub, q_tcall, q_tbi, q_tmeth, q_bool, q_rng1, q_slcn, q_slcY, z_tand, z_tor, z_and, z_or, z_ife, z_chain, b_max, b_min, b_abs, b_inti, b_intb, b_lent, sw2, sub_t0, sub_t1, o_add, o_sub, o_mul, o_fdiv, o_mod, o_pow, c_eqi, c_nei, c_eqs, c_nes, c_lt, c_le, c_gt, c_ge, c_isn, c_notn, isNon_n, isNon_i, Mi.Env.set, List.set_cons_zero, List.set_cons_succ, List.getElem?_cons_zero, List.getElem?_cons_succ, Option.getD_some, List.length_cons, List.length_nil, stepF_nm, Nat.reduceAdd, Nat.reduceLeDiff, q_iof, it_tup, sz_tup, sz_rg, emx, b_mn A4 asc, show decide ((k : Int) < (mx : Int)) = false by simp; omega, t3, isLst_ok Aq.get, show (3 : Nat) ≤ PySem.sizeLine by rw [PySem.sizeLine_eq]; decide, if_true, app_ok Aq.get (show (P.map pEnc).length < 16777216 by simp; omega)]
        exact hQ _ _ ⟨rfl, F1.comp (Fr.put (S := [q]) (by simp)) (by simp; omega)⟩
end Lw
end

section
namespace Lw
open Mi
open PySem (PyData)
/-! ### _law_right: what it is asked over -/
/-- the rows, the rules, their lists -/
structure Wd (S : List Nat) (h : MH) (l0 l1 ll r0 r1 rr : Nat) (R0 R1 : List (Int × Option Int)) : Prop where
  al0 : At h l0 (.lst (R0.map enc))
  al1 : At h l1 (.lst (R1.map enc))
  all : At h ll (.lst [.ref l0, .ref l1])
  ar0 : isRA h r0 R0
  ar1 : isRA h r1 R1
  arr : At h rr (.lst [.ref r0, .ref r1])
  n0 : l0 ∉ S
  n1 : l1 ∉ S
  nl : ll ∉ S
  m0 : r0 ∉ S
  m1 : r1 ∉ S
  mr : rr ∉ S
theorem Wd.fr {S : List Nat} {h h' : MH} {l0 l1 ll r0 r1 rr : Nat} {R0 R1 : List (Int × Option Int)} (w : Wd S h l0 l1 ll r0 r1 rr R0 R1) (F : Fr S h h') : Wd S h' l0 l1 ll r0 r1 rr R0 R1 :=
  ⟨w.al0.fr F w.n0, w.al1.fr F w.n1, w.all.fr F w.nl, w.ar0.fr F w.m0, w.ar1.fr F w.m1, w.arr.fr F w.mr, w.n0, w.n1, w.nl, w.m0, w.m1, w.mr⟩
theorem Wd.fr0 {S : List Nat} {h h' : MH} {l0 l1 ll r0 r1 rr : Nat} {R0 R1 : List (Int × Option Int)} (w : Wd S h l0 l1 ll r0 r1 rr R0 R1) (F : Fr [] h h') : Wd S h' l0 l1 ll r0 r1 rr R0 R1 := w.fr F.up
/-- one of two -/
theorem Wd.at {S : List Nat} {h : MH} {l0 l1 ll r0 r1 rr : Nat} {R0 R1 : List (Int × Option Int)} (w : Wd S h l0 l1 ll r0 r1 rr R0 R1) (g0 : GR R0) (g1 : GR R1) {k : Int} (hk : k = 0 ∨ k = 1) : ∃ l r R, GR R ∧ subM (.ref ll) (.int k) h = .ok (.ref l) h ∧ subM (.ref rr) (.int k) h = .ok (.ref r) h ∧ At h l (.lst (R.map enc)) ∧ isRA h r R ∧ l ∉ S := by
  rcases hk with rfl | rfl
  · exact ⟨l0, r0, R0, g0, sub_ix (asL w.all) rfl, sub_ix (asL w.arr) rfl, w.al0, w.ar0, w.n0⟩
  · exact ⟨l1, r1, R1, g1, sub_ix (asL w.all) rfl, sub_ix (asL w.arr) rfl, w.al1, w.ar1, w.n1⟩
theorem rows_sp {n b : Nat} {h : MH} {N : Int} (B : isB h b N) (hN : N < 2 ^ 29) : Sp (Mi.run τ.tab (n+2) f_law_rows [.ref b] h) (fun v h' => ∃ l R, v = .ref l ∧ GR R ∧ At h' l (.lst (R.map enc)) ∧ isB h' b (N + 10) ∧ h.next ≤ l ∧ Fr [b] h h') := by
  obtain ⟨l, h', R, e, g, il, B', n1, n2, K⟩ := s30 (n := n) B hN
  exact ⟨_, _, e, l, R, rfl, g, ⟨n2, il⟩, B', n1, K.frr⟩
section
variable {C : CallF} {h : MH}
theorem c_rows (x : Mi.MV) : callM τ.tab C "_law_rows" [x] [] [] h = C f_law_rows [x] h := x_callM tfn_law_rows (by simp [argsOf, fnp_law_rows])
theorem c_odd (x y : Mi.MV) : callM τ.tab C "_law_odd_asks" [x, y] [] [] h = C f_law_odd_asks [x, y] h := x_callM tfn_law_odd_asks (by simp [argsOf, fnp_law_odd_asks])
theorem c_asked (x y z w : Mi.MV) : callM τ.tab C "_law_asked_right" [x, y, z, w] [] [] h = C f_law_asked_right [x, y, z, w] h := x_callM tfn_law_asked_right (by simp [argsOf, fnp_law_asked_right])
theorem mk_sp {n : Nat} {R : List (Int × Option Int)} {v : Mi.MV} (gr : GR R) (hv : isV h v R) : Sp (mkM τ.tab (Mi.run τ.tab (n+6)) "Rules" [v] h) (fun r h' => r = .ref h.next ∧ isRA h' h.next R ∧ Fr [] h h') := by
  obtain ⟨h', e, r1, r2, r3⟩ := mkR (n := n) gr hv
  exact ⟨_, _, e, rfl, ⟨r2, r1⟩, ⟨r3.nx, fun m l _ => r3.st m l⟩⟩
end
theorem isB.put {h : MH} {b n : Nat} {N : Int} {o : MO} (e : b ≠ n) (B : isB h b N) : isB (h.put n o) b N := by
  obtain ⟨hl, g, big, m, c, e', r⟩ := B
  exact ⟨hl, g, big, m, c, by rw [MH.put_ne e]; exact e', r⟩
structure Rn (h0 : MH) (b as l0 l1 ll r0 r1 rr : Nat) (R0 R1 : List (Int × Option Int)) (M : Int) (items : List Mi.MV) (ds : List PyData) (h : MH) : Prop where
  w : Wd [b, as] h l0 l1 ll r0 r1 rr R0 R1
  a : At h as (.lst items)
  v : Vs [b, as] h items ds
  B : isB h b M
  F : Fr [b] h0 h
  sa : h0.next ≤ as
  ba : b ≠ as
section
variable {h0 h h' : MH} {b as l0 l1 ll r0 r1 rr : Nat} {R0 R1 : List (Int × Option Int)} {M M' : Int} {items : List Mi.MV} {ds : List PyData}
theorem Rn.fr0 (r : Rn h0 b as l0 l1 ll r0 r1 rr R0 R1 M items ds h) (F : Fr [] h h') : Rn h0 b as l0 l1 ll r0 r1 rr R0 R1 M items ds h' := ⟨r.w.fr0 F, r.a.fr0 F, r.v.fr0 F, r.B.fr0 F, r.F.trans F.up, r.sa, r.ba⟩
theorem Rn.box (r : Rn h0 b as l0 l1 ll r0 r1 rr R0 R1 M items ds h) (F : Fr [b] h h') (B : isB h' b M') : Rn h0 b as l0 l1 ll r0 r1 rr R0 R1 M' items ds h' := ⟨r.w.fr (F.mono (by simp)), r.a.fr F (by simp; exact r.ba.symm), r.v.fr (F.mono (by simp)), B, r.F.trans F, r.sa, r.ba⟩
theorem ask_w {n : Nat} {P : Po} {me : Mi.Env} {we : ME} {k way : Int} {av : Mi.MV} {dx dy dz : PyData} (g0 : GR R0) (g1 : GR R1) (w : Wd [b, as] h l0 l1 ll r0 r1 rr R0 R1) (hk : k = 0 ∨ k = 1) (va : V [] h av (.list [dx, dy, dz])) (ox : argOk dx) (oy : argOk dy) (oz : argOk dz) (hb : ∀ a s, dx = .int a → dy = .int s → a + s < 2 ^ 60)
    (hx : me.ex = none) (e1 : (me.sl[1]?.getD none) = some (.ref ll)) (e2 : (me.sl[2]?.getD none) = some (.ref rr)) (e5 : (me.sl[5]?.getD none) = some (.int k)) (e6 : (me.sl[6]?.getD none) = some av) (ew : ∀ h, evE τ.tab (Mi.run τ.tab (n+10)) me we h = .ok (.int way) h)
    (H : ∀ h', Fr [] h h' → P.nx me h') : Wt P (exS τ.tab (Mi.run τ.tab (n+10)) (.ifs (.notE (.call "_law_asked_right" (.cons (.sub (.var 2) (.var 5)) (.cons (.sub (.var 1) (.var 5)) (.cons (.var 6) (.cons we .nil)))) [] .nil [])) (.cons (.ret (.bl false)) .nil) .nil) me h) := by
  obtain ⟨l, r, R, g, s1, s2, L, ra, _⟩ := w.at g0 g1 hk
  try simp only [y_ok, y_exc, y_bind, y_bnd, y_cnd, y_cndt, z_nx, z_rt, z_br, z_ct, z_ex, z_exb0, z_exb1, z_wnwn, z_wnnx, z_wnrt, z_wnbr, z_wnct, z_wnex, z_wxnx, z_wxrt, z_wxbr, z_wxct, z_wxex, z_wlnx, z_wlrt, z_wlbr, z_wlct, z_wlex, z_fnnx, z_fnrt, z_fnex, z_pass, z_ret, z_retN, z_expr, z_asg, z_asgsw, z_asgtp, z_asgsub, z_asgfld, z_ifs, z_fors, z_brk, z_cont, z_trys, x_ct, x_cf, q_mp, q_opt, q_non, q_bl, q_int, q_str, q_var, q_ty, q_cls, q_gint, q_bin, q_neg, q_not, q_cmp, q_sub, q_slc, q_tup, q_lst, q_call, q_mk, q_bi, q_app, q_fld, q_meth, q_nil, q_cons, q_tnot, q_tbl, q_tvar, q_tcmp, q_tchain, q_tsub, q_tcall, q_tbi, q_tmeth, q_bool, q_rng1, q_slcn, q_slcY, z_tand, z_tor, z_and, z_or, z_ife, z_chain, b_max, b_min, b_abs, b_inti, b_intb, b_lent, sw2, sub_t0, sub_t1, o_add, o_sub, o_mul, o_fdiv, o_mod, o_pow, c_eqi, c_nei, c_eqs, c_nes, c_lt, c_le, c_gt, c_ge, c_isn, c_notn, isNon_n, isNon_i, Mi.Env.set, List.set_cons_zero, List.set_cons_succ, List.getElem?_cons_zero, List.getElem?_cons_succ, Option.getD_some, List.length_cons, List.length_nil, stepF_nm, Nat.reduceAdd, Nat.reduceLeDiff, q_iof, it_tup, sz_tup, sz_rg, hx, e1, e2, e5, e6, s1, s2, ew, c_asked]
  refine Wr_of (asked_sp (n := n) (way := way) g ra L va ox oy oz hb) ?_
  rintro _ h1 ⟨rfl, F1⟩
  try simp only [y_ok, y_exc, y_bind, y_bnd, y_cnd, y_cndt, z_nx, z_rt, z_br, z_ct, z_ex, z_exb0, z_exb1, z_wnwn, z_wnnx, z_wnrt, z_wnbr, z_wnct, z_wnex, z_wxnx, z_wxrt, z_wxbr, z_wxct, z_wxex, z_wlnx, z_wlrt, z_wlbr, z_wlct, z_wlex, z_fnnx, z_fnrt, z_fnex, z_pass, z_ret, z_retN, z_expr, z_asg, z_asgsw, z_asgtp, z_asgsub, z_asgfld, z_ifs, z_fors, z_brk, z_cont, z_trys, x_ct, x_cf, q_mp, q_opt, q_non, q_bl, q_int, q_str, q_var, q_ty, q_cls, q_gint, q_bin, q_neg, q_not, q_cmp, q_sub, q_slc, q_tup, q_lst, q_call, q_mk, q_bi, q_app, q_fld, q_meth, q_nil, q_cons, q_tnot, q_tbl, q_tvar, q_tcmp, q_tchain, q_tsub, q_tcall, q_tbi, q_tmeth, q_bool, q_rng1, q_slcn, q_slcY, z_tand, z_tor, z_and, z_or, z_ife, z_chain, b_max, b_min, b_abs, b_inti, b_intb, b_lent, sw2, sub_t0, sub_t1, o_add, o_sub, o_mul, o_fdiv, o_mod, o_pow, c_eqi, c_nei, c_eqs, c_nes, c_lt, c_le, c_gt, c_ge, c_isn, c_notn, isNon_n, isNon_i, Mi.Env.set, List.set_cons_zero, List.set_cons_succ, List.getElem?_cons_zero, List.getElem?_cons_succ, Option.getD_some, List.length_cons, List.length_nil, stepF_nm, Nat.reduceAdd, Nat.reduceLeDiff, q_iof, it_tup, sz_tup, sz_rg, Bool.not_true]
  exact H _ F1
end
def rowOk (d : PyData) : Prop := ∃ (k way t s c : Int), d = .list [.int k, .list [.int t, .int s, .int c], .int way] ∧ (k = 0 ∨ k = 1) ∧ 0 ≤ t ∧ t < 2 ^ 50 ∧ 0 < s ∧ s < 2 ^ 50 ∧ 0 ≤ c ∧ c < 2 ^ 50
theorem app_at {h : MH} {l : Nat} {xs : List Mi.MV} {v : Mi.MV} (a : At h l (.lst xs)) (hz : xs.length < 16777216) : appM (.ref l) v h = .ok .non (h.put l (.lst (xs ++ [v]))) := app_ok a.get hz
theorem isl_at {h : MH} {l : Nat} {xs : List Mi.MV} (a : At h l (.lst xs)) : isLst (.ref l) h = .ok () h := isLst_ok a.get
theorem stepF_tp3 {T : Tab} {C : CallF} {me : Mi.Env} {h : MH} {n i j k : Nat} {a b c : Mi.MV} {bd : MSs} (A : At h n (.lst [a, b, c])) : stepF T C (.tp [i, j, k]) bd (.ref n) me h = exB T C bd (((me.set i a).set j b).set k c) h := by
  unfold stepF setT
  rw [asL A]; rfl
theorem fld_ok {T : Tab} {h : MH} {r : Nat} {c f : PySem.Str} {fs : List (PySem.Str × Mi.MV)} {v : Mi.MV} (a : At h r (.ins c fs)) (e : T.noat c f = true) (l : fs.lookup f = some v) : fldM T f (.ref r) h = .ok v h := by
  unfold fldM
  simp only [a.get, e, if_true, l]
/-- the rows as data -/
def dEnc (p : Int × Option Int) : PyData := .tuple [.int p.1, match p.2 with | none => .none | some k => .int k]
theorem rows_v {S : List Nat} {h : MH} : ∀ R : List (Int × Option Int), Vs S h (R.map enc) (R.map dEnc)
  | [] => .nil
  | (a, none) :: R => .cons (.tup (.cons (.int a) (.cons .non .nil))) (rows_v R)
  | (a, some k) :: R => .cons (.tup (.cons (.int a) (.cons (.int k) .nil))) (rows_v R)
theorem row_sh {p : Int × Option Int} (h1 : 0 < p.1 ∧ p.1 < 2 ^ 60) (h2 : ∀ k, p.2 = some k → 0 < k ∧ k < 2 ^ 60) : Sh (dEnc p) 194 1 := by
  obtain ⟨a, o⟩ := p
  cases o with
  | none => exact (sh_tup (shs_cons (sh_int (by simp at h1; omega)) (shs_cons sh_non shs_nil))).up (by omega) (by omega)
  | some k =>
    have := h2 k rfl
    exact (sh_tup (shs_cons (sh_int (by simp at h1; omega)) (shs_cons (sh_int (by omega)) shs_nil))).up (by omega) (by omega)
theorem rows_shs : ∀ {R : List (Int × Option Int)}, (∀ p ∈ R, 0 < p.1 ∧ p.1 < 2 ^ 60) → (∀ p ∈ R, ∀ k, p.2 = some k → 0 < k ∧ k < 2 ^ 60) → Shs (R.map dEnc) (195 * R.length) 1
  | [], _, _ => shs_nil.up (by simp) (Nat.le_refl _)
  | p :: R, h1, h2 => (shs_cons (row_sh (h1 p List.mem_cons_self) (h2 p List.mem_cons_self)) (rows_shs (fun q hq => h1 q (List.mem_cons_of_mem _ hq)) (fun q hq => h2 q (List.mem_cons_of_mem _ hq)))).up (by simp; omega) (by omega)
theorem rows_sh {R : List (Int × Option Int)} (g : GK R) (h4 : R.length ≤ 4) : Sh (.tuple (R.map dEnc)) 780 2 := (sh_tup (rows_shs g.pos g.kp)).up (by omega) (by omega)
end Lw
end

section
namespace Lw
open Mi
open PySem (PyData)
def rightB : MSs := match body_law_right with
  | .cons _ b => b
  | _ => .nil
theorem right2 {n b l0 l1 ll : Nat} {h0 h : MH} {R0 R1 : List (Int × Option Int)} {M : Int} {Q : Mi.MV → MH → Prop} {E : PySem.Str → Nat → MH → Prop} (g0 : GR R0) (g1 : GR R1) (L0 : At h l0 (.lst (R0.map enc))) (L1 : At h l1 (.lst (R1.map enc))) (LL : At h ll (.lst [.ref l0, .ref l1]))
    (nb0 : l0 ≠ b) (nb1 : l1 ≠ b) (nbl : ll ≠ b) (ge0 : h0.next ≤ l0) (gel : h0.next ≤ ll) (B : isB h b M) (hM : M < 2 ^ 21) (F : Fr [b] h0 h) (hQ : ∀ a h', a = Mi.MV.bl true ∧ Fr [b] h0 h' → Q a h') :
    Wt (Po.fn Q E) (exB τ.tab (Mi.run τ.tab (n+10)) rightB { sl := [some (.ref b), some (.ref ll), none, none, none, none, none, none], ex := none } h) := by
  have bn := B.lt
  have gl0 := g0.len
  have gl1 := g1.len
  have s0 : ∀ {h : MH}, At h ll (.lst [.ref l0, .ref l1]) → subM (.ref ll) (.int 0) h = .ok (.ref l0) h := fun a => sub_ix (asL a) rfl
  have s1 : ∀ {h : MH}, At h ll (.lst [.ref l0, .ref l1]) → subM (.ref ll) (.int 1) h = .ok (.ref l1) h := fun a => sub_ix (asL a) rfl
  unfold rightB body_law_right
  try simp only [y_ok, y_exc, y_bind, y_bnd, y_cnd, y_cndt, z_nx, z_rt, z_br, z_ct, z_ex, z_exb0, z_exb1, z_wnwn, z_wnnx, z_wnrt, z_wnbr, z_wnct, z_wnex, z_wxnx, z_wxrt, z_wxbr, z_wxct, z_wxex, z_wlnx, z_wlrt, z_wlbr, z_wlct, z_wlex, z_fnnx, z_fnrt, z_fnex, z_pass, z_ret, z_retN, z_expr, z_asg, z_asgsw, z_asgtp, z_asgsub, z_asgfld, z_ifs, z_fors, z_brk, z_cont, z_trys, x_ct, x_cf, q_mp, q_opt, q_non, q_bl, q_int, q_str, q_var, q_ty, q_cls, q_gint, q_bin, q_neg, q_not, q_cmp, q_sub, q_slc, q_tup, q_lst, q_call, q_mk, q_bi, q_app, q_fld, q_meth, q_nil, q_cons, q_tnot, q_tbl, q_tvar, q_tcmp, q_tchain, q_tsub, q_tcall, q_tbi, q_tmeth, q_bool, q_rng1, q_slcn, q_slcY, z_tand, z_tor, z_and, z_or, z_ife, z_chain, b_max, b_min, b_abs, b_inti, b_intb, b_lent, sw2, sub_t0, sub_t1, o_add, o_sub, o_mul, o_fdiv, o_mod, o_pow, c_eqi, c_nei, c_eqs, c_nes, c_lt, c_le, c_gt, c_ge, c_isn, c_notn, isNon_n, isNon_i, Mi.Env.set, List.set_cons_zero, List.set_cons_succ, List.getElem?_cons_zero, List.getElem?_cons_succ, Option.getD_some, List.length_cons, List.length_nil, x_newL, stepF_nm, Nat.reduceAdd, Nat.reduceLeDiff, q_iof, it_tup, sz_tup, sz_rg, s0 LL, b_list (asL L0), show (R0.map enc).length ≤ 16777216 by simp; omega]
  have A1 := At.new (h := h) (o := .lst (R0.map enc))
  have F1 : Fr [] h (h.new (.lst (R0.map enc))) := Fr.new
  have e1 : (h.new (.lst (R0.map enc))).next = h.next + 1 := rfl
  generalize h.new (.lst (R0.map enc)) = h1 at A1 F1 e1 ⊢
  replace L0 := L0.fr0 F1
  replace L1 := L1.fr0 F1
  replace LL := LL.fr0 F1
  replace B := B.fr0 F1
  replace F := F.trans F1.up
  refine Wr_of (mk_sp (n := n+4) g0 (.inr ⟨_, rfl, A1.lt, A1.get⟩)) ?_
  rintro _ h2 ⟨rfl, RA0, F2⟩
  have n2 := F2.nx
  have m2 := RA0.lt
  replace L0 := L0.fr0 F2
  replace L1 := L1.fr0 F2
  replace LL := LL.fr0 F2
  replace B := B.fr0 F2
  replace F := F.trans F2.up
  have it : biM τ.tab .tuple1 [.ref l1] h2 = .ok (.tup (R1.map enc)) h2 := isV.tuple (R := R1) (.inr ⟨_, rfl, L1.lt, L1.get⟩) (by omega)
  try simp only [y_ok, y_exc, y_bind, y_bnd, y_cnd, y_cndt, z_nx, z_rt, z_br, z_ct, z_ex, z_exb0, z_exb1, z_wnwn, z_wnnx, z_wnrt, z_wnbr, z_wnct, z_wnex, z_wxnx, z_wxrt, z_wxbr, z_wxct, z_wxex, z_wlnx, z_wlrt, z_wlbr, z_wlct, z_wlex, z_fnnx, z_fnrt, z_fnex, z_pass, z_ret, z_retN, z_expr, z_asg, z_asgsw, z_asgtp, z_asgsub, z_asgfld, z_ifs, z_fors, z_brk, z_cont, z_trys, x_ct, x_cf, q_mp, q_opt, q_non, q_bl, q_int, q_str, q_var, q_ty, q_cls, q_gint, q_bin, q_neg, q_not, q_cmp, q_sub, q_slc, q_tup, q_lst, q_call, q_mk, q_bi, q_app, q_fld, q_meth, q_nil, q_cons, q_tnot, q_tbl, q_tvar, q_tcmp, q_tchain, q_tsub, q_tcall, q_tbi, q_tmeth, q_bool, q_rng1, q_slcn, q_slcY, z_tand, z_tor, z_and, z_or, z_ife, z_chain, b_max, b_min, b_abs, b_inti, b_intb, b_lent, sw2, sub_t0, sub_t1, o_add, o_sub, o_mul, o_fdiv, o_mod, o_pow, c_eqi, c_nei, c_eqs, c_nes, c_lt, c_le, c_gt, c_ge, c_isn, c_notn, isNon_n, isNon_i, Mi.Env.set, List.set_cons_zero, List.set_cons_succ, List.getElem?_cons_zero, List.getElem?_cons_succ, Option.getD_some, List.length_cons, List.length_nil, x_newL, stepF_nm, Nat.reduceAdd, Nat.reduceLeDiff, q_iof, it_tup, sz_tup, sz_rg, s1 LL, it]
  refine Wr_of (mk_sp (n := n+4) g1 (.inl rfl)) ?_
  rintro _ h3 ⟨rfl, RA1, F3⟩
  have n3 := F3.nx
  have m3 := RA1.lt
  replace L0 := L0.fr0 F3
  replace L1 := L1.fr0 F3
  replace LL := LL.fr0 F3
  replace B := B.fr0 F3
  replace RA0 := RA0.fr0 F3
  replace F := F.trans F3.up
  try simp only [y_ok, y_exc, y_bind, y_bnd, y_cnd, y_cndt, z_nx, z_rt, z_br, z_ct, z_ex, z_exb0, z_exb1, z_wnwn, z_wnnx, z_wnrt, z_wnbr, z_wnct, z_wnex, z_wxnx, z_wxrt, z_wxbr, z_wxct, z_wxex, z_wlnx, z_wlrt, z_wlbr, z_wlct, z_wlex, z_fnnx, z_fnrt, z_fnex, z_pass, z_ret, z_retN, z_expr, z_asg, z_asgsw, z_asgtp, z_asgsub, z_asgfld, z_ifs, z_fors, z_brk, z_cont, z_trys, x_ct, x_cf, q_mp, q_opt, q_non, q_bl, q_int, q_str, q_var, q_ty, q_cls, q_gint, q_bin, q_neg, q_not, q_cmp, q_sub, q_slc, q_tup, q_lst, q_call, q_mk, q_bi, q_app, q_fld, q_meth, q_nil, q_cons, q_tnot, q_tbl, q_tvar, q_tcmp, q_tchain, q_tsub, q_tcall, q_tbi, q_tmeth, q_bool, q_rng1, q_slcn, q_slcY, z_tand, z_tor, z_and, z_or, z_ife, z_chain, b_max, b_min, b_abs, b_inti, b_intb, b_lent, sw2, sub_t0, sub_t1, o_add, o_sub, o_mul, o_fdiv, o_mod, o_pow, c_eqi, c_nei, c_eqs, c_nes, c_lt, c_le, c_gt, c_ge, c_isn, c_notn, isNon_n, isNon_i, Mi.Env.set, List.set_cons_zero, List.set_cons_succ, List.getElem?_cons_zero, List.getElem?_cons_succ, Option.getD_some, List.length_cons, List.length_nil, x_newL, stepF_nm, Nat.reduceAdd, Nat.reduceLeDiff, q_iof, it_tup, sz_tup, sz_rg, show (2 : Nat) ≤ 16777216 by decide, show (2 : Nat) ≤ PySem.sizeLine by rw [PySem.sizeLine_eq]; decide, if_true, show (0 : Nat) ≤ 16777216 by decide]
  have A4 := At.new (h := h3) (o := .lst [.ref h1.next, .ref h2.next])
  have F4 : Fr [] h3 (h3.new (.lst [.ref h1.next, .ref h2.next])) := Fr.new
  have e4 : (h3.new (.lst [.ref h1.next, .ref h2.next])).next = h3.next + 1 := rfl
  generalize h3.new (.lst [.ref h1.next, .ref h2.next]) = h4 at A4 F4 e4 ⊢
  replace L0 := L0.fr0 F4
  replace L1 := L1.fr0 F4
  replace LL := LL.fr0 F4
  replace B := B.fr0 F4
  replace RA0 := RA0.fr0 F4
  replace RA1 := RA1.fr0 F4
  replace F := F.trans F4.up
  have fn := F.nx
  have q1 := L0.lt
  have q2 := L1.lt
  have q3 := LL.lt
  have q6 := B.lt
  have A5 := At.new (h := h4) (o := .lst [])
  have F5 : Fr [] h4 (h4.new (.lst [])) := Fr.new
  have e5 : (h4.new (.lst [])).next = h4.next + 1 := rfl
  generalize h4.new (.lst []) = h5 at A5 F5 e5 ⊢
  replace L0 := L0.fr0 F5
  replace L1 := L1.fr0 F5
  replace LL := LL.fr0 F5
  replace B := B.fr0 F5
  replace RA0 := RA0.fr0 F5
  replace RA1 := RA1.fr0 F5
  replace A4 := A4.fr0 F5
  replace F := F.trans F5.up
  have R : Rn h0 b h4.next l0 l1 ll h1.next h2.next h3.next R0 R1 M [] [] h5 := ⟨⟨L0, L1, LL, RA0, RA1, A4, by simp; omega, by simp; omega, by simp; omega, by simp; omega, by simp; omega, by simp; omega⟩, A5, .nil, B, F, by omega, by omega⟩
  clear L0 L1 LL B RA0 RA1 A4 A5 F F1 F2 F3 F4 F5 A1 it s0 s1 e1 e4 e5 n2 n3 m2 m3
  generalize h1.next = r0 at R ⊢
  generalize h2.next = r1 at R ⊢
  generalize h3.next = rr at R ⊢
  generalize h4.next = as at R q1 q2 q3 q6 fn ⊢
  clear h1 h2 h3 h4
  try simp only [y_ok, y_exc, y_bind, y_bnd, y_cnd, y_cndt, z_nx, z_rt, z_br, z_ct, z_ex, z_exb0, z_exb1, z_wnwn, z_wnnx, z_wnrt, z_wnbr, z_wnct, z_wnex, z_wxnx, z_wxrt, z_wxbr, z_wxct, z_wxex, z_wlnx, z_wlrt, z_wlbr, z_wlct, z_wlex, z_fnnx, z_fnrt, z_fnex, z_pass, z_ret, z_retN, z_expr, z_asg, z_asgsw, z_asgtp, z_asgsub, z_asgfld, z_ifs, z_fors, z_brk, z_cont, z_trys, x_ct, x_cf, q_mp, q_opt, q_non, q_bl, q_int, q_str, q_var, q_ty, q_cls, q_gint, q_bin, q_neg, q_not, q_cmp, q_sub, q_slc, q_tup, q_lst, q_call, q_mk, q_bi, q_app, q_fld, q_meth, q_nil, q_cons, q_tnot, q_tbl, q_tvar, q_tcmp, q_tchain, q_tsub, q_tcall, q_tbi, q_tmeth, q_bool, q_rng1, q_slcn, q_slcY, z_tand, z_tor, z_and, z_or, z_ife, z_chain, b_max, b_min, b_abs, b_inti, b_intb, b_lent, sw2, sub_t0, sub_t1, o_add, o_sub, o_mul, o_fdiv, o_mod, o_pow, c_eqi, c_nei, c_eqs, c_nes, c_lt, c_le, c_gt, c_ge, c_isn, c_notn, isNon_n, isNon_i, Mi.Env.set, List.set_cons_zero, List.set_cons_succ, List.getElem?_cons_zero, List.getElem?_cons_succ, Option.getD_some, List.length_cons, List.length_nil, stepF_nm, Nat.reduceAdd, Nat.reduceLeDiff, q_iof, it_tup, sz_tup, sz_rg, show rngOk 20 by unfold rngOk; omega, if_true, show Int.toNat 20 = 20 from rfl]
  refine for_rg (J := fun i me h' => ∃ items ds o4 o5 o6 o7, Rn h0 b as l0 l1 ll r0 r1 rr R0 R1 (M + 10 * i) items ds h' ∧ items.length = i ∧ (∀ d ∈ ds, rowOk d) ∧ me = { sl := [some (.ref b), some (.ref ll), some (.ref rr), some (.ref as), o4, o5, o6, o7], ex := none }) ⟨[], [], _, _, _, _, by simpa using R, rfl, by simp, rfl⟩ ?_ ?_
  · clear R
    rintro i _ h1 hi ⟨items, ds, o4, o5, o6, o7, R, hl, gd, rfl⟩
    have k01 : ((i : Int)) % 2 = 0 ∨ ((i : Int)) % 2 = 1 := by omega
    obtain ⟨l, r, RR, g, t1, t2, L, ra, lS⟩ := R.w.at g0 g1 k01
    have lb : l ≠ b := fun e => lS (by simp [e])
    have glR := g.len
    try simp only [y_ok, y_exc, y_bind, y_bnd, y_cnd, y_cndt, z_nx, z_rt, z_br, z_ct, z_ex, z_exb0, z_exb1, z_wnwn, z_wnnx, z_wnrt, z_wnbr, z_wnct, z_wnex, z_wxnx, z_wxrt, z_wxbr, z_wxct, z_wxex, z_wlnx, z_wlrt, z_wlbr, z_wlct, z_wlex, z_fnnx, z_fnrt, z_fnex, z_pass, z_ret, z_retN, z_expr, z_asg, z_asgsw, z_asgtp, z_asgsub, z_asgfld, z_ifs, z_fors, z_brk, z_cont, z_trys, x_ct, x_cf, q_mp, q_opt, q_non, q_bl, q_int, q_str, q_var, q_ty, q_cls, q_gint, q_bin, q_neg, q_not, q_cmp, q_sub, q_slc, q_tup, q_lst, q_call, q_mk, q_bi, q_app, q_fld, q_meth, q_nil, q_cons, q_tnot, q_tbl, q_tvar, q_tcmp, q_tchain, q_tsub, q_tcall, q_tbi, q_tmeth, q_bool, q_rng1, q_slcn, q_slcY, z_tand, z_tor, z_and, z_or, z_ife, z_chain, b_max, b_min, b_abs, b_inti, b_intb, b_lent, sw2, sub_t0, sub_t1, o_add, o_sub, o_mul, o_fdiv, o_mod, o_pow, c_eqi, c_nei, c_eqs, c_nes, c_lt, c_le, c_gt, c_ge, c_isn, c_notn, isNon_n, isNon_i, Mi.Env.set, List.set_cons_zero, List.set_cons_succ, List.getElem?_cons_zero, List.getElem?_cons_succ, Option.getD_some, List.length_cons, List.length_nil, stepF_nm, Nat.reduceAdd, Nat.reduceLeDiff, q_iof, it_tup, sz_tup, sz_rg, Int.zero_add, show (0 : Int) < 2 by decide, t1, c_asks]
    refine Wr_of (asks_sp (n := n+7) g R.B (by omega) L lb) ?_
    rintro _ h2 ⟨gg, t, c, gg0, gg1, t0, t1', c0, c1, ⟨m, rfl, hm, Am⟩, B2, F2⟩
    have R1x := R
    replace R := R.box F2 B2
    have mb : m ∉ [b, as] := by
      have := R1x.a.lt
      have := R1x.B.lt
      simp; omega
    have av : V [b, as] h2 (.ref m) (.list [.int gg, .int t, .int c]) := .lst Am.lt mb Am.get (.cons (.int _) (.cons (.int _) (.cons (.int _) .nil)))
    have hl2 := R.v.len
    try simp only [y_ok, y_exc, y_bind, y_bnd, y_cnd, y_cndt, z_nx, z_rt, z_br, z_ct, z_ex, z_exb0, z_exb1, z_wnwn, z_wnnx, z_wnrt, z_wnbr, z_wnct, z_wnex, z_wxnx, z_wxrt, z_wxbr, z_wxct, z_wxex, z_wlnx, z_wlrt, z_wlbr, z_wlct, z_wlex, z_fnnx, z_fnrt, z_fnex, z_pass, z_ret, z_retN, z_expr, z_asg, z_asgsw, z_asgtp, z_asgsub, z_asgfld, z_ifs, z_fors, z_brk, z_cont, z_trys, x_ct, x_cf, q_mp, q_opt, q_non, q_bl, q_int, q_str, q_var, q_ty, q_cls, q_gint, q_bin, q_neg, q_not, q_cmp, q_sub, q_slc, q_tup, q_lst, q_call, q_mk, q_bi, q_app, q_fld, q_meth, q_nil, q_cons, q_tnot, q_tbl, q_tvar, q_tcmp, q_tchain, q_tsub, q_tcall, q_tbi, q_tmeth, q_bool, q_rng1, q_slcn, q_slcY, z_tand, z_tor, z_and, z_or, z_ife, z_chain, b_max, b_min, b_abs, b_inti, b_intb, b_lent, sw2, sub_t0, sub_t1, o_add, o_sub, o_mul, o_fdiv, o_mod, o_pow, c_eqi, c_nei, c_eqs, c_nes, c_lt, c_le, c_gt, c_ge, c_isn, c_notn, isNon_n, isNon_i, Mi.Env.set, List.set_cons_zero, List.set_cons_succ, List.getElem?_cons_zero, List.getElem?_cons_succ, Option.getD_some, List.length_cons, List.length_nil, stepF_nm, Nat.reduceAdd, Nat.reduceLeDiff, q_iof, it_tup, sz_tup, sz_rg, show (2 : Nat) ≤ PySem.sizeLine by rw [PySem.sizeLine_eq]; decide, if_true, show (0 : Int) < 2 by decide, show Int.natAbs 2 = 2 from rfl, show Nat.log2 2 < 9000 by decide +kernel, isl_at R.a]
    have nas : h2.next ∉ [b, as] := by
      have := R.a.lt
      have := R.B.lt
      simp; omega
    refine newL_r (S := [b, as]) (h := h2) (.cons (.int ((i : Int) % 2)) (.cons av (.cons (.int ((i : Int) / 2 % 2)) .nil))) nas (by simp) fun h3 w3 A3 F3 n3 => ?_
    replace R := R.fr0 F3
    replace av := av.fr0 F3
    try simp only [y_ok, y_exc, y_bind, y_bnd, y_cnd, y_cndt, z_nx, z_rt, z_br, z_ct, z_ex, z_exb0, z_exb1, z_wnwn, z_wnnx, z_wnrt, z_wnbr, z_wnct, z_wnex, z_wxnx, z_wxrt, z_wxbr, z_wxct, z_wxex, z_wlnx, z_wlrt, z_wlbr, z_wlct, z_wlex, z_fnnx, z_fnrt, z_fnex, z_pass, z_ret, z_retN, z_expr, z_asg, z_asgsw, z_asgtp, z_asgsub, z_asgfld, z_ifs, z_fors, z_brk, z_cont, z_trys, x_ct, x_cf, q_mp, q_opt, q_non, q_bl, q_int, q_str, q_var, q_ty, q_cls, q_gint, q_bin, q_neg, q_not, q_cmp, q_sub, q_slc, q_tup, q_lst, q_call, q_mk, q_bi, q_app, q_fld, q_meth, q_nil, q_cons, q_tnot, q_tbl, q_tvar, q_tcmp, q_tchain, q_tsub, q_tcall, q_tbi, q_tmeth, q_bool, q_rng1, q_slcn, q_slcY, z_tand, z_tor, z_and, z_or, z_ife, z_chain, b_max, b_min, b_abs, b_inti, b_intb, b_lent, sw2, sub_t0, sub_t1, o_add, o_sub, o_mul, o_fdiv, o_mod, o_pow, c_eqi, c_nei, c_eqs, c_nes, c_lt, c_le, c_gt, c_ge, c_isn, c_notn, isNon_n, isNon_i, Mi.Env.set, List.set_cons_zero, List.set_cons_succ, List.getElem?_cons_zero, List.getElem?_cons_succ, Option.getD_some, List.length_cons, List.length_nil, stepF_nm, Nat.reduceAdd, Nat.reduceLeDiff, q_iof, it_tup, sz_tup, sz_rg, app_at R.a (by omega)]
    have P : Fr [b, as] h3 (h3.put as (.lst (items ++ [.ref h2.next]))) := Fr.put (by simp)
    replace w3 := w3.fr P
    replace av := av.fr P
    replace R : Rn h0 b as l0 l1 ll r0 r1 rr R0 R1 (M + 10 * (i + 1 : Nat)) (items ++ [.ref h2.next]) (ds ++ [.list [.int ((i : Int) % 2), .list [.int gg, .int t, .int c], .int ((i : Int) / 2 % 2)]]) (h3.put as (.lst (items ++ [.ref h2.next]))) :=
      ⟨R.w.fr P, At.put R.a.lt, (R.v.fr P).app (.cons w3 .nil), (isB.put R.ba R.B).up (by omega), R.F.comp (Fr.put (S := [as]) (by simp)) (by have := R.sa; simp; omega), R.sa, R.ba⟩
    generalize h3.put as (.lst (items ++ [.ref h2.next])) = h4 at R av w3 ⊢
    have aG : argOk (.int gg) := arg_int (by omega)
    have aT : argOk (.int t) := arg_int (by omega)
    have aC : argOk (.int c) := arg_int (by omega)
    have gd' : ∀ d ∈ ds ++ [.list [.int ((i : Int) % 2), .list [.int gg, .int t, .int c], .int ((i : Int) / 2 % 2)]], rowOk d := fun d hd => by
      rcases List.mem_append.mp hd with z | z
      · exact gd d z
      · simp at z; subst z; exact ⟨_, _, _, _, _, rfl, k01, gg0, gg1, t0, t1', c0, c1⟩
    have hl' : (items ++ [Mi.MV.ref h2.next]).length = i + 1 := by simp [hl]
    generalize items ++ [Mi.MV.ref h2.next] = items' at R hl' 
    generalize ds ++ [PyData.list [.int ((i : Int) % 2), .list [.int gg, .int t, .int c], .int ((i : Int) / 2 % 2)]] = ds' at R gd'
    obtain ⟨l, r, RR, g, s1, s2, L, ra, _⟩ := R.w.at g0 g1 k01
    try simp only [y_ok, y_exc, y_bind, y_bnd, y_cnd, y_cndt, z_nx, z_rt, z_br, z_ct, z_ex, z_exb0, z_exb1, z_wnwn, z_wnnx, z_wnrt, z_wnbr, z_wnct, z_wnex, z_wxnx, z_wxrt, z_wxbr, z_wxct, z_wxex, z_wlnx, z_wlrt, z_wlbr, z_wlct, z_wlex, z_fnnx, z_fnrt, z_fnex, z_pass, z_ret, z_retN, z_expr, z_asg, z_asgsw, z_asgtp, z_asgsub, z_asgfld, z_ifs, z_fors, z_brk, z_cont, z_trys, x_ct, x_cf, q_mp, q_opt, q_non, q_bl, q_int, q_str, q_var, q_ty, q_cls, q_gint, q_bin, q_neg, q_not, q_cmp, q_sub, q_slc, q_tup, q_lst, q_call, q_mk, q_bi, q_app, q_fld, q_meth, q_nil, q_cons, q_tnot, q_tbl, q_tvar, q_tcmp, q_tchain, q_tsub, q_tcall, q_tbi, q_tmeth, q_bool, q_rng1, q_slcn, q_slcY, z_tand, z_tor, z_and, z_or, z_ife, z_chain, b_max, b_min, b_abs, b_inti, b_intb, b_lent, sw2, sub_t0, sub_t1, o_add, o_sub, o_mul, o_fdiv, o_mod, o_pow, c_eqi, c_nei, c_eqs, c_nes, c_lt, c_le, c_gt, c_ge, c_isn, c_notn, isNon_n, isNon_i, Mi.Env.set, List.set_cons_zero, List.set_cons_succ, List.getElem?_cons_zero, List.getElem?_cons_succ, Option.getD_some, List.length_cons, List.length_nil, stepF_nm, Nat.reduceAdd, Nat.reduceLeDiff, q_iof, it_tup, sz_tup, sz_rg, s1, s2, c_asked]
    refine Wr_of (asked_sp (n := n) (way := (i : Int) / 2 % 2) g ra L (av.weak (by simp)) aG aT aC (fun a s e1 e2 => by cases e1; cases e2; omega)) ?_
    rintro _ h5 ⟨rfl, F5⟩
    try simp only [y_ok, y_exc, y_bind, y_bnd, y_cnd, y_cndt, z_nx, z_rt, z_br, z_ct, z_ex, z_exb0, z_exb1, z_wnwn, z_wnnx, z_wnrt, z_wnbr, z_wnct, z_wnex, z_wxnx, z_wxrt, z_wxbr, z_wxct, z_wxex, z_wlnx, z_wlrt, z_wlbr, z_wlct, z_wlex, z_fnnx, z_fnrt, z_fnex, z_pass, z_ret, z_retN, z_expr, z_asg, z_asgsw, z_asgtp, z_asgsub, z_asgfld, z_ifs, z_fors, z_brk, z_cont, z_trys, x_ct, x_cf, q_mp, q_opt, q_non, q_bl, q_int, q_str, q_var, q_ty, q_cls, q_gint, q_bin, q_neg, q_not, q_cmp, q_sub, q_slc, q_tup, q_lst, q_call, q_mk, q_bi, q_app, q_fld, q_meth, q_nil, q_cons, q_tnot, q_tbl, q_tvar, q_tcmp, q_tchain, q_tsub, q_tcall, q_tbi, q_tmeth, q_bool, q_rng1, q_slcn, q_slcY, z_tand, z_tor, z_and, z_or, z_ife, z_chain, b_max, b_min, b_abs, b_inti, b_intb, b_lent, sw2, sub_t0, sub_t1, o_add, o_sub, o_mul, o_fdiv, o_mod, o_pow, c_eqi, c_nei, c_eqs, c_nes, c_lt, c_le, c_gt, c_ge, c_isn, c_notn, isNon_n, isNon_i, Mi.Env.set, List.set_cons_zero, List.set_cons_succ, List.getElem?_cons_zero, List.getElem?_cons_succ, Option.getD_some, List.length_cons, List.length_nil, stepF_nm, Nat.reduceAdd, Nat.reduceLeDiff, q_iof, it_tup, sz_tup, sz_rg, Bool.not_true]
    exact ⟨_, _, _, _, _, _, R.fr0 F5, hl', gd', rfl⟩
  rintro _ h6 ⟨items, ds, o4, o5, o6, o7, R, hl, gd, rfl⟩
  -- the odd ones
  have R : Rn h0 b as l0 l1 ll r0 r1 rr R0 R1 (M + 240) items ds h6 := ⟨R.w, R.a, R.v, R.B.up (by omega), R.F, R.sa, R.ba⟩
  have n6 : h6.next ∉ [b, as] := by have := R.a.lt; have := R.B.lt; simp; omega
  try simp only [y_ok, y_exc, y_bind, y_bnd, y_cnd, y_cndt, z_nx, z_rt, z_br, z_ct, z_ex, z_exb0, z_exb1, z_wnwn, z_wnnx, z_wnrt, z_wnbr, z_wnct, z_wnex, z_wxnx, z_wxrt, z_wxbr, z_wxct, z_wxex, z_wlnx, z_wlrt, z_wlbr, z_wlct, z_wlex, z_fnnx, z_fnrt, z_fnex, z_pass, z_ret, z_retN, z_expr, z_asg, z_asgsw, z_asgtp, z_asgsub, z_asgfld, z_ifs, z_fors, z_brk, z_cont, z_trys, x_ct, x_cf, q_mp, q_opt, q_non, q_bl, q_int, q_str, q_var, q_ty, q_cls, q_gint, q_bin, q_neg, q_not, q_cmp, q_sub, q_slc, q_tup, q_lst, q_call, q_mk, q_bi, q_app, q_fld, q_meth, q_nil, q_cons, q_tnot, q_tbl, q_tvar, q_tcmp, q_tchain, q_tsub, q_tcall, q_tbi, q_tmeth, q_bool, q_rng1, q_slcn, q_slcY, z_tand, z_tor, z_and, z_or, z_ife, z_chain, b_max, b_min, b_abs, b_inti, b_intb, b_lent, sw2, sub_t0, sub_t1, o_add, o_sub, o_mul, o_fdiv, o_mod, o_pow, c_eqi, c_nei, c_eqs, c_nes, c_lt, c_le, c_gt, c_ge, c_isn, c_notn, isNon_n, isNon_i, Mi.Env.set, List.set_cons_zero, List.set_cons_succ, List.getElem?_cons_zero, List.getElem?_cons_succ, Option.getD_some, List.length_cons, List.length_nil, x_newL, stepF_nm, Nat.reduceAdd, Nat.reduceLeDiff, q_iof, it_tup, sz_tup, sz_rg, show (2 : Nat) ≤ 16777216 by decide, it_lst At.new, sz_lst At.new]
  have R7 := R.fr0 (Fr.new (o := .lst [.int 0, .int 1]))
  refine for_v (S := [b, as]) (ds := [.int 0, .int 1]) (J := fun i me h' => ∃ o4 o5 o6 o7, Rn h0 b as l0 l1 ll r0 r1 rr R0 R1 (M + 240 + 10 * i) items ds h' ∧ me = { sl := [some (.ref b), some (.ref ll), some (.ref rr), some (.ref as), o4, o5, o6, o7], ex := none }) At.new (.cons (.int 0) (.cons (.int 1) .nil)) n6 ⟨_, _, _, _, by simpa using R7, rfl⟩ ?_ ?_
  · clear R R7 n6
    rintro i x d _ h8 hi hd F8 vx ⟨o4, o5, o6, o7, R, rfl⟩
    have hi2 : i < 2 := by simpa using hi
    obtain ⟨k, rfl, k01⟩ : ∃ k : Int, x = .int k ∧ (k = 0 ∨ k = 1) := by
      have : i = 0 ∨ i = 1 := by omega
      rcases this with rfl | rfl <;> simp at hd <;> subst hd <;> cases vx <;> simp
    obtain ⟨l, r, RR, g, t1, t2, L, ra, lS⟩ := R.w.at g0 g1 k01
    have lb : l ≠ b := fun e => lS (by simp [e])
    have glR := g.len
    try simp only [y_ok, y_exc, y_bind, y_bnd, y_cnd, y_cndt, z_nx, z_rt, z_br, z_ct, z_ex, z_exb0, z_exb1, z_wnwn, z_wnnx, z_wnrt, z_wnbr, z_wnct, z_wnex, z_wxnx, z_wxrt, z_wxbr, z_wxct, z_wxex, z_wlnx, z_wlrt, z_wlbr, z_wlct, z_wlex, z_fnnx, z_fnrt, z_fnex, z_pass, z_ret, z_retN, z_expr, z_asg, z_asgsw, z_asgtp, z_asgsub, z_asgfld, z_ifs, z_fors, z_brk, z_cont, z_trys, x_ct, x_cf, q_mp, q_opt, q_non, q_bl, q_int, q_str, q_var, q_ty, q_cls, q_gint, q_bin, q_neg, q_not, q_cmp, q_sub, q_slc, q_tup, q_lst, q_call, q_mk, q_bi, q_app, q_fld, q_meth, q_nil, q_cons, q_tnot, q_tbl, q_tvar, q_tcmp, q_tchain, q_tsub, q_tcall, q_tbi, q_tmeth, q_bool, q_rng1, q_slcn, q_slcY, z_tand, z_tor, z_and, z_or, z_ife, z_chain, b_max, b_min, b_abs, b_inti, b_intb, b_lent, sw2, sub_t0, sub_t1, o_add, o_sub, o_mul, o_fdiv, o_mod, o_pow, c_eqi, c_nei, c_eqs, c_nes, c_lt, c_le, c_gt, c_ge, c_isn, c_notn, isNon_n, isNon_i, Mi.Env.set, List.set_cons_zero, List.set_cons_succ, List.getElem?_cons_zero, List.getElem?_cons_succ, Option.getD_some, List.length_cons, List.length_nil, stepF_nm, Nat.reduceAdd, Nat.reduceLeDiff, q_iof, it_tup, sz_tup, sz_rg, t1, c_odd]
    refine Wr_of (odd_sp (n := n+6) g R.B (by omega) L lb) ?_
    rintro _ h9 ⟨es, ve, ge, le, B9, F9⟩
    replace R := R.box F9 B9
    obtain ⟨m, xs, rfl, _, Ae, vs⟩ := (ve.weak (S' := []) (by simp)).at_
    try simp only [y_ok, y_exc, y_bind, y_bnd, y_cnd, y_cndt, z_nx, z_rt, z_br, z_ct, z_ex, z_exb0, z_exb1, z_wnwn, z_wnnx, z_wnrt, z_wnbr, z_wnct, z_wnex, z_wxnx, z_wxrt, z_wxbr, z_wxct, z_wxex, z_wlnx, z_wlrt, z_wlbr, z_wlct, z_wlex, z_fnnx, z_fnrt, z_fnex, z_pass, z_ret, z_retN, z_expr, z_asg, z_asgsw, z_asgtp, z_asgsub, z_asgfld, z_ifs, z_fors, z_brk, z_cont, z_trys, x_ct, x_cf, q_mp, q_opt, q_non, q_bl, q_int, q_str, q_var, q_ty, q_cls, q_gint, q_bin, q_neg, q_not, q_cmp, q_sub, q_slc, q_tup, q_lst, q_call, q_mk, q_bi, q_app, q_fld, q_meth, q_nil, q_cons, q_tnot, q_tbl, q_tvar, q_tcmp, q_tchain, q_tsub, q_tcall, q_tbi, q_tmeth, q_bool, q_rng1, q_slcn, q_slcY, z_tand, z_tor, z_and, z_or, z_ife, z_chain, b_max, b_min, b_abs, b_inti, b_intb, b_lent, sw2, sub_t0, sub_t1, o_add, o_sub, o_mul, o_fdiv, o_mod, o_pow, c_eqi, c_nei, c_eqs, c_nes, c_lt, c_le, c_gt, c_ge, c_isn, c_notn, isNon_n, isNon_i, Mi.Env.set, List.set_cons_zero, List.set_cons_succ, List.getElem?_cons_zero, List.getElem?_cons_succ, Option.getD_some, List.length_cons, List.length_nil, stepF_nm, Nat.reduceAdd, Nat.reduceLeDiff, q_iof, it_tup, sz_tup, sz_rg, it_lst Ae, sz_lst Ae]
    refine for_v (S := []) (J := fun j me h' => ∃ o6, Rn h0 b as l0 l1 ll r0 r1 rr R0 R1 (M + 240 + 10 * i + 10) items ds h' ∧ me = { sl := [some (.ref b), some (.ref ll), some (.ref rr), some (.ref as), o4, some (.int k), o6, o7], ex := none }) Ae vs (by simp) ⟨_, R, rfl⟩ ?_ ?_
    · clear R
      rintro j x d _ h10 hj hd F10 vx ⟨o6, R, rfl⟩
      obtain ⟨dx, dy, dz, rfl, ox, oy, oz, mx, my⟩ := ge d (List.mem_of_getElem? hd)
      obtain ⟨l, r, RR, g, s1, s2, L, ra, _⟩ := R.w.at g0 g1 k01
      try simp only [y_ok, y_exc, y_bind, y_bnd, y_cnd, y_cndt, z_nx, z_rt, z_br, z_ct, z_ex, z_exb0, z_exb1, z_wnwn, z_wnnx, z_wnrt, z_wnbr, z_wnct, z_wnex, z_wxnx, z_wxrt, z_wxbr, z_wxct, z_wxex, z_wlnx, z_wlrt, z_wlbr, z_wlct, z_wlex, z_fnnx, z_fnrt, z_fnex, z_pass, z_ret, z_retN, z_expr, z_asg, z_asgsw, z_asgtp, z_asgsub, z_asgfld, z_ifs, z_fors, z_brk, z_cont, z_trys, x_ct, x_cf, q_mp, q_opt, q_non, q_bl, q_int, q_str, q_var, q_ty, q_cls, q_gint, q_bin, q_neg, q_not, q_cmp, q_sub, q_slc, q_tup, q_lst, q_call, q_mk, q_bi, q_app, q_fld, q_meth, q_nil, q_cons, q_tnot, q_tbl, q_tvar, q_tcmp, q_tchain, q_tsub, q_tcall, q_tbi, q_tmeth, q_bool, q_rng1, q_slcn, q_slcY, z_tand, z_tor, z_and, z_or, z_ife, z_chain, b_max, b_min, b_abs, b_inti, b_intb, b_lent, sw2, sub_t0, sub_t1, o_add, o_sub, o_mul, o_fdiv, o_mod, o_pow, c_eqi, c_nei, c_eqs, c_nes, c_lt, c_le, c_gt, c_ge, c_isn, c_notn, isNon_n, isNon_i, Mi.Env.set, List.set_cons_zero, List.set_cons_succ, List.getElem?_cons_zero, List.getElem?_cons_succ, Option.getD_some, List.length_cons, List.length_nil, stepF_nm, Nat.reduceAdd, Nat.reduceLeDiff, q_iof, it_tup, sz_tup, sz_rg, s1, s2, c_asked]
      refine Wr_of (asked_sp (n := n) (way := k) g ra L vx ox oy oz (fun a s e1 e2 => by have := mx a e1; have := my s e2; omega)) ?_
      rintro _ h11 ⟨rfl, F11⟩
      try simp only [y_ok, y_exc, y_bind, y_bnd, y_cnd, y_cndt, z_nx, z_rt, z_br, z_ct, z_ex, z_exb0, z_exb1, z_wnwn, z_wnnx, z_wnrt, z_wnbr, z_wnct, z_wnex, z_wxnx, z_wxrt, z_wxbr, z_wxct, z_wxex, z_wlnx, z_wlrt, z_wlbr, z_wlct, z_wlex, z_fnnx, z_fnrt, z_fnex, z_pass, z_ret, z_retN, z_expr, z_asg, z_asgsw, z_asgtp, z_asgsub, z_asgfld, z_ifs, z_fors, z_brk, z_cont, z_trys, x_ct, x_cf, q_mp, q_opt, q_non, q_bl, q_int, q_str, q_var, q_ty, q_cls, q_gint, q_bin, q_neg, q_not, q_cmp, q_sub, q_slc, q_tup, q_lst, q_call, q_mk, q_bi, q_app, q_fld, q_meth, q_nil, q_cons, q_tnot, q_tbl, q_tvar, q_tcmp, q_tchain, q_tsub, q_tcall, q_tbi, q_tmeth, q_bool, q_rng1, q_slcn, q_slcY, z_tand, z_tor, z_and, z_or, z_ife, z_chain, b_max, b_min, b_abs, b_inti, b_intb, b_lent, sw2, sub_t0, sub_t1, o_add, o_sub, o_mul, o_fdiv, o_mod, o_pow, c_eqi, c_nei, c_eqs, c_nes, c_lt, c_le, c_gt, c_ge, c_isn, c_notn, isNon_n, isNon_i, Mi.Env.set, List.set_cons_zero, List.set_cons_succ, List.getElem?_cons_zero, List.getElem?_cons_succ, Option.getD_some, List.length_cons, List.length_nil, stepF_nm, Nat.reduceAdd, Nat.reduceLeDiff, q_iof, it_tup, sz_tup, sz_rg, Bool.not_true]
      exact ⟨⟨_, R.fr0 F11, rfl⟩, F11⟩
    · rintro _ h10 F10 ⟨o6, R, rfl⟩
      try simp only [y_ok, y_exc, y_bind, y_bnd, y_cnd, y_cndt, z_nx, z_rt, z_br, z_ct, z_ex, z_exb0, z_exb1, z_wnwn, z_wnnx, z_wnrt, z_wnbr, z_wnct, z_wnex, z_wxnx, z_wxrt, z_wxbr, z_wxct, z_wxex, z_wlnx, z_wlrt, z_wlbr, z_wlct, z_wlex, z_fnnx, z_fnrt, z_fnex, z_pass, z_ret, z_retN, z_expr, z_asg, z_asgsw, z_asgtp, z_asgsub, z_asgfld, z_ifs, z_fors, z_brk, z_cont, z_trys, x_ct, x_cf, q_mp, q_opt, q_non, q_bl, q_int, q_str, q_var, q_ty, q_cls, q_gint, q_bin, q_neg, q_not, q_cmp, q_sub, q_slc, q_tup, q_lst, q_call, q_mk, q_bi, q_app, q_fld, q_meth, q_nil, q_cons, q_tnot, q_tbl, q_tvar, q_tcmp, q_tchain, q_tsub, q_tcall, q_tbi, q_tmeth, q_bool, q_rng1, q_slcn, q_slcY, z_tand, z_tor, z_and, z_or, z_ife, z_chain, b_max, b_min, b_abs, b_inti, b_intb, b_lent, sw2, sub_t0, sub_t1, o_add, o_sub, o_mul, o_fdiv, o_mod, o_pow, c_eqi, c_nei, c_eqs, c_nes, c_lt, c_le, c_gt, c_ge, c_isn, c_notn, isNon_n, isNon_i, Mi.Env.set, List.set_cons_zero, List.set_cons_succ, List.getElem?_cons_zero, List.getElem?_cons_succ, Option.getD_some, List.length_cons, List.length_nil, stepF_nm, Nat.reduceAdd, Nat.reduceLeDiff, q_iof, it_tup, sz_tup, sz_rg]
      have Rz : Rn h0 b as l0 l1 ll r0 r1 rr R0 R1 (M + 240 + 10 * (i + 1 : Nat)) items ds h10 := ⟨R.w, R.a, R.v, R.B.up (by omega), R.F, R.sa, R.ba⟩
      exact ⟨⟨_, _, _, _, Rz, rfl⟩, (F9.mono (by simp)).trans F10.up⟩
  rintro _ h8 F8 ⟨o4, o5, o6, o7, R, rfl⟩
  -- all once more
  have hR := R
  try simp only [y_ok, y_exc, y_bind, y_bnd, y_cnd, y_cndt, z_nx, z_rt, z_br, z_ct, z_ex, z_exb0, z_exb1, z_wnwn, z_wnnx, z_wnrt, z_wnbr, z_wnct, z_wnex, z_wxnx, z_wxrt, z_wxbr, z_wxct, z_wxex, z_wlnx, z_wlrt, z_wlbr, z_wlct, z_wlex, z_fnnx, z_fnrt, z_fnex, z_pass, z_ret, z_retN, z_expr, z_asg, z_asgsw, z_asgtp, z_asgsub, z_asgfld, z_ifs, z_fors, z_brk, z_cont, z_trys, x_ct, x_cf, q_mp, q_opt, q_non, q_bl, q_int, q_str, q_var, q_ty, q_cls, q_gint, q_bin, q_neg, q_not, q_cmp, q_sub, q_slc, q_tup, q_lst, q_call, q_mk, q_bi, q_app, q_fld, q_meth, q_nil, q_cons, q_tnot, q_tbl, q_tvar, q_tcmp, q_tchain, q_tsub, q_tcall, q_tbi, q_tmeth, q_bool, q_rng1, q_slcn, q_slcY, z_tand, z_tor, z_and, z_or, z_ife, z_chain, b_max, b_min, b_abs, b_inti, b_intb, b_lent, sw2, sub_t0, sub_t1, o_add, o_sub, o_mul, o_fdiv, o_mod, o_pow, c_eqi, c_nei, c_eqs, c_nes, c_lt, c_le, c_gt, c_ge, c_isn, c_notn, isNon_n, isNon_i, Mi.Env.set, List.set_cons_zero, List.set_cons_succ, List.getElem?_cons_zero, List.getElem?_cons_succ, Option.getD_some, List.length_cons, List.length_nil, stepF_nm, Nat.reduceAdd, Nat.reduceLeDiff, q_iof, it_tup, sz_tup, sz_rg, it_lst R.a, sz_lst R.a]
  refine for_v (S := []) (J := fun i me h' => ∃ o5 o6 o7, Rn h0 b as l0 l1 ll r0 r1 rr R0 R1 (M + 240 + 10 * ([PyData.int 0, PyData.int 1].length : Nat)) items ds h' ∧ me = { sl := [some (.ref b), some (.ref ll), some (.ref rr), some (.ref as), o4, o5, o6, o7], ex := none }) R.a (R.v.weak (by simp)) (by simp) ⟨_, _, _, R, rfl⟩ ?_ ?_
  · clear R hR
    rintro i x d _ h9 hi hd F9 vx ⟨o5, o6, o7, R, rfl⟩
    obtain ⟨k, way, t, s, c, rfl, k01, t0, t1, s0, s1, c0, c1⟩ := gd d (List.mem_of_getElem? hd)
    have aT : argOk (.int t) := arg_int (by omega)
    have aS : argOk (.int s) := arg_int (by omega)
    have aC : argOk (.int c) := arg_int (by omega)
    obtain ⟨m, xs, rfl, _, Ax, vs⟩ := vx.at_
    obtain ⟨av, rfl, va⟩ : ∃ av, xs = [.int k, av, .int way] ∧ V [] h9 av (.list [.int t, .int s, .int c]) := by
      cases vs with
      | cons a t => cases a; cases t with
        | cons b t => cases t with
          | cons c t => cases c; cases t; exact ⟨_, rfl, b⟩
    obtain ⟨l, r, RR, g, q1, q2, L, ra, _⟩ := R.w.at g0 g1 k01
    rw [stepF_tp3 Ax]
    try simp only [y_ok, y_exc, y_bind, y_bnd, y_cnd, y_cndt, z_nx, z_rt, z_br, z_ct, z_ex, z_exb0, z_exb1, z_wnwn, z_wnnx, z_wnrt, z_wnbr, z_wnct, z_wnex, z_wxnx, z_wxrt, z_wxbr, z_wxct, z_wxex, z_wlnx, z_wlrt, z_wlbr, z_wlct, z_wlex, z_fnnx, z_fnrt, z_fnex, z_pass, z_ret, z_retN, z_expr, z_asg, z_asgsw, z_asgtp, z_asgsub, z_asgfld, z_ifs, z_fors, z_brk, z_cont, z_trys, x_ct, x_cf, q_mp, q_opt, q_non, q_bl, q_int, q_str, q_var, q_ty, q_cls, q_gint, q_bin, q_neg, q_not, q_cmp, q_sub, q_slc, q_tup, q_lst, q_call, q_mk, q_bi, q_app, q_fld, q_meth, q_nil, q_cons, q_tnot, q_tbl, q_tvar, q_tcmp, q_tchain, q_tsub, q_tcall, q_tbi, q_tmeth, q_bool, q_rng1, q_slcn, q_slcY, z_tand, z_tor, z_and, z_or, z_ife, z_chain, b_max, b_min, b_abs, b_inti, b_intb, b_lent, sw2, sub_t0, sub_t1, o_add, o_sub, o_mul, o_fdiv, o_mod, o_pow, c_eqi, c_nei, c_eqs, c_nes, c_lt, c_le, c_gt, c_ge, c_isn, c_notn, isNon_n, isNon_i, Mi.Env.set, List.set_cons_zero, List.set_cons_succ, List.getElem?_cons_zero, List.getElem?_cons_succ, Option.getD_some, List.length_cons, List.length_nil, stepF_nm, Nat.reduceAdd, Nat.reduceLeDiff, q_iof, it_tup, sz_tup, sz_rg, q1, q2, c_asked]
    refine Wr_of (asked_sp (n := n) (way := 1 - way) g ra L va aT aS aC (fun a s e1 e2 => by cases e1; cases e2; omega)) ?_
    rintro _ h10 ⟨rfl, F10⟩
    try simp only [y_ok, y_exc, y_bind, y_bnd, y_cnd, y_cndt, z_nx, z_rt, z_br, z_ct, z_ex, z_exb0, z_exb1, z_wnwn, z_wnnx, z_wnrt, z_wnbr, z_wnct, z_wnex, z_wxnx, z_wxrt, z_wxbr, z_wxct, z_wxex, z_wlnx, z_wlrt, z_wlbr, z_wlct, z_wlex, z_fnnx, z_fnrt, z_fnex, z_pass, z_ret, z_retN, z_expr, z_asg, z_asgsw, z_asgtp, z_asgsub, z_asgfld, z_ifs, z_fors, z_brk, z_cont, z_trys, x_ct, x_cf, q_mp, q_opt, q_non, q_bl, q_int, q_str, q_var, q_ty, q_cls, q_gint, q_bin, q_neg, q_not, q_cmp, q_sub, q_slc, q_tup, q_lst, q_call, q_mk, q_bi, q_app, q_fld, q_meth, q_nil, q_cons, q_tnot, q_tbl, q_tvar, q_tcmp, q_tchain, q_tsub, q_tcall, q_tbi, q_tmeth, q_bool, q_rng1, q_slcn, q_slcY, z_tand, z_tor, z_and, z_or, z_ife, z_chain, b_max, b_min, b_abs, b_inti, b_intb, b_lent, sw2, sub_t0, sub_t1, o_add, o_sub, o_mul, o_fdiv, o_mod, o_pow, c_eqi, c_nei, c_eqs, c_nes, c_lt, c_le, c_gt, c_ge, c_isn, c_notn, isNon_n, isNon_i, Mi.Env.set, List.set_cons_zero, List.set_cons_succ, List.getElem?_cons_zero, List.getElem?_cons_succ, Option.getD_some, List.length_cons, List.length_nil, stepF_nm, Nat.reduceAdd, Nat.reduceLeDiff, q_iof, it_tup, sz_tup, sz_rg, Bool.not_true]
    exact ⟨⟨_, _, _, R.fr0 F10, rfl⟩, F10⟩
  rintro _ h9 F9 ⟨o5, o6, o7, R, rfl⟩
  try simp only [y_ok, y_exc, y_bind, y_bnd, y_cnd, y_cndt, z_nx, z_rt, z_br, z_ct, z_ex, z_exb0, z_exb1, z_wnwn, z_wnnx, z_wnrt, z_wnbr, z_wnct, z_wnex, z_wxnx, z_wxrt, z_wxbr, z_wxct, z_wxex, z_wlnx, z_wlrt, z_wlbr, z_wlct, z_wlex, z_fnnx, z_fnrt, z_fnex, z_pass, z_ret, z_retN, z_expr, z_asg, z_asgsw, z_asgtp, z_asgsub, z_asgfld, z_ifs, z_fors, z_brk, z_cont, z_trys, x_ct, x_cf, q_mp, q_opt, q_non, q_bl, q_int, q_str, q_var, q_ty, q_cls, q_gint, q_bin, q_neg, q_not, q_cmp, q_sub, q_slc, q_tup, q_lst, q_call, q_mk, q_bi, q_app, q_fld, q_meth, q_nil, q_cons, q_tnot, q_tbl, q_tvar, q_tcmp, q_tchain, q_tsub, q_tcall, q_tbi, q_tmeth, q_bool, q_rng1, q_slcn, q_slcY, z_tand, z_tor, z_and, z_or, z_ife, z_chain, b_max, b_min, b_abs, b_inti, b_intb, b_lent, sw2, sub_t0, sub_t1, o_add, o_sub, o_mul, o_fdiv, o_mod, o_pow, c_eqi, c_nei, c_eqs, c_nes, c_lt, c_le, c_gt, c_ge, c_isn, c_notn, isNon_n, isNon_i, Mi.Env.set, List.set_cons_zero, List.set_cons_succ, List.getElem?_cons_zero, List.getElem?_cons_succ, Option.getD_some, List.length_cons, List.length_nil, stepF_nm, Nat.reduceAdd, Nat.reduceLeDiff, q_iof, it_tup, sz_tup, sz_rg]
  exact hQ _ _ ⟨rfl, R.F⟩
end Lw
end

section
namespace Lw
open Mi
open PySem (PyData)
theorem right_sp {n b : Nat} {h : MH} {N : Int} (B : isB h b N) (hN : N < 2 ^ 20) : Sp (Mi.run τ.tab (n+11) f_law_right [.ref b] h) (fun v h' => v = .bl true ∧ Fr [b] h h') := by
  have hb := B.lt
  refine Sp_for fun Q E hQ => ?_
  refine (run_w { sl := [some (.ref b), none, none, none, none, none, none, none], ex := none } body_law_right rfl rfl rfl ?_)
  unfold body_law_right
  try simp only [y_ok, y_exc, y_bind, y_bnd, y_cnd, y_cndt, z_nx, z_rt, z_br, z_ct, z_ex, z_exb0, z_exb1, z_wnwn, z_wnnx, z_wnrt, z_wnbr, z_wnct, z_wnex, z_wxnx, z_wxrt, z_wxbr, z_wxct, z_wxex, z_wlnx, z_wlrt, z_wlbr, z_wlct, z_wlex, z_fnnx, z_fnrt, z_fnex, z_pass, z_ret, z_retN, z_expr, z_asg, z_asgsw, z_asgtp, z_asgsub, z_asgfld, z_ifs, z_fors, z_brk, z_cont, z_trys, x_ct, x_cf, q_mp, q_opt, q_non, q_bl, q_int, q_str, q_var, q_ty, q_cls, q_gint, q_bin, q_neg, q_not, q_cmp, q_sub, q_slc, q_tup, q_lst, q_call, q_mk, q_bi, q_app, q_fld, q_meth, q_nil, q_cons, q_tnot, q_tbl, q_tvar, q_tcmp, q_tchain, q_tsub, q_tcall, q_tbi, q_tmeth, q_bool, q_rng1, q_slcn, q_slcY, z_tand, z_tor, z_and, z_or, z_ife, z_chain, b_max, b_min, b_abs, b_inti, b_intb, b_lent, sw2, sub_t0, sub_t1, o_add, o_sub, o_mul, o_fdiv, o_mod, o_pow, c_eqi, c_nei, c_eqs, c_nes, c_lt, c_le, c_gt, c_ge, c_isn, c_notn, isNon_n, isNon_i, Mi.Env.set, List.set_cons_zero, List.set_cons_succ, List.getElem?_cons_zero, List.getElem?_cons_succ, Option.getD_some, List.length_cons, List.length_nil, stepF_nm, Nat.reduceAdd, Nat.reduceLeDiff, q_iof, it_tup, sz_tup, sz_rg, c_rows]
  refine Wr_of (rows_sp (n := n+8) B (by omega)) ?_
  rintro _ h1 ⟨l0, R0, rfl, g0, L0, B1, n0, F1⟩
  try simp only [y_ok, y_exc, y_bind, y_bnd, y_cnd, y_cndt, z_nx, z_rt, z_br, z_ct, z_ex, z_exb0, z_exb1, z_wnwn, z_wnnx, z_wnrt, z_wnbr, z_wnct, z_wnex, z_wxnx, z_wxrt, z_wxbr, z_wxct, z_wxex, z_wlnx, z_wlrt, z_wlbr, z_wlct, z_wlex, z_fnnx, z_fnrt, z_fnex, z_pass, z_ret, z_retN, z_expr, z_asg, z_asgsw, z_asgtp, z_asgsub, z_asgfld, z_ifs, z_fors, z_brk, z_cont, z_trys, x_ct, x_cf, q_mp, q_opt, q_non, q_bl, q_int, q_str, q_var, q_ty, q_cls, q_gint, q_bin, q_neg, q_not, q_cmp, q_sub, q_slc, q_tup, q_lst, q_call, q_mk, q_bi, q_app, q_fld, q_meth, q_nil, q_cons, q_tnot, q_tbl, q_tvar, q_tcmp, q_tchain, q_tsub, q_tcall, q_tbi, q_tmeth, q_bool, q_rng1, q_slcn, q_slcY, z_tand, z_tor, z_and, z_or, z_ife, z_chain, b_max, b_min, b_abs, b_inti, b_intb, b_lent, sw2, sub_t0, sub_t1, o_add, o_sub, o_mul, o_fdiv, o_mod, o_pow, c_eqi, c_nei, c_eqs, c_nes, c_lt, c_le, c_gt, c_ge, c_isn, c_notn, isNon_n, isNon_i, Mi.Env.set, List.set_cons_zero, List.set_cons_succ, List.getElem?_cons_zero, List.getElem?_cons_succ, Option.getD_some, List.length_cons, List.length_nil, stepF_nm, Nat.reduceAdd, Nat.reduceLeDiff, q_iof, it_tup, sz_tup, sz_rg, c_rows]
  refine Wr_of (rows_sp (n := n+8) B1 (by omega)) ?_
  rintro _ h2 ⟨l1, R1, rfl, g1, L1, B2, n1, F2⟩
  have q1 := L0.lt
  have q2 := L1.lt
  replace L0 := L0.fr F2 (by simp; omega)
  replace F1 := F1.trans F2
  have z0 := F1.nx
  have hb2 := B2.lt
  try simp only [y_ok, y_exc, y_bind, y_bnd, y_cnd, y_cndt, z_nx, z_rt, z_br, z_ct, z_ex, z_exb0, z_exb1, z_wnwn, z_wnnx, z_wnrt, z_wnbr, z_wnct, z_wnex, z_wxnx, z_wxrt, z_wxbr, z_wxct, z_wxex, z_wlnx, z_wlrt, z_wlbr, z_wlct, z_wlex, z_fnnx, z_fnrt, z_fnex, z_pass, z_ret, z_retN, z_expr, z_asg, z_asgsw, z_asgtp, z_asgsub, z_asgfld, z_ifs, z_fors, z_brk, z_cont, z_trys, x_ct, x_cf, q_mp, q_opt, q_non, q_bl, q_int, q_str, q_var, q_ty, q_cls, q_gint, q_bin, q_neg, q_not, q_cmp, q_sub, q_slc, q_tup, q_lst, q_call, q_mk, q_bi, q_app, q_fld, q_meth, q_nil, q_cons, q_tnot, q_tbl, q_tvar, q_tcmp, q_tchain, q_tsub, q_tcall, q_tbi, q_tmeth, q_bool, q_rng1, q_slcn, q_slcY, z_tand, z_tor, z_and, z_or, z_ife, z_chain, b_max, b_min, b_abs, b_inti, b_intb, b_lent, sw2, sub_t0, sub_t1, o_add, o_sub, o_mul, o_fdiv, o_mod, o_pow, c_eqi, c_nei, c_eqs, c_nes, c_lt, c_le, c_gt, c_ge, c_isn, c_notn, isNon_n, isNon_i, Mi.Env.set, List.set_cons_zero, List.set_cons_succ, List.getElem?_cons_zero, List.getElem?_cons_succ, Option.getD_some, List.length_cons, List.length_nil, stepF_nm, Nat.reduceAdd, Nat.reduceLeDiff, q_iof, it_tup, sz_tup, sz_rg]
  rw [x_newL (by simp), y_ok]
  refine (show Wt _ (exB τ.tab (Mi.run τ.tab (n+10)) rightB { sl := [some (.ref b), some (.ref h2.next), none, none, none, none, none, none], ex := none } (h2.new (.lst [.ref l0, .ref l1]))) from ?_)
  exact right2 g0 g1 (L0.fr0 Fr.new) (L1.fr0 Fr.new) At.new (by omega) (by omega) (by omega) n0 z0 B2.new (by omega) (F1.trans Fr.new) hQ
/-! ### the law -/
theorem c_cell {C : CallF} {h : MH} (x y : Mi.MV) : callM τ.tab C "_law_cell" [x, y] [] [] h = C f_law_cell [x, y] h := x_callM tfn_law_cell (by simp [argsOf, fnp_law_cell])
theorem c_box {C : CallF} {h : MH} (x : Mi.MV) : callM τ.tab C "_law_box" [x] [] [] h = C f_law_box [x] h := x_callM tfn_law_box (by simp [argsOf, fnp_law_box])
theorem c_right {C : CallF} {h : MH} (x : Mi.MV) : callM τ.tab C "_law_right" [x] [] [] h = C f_law_right [x] h := x_callM tfn_law_right (by simp [argsOf, fnp_law_right])
theorem cell_sp {n : Nat} {ns : List Int} {h : MH} {s : Nat} {k : Nat} (hs : At h s (.frz (ns.map .int))) : Sp (Mi.run τ.tab (n+1) f_law_cell [.ref s, .int k] h) (fun v h' => ∃ i, v = .int i ∧ Fr [] h h') := by
  obtain ⟨v, h', e, K⟩ := s1 (n := n) (k := k) hs.get
  exact ⟨_, _, e, v, rfl, ⟨K.nx, fun m l _ => K.st m l⟩⟩
theorem box_sp {n : Nat} {h : MH} (g : Int) : Sp (Mi.run τ.tab (n+1) f_law_box [.int g] h) (fun v h' => v = .ref h.next ∧ isB h' h.next 0 ∧ Fr [] h h') := by
  obtain ⟨h', e, B, nx, st⟩ := s2 (n := n) (h := h) g
  exact ⟨_, _, e, rfl, B, ⟨by omega, fun m l _ => st m l⟩⟩
theorem b_lenf {h : MH} {l : Nat} {xs : List Mi.MV} (a : At h l (.frz xs)) : biM τ.tab .len [.ref l] h = .ok (.int xs.length) h := by
  show (match asSeq h (.ref l) with | some xs => Res.ok (Mi.MV.int xs.length) h | none => Res.stuck) = _
  unfold asSeq asList
  simp only [a.get]
theorem law_sp {n : Nat} {ns : List Int} {h : MH} (hs : At h 0 (.frz (ns.map .int))) : Sp (Mi.run τ.tab (n+12) f_law [.ref 0] h) (fun v h' => v = .bl true) := by
  refine Sp_for fun Q E hQ => ?_
  refine (run_w { sl := [some (.ref 0), none], ex := none } body_law rfl rfl rfl ?_)
  unfold body_law
  try simp only [y_ok, y_exc, y_bind, y_bnd, y_cnd, y_cndt, z_nx, z_rt, z_br, z_ct, z_ex, z_exb0, z_exb1, z_wnwn, z_wnnx, z_wnrt, z_wnbr, z_wnct, z_wnex, z_wxnx, z_wxrt, z_wxbr, z_wxct, z_wxex, z_wlnx, z_wlrt, z_wlbr, z_wlct, z_wlex, z_fnnx, z_fnrt, z_fnex, z_pass, z_ret, z_retN, z_expr, z_asg, z_asgsw, z_asgtp, z_asgsub, z_asgfld, z_ifs, z_fors, z_brk, z_cont, z_trys, x_ct, x_cf, q_mp, q_opt, q_non, q_bl, q_int, q_str, q_var, q_ty, q_cls, q_gint, q_bin, q_neg, q_not, q_cmp, q_sub, q_slc, q_tup, q_lst, q_call, q_mk, q_bi, q_app, q_fld, q_meth, q_nil, q_cons, q_tnot, q_tbl, q_tvar, q_tcmp, q_tchain, q_tsub, q_tcall, q_tbi, q_tmeth, q_bool, q_rng1, q_slcn, q_slcY, z_tand, z_tor, z_and, z_or, z_ife, z_chain, b_max, b_min, b_abs, b_inti, b_intb, b_lent, sw2, sub_t0, sub_t1, o_add, o_sub, o_mul, o_fdiv, o_mod, o_pow, c_eqi, c_nei, c_eqs, c_nes, c_lt, c_le, c_gt, c_ge, c_isn, c_notn, isNon_n, isNon_i, Mi.Env.set, List.set_cons_zero, List.set_cons_succ, List.getElem?_cons_zero, List.getElem?_cons_succ, Option.getD_some, List.length_cons, List.length_nil, stepF_nm, Nat.reduceAdd, Nat.reduceLeDiff, q_iof, it_tup, sz_tup, sz_rg, b_lenf hs]
  generalize hN : (if (if (((ns.map Mi.MV.int).length : Nat) : Int) < 4 then (((ns.map Mi.MV.int).length : Nat) : Int) else 4) > 2 then (if (((ns.map Mi.MV.int).length : Nat) : Int) < 4 then (((ns.map Mi.MV.int).length : Nat) : Int) else 4) else 2) = N
  have hN4 : 0 ≤ N ∧ N ≤ 4 := by rw [← hN]; split <;> split <;> omega
  try simp only [y_ok, y_exc, y_bind, y_bnd, y_cnd, y_cndt, z_nx, z_rt, z_br, z_ct, z_ex, z_exb0, z_exb1, z_wnwn, z_wnnx, z_wnrt, z_wnbr, z_wnct, z_wnex, z_wxnx, z_wxrt, z_wxbr, z_wxct, z_wxex, z_wlnx, z_wlrt, z_wlbr, z_wlct, z_wlex, z_fnnx, z_fnrt, z_fnex, z_pass, z_ret, z_retN, z_expr, z_asg, z_asgsw, z_asgtp, z_asgsub, z_asgfld, z_ifs, z_fors, z_brk, z_cont, z_trys, x_ct, x_cf, q_mp, q_opt, q_non, q_bl, q_int, q_str, q_var, q_ty, q_cls, q_gint, q_bin, q_neg, q_not, q_cmp, q_sub, q_slc, q_tup, q_lst, q_call, q_mk, q_bi, q_app, q_fld, q_meth, q_nil, q_cons, q_tnot, q_tbl, q_tvar, q_tcmp, q_tchain, q_tsub, q_tcall, q_tbi, q_tmeth, q_bool, q_rng1, q_slcn, q_slcY, z_tand, z_tor, z_and, z_or, z_ife, z_chain, b_max, b_min, b_abs, b_inti, b_intb, b_lent, sw2, sub_t0, sub_t1, o_add, o_sub, o_mul, o_fdiv, o_mod, o_pow, c_eqi, c_nei, c_eqs, c_nes, c_lt, c_le, c_gt, c_ge, c_isn, c_notn, isNon_n, isNon_i, Mi.Env.set, List.set_cons_zero, List.set_cons_succ, List.getElem?_cons_zero, List.getElem?_cons_succ, Option.getD_some, List.length_cons, List.length_nil, stepF_nm, Nat.reduceAdd, Nat.reduceLeDiff, q_iof, it_tup, sz_tup, sz_rg, show rngOk N by unfold rngOk; omega, if_true]
  refine for_rg (J := fun i me h' => ∃ o1, At h' 0 (.frz (ns.map .int)) ∧ me = { sl := [some (.ref 0), o1], ex := none }) ⟨_, hs, rfl⟩ ?_ ?_
  · rintro i _ h1 hi ⟨o1, hs, rfl⟩
    try simp only [y_ok, y_exc, y_bind, y_bnd, y_cnd, y_cndt, z_nx, z_rt, z_br, z_ct, z_ex, z_exb0, z_exb1, z_wnwn, z_wnnx, z_wnrt, z_wnbr, z_wnct, z_wnex, z_wxnx, z_wxrt, z_wxbr, z_wxct, z_wxex, z_wlnx, z_wlrt, z_wlbr, z_wlct, z_wlex, z_fnnx, z_fnrt, z_fnex, z_pass, z_ret, z_retN, z_expr, z_asg, z_asgsw, z_asgtp, z_asgsub, z_asgfld, z_ifs, z_fors, z_brk, z_cont, z_trys, x_ct, x_cf, q_mp, q_opt, q_non, q_bl, q_int, q_str, q_var, q_ty, q_cls, q_gint, q_bin, q_neg, q_not, q_cmp, q_sub, q_slc, q_tup, q_lst, q_call, q_mk, q_bi, q_app, q_fld, q_meth, q_nil, q_cons, q_tnot, q_tbl, q_tvar, q_tcmp, q_tchain, q_tsub, q_tcall, q_tbi, q_tmeth, q_bool, q_rng1, q_slcn, q_slcY, z_tand, z_tor, z_and, z_or, z_ife, z_chain, b_max, b_min, b_abs, b_inti, b_intb, b_lent, sw2, sub_t0, sub_t1, o_add, o_sub, o_mul, o_fdiv, o_mod, o_pow, c_eqi, c_nei, c_eqs, c_nes, c_lt, c_le, c_gt, c_ge, c_isn, c_notn, isNon_n, isNon_i, Mi.Env.set, List.set_cons_zero, List.set_cons_succ, List.getElem?_cons_zero, List.getElem?_cons_succ, Option.getD_some, List.length_cons, List.length_nil, stepF_nm, Nat.reduceAdd, Nat.reduceLeDiff, q_iof, it_tup, sz_tup, sz_rg, Int.zero_add, c_cell]
    refine Wr_of (cell_sp (n := n+10) (k := i) hs) ?_
    rintro _ h2 ⟨g, rfl, F2⟩
    replace hs := hs.fr0 F2
    try simp only [y_ok, y_exc, y_bind, y_bnd, y_cnd, y_cndt, z_nx, z_rt, z_br, z_ct, z_ex, z_exb0, z_exb1, z_wnwn, z_wnnx, z_wnrt, z_wnbr, z_wnct, z_wnex, z_wxnx, z_wxrt, z_wxbr, z_wxct, z_wxex, z_wlnx, z_wlrt, z_wlbr, z_wlct, z_wlex, z_fnnx, z_fnrt, z_fnex, z_pass, z_ret, z_retN, z_expr, z_asg, z_asgsw, z_asgtp, z_asgsub, z_asgfld, z_ifs, z_fors, z_brk, z_cont, z_trys, x_ct, x_cf, q_mp, q_opt, q_non, q_bl, q_int, q_str, q_var, q_ty, q_cls, q_gint, q_bin, q_neg, q_not, q_cmp, q_sub, q_slc, q_tup, q_lst, q_call, q_mk, q_bi, q_app, q_fld, q_meth, q_nil, q_cons, q_tnot, q_tbl, q_tvar, q_tcmp, q_tchain, q_tsub, q_tcall, q_tbi, q_tmeth, q_bool, q_rng1, q_slcn, q_slcY, z_tand, z_tor, z_and, z_or, z_ife, z_chain, b_max, b_min, b_abs, b_inti, b_intb, b_lent, sw2, sub_t0, sub_t1, o_add, o_sub, o_mul, o_fdiv, o_mod, o_pow, c_eqi, c_nei, c_eqs, c_nes, c_lt, c_le, c_gt, c_ge, c_isn, c_notn, isNon_n, isNon_i, Mi.Env.set, List.set_cons_zero, List.set_cons_succ, List.getElem?_cons_zero, List.getElem?_cons_succ, Option.getD_some, List.length_cons, List.length_nil, stepF_nm, Nat.reduceAdd, Nat.reduceLeDiff, q_iof, it_tup, sz_tup, sz_rg, c_box]
    refine Wr_of (box_sp (n := n+10) g) ?_
    rintro _ h3 ⟨rfl, B, F3⟩
    have hlt := hs.lt
    replace hs := hs.fr0 F3
    try simp only [y_ok, y_exc, y_bind, y_bnd, y_cnd, y_cndt, z_nx, z_rt, z_br, z_ct, z_ex, z_exb0, z_exb1, z_wnwn, z_wnnx, z_wnrt, z_wnbr, z_wnct, z_wnex, z_wxnx, z_wxrt, z_wxbr, z_wxct, z_wxex, z_wlnx, z_wlrt, z_wlbr, z_wlct, z_wlex, z_fnnx, z_fnrt, z_fnex, z_pass, z_ret, z_retN, z_expr, z_asg, z_asgsw, z_asgtp, z_asgsub, z_asgfld, z_ifs, z_fors, z_brk, z_cont, z_trys, x_ct, x_cf, q_mp, q_opt, q_non, q_bl, q_int, q_str, q_var, q_ty, q_cls, q_gint, q_bin, q_neg, q_not, q_cmp, q_sub, q_slc, q_tup, q_lst, q_call, q_mk, q_bi, q_app, q_fld, q_meth, q_nil, q_cons, q_tnot, q_tbl, q_tvar, q_tcmp, q_tchain, q_tsub, q_tcall, q_tbi, q_tmeth, q_bool, q_rng1, q_slcn, q_slcY, z_tand, z_tor, z_and, z_or, z_ife, z_chain, b_max, b_min, b_abs, b_inti, b_intb, b_lent, sw2, sub_t0, sub_t1, o_add, o_sub, o_mul, o_fdiv, o_mod, o_pow, c_eqi, c_nei, c_eqs, c_nes, c_lt, c_le, c_gt, c_ge, c_isn, c_notn, isNon_n, isNon_i, Mi.Env.set, List.set_cons_zero, List.set_cons_succ, List.getElem?_cons_zero, List.getElem?_cons_succ, Option.getD_some, List.length_cons, List.length_nil, stepF_nm, Nat.reduceAdd, Nat.reduceLeDiff, q_iof, it_tup, sz_tup, sz_rg, c_right]
    refine Wr_of (right_sp (n := n) B (by decide)) ?_
    rintro _ h4 ⟨rfl, F4⟩
    try simp only [y_ok, y_exc, y_bind, y_bnd, y_cnd, y_cndt, z_nx, z_rt, z_br, z_ct, z_ex, z_exb0, z_exb1, z_wnwn, z_wnnx, z_wnrt, z_wnbr, z_wnct, z_wnex, z_wxnx, z_wxrt, z_wxbr, z_wxct, z_wxex, z_wlnx, z_wlrt, z_wlbr, z_wlct, z_wlex, z_fnnx, z_fnrt, z_fnex, z_pass, z_ret, z_retN, z_expr, z_asg, z_asgsw, z_asgtp, z_asgsub, z_asgfld, z_ifs, z_fors, z_brk, z_cont, z_trys, x_ct, x_cf, q_mp, q_opt, q_non, q_bl, q_int, q_str, q_var, q_ty, q_cls, q_gint, q_bin, q_neg, q_not, q_cmp, q_sub, q_slc, q_tup, q_lst, q_call, q_mk, q_bi, q_app, q_fld, q_meth, q_nil, q_cons, q_tnot, q_tbl, q_tvar, q_tcmp, q_tchain, q_tsub, q_tcall, q_tbi, q_tmeth, q_bool, q_rng1, q_slcn, q_slcY, z_tand, z_tor, z_and, z_or, z_ife, z_chain, b_max, b_min, b_abs, b_inti, b_intb, b_lent, sw2, sub_t0, sub_t1, o_add, o_sub, o_mul, o_fdiv, o_mod, o_pow, c_eqi, c_nei, c_eqs, c_nes, c_lt, c_le, c_gt, c_ge, c_isn, c_notn, isNon_n, isNon_i, Mi.Env.set, List.set_cons_zero, List.set_cons_succ, List.getElem?_cons_zero, List.getElem?_cons_succ, Option.getD_some, List.length_cons, List.length_nil, stepF_nm, Nat.reduceAdd, Nat.reduceLeDiff, q_iof, it_tup, sz_tup, sz_rg, Bool.not_true]
    exact ⟨_, hs.fr F4 (by simp; omega), rfl⟩
  · rintro _ h1 ⟨o1, hs, rfl⟩
    try simp only [y_ok, y_exc, y_bind, y_bnd, y_cnd, y_cndt, z_nx, z_rt, z_br, z_ct, z_ex, z_exb0, z_exb1, z_wnwn, z_wnnx, z_wnrt, z_wnbr, z_wnct, z_wnex, z_wxnx, z_wxrt, z_wxbr, z_wxct, z_wxex, z_wlnx, z_wlrt, z_wlbr, z_wlct, z_wlex, z_fnnx, z_fnrt, z_fnex, z_pass, z_ret, z_retN, z_expr, z_asg, z_asgsw, z_asgtp, z_asgsub, z_asgfld, z_ifs, z_fors, z_brk, z_cont, z_trys, x_ct, x_cf, q_mp, q_opt, q_non, q_bl, q_int, q_str, q_var, q_ty, q_cls, q_gint, q_bin, q_neg, q_not, q_cmp, q_sub, q_slc, q_tup, q_lst, q_call, q_mk, q_bi, q_app, q_fld, q_meth, q_nil, q_cons, q_tnot, q_tbl, q_tvar, q_tcmp, q_tchain, q_tsub, q_tcall, q_tbi, q_tmeth, q_bool, q_rng1, q_slcn, q_slcY, z_tand, z_tor, z_and, z_or, z_ife, z_chain, b_max, b_min, b_abs, b_inti, b_intb, b_lent, sw2, sub_t0, sub_t1, o_add, o_sub, o_mul, o_fdiv, o_mod, o_pow, c_eqi, c_nei, c_eqs, c_nes, c_lt, c_le, c_gt, c_ge, c_isn, c_notn, isNon_n, isNon_i, Mi.Env.set, List.set_cons_zero, List.set_cons_succ, List.getElem?_cons_zero, List.getElem?_cons_succ, Option.getD_some, List.length_cons, List.length_nil, stepF_nm, Nat.reduceAdd, Nat.reduceLeDiff, q_iof, it_tup, sz_tup, sz_rg]
    exact hQ _ _ rfl
theorem scr_at (ns : List Int) : At (scr ns) 0 (.frz (ns.map .int)) := ⟨Nat.one_pos, rfl⟩
theorem hrun (ns : List Int) : ∃ h', Mi.run τ.tab 12 f_law [.ref 0] (scr ns) = .ok (.bl true) h' := by
  obtain ⟨v, h', e, rfl⟩ := law_sp (n := 0) (scr_at ns)
  exact ⟨h', e⟩
end Lw
end

section
namespace Lw
open PySem PySem.Spec PyProof.Rows L2 Mi
-- CHECKS
theorem p_law : e_law.Pt f_law := by
  intro kV doc pm an cdv ct
  refine ⟨rfl, fun p hp us ws h1 h2 s => ?_⟩
  rcases List.mem_cons.mp hp with e | hp
  · subst e
    match us, ws, h1, h2 with | [u0], [], _, _ => exact .of_eq (by first | rfl | kernel_rfl)
  cases hp
theorem p_law_cell : e_law_cell.Pt f_law_cell := by
  intro kV doc pm an cdv ct
  refine ⟨rfl, fun p hp us ws h1 h2 s => ?_⟩
  rcases List.mem_cons.mp hp with e | hp
  · subst e
    match us, ws, h1, h2 with | [u0, u1], [], _, _ => exact .of_eq (by first | rfl | kernel_rfl)
  cases hp
theorem p_law_box : e_law_box.Pt f_law_box := by
  intro kV doc pm an cdv ct
  refine ⟨rfl, fun p hp us ws h1 h2 s => ?_⟩
  rcases List.mem_cons.mp hp with e | hp
  · subst e
    match us, ws, h1, h2 with | [u0], [], _, _ => exact .of_eq (by first | rfl | kernel_rfl)
  cases hp
theorem p_law_right : e_law_right.Pt f_law_right := by
  intro kV doc pm an cdv ct
  refine ⟨rfl, fun p hp us ws h1 h2 s => ?_⟩
  rcases List.mem_cons.mp hp with e | hp
  · subst e
    match us, ws, h1, h2 with | [u0], [], _, _ => exact .of_eq (by first | rfl | kernel_rfl)
  cases hp
theorem p_law_asked_right : e_law_asked_right.Pt f_law_asked_right := by
  intro kV doc pm an cdv ct
  refine ⟨rfl, fun p hp us ws h1 h2 s => ?_⟩
  rcases List.mem_cons.mp hp with e | hp
  · subst e
    match us, ws, h1, h2 with | [u0, u1, u2, u3], [], _, _ => exact .of_eq (by first | rfl | kernel_rfl)
  cases hp
theorem p_law_tiled : e_law_tiled.Pt f_law_tiled := by
  intro kV doc pm an cdv ct
  refine ⟨rfl, fun p hp us ws h1 h2 s => ?_⟩
  rcases List.mem_cons.mp hp with e | hp
  · subst e
    match us, ws, h1, h2 with | [u0, u1, u2], [], _, _ => exact .of_eq (by first | rfl | kernel_rfl)
  cases hp
theorem p_law_shortest : e_law_shortest.Pt f_law_shortest := by
  intro kV doc pm an cdv ct
  refine ⟨rfl, fun p hp us ws h1 h2 s => ?_⟩
  rcases List.mem_cons.mp hp with e | hp
  · subst e
    match us, ws, h1, h2 with | [u0, u1, u2], [], _, _ => exact .of_eq (by first | rfl | kernel_rfl)
  cases hp
theorem p_law_edge : e_law_edge.Pt f_law_edge := by
  intro kV doc pm an cdv ct
  refine ⟨rfl, fun p hp us ws h1 h2 s => ?_⟩
  rcases List.mem_cons.mp hp with e | hp
  · subst e
    match us, ws, h1, h2 with | [u0, u1, u2], [], _, _ => exact .of_eq (by first | rfl | kernel_rfl)
  cases hp
theorem p_law_step : e_law_step.Pt f_law_step := by
  intro kV doc pm an cdv ct
  refine ⟨rfl, fun p hp us ws h1 h2 s => ?_⟩
  rcases List.mem_cons.mp hp with e | hp
  · subst e
    match us, ws, h1, h2 with | [u0, u1], [], _, _ => exact .of_eq (by first | rfl | kernel_rfl)
  cases hp
theorem p_law_is_piece : e_law_is_piece.Pt f_law_is_piece := by
  intro kV doc pm an cdv ct
  refine ⟨rfl, fun p hp us ws h1 h2 s => ?_⟩
  rcases List.mem_cons.mp hp with e | hp
  · subst e
    match us, ws, h1, h2 with | [u0, u1], [], _, _ => exact .of_eq (by first | rfl | kernel_rfl)
  cases hp
theorem p_law_is_count : e_law_is_count.Pt f_law_is_count := by
  intro kV doc pm an cdv ct
  refine ⟨rfl, fun p hp us ws h1 h2 s => ?_⟩
  rcases List.mem_cons.mp hp with e | hp
  · subst e
    match us, ws, h1, h2 with | [u0], [], _, _ => exact .of_eq (by first | rfl | kernel_rfl)
  cases hp
theorem p_law_fits : e_law_fits.Pt f_law_fits := by
  intro kV doc pm an cdv ct
  refine ⟨rfl, fun p hp us ws h1 h2 s => ?_⟩
  rcases List.mem_cons.mp hp with e | hp
  · subst e
    match us, ws, h1, h2 with | [u0, u1, u2], [], _, _ => exact .of_eq (by first | rfl | kernel_rfl)
  cases hp
theorem p_law_grown : e_law_grown.Pt f_law_grown := by
  intro kV doc pm an cdv ct
  refine ⟨rfl, fun p hp us ws h1 h2 s => ?_⟩
  rcases List.mem_cons.mp hp with e | hp
  · subst e
    match us, ws, h1, h2 with | [u0], [], _, _ => exact .of_eq (by first | rfl | kernel_rfl)
  cases hp
theorem p_law_call : e_law_call.Pt f_law_call := by
  intro kV doc pm an cdv ct
  refine ⟨rfl, fun p hp us ws h1 h2 s => ?_⟩
  rcases List.mem_cons.mp hp with e | hp
  · subst e
    match us, ws, h1, h2 with | [u0, u1, u2], [], _, _ => exact .of_eq (by first | rfl | kernel_rfl)
  cases hp
theorem p_law_grow : e_law_grow.Pt f_law_grow := by
  intro kV doc pm an cdv ct
  refine ⟨rfl, fun p hp us ws h1 h2 s => ?_⟩
  rcases List.mem_cons.mp hp with e | hp
  · subst e
    match us, ws, h1, h2 with | [u0], [], _, _ => exact .of_eq (by first | rfl | kernel_rfl)
  cases hp
theorem p_Rules_pieces : e_Rules_pieces.Pt f_Rules_pieces := by
  intro kV doc pm an cdv ct
  refine ⟨rfl, fun p hp us ws h1 h2 s => ?_⟩
  rcases List.mem_cons.mp hp with e | hp
  · subst e
    match us, ws, h1, h2 with | [u0], [w0, w1, w2], _, _ => exact .of_eq (by first | rfl | kernel_rfl)
  rcases List.mem_cons.mp hp with e | hp
  · subst e
    match us, ws, h1, h2 with | [u0, u1, u2, u3], [], _, _ => exact .of_eq (by first | rfl | kernel_rfl)
  cases hp
theorem p_Rules_edge : e_Rules_edge.Pt f_Rules_edge := by
  intro kV doc pm an cdv ct
  refine ⟨rfl, fun p hp us ws h1 h2 s => ?_⟩
  rcases List.mem_cons.mp hp with e | hp
  · subst e
    match us, ws, h1, h2 with | [u0, u1, u2], [], _, _ => exact .of_eq (by first | rfl | kernel_rfl)
  cases hp
theorem p_check_time : e_check_time.Pt f_check_time := by
  intro kV doc pm an cdv ct
  refine ⟨rfl, fun p hp us ws h1 h2 s => ?_⟩
  rcases List.mem_cons.mp hp with e | hp
  · subst e
    match us, ws, h1, h2 with | [u0], [], _, _ => exact .of_eq (by first | rfl | kernel_rfl)
  cases hp
theorem p_is_count : e_is_count.Pt f_is_count := by
  intro kV doc pm an cdv ct
  refine ⟨rfl, fun p hp us ws h1 h2 s => ?_⟩
  rcases List.mem_cons.mp hp with e | hp
  · subst e
    match us, ws, h1, h2 with | [u0], [], _, _ => exact .of_eq (by first | rfl | kernel_rfl)
  cases hp
theorem p_is_integer : e_is_integer.Pt f_is_integer := by
  intro kV doc pm an cdv ct
  refine ⟨rfl, fun p hp us ws h1 h2 s => ?_⟩
  rcases List.mem_cons.mp hp with e | hp
  · subst e
    match us, ws, h1, h2 with | [u0], [], _, _ => exact .of_eq (by first | rfl | kernel_rfl)
  cases hp
theorem p_Rules_step : e_Rules_step.Pt f_Rules_step := by
  intro kV doc pm an cdv ct
  refine ⟨rfl, fun p hp us ws h1 h2 s => ?_⟩
  rcases List.mem_cons.mp hp with e | hp
  · subst e
    match us, ws, h1, h2 with | [u0, u1], [], _, _ => exact .of_eq (by first | rfl | kernel_rfl)
  cases hp
theorem p_Rules_check_grain : e_Rules_check_grain.Pt f_Rules_check_grain := by
  intro kV doc pm an cdv ct
  refine ⟨rfl, fun p hp us ws h1 h2 s => ?_⟩
  rcases List.mem_cons.mp hp with e | hp
  · subst e
    match us, ws, h1, h2 with | [u0, u1], [], _, _ => exact .of_eq (by first | rfl | kernel_rfl)
  cases hp
theorem p_Rules_keep : e_Rules_keep.Pt f_Rules_keep := by
  intro kV doc pm an cdv ct
  refine ⟨rfl, fun p hp us ws h1 h2 s => ?_⟩
  rcases List.mem_cons.mp hp with e | hp
  · subst e
    match us, ws, h1, h2 with | [u0, u1], [], _, _ => exact .of_eq (by first | rfl | kernel_rfl)
  cases hp
theorem p_Rules_teller : e_Rules_teller.Pt f_Rules_teller := by
  intro kV doc pm an cdv ct
  refine ⟨rfl, fun p hp us ws h1 h2 s => ?_⟩
  rcases List.mem_cons.mp hp with e | hp
  · subst e
    match us, ws, h1, h2 with | [u0, u1, u2, u3], [], _, _ => exact .of_eq (by first | rfl | kernel_rfl)
  cases hp
theorem p_Rules_stands : e_Rules_stands.Pt f_Rules_stands := by
  intro kV doc pm an cdv ct
  refine ⟨rfl, fun p hp us ws h1 h2 s => ?_⟩
  rcases List.mem_cons.mp hp with e | hp
  · subst e
    match us, ws, h1, h2 with | [u0, u1, u2, u3], [], _, _ => exact .of_eq (by first | rfl | kernel_rfl)
  cases hp
theorem p_Rules_fitting : e_Rules_fitting.Pt f_Rules_fitting := by
  intro kV doc pm an cdv ct
  refine ⟨rfl, fun p hp us ws h1 h2 s => ?_⟩
  rcases List.mem_cons.mp hp with e | hp
  · subst e
    match us, ws, h1, h2 with | [u0, u1, u2], [], _, _ => exact .of_eq (by first | rfl | kernel_rfl)
  cases hp
theorem p_check_window : e_check_window.Pt f_check_window := by
  intro kV doc pm an cdv ct
  refine ⟨rfl, fun p hp us ws h1 h2 s => ?_⟩
  rcases List.mem_cons.mp hp with e | hp
  · subst e
    match us, ws, h1, h2 with | [u0, u1], [], _, _ => exact .of_eq (by first | rfl | kernel_rfl)
  cases hp
theorem p_law_odd_asks : e_law_odd_asks.Pt f_law_odd_asks := by
  intro kV doc pm an cdv ct
  refine ⟨rfl, fun p hp us ws h1 h2 s => ?_⟩
  rcases List.mem_cons.mp hp with e | hp
  · subst e
    match us, ws, h1, h2 with | [u0, u1], [], _, _ => exact .of_eq (by first | rfl | kernel_rfl)
  cases hp
theorem p_law_asks : e_law_asks.Pt f_law_asks := by
  intro kV doc pm an cdv ct
  refine ⟨rfl, fun p hp us ws h1 h2 s => ?_⟩
  rcases List.mem_cons.mp hp with e | hp
  · subst e
    match us, ws, h1, h2 with | [u0, u1], [], _, _ => exact .of_eq (by first | rfl | kernel_rfl)
  cases hp
theorem p_law_take : e_law_take.Pt f_law_take := by
  intro kV doc pm an cdv ct
  refine ⟨rfl, fun p hp us ws h1 h2 s => ?_⟩
  rcases List.mem_cons.mp hp with e | hp
  · subst e
    match us, ws, h1, h2 with | [u0, u1], [], _, _ => exact .of_eq (by first | rfl | kernel_rfl)
  cases hp
theorem p_Rules_init : e_Rules_init.Pt f_Rules_init := by
  intro kV doc pm an cdv ct
  refine ⟨rfl, fun p hp us ws h1 h2 s => ?_⟩
  rcases List.mem_cons.mp hp with e | hp
  · subst e
    match us, ws, h1, h2 with | [u0, u1], [], _, _ => exact .of_eq (by first | rfl | kernel_rfl)
  cases hp
theorem p_are_rules : e_are_rules.Pt f_are_rules := by
  intro kV doc pm an cdv ct
  refine ⟨rfl, fun p hp us ws h1 h2 s => ?_⟩
  rcases List.mem_cons.mp hp with e | hp
  · subst e
    match us, ws, h1, h2 with | [u0], [], _, _ => exact .of_eq (by first | rfl | kernel_rfl)
  cases hp
theorem p_may_follow : e_may_follow.Pt f_may_follow := by
  intro kV doc pm an cdv ct
  refine ⟨rfl, fun p hp us ws h1 h2 s => ?_⟩
  rcases List.mem_cons.mp hp with e | hp
  · subst e
    match us, ws, h1, h2 with | [u0, u1], [], _, _ => exact .of_eq (by first | rfl | kernel_rfl)
  cases hp
theorem p_is_row : e_is_row.Pt f_is_row := by
  intro kV doc pm an cdv ct
  refine ⟨rfl, fun p hp us ws h1 h2 s => ?_⟩
  rcases List.mem_cons.mp hp with e | hp
  · subst e
    match us, ws, h1, h2 with | [u0, u1], [], _, _ => exact .of_eq (by first | rfl | kernel_rfl)
  cases hp
theorem p_is_list : e_is_list.Pt f_is_list := by
  intro kV doc pm an cdv ct
  refine ⟨rfl, fun p hp us ws h1 h2 s => ?_⟩
  rcases List.mem_cons.mp hp with e | hp
  · subst e
    match us, ws, h1, h2 with | [u0], [], _, _ => exact .of_eq (by first | rfl | kernel_rfl)
  cases hp
theorem p_law_rows : e_law_rows.Pt f_law_rows := by
  intro kV doc pm an cdv ct
  refine ⟨rfl, fun p hp us ws h1 h2 s => ?_⟩
  rcases List.mem_cons.mp hp with e | hp
  · subst e
    match us, ws, h1, h2 with | [u0], [], _, _ => exact .of_eq (by first | rfl | kernel_rfl)
  cases hp
theorem p_Gone_init : e_Gone_init.Bn := by
  intro kV doc pm an cdv ct us hl
  match us, hl with | [u0, u1, u2], _ => first | rfl | kernel_rfl
theorem p_InvalidRules_init : e_InvalidRules_init.Bn := by
  intro kV doc pm an cdv ct us hl
  match us, hl with | [u0, u1], _ => first | rfl | kernel_rfl
theorem p_InvalidTime_init : e_InvalidTime_init.Bn := by
  intro kV doc pm an cdv ct us hl
  match us, hl with | [u0, u1], _ => first | rfl | kernel_rfl
theorem p_InvalidWindow_init : e_InvalidWindow_init.Bn := by
  intro kV doc pm an cdv ct us hl
  match us, hl with | [u0, u1], _ => first | rfl | kernel_rfl
theorem p_NoGrain_init : e_NoGrain_init.Bn := by
  intro kV doc pm an cdv ct us hl
  match us, hl with | [u0, u1], _ => first | rfl | kernel_rfl
theorem b1 : ∀ f ∈ τ.fns, f.2.1.Pt f.2.2 := by
  intro x hx
  rcases List.mem_cons.mp hx with e | hx
  · subst e; exact p_law
  rcases List.mem_cons.mp hx with e | hx
  · subst e; exact p_law_cell
  rcases List.mem_cons.mp hx with e | hx
  · subst e; exact p_law_box
  rcases List.mem_cons.mp hx with e | hx
  · subst e; exact p_law_right
  rcases List.mem_cons.mp hx with e | hx
  · subst e; exact p_law_asked_right
  rcases List.mem_cons.mp hx with e | hx
  · subst e; exact p_law_tiled
  rcases List.mem_cons.mp hx with e | hx
  · subst e; exact p_law_shortest
  rcases List.mem_cons.mp hx with e | hx
  · subst e; exact p_law_edge
  rcases List.mem_cons.mp hx with e | hx
  · subst e; exact p_law_step
  rcases List.mem_cons.mp hx with e | hx
  · subst e; exact p_law_is_piece
  rcases List.mem_cons.mp hx with e | hx
  · subst e; exact p_law_is_count
  rcases List.mem_cons.mp hx with e | hx
  · subst e; exact p_law_fits
  rcases List.mem_cons.mp hx with e | hx
  · subst e; exact p_law_grown
  rcases List.mem_cons.mp hx with e | hx
  · subst e; exact p_law_call
  rcases List.mem_cons.mp hx with e | hx
  · subst e; exact p_law_grow
  rcases List.mem_cons.mp hx with e | hx
  · subst e; exact p_check_time
  rcases List.mem_cons.mp hx with e | hx
  · subst e; exact p_is_count
  rcases List.mem_cons.mp hx with e | hx
  · subst e; exact p_is_integer
  rcases List.mem_cons.mp hx with e | hx
  · subst e; exact p_check_window
  rcases List.mem_cons.mp hx with e | hx
  · subst e; exact p_law_odd_asks
  rcases List.mem_cons.mp hx with e | hx
  · subst e; exact p_law_asks
  rcases List.mem_cons.mp hx with e | hx
  · subst e; exact p_law_take
  rcases List.mem_cons.mp hx with e | hx
  · subst e; exact p_are_rules
  rcases List.mem_cons.mp hx with e | hx
  · subst e; exact p_may_follow
  rcases List.mem_cons.mp hx with e | hx
  · subst e; exact p_is_row
  rcases List.mem_cons.mp hx with e | hx
  · subst e; exact p_is_list
  rcases List.mem_cons.mp hx with e | hx
  · subst e; exact p_law_rows
  cases hx
theorem b2 : ∀ f ∈ τ.mes, f.2.2.1.Pt f.2.2.2 := by
  intro x hx
  rcases List.mem_cons.mp hx with e | hx
  · subst e; exact p_Rules_pieces
  rcases List.mem_cons.mp hx with e | hx
  · subst e; exact p_Rules_edge
  rcases List.mem_cons.mp hx with e | hx
  · subst e; exact p_Rules_step
  rcases List.mem_cons.mp hx with e | hx
  · subst e; exact p_Rules_check_grain
  rcases List.mem_cons.mp hx with e | hx
  · subst e; exact p_Rules_keep
  rcases List.mem_cons.mp hx with e | hx
  · subst e; exact p_Rules_teller
  rcases List.mem_cons.mp hx with e | hx
  · subst e; exact p_Rules_stands
  rcases List.mem_cons.mp hx with e | hx
  · subst e; exact p_Rules_fitting
  rcases List.mem_cons.mp hx with e | hx
  · subst e; exact p_Rules_init
  cases hx
theorem b3 : ∀ f ∈ τ.xs, f.e.Bn := by
  intro x hx
  rcases List.mem_cons.mp hx with e | hx
  · subst e; exact p_Gone_init
  rcases List.mem_cons.mp hx with e | hx
  · subst e; exact p_InvalidRules_init
  rcases List.mem_cons.mp hx with e | hx
  · subst e; exact p_InvalidTime_init
  rcases List.mem_cons.mp hx with e | hx
  · subst e; exact p_InvalidWindow_init
  rcases List.mem_cons.mp hx with e | hx
  · subst e; exact p_NoGrain_init
  cases hx
theorem ckAll (c : CallF) : τ.ckAll c = true := by kernel_rfl
theorem stat : τ.stat = true := by kernel_rfl
def nm0 : List PySem.Str := ["_wall", "GrainError", "InvalidRules", "InvalidWindow", "InvalidTime", "NoGrain", "Gone", "is_list", "is_integer", "is_count", "MOST_GRAINS", "is_row", "may_follow", "are_rules", "check_time", "check_window", "Rules", "_law_cell", "_law_box", "_law_take", "_law_rows", "_law_is_count", "_law_step", "_law_edge", "_law_fits", "_law_asks", "_law_odd_asks", "_law_grown", "_law_grow", "_law_call"]
def nm1 : List PySem.Str := ["_law_shortest", "_law_is_piece", "_law_tiled", "_law_asked_right", "_law_right"]
def names : List PySem.Str := nm0 ++ nm1
abbrev R : PySem.W.OpenRow := PySem.W.OpenLaw.row PySem.Challenge.rw_everygrain_k21_pieces_of_windows
abbrev hk : PySem.W.Hook := hookM 4 τ
def ob (s : PySem.W.SharedT) : He.AlD × Bool := seenB 4 τ (HandSHeadRun.getT s)
theorem ob_eq (s : PySem.W.SharedT) : ob s = hk.obs s.abs := seenB_eq (HandSHeadRun.getT_eq s)
theorem run (w : World) : HandSHeadRun.RunEq R (PySem.W.view R.prog [39]) hk ob 8000 names w := by
  intro os
  kernel_rfl
def fLaw : FnI := f_law
theorem holds_of (nn : Nat) (hr : RM (lev nn) callerA) (hrun : ∀ ns : List Int, ns.length ≤ 63 → (∀ z ∈ ns, Builtin.Int.intBits z ≤ 1048576) → ∃ h', Mi.run τ.tab nn fLaw [.ref 0] (scr ns) = .ok (.bl true) h') : PySem.Challenge.rw_everygrain_k21_pieces_of_windows.Holds := by
  w_on; o_law
  refine HandSHeadRun.head_any (r := PySem.W.OpenLaw.row PySem.Challenge.rw_everygrain_k21_pieces_of_windows) (q := PySem.W.view (PySem.W.OpenLaw.row PySem.Challenge.rw_everygrain_k21_pieces_of_windows).prog [39]) (H := hk) (ob := ob) (M := 8000) (loose := names) (d := HandSHeadRun.topDef (PySem.W.OpenLaw.row PySem.Challenge.rw_everygrain_k21_pieces_of_windows).prog 39) (kwd := []) ob_eq
    (by kernel_rfl) (fun s => by kernel_rfl) run (by kernel_rfl) (by kernel_rfl) (by kernel_rfl) (by rfl) (by first | assumption | decide +kernel) (by decide +kernel) ⟨rfl, rfl, rfl, rfl, rfl, by decide +kernel⟩ ?hw ?hc
  case hw => w_witness2
  case hc =>
    refine walk_ofM (l := PySem.Challenge.rw_everygrain_k21_pieces_of_windows) (n := 63) (nn := nn) (T := τ.tab) (fi := fLaw) rfl (by decide) (by kernel_rfl) hr (by decide +kernel) rfl ?_ hrun
    intro w mg fa h Y G hmg0
    obtain ⟨K, KX, c, cx⟩ := Y
    have hmg : mg ("law" : PySem.Str) = some (.ref fa) := by
      have e : (HandSHeadRun.topDef (PySem.W.OpenLaw.row PySem.Challenge.rw_everygrain_k21_pieces_of_windows).prog 39).name = ("law" : PySem.Str) := by kernel_rfl
      rw [← e]
      exact hmg0
    have tx : ∀ base : Heap, K.In base → base.Ns mainGlobals mg → TextOk τ.tab (He.ga K) (PySem.Challenge.rw_everygrain_k21_pieces_of_windows).prog w K mg base ∧ HotAll τ.tab (He.ga K) (PySem.Challenge.rw_everygrain_k21_pieces_of_windows).prog w K mg base := fun base hK hG => ⟨text_ok c cx (ckAll _) stat ⟨b1, b2, b3⟩ hK hG, hot_all (T0 := τ.tab0) (text_ok c cx (ckAll _) stat ⟨b1, b2, b3⟩ hK hG) rfl rfl rfl rfl⟩
    obtain ⟨f, e1, _, D⟩ := (tx h KX G).1.fn "law" fLaw (by kernel_rfl)
    rw [hmg] at e1
    cases e1
    exact ⟨K, He.ga K, KX, D, tx⟩
end Lw
end

section
namespace Lw
open PySem PySem.Spec PyProof.Rows L2 Mi
theorem room : RM (lev 12) callerA := ⟨rfl, by decide, by decide, rfl⟩
theorem done : PySem.Challenge.rw_everygrain_k21_pieces_of_windows.Holds := holds_of 12 room fun ns _ _ => hrun ns
end Lw
end

theorem PySem.Challenge.cw_everygrain_k21_pieces_of_windows_holds : PySem.Challenge.rw_everygrain_k21_pieces_of_windows.Holds := by
  exact Lw.done
