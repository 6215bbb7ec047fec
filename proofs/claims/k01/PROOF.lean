import PyProof.Rows.All
import Wide.All
import OpenK.AllK
import Wide.FinOn
import HandS.ForMost
import HandS.Exc
import HandS.WordsExc
import HandS.Defaults
import HandS.TupAny
import HandS.TupMul
import HandS.IsInst
import PyProof.EqAt
import PyProof.EqKinds
import PyProof.NeKinds
import HandS.Conv
import HandS.ListEq
import HandS.DictEq
import HandS.MakeKw
import HandS.OwnEq
import HandS.More
import HandS.ExcOwn
import HandS.Set
import HandS.SetFor
import HandS.SetBool
import HandS.Strs
import KE.KDictList
import HandS.HeadHook1
import HandS.HeadHook2
import HandS.Base
import HandS.Call
import HandS.Ends
import HandS.Words
import HandS.Head0
import HandS.Head1
import HandS.Head2
import HandS.HeadEnd
import HandS.MakeKwOnly
import PySem.Challenge.RW_marketden_k01_whole_worlds
section
set_option Elab.async false
set_option linter.all false
set_option maxRecDepth 100000
/-! LDA: logical values, logical heap, the simulation -/
namespace LD
open PySem L2

/-- logical values: texts are code points, tuples are values, `frl` is a list that is only read, `ktu` a tuple of the written part, `ref` a place of the logical heap -/
inductive LV where
  | non | bl (b : Bool) | int (i : Int) | str (x : List Nat) | tup (xs : List LV) | frl (xs : List LV) | ktu (xs : List LV) | ref (n : Nat)

/-- logical objects: a list, a dict (keys ints and texts | tuples of these), the same while a loop walks it, an instance -/
inductive LO where
  | lst (xs : List LV) | dK (kvs : List (LV × LV)) | dT (kvs : List (LV × LV)) | fK (kvs : List (LV × LV)) | fT (kvs : List (LV × LV)) | ins (c : Nat) (fs : List LV)

abbrev LH := List LO

/-- what an evaluation comes to -/
inductive Res (α : Type) where
  | ok (a : α) (h : LH) | exc (c : Nat) (p : Option LV) (h : LH) | bad

def Res.bind {α β : Type} : Res α → (α → LH → Res β) → Res β
  | .ok a h, k => k a h
  | .exc c p h, _ => .exc c p h
  | .bad, _ => .bad

def sOf (x : List Nat) : Str := ⟨x.toArray⟩

mutual
def VR (K : PySem.W.Frag) (φ : Nat → Addr) (n : Nat) (H : Hp) : LV → V → Prop
  | .non, v => v = .non
  | .bl b, v => v = .bl b
  | .int i, v => v = .int i
  | .str x, v => v = .str (sOf x)
  | .tup xs, v => ∃ p ys, v = .ref p ∧ H p = some (.tup ys) ∧ VRs K φ n H xs ys
  | .ktu xs, v => ∃ p ys, v = .ref p ∧ (∃ (o : Obj) (its : Array Value) (m : Nat), K.lookup p = some o ∧ o.cls = .type "tuple" ∧ o.data = .seq its m ∧ its.size ≤ sizeLine ∧ Vals ys its.toList) ∧ VRs K φ n H xs ys
  | .frl xs, v => ∃ p ys, v = .ref p ∧ ((∃ o, H p = some (.frz o (.lst ys))) ∨ ∃ (o : Obj) (its : Array Value) (m : Nat), K.lookup p = some o ∧ o.cls = .type "list" ∧ o.dict = none ∧ o.data = .seq its m ∧ its.size ≤ sizeLine ∧ Vals ys its.toList) ∧ VRs K φ n H xs ys
  | .ref i, v => i < n ∧ v = .ref (φ i)
def VRs (K : PySem.W.Frag) (φ : Nat → Addr) (n : Nat) (H : Hp) : List LV → List V → Prop
  | [], ys => ys = []
  | x :: xs, ys => ∃ y zs, ys = y :: zs ∧ VR K φ n H x y ∧ VRs K φ n H xs zs
end

/-- a key of a dict -/
def keyOf : LV → Option Key
  | .int i => some (.inl i)
  | .str x => some (.inr (sOf x))
  | _ => none
def keysOf : List LV → Option (List Key)
  | [] => some []
  | x :: xs => match keyOf x, keysOf xs with
    | some k, some ks => some (k :: ks)
    | _, _ => none
def tkeyOf : LV → Option (List Key)
  | .tup xs => keysOf xs
  | _ => none
def KRs {κ : Type} (ko : LV → Option κ) (K : PySem.W.Frag) (φ : Nat → Addr) (n : Nat) (H : Hp) : List (LV × LV) → List (κ × V) → Prop
  | [], ys => ys = []
  | (k, x) :: xs, ys => ∃ k' y zs, ys = (k', y) :: zs ∧ ko k = some k' ∧ VR K φ n H x y ∧ KRs ko K φ n H xs zs

/-- the classes: where they stand, their instances' fields in their turn; where the exceptions' classes stand -/
structure Cl where
  cA : Nat → Addr
  cF : Nat → List Str
  xA : Nat → Addr

def OR (C : Cl) (K : PySem.W.Frag) (φ : Nat → Addr) (n : Nat) (H : Hp) (a : Addr) : LO → Prop
  | .lst xs => ∃ ys, H a = some (.lst ys) ∧ VRs K φ n H xs ys
  | .dK kvs => ∃ ys, H a = some (.dK ys) ∧ KRs keyOf K φ n H kvs ys
  | .dT kvs => ∃ ys, H a = some (.dT ys) ∧ KRs tkeyOf K φ n H kvs ys
  | .fK kvs => ∃ o ys, H a = some (.frz o (.dK ys)) ∧ KRs keyOf K φ n H kvs ys
  | .fT kvs => ∃ o ys, H a = some (.frz o (.dT ys)) ∧ KRs tkeyOf K φ n H kvs ys
  | .ins c fs => fs.length ≤ (C.cF c).length ∧ ∃ dx ys, H a = some (.ins (C.cA c) dx (((C.cF c).take fs.length).zip ys)) ∧ VRs K φ n H fs ys

structure Sim (C : Cl) (K : PySem.W.Frag) (φ : Nat → Addr) (h : LH) (H : Hp) : Prop where
  inj : ∀ i j, i < h.length → j < h.length → φ i = φ j → i = j
  obj : ∀ i o, h[i]? = some o → OR C K φ h.length H (φ i) o

structure Grow (φ : Nat → Addr) (n : Nat) (H : Hp) (φ' : Nat → Addr) (n' : Nat) (H' : Hp) : Prop where
  le : n ≤ n'
  same : ∀ i, i < n → φ' i = φ i
  keep : ∀ p o, H p = some o → (∀ i, i < n → φ i ≠ p) → H' p = some o
  new : ∀ i, n ≤ i → i < n' → H (φ' i) = none
  frz : ∀ p o u, H p = some (.frz o u) → H' p = some (.frz o u)

/-- the object at a place is no tuple and no read-only list -/
def NotVal (H : Hp) (a : Addr) : Prop := ∃ o, H a = some o ∧ (∀ xs, o ≠ .tup xs) ∧ (∀ ob u, o = .frz ob u → (∀ xs, u ≠ .tup xs) ∧ (∀ xs, u ≠ .lst xs))

section
variable {C : Cl} {K : PySem.W.Frag} {φ φ' φ'' : Nat → Addr} {n n' n'' : Nat} {H H' H'' : Hp} {h h' h'' : LH}

theorem OR.notVal {a : Addr} {o : LO} (r : OR C K φ n H a o) : NotVal H a := by
  cases o with
  | lst xs => obtain ⟨ys, e, _⟩ := r; exact ⟨_, e, (fun _ z => by cases z), (fun _ _ z => by cases z)⟩
  | dK xs => obtain ⟨ys, e, _⟩ := r; exact ⟨_, e, (fun _ z => by cases z), (fun _ _ z => by cases z)⟩
  | dT xs => obtain ⟨ys, e, _⟩ := r; exact ⟨_, e, (fun _ z => by cases z), (fun _ _ z => by cases z)⟩
  | fK xs => obtain ⟨ob, ys, e, _⟩ := r; exact ⟨_, e, (fun _ z => by cases z), (fun _ _ z => by cases z; exact ⟨(fun _ z => by cases z), (fun _ z => by cases z)⟩)⟩
  | fT xs => obtain ⟨ob, ys, e, _⟩ := r; exact ⟨_, e, (fun _ z => by cases z), (fun _ _ z => by cases z; exact ⟨(fun _ z => by cases z), (fun _ z => by cases z)⟩)⟩
  | ins c fs => obtain ⟨_, dx, ys, e, _⟩ := r; exact ⟨_, e, (fun _ z => by cases z), (fun _ _ z => by cases z)⟩

theorem Sim.at_ (S : Sim C K φ h H) {i : Nat} (hi : i < h.length) : NotVal H (φ i) :=
  (S.obj i h[i] (by simp [hi])).notVal

/-- what a growth keeps: values -/
structure Carry (φ : Nat → Addr) (n : Nat) (H : Hp) (φ' : Nat → Addr) (n' : Nat) (H' : Hp) : Prop where
  le : n ≤ n'
  same : ∀ i, i < n → φ' i = φ i
  tup : ∀ p xs, H p = some (.tup xs) → H' p = some (.tup xs)
  frl : ∀ p o xs, H p = some (.frz o (.lst xs)) → H' p = some (.frz o (.lst xs))

theorem Grow.carry (g : Grow φ n H φ' n' H') (hv : ∀ i, i < n → NotVal H (φ i)) : Carry φ n H φ' n' H' := by
  refine ⟨g.le, g.same, fun p xs e => g.keep p _ e fun i hi z => ?_, fun p o xs e => g.keep p _ e fun i hi z => ?_⟩
  · obtain ⟨ob, e2, h1, _⟩ := hv i hi
    rw [z, e] at e2; cases e2; exact h1 _ rfl
  · obtain ⟨ob, e2, _, h2⟩ := hv i hi
    rw [z, e] at e2; cases e2; exact (h2 _ _ rfl).2 _ rfl

mutual
theorem VR.carry (c : Carry φ n H φ' n' H') : ∀ {x : LV} {v : V}, VR K φ n H x v → VR K φ' n' H' x v
  | .non, v, r => by unfold VR at r ⊢; exact r
  | .bl b, v, r => by unfold VR at r ⊢; exact r
  | .int i, v, r => by unfold VR at r ⊢; exact r
  | .str x, v, r => by unfold VR at r ⊢; exact r
  | .tup xs, v, r => by
    unfold VR at r ⊢
    obtain ⟨p, ys, e, q, rs⟩ := r
    exact ⟨p, ys, e, c.tup p ys q, VRs.carry c rs⟩
  | .ktu xs, v, r => by
    unfold VR at r ⊢
    obtain ⟨p, ys, e, q, rs⟩ := r
    exact ⟨p, ys, e, q, VRs.carry c rs⟩
  | .frl xs, v, r => by
    unfold VR at r ⊢
    obtain ⟨p, ys, e, q, rs⟩ := r
    refine ⟨p, ys, e, ?_, VRs.carry c rs⟩
    rcases q with ⟨o, q⟩ | q
    · exact .inl ⟨o, c.frl p o ys q⟩
    · exact .inr q
  | .ref i, v, r => by
    unfold VR at r ⊢
    obtain ⟨hi, e⟩ := r
    exact ⟨Nat.lt_of_lt_of_le hi c.le, by rw [c.same i hi]; exact e⟩
theorem VRs.carry (c : Carry φ n H φ' n' H') : ∀ {xs : List LV} {vs : List V}, VRs K φ n H xs vs → VRs K φ' n' H' xs vs
  | [], vs, r => by unfold VRs at r ⊢; exact r
  | x :: xs, vs, r => by
    unfold VRs at r ⊢
    obtain ⟨y, zs, e, r1, r2⟩ := r
    exact ⟨y, zs, e, VR.carry c r1, VRs.carry c r2⟩
end

theorem KRs.carry {κ : Type} {ko : LV → Option κ} (c : Carry φ n H φ' n' H') : ∀ {xs : List (LV × LV)} {vs : List (κ × V)}, KRs ko K φ n H xs vs → KRs ko K φ' n' H' xs vs
  | [], vs, r => by unfold KRs at r ⊢; exact r
  | (k, x) :: xs, vs, r => by
    unfold KRs at r ⊢
    obtain ⟨k', y, zs, e, r1, r2, r3⟩ := r
    exact ⟨k', y, zs, e, r1, VR.carry c r2, KRs.carry c r3⟩

/-- an object that stands as it stood -/
theorem OR.carry (c : Carry φ n H φ' n' H') {a : Addr} (e : ∀ o, H a = some o → H' a = some o) {o : LO} (r : OR C K φ n H a o) : OR C K φ' n' H' a o := by
  cases o with
  | lst xs => obtain ⟨ys, q, r⟩ := r; exact ⟨ys, e _ q, r.carry c⟩
  | dK xs => obtain ⟨ys, q, r⟩ := r; exact ⟨ys, e _ q, r.carry c⟩
  | dT xs => obtain ⟨ys, q, r⟩ := r; exact ⟨ys, e _ q, r.carry c⟩
  | fK xs => obtain ⟨ob, ys, q, r⟩ := r; exact ⟨ob, ys, e _ q, r.carry c⟩
  | fT xs => obtain ⟨ob, ys, q, r⟩ := r; exact ⟨ob, ys, e _ q, r.carry c⟩
  | ins k fs => obtain ⟨z, dx, ys, q, r⟩ := r; exact ⟨z, dx, ys, e _ q, r.carry c⟩

/-- one run leads from here to there -/
structure Step (C : Cl) (K : PySem.W.Frag) (φ : Nat → Addr) (h : LH) (H : Hp) (φ' : Nat → Addr) (h' : LH) (H' : Hp) : Prop where
  grow : Grow φ h.length H φ' h'.length H'
  sim : Sim C K φ' h' H'

theorem Step.refl (S : Sim C K φ h H) : Step C K φ h H φ h H :=
  ⟨⟨Nat.le_refl _, fun _ _ => rfl, fun _ _ e _ => e, fun i h1 h2 => absurd h1 (Nat.not_le.mpr h2), fun _ _ _ e => e⟩, S⟩

theorem NotVal.some {a : Addr} (n : NotVal H a) : ∃ o, H a = some o := let ⟨o, e, _⟩ := n; ⟨o, e⟩

theorem Step.trans (S : Sim C K φ h H) (a : Step C K φ h H φ' h' H') (b : Step C K φ' h' H' φ'' h'' H'') : Step C K φ h H φ'' h'' H'' := by
  refine ⟨⟨Nat.le_trans a.grow.le b.grow.le, fun i hi => ?_, fun p o e hn => ?_, fun i h1 h2 => ?_, fun p o u e => b.grow.frz p o u (a.grow.frz p o u e)⟩, b.sim⟩
  · rw [b.grow.same i (Nat.lt_of_lt_of_le hi a.grow.le), a.grow.same i hi]
  · refine b.grow.keep p o (a.grow.keep p o e hn) fun i hi z => ?_
    by_cases hl : i < h.length
    · rw [a.grow.same i hl] at z
      exact hn i hl z
    · have q := a.grow.new i (Nat.le_of_not_lt hl) hi
      rw [z, e] at q; cases q
  · by_cases hl : i < h'.length
    · rw [b.grow.same i hl]; exact a.grow.new i h1 hl
    · have q := b.grow.new i (Nat.le_of_not_lt hl) h2
      cases e : H (φ'' i) with
      | none => rfl
      | some o =>
        by_cases hx : ∃ j, j < h.length ∧ φ j = φ'' i
        · obtain ⟨j, hj, ej⟩ := hx
          obtain ⟨o2, e2⟩ := (a.sim.at_ (Nat.lt_of_lt_of_le hj a.grow.le)).some
          rw [a.grow.same j hj, ej, q] at e2; cases e2
        · have := a.grow.keep _ o e fun j hj z => hx ⟨j, hj, z⟩
          rw [q] at this; cases this

theorem Step.carry (S : Sim C K φ h H) (a : Step C K φ h H φ' h' H') : Carry φ h.length H φ' h'.length H' := a.grow.carry fun _ hi => S.at_ hi

/-- the physical heap alone has grown: something new that the logical one does not tell (a tuple, a list that is dropped) -/
theorem Step.extra (S : Sim C K φ h H) {p : Addr} {o : HO} (hp : H p = none) : Step C K φ h H φ h (upd H p o) := by
  have g : Grow φ h.length H φ h.length (upd H p o) := ⟨Nat.le_refl _, fun _ _ => rfl, fun q u e _ => by rw [upd_ne (ne_of_none e hp)]; exact e, fun i h1 h2 => absurd h1 (Nat.not_le.mpr h2), fun q o u e => by rw [upd_ne (ne_of_none e hp)]; exact e⟩
  refine ⟨g, S.inj, fun i u e => (S.obj i u e).carry (g.carry fun _ hi => S.at_ hi) fun o q => ?_⟩
  rw [upd_ne (ne_of_none q hp)]; exact q

/-- something that the logical heap does not tell is changed (a list under way) -/
theorem Step.touch (S : Sim C K φ h H) {p : Addr} {u o : HO} (hp : H p = some u) (hu : (∀ xs, u ≠ .tup xs) ∧ ∀ ob x, u ≠ .frz ob x) (hn : ∀ i, i < h.length → φ i ≠ p) : Sim C K φ h (upd H p o) ∧ Carry φ h.length H φ h.length (upd H p o) := by
  have c : Carry φ h.length H φ h.length (upd H p o) := by
    refine ⟨Nat.le_refl _, fun _ _ => rfl, fun q xs e => ?_, fun q ob xs e => ?_⟩
    · rw [upd_ne (fun z => by rw [z, hp] at e; cases e; exact hu.1 _ rfl)]; exact e
    · rw [upd_ne (fun z => by rw [z, hp] at e; cases e; exact hu.2 _ _ rfl)]; exact e
  refine ⟨⟨S.inj, fun i w e => (S.obj i w e).carry c fun o q => ?_⟩, c⟩
  have hi : i < h.length := (List.getElem?_eq_some_iff.mp e).1
  rw [upd_ne (hn i hi)]; exact q

/-- a new object, told by both heaps -/
def ext (φ : Nat → Addr) (n : Nat) (p : Addr) : Nat → Addr := fun i => if i = n then p else φ i
theorem Step.alloc (S : Sim C K φ h H) {p : Addr} {o : HO} {lo : LO} (hp : H p = none)
    (ho : ∀ φ' H', Carry φ h.length H φ' (h.length + 1) H' → H' p = some o → φ' h.length = p → OR C K φ' (h.length + 1) H' p lo) :
    Step C K φ h H (ext φ h.length p) (h ++ [lo]) (upd H p o) ∧ ext φ h.length p h.length = p := by
  have en : ext φ h.length p h.length = p := by unfold ext; rw [if_pos rfl]
  have eo : ∀ i, i < h.length → ext φ h.length p i = φ i := fun i hi => by unfold ext; rw [if_neg (Nat.ne_of_lt hi)]
  have g : Grow φ h.length H (ext φ h.length p) (h.length + 1) (upd H p o) :=
    ⟨Nat.le_succ _, eo, fun q u e _ => by rw [upd_ne (ne_of_none e hp)]; exact e, fun i h1 h2 => by
      have : i = h.length := by omega
      subst this; rw [en]; exact hp, fun q o u e => by rw [upd_ne (ne_of_none e hp)]; exact e⟩
  have c := g.carry fun _ hi => S.at_ hi
  have hne : ∀ i, i < h.length → φ i ≠ p := fun i hi z => by
    obtain ⟨u, e⟩ := (S.at_ hi).some
    rw [z, hp] at e; cases e
  have hl : (h ++ [lo]).length = h.length + 1 := by simp
  refine ⟨⟨by rw [hl]; exact g, ⟨fun i j hi hj e => ?_, fun i u e => ?_⟩⟩, en⟩
  · rw [hl] at hi hj
    by_cases h1 : i = h.length
    · by_cases h2 : j = h.length
      · rw [h1, h2]
      · rw [h1, en, eo j (by omega)] at e
        exact absurd e.symm (hne j (by omega))
    · by_cases h2 : j = h.length
      · rw [h2, en, eo i (by omega)] at e
        exact absurd e (hne i (by omega))
      · rw [eo i (by omega), eo j (by omega)] at e
        exact S.inj i j (by omega) (by omega) e
  · rw [hl]
    by_cases h1 : i < h.length
    · rw [List.getElem?_append_left h1] at e
      rw [eo i h1]
      exact (S.obj i u e).carry c fun o q => by rw [upd_ne (ne_of_none q hp)]; exact q
    · have h2 : i = h.length := by
        have := (List.getElem?_eq_some_iff.mp e).1
        simp at this; omega
      subst h2
      rw [List.getElem?_append_right (Nat.le_refl _)] at e
      simp at e
      subst e
      rw [en]
      exact ho _ _ c upd_same en

/-- an object of both heaps is changed -/
theorem Step.write (S : Sim C K φ h H) {i : Nat} {o : HO} {lo : LO} (hi : i < h.length) (hz : ∀ ob u, H (φ i) ≠ some (.frz ob u))
    (ho : ∀ H', Carry φ h.length H φ h.length H' → H' (φ i) = some o → OR C K φ h.length H' (φ i) lo) :
    Step C K φ h H φ (h.set i lo) (upd H (φ i) o) := by
  have g : Grow φ h.length H φ h.length (upd H (φ i) o) := ⟨Nat.le_refl _, fun _ _ => rfl, fun q u e hn => by rw [upd_ne (fun z => hn i hi z.symm)]; exact e, fun i h1 h2 => absurd h1 (Nat.not_le.mpr h2), fun q ob u e => by rw [upd_ne (fun z => hz ob u (by rw [← z]; exact e))]; exact e⟩
  have c := g.carry fun _ hi => S.at_ hi
  have hl : (h.set i lo).length = h.length := List.length_set
  refine ⟨by rw [hl]; exact g, ⟨fun a b ha hb e => S.inj a b (by rw [hl] at ha; exact ha) (by rw [hl] at hb; exact hb) e, fun j u e => ?_⟩⟩
  rw [hl]
  have hj : j < h.length := by
    have := (List.getElem?_eq_some_iff.mp e).1
    rw [hl] at this; exact this
  by_cases hji : j = i
  · subst hji
    rw [List.getElem?_set_self hi] at e
    cases e
    exact ho _ c upd_same
  · rw [List.getElem?_set_ne (Ne.symm hji)] at e
    refine (S.obj j u e).carry c fun o q => ?_
    rw [upd_ne (fun z => hji (S.inj j i hj hi z))]; exact q
end
end LD
end
section
set_option Elab.async false
set_option linter.all false
set_option maxRecDepth 100000
/-! LDB: what a result promises; readings made of logical runs -/
namespace LD
open PySem L2

abbrev LSt := List (Option LV)

/-- the payload of an exception -/
def ExR (K : PySem.W.Frag) (φ : Nat → Addr) (n : Nat) (H : Hp) : Option LV → Option Addr → Prop
  | none, d => d = none
  | some v, d => ∃ a v', d = some a ∧ H a = some (.xd [("row", v')]) ∧ VR K φ n H v v'

abbrev RL (α β : Type) := (Nat → Addr) → Nat → Hp → α → β → Prop

/-- what is wanted behind a run that comes to r -/
def RSg (C : Cl) (K : PySem.W.Frag) {α β : Type} (R : RL α β) (E : XK) (φ : Nat → Addr) (h : LH) (H : Hp) (r : Res α) (Q : β → Hp → Prop) : Prop :=
  match r with
  | .ok a h' => ∀ φ' H' b, Step C K φ h H φ' h' H' → R φ' h'.length H' a b → Q b H'
  | .exc c p h' => ∀ φ' H' d, Step C K φ h H φ' h' H' → ExR K φ' h'.length H' p d → E (.ref (C.xA c)) d H'
  | .bad => False

section
variable {C : Cl} {K : PySem.W.Frag} {α β γ δ : Type} {R : RL α β} {R' : RL γ δ} {E : XK} {φ φ' : Nat → Addr} {h h' : LH} {H H' : Hp}

theorem RSg.mono {r : Res α} {Q Q' : β → Hp → Prop} (x : RSg C K R E φ h H r Q) (q : ∀ b H', Q b H' → Q' b H') : RSg C K R E φ h H r Q' := by
  cases r with
  | ok a h' => exact fun φ' H' b s t => q _ _ (x φ' H' b s t)
  | exc c p h' => exact x
  | bad => exact x
theorem RSg.monoE {r : Res α} {E' : XK} {Q : β → Hp → Prop} (x : RSg C K R E φ h H r Q) (q : ∀ c d H', E c d H' → E' c d H') : RSg C K R E' φ h H r Q := by
  cases r with
  | ok a h' => exact x
  | exc c p h' => exact fun φ' H' d s t => q _ _ _ (x φ' H' d s t)
  | bad => exact x
theorem RSg.shift {r : Res α} {Q : β → Hp → Prop} (S : Sim C K φ h H) (st : Step C K φ h H φ' h' H') (x : RSg C K R E φ h H r Q) : RSg C K R E φ' h' H' r Q := by
  cases r with
  | ok a h2 => exact fun φ2 H2 b s t => x φ2 H2 b (Step.trans S st s) t
  | exc c p h2 => exact fun φ2 H2 d s t => x φ2 H2 d (Step.trans S st s) t
  | bad => exact x
theorem RSg.bind {m : Res α} {k : α → LH → Res γ} {Q : δ → Hp → Prop} (S : Sim C K φ h H) (x : RSg C K R' E φ h H (m.bind k) Q) :
    RSg C K R E φ h H m fun b H1 => ∃ φ1 h1 a, Step C K φ h H φ1 h1 H1 ∧ R φ1 h1.length H1 a b ∧ RSg C K R' E φ1 h1 H1 (k a h1) Q := by
  cases m with
  | ok a h2 => exact fun φ2 H2 b s t => ⟨φ2, h2, a, s, t, RSg.shift S s x⟩
  | exc c p h2 => exact x
  | bad => exact x
theorem RSg.here {a : α} {b : β} {Q : β → Hp → Prop} (S : Sim C K φ h H) (x : RSg C K R E φ h H (.ok a h) Q) (r : R φ h.length H a b) : Q b H := x φ H b (.refl S) r
end

/-- the slots -/
def Loc (K : PySem.W.Frag) (φ : Nat → Addr) (n : Nat) (H : Hp) : LSt → St → Prop
  | [], σ => σ = []
  | o :: ls, σ => ∃ v τ, σ = v :: τ ∧ (∀ x, o = some x → ∃ y, v = some y ∧ VR K φ n H x y) ∧ Loc K φ n H ls τ

section
variable {C : Cl} {K : PySem.W.Frag} {φ φ' : Nat → Addr} {n n' : Nat} {H H' : Hp}
theorem Loc.carry (c : Carry φ n H φ' n' H') : ∀ {ls : LSt} {σ : St}, Loc K φ n H ls σ → Loc K φ' n' H' ls σ
  | [], σ, r => by unfold Loc at r ⊢; exact r
  | o :: ls, σ, r => by
    unfold Loc at r ⊢
    obtain ⟨v, τ, e, r1, r2⟩ := r
    exact ⟨v, τ, e, fun x hx => let ⟨y, e1, e2⟩ := r1 x hx; ⟨y, e1, VR.carry c e2⟩, Loc.carry c r2⟩
theorem Loc.get : ∀ {ls : LSt} {σ : St} {i : Nat} {x : LV}, Loc K φ n H ls σ → ls[i]? = some (some x) → ∃ y, σ[i]? = some (some y) ∧ VR K φ n H x y
  | [], σ, i, x, r, e => by simp at e
  | o :: ls, σ, 0, x, r, e => by
    unfold Loc at r
    obtain ⟨v, τ, rfl, r1, r2⟩ := r
    simp at e
    obtain ⟨y, e1, e2⟩ := r1 x e
    exact ⟨y, by simp [e1], e2⟩
  | o :: ls, σ, i + 1, x, r, e => by
    unfold Loc at r
    obtain ⟨v, τ, rfl, r1, r2⟩ := r
    simp at e
    obtain ⟨y, e1, e2⟩ := Loc.get r2 e
    exact ⟨y, by simpa using e1, e2⟩
theorem Loc.set {x : LV} {y : V} (rx : VR K φ n H x y) : ∀ {ls : LSt} {σ : St} (i : Nat), Loc K φ n H ls σ → Loc K φ n H (ls.set i (some x)) (σ.set i (some y))
  | [], σ, i, r => by unfold Loc at r; subst r; exact rfl
  | o :: ls, σ, 0, r => by
    unfold Loc at r
    obtain ⟨v, τ, rfl, r1, r2⟩ := r
    exact ⟨some y, τ, rfl, fun z hz => by cases hz; exact ⟨y, rfl, rx⟩, r2⟩
  | o :: ls, σ, i + 1, r => by
    unfold Loc at r
    obtain ⟨v, τ, rfl, r1, r2⟩ := r
    exact ⟨v, τ.set i (some y), rfl, r1, Loc.set rx i r2⟩
theorem Loc.forget : ∀ {ls : LSt} {σ : St} (i : Nat) (o : Option V), Loc K φ n H ls σ → Loc K φ n H (ls.set i none) (σ.set i o)
  | [], σ, i, _, r => by unfold Loc at r; subst r; exact rfl
  | o :: ls, σ, 0, w, r => by
    unfold Loc at r
    obtain ⟨v, τ, rfl, r1, r2⟩ := r
    exact ⟨w, τ, rfl, fun z hz => (by cases hz), r2⟩
  | o :: ls, σ, i + 1, w, r => by
    unfold Loc at r
    obtain ⟨v, τ, rfl, r1, r2⟩ := r
    exact ⟨v, τ.set i w, rfl, r1, Loc.forget i w r2⟩
theorem Loc.length : ∀ {ls : LSt} {σ : St}, Loc K φ n H ls σ → ls.length = σ.length
  | [], σ, r => by unfold Loc at r; subst r; rfl
  | o :: ls, σ, r => by
    unfold Loc at r
    obtain ⟨v, τ, rfl, r1, r2⟩ := r
    simp [Loc.length r2]
def lwipe (ls : LSt) : List Nat → LSt
  | [] => ls
  | v :: vs => (lwipe ls vs).set v none
theorem Loc.wipe {ls : LSt} {σ : St} (r : Loc K φ n H ls σ) : ∀ vs : List Nat, Loc K φ n H (lwipe ls vs) (wipe σ vs)
  | [] => r
  | v :: vs => (Loc.wipe r vs).forget v none
theorem VRs.length : ∀ {xs : List LV} {vs : List V}, VRs K φ n H xs vs → xs.length = vs.length
  | [], vs, r => by unfold VRs at r; subst r; rfl
  | x :: xs, vs, r => by
    unfold VRs at r
    obtain ⟨y, zs, rfl, r1, r2⟩ := r
    simp [VRs.length r2]
theorem VRs.get : ∀ {xs : List LV} {vs : List V} {i : Nat} {x : LV}, VRs K φ n H xs vs → xs[i]? = some x → ∃ y, vs[i]? = some y ∧ VR K φ n H x y
  | [], vs, i, x, r, e => by simp at e
  | z :: xs, vs, 0, x, r, e => by
    unfold VRs at r
    obtain ⟨y, zs, rfl, r1, r2⟩ := r
    simp at e; subst e
    exact ⟨y, by simp, r1⟩
  | z :: xs, vs, i + 1, x, r, e => by
    unfold VRs at r
    obtain ⟨y, zs, rfl, r1, r2⟩ := r
    simp at e
    obtain ⟨y', e1, e2⟩ := VRs.get r2 e
    exact ⟨y', by simpa using e1, e2⟩
theorem VRs.nil : VRs K φ n H [] [] := by unfold VRs; rfl
theorem VRs.cons {x : LV} {v : V} {xs : List LV} {vs : List V} (r : VR K φ n H x v) (rs : VRs K φ n H xs vs) : VRs K φ n H (x :: xs) (v :: vs) := by unfold VRs; exact ⟨v, vs, rfl, r, rs⟩
theorem VRs.append : ∀ {xs ys : List LV} {vs ws : List V}, VRs K φ n H xs vs → VRs K φ n H ys ws → VRs K φ n H (xs ++ ys) (vs ++ ws)
  | [], ys, vs, ws, r, q => by unfold VRs at r; subst r; exact q
  | x :: xs, ys, vs, ws, r, q => by
    unfold VRs at r
    obtain ⟨y, zs, rfl, r1, r2⟩ := r
    exact VRs.cons r1 (VRs.append r2 q)
theorem VRs.drop : ∀ {xs : List LV} {vs : List V} (k : Nat), VRs K φ n H xs vs → VRs K φ n H (xs.drop k) (vs.drop k)
  | xs, vs, 0, r => by simpa using r
  | [], vs, k + 1, r => by unfold VRs at r; subst r; simpa using VRs.nil
  | x :: xs, vs, k + 1, r => by
    unfold VRs at r
    obtain ⟨y, zs, rfl, r1, r2⟩ := r
    simpa using VRs.drop k r2
theorem VRs.take : ∀ {xs : List LV} {vs : List V} (k : Nat), VRs K φ n H xs vs → VRs K φ n H (xs.take k) (vs.take k)
  | xs, vs, 0, r => by simpa using VRs.nil
  | [], vs, k + 1, r => by unfold VRs at r; subst r; simpa using VRs.nil
  | x :: xs, vs, k + 1, r => by
    unfold VRs at r
    obtain ⟨y, zs, rfl, r1, r2⟩ := r
    simpa using VRs.cons r1 (VRs.take k r2)
theorem VRs.set {x : LV} {v : V} (rx : VR K φ n H x v) : ∀ {xs : List LV} {vs : List V} (i : Nat), VRs K φ n H xs vs → VRs K φ n H (xs.set i x) (vs.set i v)
  | [], vs, i, r => by unfold VRs at r; subst r; simpa using VRs.nil
  | z :: xs, vs, 0, r => by
    unfold VRs at r
    obtain ⟨y, zs, rfl, r1, r2⟩ := r
    exact VRs.cons rx r2
  | z :: xs, vs, i + 1, r => by
    unfold VRs at r
    obtain ⟨y, zs, rfl, r1, r2⟩ := r
    exact VRs.cons r1 (VRs.set rx i r2)
theorem VRs.eraseIdx : ∀ {xs : List LV} {vs : List V} (i : Nat), VRs K φ n H xs vs → VRs K φ n H (xs.eraseIdx i) (vs.eraseIdx i)
  | [], vs, i, r => by unfold VRs at r; subst r; simpa using VRs.nil
  | z :: xs, vs, 0, r => by
    unfold VRs at r
    obtain ⟨y, zs, rfl, r1, r2⟩ := r
    simpa using r2
  | z :: xs, vs, i + 1, r => by
    unfold VRs at r
    obtain ⟨y, zs, rfl, r1, r2⟩ := r
    simpa using VRs.cons r1 (VRs.eraseIdx i r2)
theorem VRs.reverse : ∀ {xs : List LV} {vs : List V}, VRs K φ n H xs vs → VRs K φ n H xs.reverse vs.reverse
  | [], vs, r => by unfold VRs at r; subst r; simpa using VRs.nil
  | x :: xs, vs, r => by
    unfold VRs at r
    obtain ⟨y, zs, rfl, r1, r2⟩ := r
    simp only [List.reverse_cons]
    exact VRs.append (VRs.reverse r2) (VRs.cons r1 VRs.nil)
theorem Loc.start : ∀ {xs : List LV} {vs : List V} (k : Nat), VRs K φ n H xs vs → Loc K φ n H (xs.map some ++ List.replicate k none) (vs.map some ++ List.replicate k none)
  | [], vs, k, r => by
    unfold VRs at r; subst r
    simp only [List.map_nil, List.nil_append]
    induction k with
    | zero => exact rfl
    | succ k ih => exact ⟨none, List.replicate k none, rfl, fun x e => (by cases e), ih⟩
  | x :: xs, vs, k, r => by
    unfold VRs at r
    obtain ⟨y, zs, rfl, r1, r2⟩ := r
    exact ⟨some y, _, rfl, fun z e => by cases e; exact ⟨y, rfl, r1⟩, Loc.start k r2⟩
end

/-- a reading made of a logical run: W is what is wanted of an exception (with the slots) -/
def lift (C : Cl) (K : PySem.W.Frag) {α β : Type} (R : RL α β) (W : WX) (m : LSt → LH → Res α) : St → Hp → (β → Hp → Prop) → Prop := fun σ H Q =>
  ∃ φ ls h, Sim C K φ h H ∧ Loc K φ h.length H ls σ ∧ RSg C K R (fun c d H' => W c d σ H') φ h H (m ls h) Q
abbrev RV (K : PySem.W.Frag) : RL LV V := VR K
abbrev RVs (K : PySem.W.Frag) : RL (List LV) (List V) := VRs K
def RB : RL Bool Bool := fun _ _ _ a b => a = b
abbrev liftE (C : Cl) (K : PySem.W.Frag) (W : WX) (m : LSt → LH → Res LV) : TE := lift C K (RV K) W m
abbrev liftA (C : Cl) (K : PySem.W.Frag) (W : WX) (m : LSt → LH → Res (List LV)) : TA := lift C K (RVs K) W m
abbrev liftT (C : Cl) (K : PySem.W.Frag) (W : WX) (m : LSt → LH → Res Bool) : TT := lift C K RB W m

section
variable {C : Cl} {K : PySem.W.Frag} {α β γ δ : Type} {R : RL α β} {R' : RL γ δ} {W : WX} {m : LSt → LH → Res α} {σ : St} {H : Hp}
/-- the first part of a run, then the rest -/
theorem lift_bind {k : LSt → α → LH → Res γ} {Q : δ → Hp → Prop} (x : lift C K R' W (fun ls h => (m ls h).bind (k ls)) σ H Q) :
    lift C K R W m σ H fun b H1 => ∃ φ1 ls h1 a, Sim C K φ1 h1 H1 ∧ Loc K φ1 h1.length H1 ls σ ∧ R φ1 h1.length H1 a b ∧ RSg C K R' (fun c d H' => W c d σ H') φ1 h1 H1 (k ls a h1) Q := by
  obtain ⟨φ, ls, h, S, L, x⟩ := x
  exact ⟨φ, ls, h, S, L, RSg.mono (RSg.bind (R := R) S x) fun b H1 ⟨φ1, h1, a, st, r, y⟩ => ⟨φ1, ls, h1, a, st.sim, L.carry (st.carry S), r, y⟩⟩
theorem lift_mono {Q Q' : β → Hp → Prop} (x : lift C K R W m σ H Q) (q : ∀ b H', Q b H' → Q' b H') : lift C K R W m σ H Q' := by
  obtain ⟨φ, ls, h, S, L, x⟩ := x
  exact ⟨φ, ls, h, S, L, x.mono q⟩
/-- a stable relation -/
def Stab (R : RL α β) : Prop := ∀ {φ φ' : Nat → Addr} {n n' : Nat} {H H' : Hp} {a : α} {b : β}, Carry φ n H φ' n' H' → R φ n H a b → R φ' n' H' a b
theorem stabV : Stab (RV K) := fun c r => VR.carry c r
theorem stabVs : Stab (RVs K) := fun c r => VRs.carry c r
theorem stabB : Stab RB := fun _ r => r
/-- one part after another -/
theorem lift_bind2 {m2 : LSt → LH → Res γ} {ε ζ : Type} {R3 : RL ε ζ} {k : α → γ → LH → Res ε} {Q : ζ → Hp → Prop} (st : Stab R)
    (x : lift C K R3 W (fun ls h => (m ls h).bind fun a h1 => (m2 ls h1).bind fun b h2 => k a b h2) σ H Q) :
    lift C K R W m σ H fun b H1 => lift C K R' W m2 σ H1 fun d H2 => ∃ φ2 h2 a c, Sim C K φ2 h2 H2 ∧ R φ2 h2.length H2 a b ∧ R' φ2 h2.length H2 c d ∧ RSg C K R3 (fun c d H' => W c d σ H') φ2 h2 H2 (k a c h2) Q := by
  refine lift_mono (lift_bind (R := R) (R' := R3) (k := fun ls a h1 => (m2 ls h1).bind fun b h2 => k a b h2) x) fun b H1 ⟨φ1, ls, h1, a, S1, L1, r1, y⟩ => ?_
  refine ⟨φ1, ls, h1, S1, L1, RSg.mono (RSg.bind (R := R') S1 y) fun d H2 ⟨φ2, h2, c, st2, r2, z⟩ => ?_⟩
  exact ⟨φ2, h2, a, c, st2.sim, st (st2.carry S1) r1, r2, z⟩
end

/-! ### weakening of the judgements -/
section
variable {X : Cx}
theorem _root_.L2.PE.weak {e : Expr} {t t' : TE} (h : PE X e t) (w : ∀ σ H Q, t' σ H Q → t σ H Q) : PE X e t' := ⟨fun pins s σ H Q I q => h.run pins s σ H Q I (w σ H Q q)⟩
theorem _root_.L2.PT.weak {e : Expr} {t t' : TT} (h : PT X e t) (w : ∀ σ H Q, t' σ H Q → t σ H Q) : PT X e t' := ⟨fun pins s σ H Q I q => h.run pins s σ H Q I (w σ H Q q)⟩
theorem _root_.L2.PW.weak {e : Expr} {t t' : TT} (h : PW X e t) (w : ∀ σ H Q, t' σ H Q → t σ H Q) : PW X e t' := ⟨fun wh pins s σ H Q I q => h.run wh pins s σ H Q I (w σ H Q q)⟩
theorem _root_.L2.PA.weak {e : List Expr} {t t' : TA} (h : PA X e t) (w : ∀ σ H Q, t' σ H Q → t σ H Q) : PA X e t' := ⟨fun p pins s σ H Q I q => h.run p pins s σ H Q I (w σ H Q q)⟩
theorem _root_.L2.PS.weak {e : Stmt} {t t' : TS} (h : PS X e t) (w : ∀ D σ H, t' D σ H → t D σ H) : PS X e t' := ⟨fun pins s σ H Q I q => h.run pins s σ H Q I (w Q σ H q)⟩
theorem _root_.L2.PSs.weak {e : List Stmt} {t t' : TS} (h : PSs X e t) (w : ∀ D σ H, t' D σ H → t D σ H) : PSs X e t' := ⟨fun pins s σ H Q I q => h.run pins s σ H Q I (w Q σ H q)⟩
end
end LD
end
section
set_option Elab.async false
set_option linter.all false
set_option maxRecDepth 100000
set_option maxHeartbeats 1000000
/-! LDC: operations on logical values, and that they are Python's: arithmetic, sequences -/
namespace LD
open PySem L2

/-! ### what stands at a value -/
def lstOf (h : LH) : LV → Option (List LV)
  | .ref i => match h[i]? with
    | some (.lst xs) => some xs
    | _ => none
  | .frl xs => some xs
  | _ => none
def tupOf : LV → Option (List LV)
  | .tup xs => some xs
  | .ktu xs => some xs
  | _ => none

section
variable {C : Cl} {K : PySem.W.Frag} {φ : Nat → Addr} {h : LH} {H : Hp}
theorem lst_at (S : Sim C K φ h H) {i : Nat} {xs : List LV} (e : h[i]? = some (.lst xs)) : ∃ ys, H (φ i) = some (.lst ys) ∧ VRs K φ h.length H xs ys := S.obj i _ e
theorem lstOf_sq (S : Sim C K φ h H) {a : LV} {x : V} {xs : List LV} (r : VR K φ h.length H a x) (e : lstOf h a = some xs) : ∃ p ys, x = .ref p ∧ SqL K H p ys ∧ VRs K φ h.length H xs ys := by
  cases a with
  | ref i =>
    unfold VR at r
    obtain ⟨hi, rfl⟩ := r
    have e' : (match h[i]? with
      | some (.lst xs) => some xs
      | _ => none) = some xs := e
    split at e' <;> cases e'
    rename_i q
    obtain ⟨ys, e1, e2⟩ := lst_at S q
    exact ⟨_, ys, rfl, SqL.of e1, e2⟩
  | frl zs =>
    unfold VR at r
    obtain ⟨p, ys, rfl, q, rs⟩ := r
    cases e
    refine ⟨p, ys, rfl, ?_, rs⟩
    rcases q with ⟨o, q⟩ | q
    · exact .inl (.inr ⟨o, q⟩)
    · exact .inr q
  | _ => cases e
theorem tupOf_sq {a : LV} {x : V} {xs : List LV} {n : Nat} (r : VR K φ n H a x) (e : tupOf a = some xs) : ∃ p ys, x = .ref p ∧ SqT K H p ys ∧ VRs K φ n H xs ys := by
  cases a with
  | tup zs =>
    unfold VR at r
    obtain ⟨p, ys, rfl, q, rs⟩ := r
    cases e
    exact ⟨p, ys, rfl, SqT.of q, rs⟩
  | ktu zs =>
    unfold VR at r
    obtain ⟨p, ys, rfl, q, rs⟩ := r
    cases e
    exact ⟨p, ys, rfl, .inr q, rs⟩
  | _ => cases e
theorem VR.int {n : Nat} {i : Int} {x : V} (r : VR K φ n H (.int i) x) : x = .int i := by unfold VR at r; exact r
theorem VR.bl {n : Nat} {i : Bool} {x : V} (r : VR K φ n H (.bl i) x) : x = .bl i := by unfold VR at r; exact r
theorem VR.str {n : Nat} {i : List Nat} {x : V} (r : VR K φ n H (.str i) x) : x = .str (sOf i) := by unfold VR at r; exact r
theorem VR.non {n : Nat} {x : V} (r : VR K φ n H .non x) : x = .non := by unfold VR at r; exact r
theorem vr_int {n : Nat} {i : Int} : VR K φ n H (.int i) (.int i) := by unfold VR; rfl
theorem vr_bl {n : Nat} {i : Bool} : VR K φ n H (.bl i) (.bl i) := by unfold VR; rfl
theorem vr_str {n : Nat} {i : List Nat} : VR K φ n H (.str i) (.str (sOf i)) := by unfold VR; rfl
theorem vr_non {n : Nat} : VR K φ n H .non .non := by unfold VR; rfl
theorem vr_tup {n : Nat} {xs : List LV} {p : Addr} {ys : List V} (e : H p = some (.tup ys)) (rs : VRs K φ n H xs ys) : VR K φ n H (.tup xs) (.ref p) := by unfold VR; exact ⟨p, ys, rfl, e, rs⟩
theorem vr_ref {n i : Nat} (hi : i < n) : VR K φ n H (.ref i) (.ref (φ i)) := by unfold VR; exact ⟨hi, rfl⟩
end

/-- a reading of an operation on two values (it raises nothing) -/
def r2 (C : Cl) (K : PySem.W.Frag) (p : LV → LV → LH → Res LV) : R2 := fun x y H Q =>
  ∃ φ h a b, Sim C K φ h H ∧ VR K φ h.length H a x ∧ VR K φ h.length H b y ∧ RSg C K (RV K) (fun _ _ _ => False) φ h H (p a b h) Q
def r1 (C : Cl) (K : PySem.W.Frag) (p : LV → LH → Res LV) : V → Hp → VK → Prop := fun x H Q =>
  ∃ φ h a, Sim C K φ h H ∧ VR K φ h.length H a x ∧ RSg C K (RV K) (fun _ _ _ => False) φ h H (p a h) Q

/-- a new list -/
def newL (xs : List LV) (h : LH) : Res LV := if xs.length ≤ 16777216 then .ok (.ref h.length) (h ++ [.lst xs]) else .bad
theorem line_of {n : Nat} (h : n ≤ 16777216) : n ≤ sizeLine := by rw [sizeLine_eq]; exact h
theorem of_line {n : Nat} (h : n ≤ sizeLine) : n ≤ 16777216 := by rw [sizeLine_eq] at h; exact h

section
variable {C : Cl} {K : PySem.W.Frag} {φ : Nat → Addr} {h : LH} {H : Hp} {E : XK} {Q : VK}
/-- behind a new list that both heaps tell -/
theorem RSg.nL {xs : List LV} {ys : List V} {p : Addr} (S : Sim C K φ h H) (x : RSg C K (RV K) E φ h H (newL xs h) Q) (rs : VRs K φ h.length H xs ys) (hp : H p = none) : Q (.ref p) (upd H p (.lst ys)) := by
  unfold LD.newL at x
  split at x
  · obtain ⟨st, e⟩ := Step.alloc (o := .lst ys) (lo := .lst xs) S hp fun φ' H' c q e => ⟨ys, by rw [← e] at q ⊢; exact q, rs.carry c⟩
    refine x _ _ _ st ?_
    have := vr_ref (K := K) (φ := ext φ h.length p) (H := upd H p (.lst ys)) (n := (h ++ [LO.lst xs]).length) (i := h.length) (by simp)
    rw [e] at this
    exact this
  · exact x.elim
theorem RSg.nLlen {xs : List LV} (x : RSg C K (RV K) E φ h H (newL xs h) Q) : xs.length ≤ sizeLine := by
  unfold LD.newL at x
  split at x
  · rename_i q; exact line_of q
  · exact x.elim
/-- behind a new tuple -/
theorem RSg.nT {xs : List LV} {ys : List V} {p : Addr} (S : Sim C K φ h H) (x : RSg C K (RV K) E φ h H (.ok (.tup xs) h) Q) (rs : VRs K φ h.length H xs ys) (hp : H p = none) : Q (.ref p) (upd H p (.tup ys)) := by
  have st := Step.extra (o := .tup ys) S hp
  exact x _ _ _ st (vr_tup upd_same (rs.carry (st.carry S)))
end

/-! ### arithmetic -/
def pAdd (a b : LV) (h : LH) : Res LV := match a, b with
  | .int i, .int j => .ok (.int (i + j)) h
  | .str x, .str y => if x.length + y.length ≤ 16777216 then .ok (.str (x ++ y)) h else .bad
  | .tup xs, .tup ys => if xs.length + ys.length ≤ 16777216 then .ok (.tup (xs ++ ys)) h else .bad
  | .ref i, .ref j => match h[i]?, h[j]? with
    | some (.lst xs), some (.lst ys) => newL (xs ++ ys) h
    | _, _ => .bad
  | _, _ => .bad
def pSub (a b : LV) (h : LH) : Res LV := match a, b with
  | .int i, .int j => .ok (.int (i - j)) h
  | _, _ => .bad
def mulOk (i j : Int) : Bool := (decide (-18446744073709551616 < i) && decide (i < 18446744073709551616)) || (decide (-18446744073709551616 < j) && decide (j < 18446744073709551616))
def pMul (a b : LV) (h : LH) : Res LV := match a, b with
  | .int i, .int j => if mulOk i j then .ok (.int (i * j)) h else .bad
  | .ref i, .int k => match h[i]? with
    | some (.lst xs) => if -9223372036854775808 ≤ k ∧ k < 9223372036854775808 then newL (List.replicate k.toNat xs).flatten h else .bad
    | _ => .bad
  | .tup xs, .int k => if xs ≠ [] ∧ 2 ≤ k ∧ k ≤ 1000 ∧ xs.length ≤ 1000 then .ok (.tup (List.replicate k.toNat xs).flatten) h else .bad
  | _, _ => .bad
def pFdiv (a b : LV) (h : LH) : Res LV := match a, b with
  | .int i, .int j => if 0 < j ∧ j < 1073741824 then .ok (.int (i / j)) h else .bad
  | _, _ => .bad
def pMod (a b : LV) (h : LH) : Res LV := match a, b with
  | .int i, .int j => if 0 < j then .ok (.int (i % j)) h else .bad
  | _, _ => .bad
def pPow (a b : LV) (h : LH) : Res LV := match a, b with
  | .int i, .int j => if 0 ≤ j ∧ j ≤ 1000000 ∧ i.natAbs < 18446744073709551616 then .ok (.int (i ^ j.toNat)) h else .bad
  | _, _ => .bad
def pCmp (f : Int → Int → Bool) (a b : LV) (h : LH) : Res LV := match a, b with
  | .int i, .int j => .ok (.bl (f i j)) h
  | _, _ => .bad
def pNeg (a : LV) (h : LH) : Res LV := match a with
  | .int i => .ok (.int (-i)) h
  | _ => .bad

theorem sOf_append (x y : List Nat) : sOf (x ++ y) = sOf x ++ sOf y := by
  unfold sOf
  show (⟨(x ++ y).toArray⟩ : Str) = ⟨x.toArray ++ y.toArray⟩
  simp
theorem sOf_length (x : List Nat) : (sOf x).length = x.length := by
  unfold sOf
  show x.toArray.size = x.length
  simp
theorem VRs.rep {K : PySem.W.Frag} {φ : Nat → Addr} {n : Nat} {H : Hp} {xs : List LV} {ys : List V} (r : VRs K φ n H xs ys) : ∀ k : Nat, VRs K φ n H (List.replicate k xs).flatten (List.replicate k ys).flatten
  | 0 => VRs.nil
  | k + 1 => by
    rw [List.replicate_succ, List.replicate_succ, List.flatten_cons, List.flatten_cons]
    exact VRs.append r (VRs.rep r k)

section
variable {X : Cx} {C : Cl}
theorem o_add : OpR X (binaryOp .Add) (r2 C X.K pAdd) := by
  intro pins s σ H x y v u Q I rx ry q
  obtain ⟨φ, h, a, b, S, ra, rb, R⟩ := q
  cases a <;> cases b <;> first | exact R.elim | skip
  · rename_i i j
    cases ra.int; cases rb.int
    exact op_add pins s σ H _ _ v u Q I rx ry ⟨i, j, rfl, rfl, R.here S vr_int⟩
  · rename_i i j
    cases ra.str; cases rb.str
    unfold pAdd at R
    dsimp only at R
    split at R
    · rename_i hl
      refine op_add_str pins s σ H _ _ v u Q I rx ry ⟨_, _, rfl, rfl, ?_, ?_⟩
      · rw [sOf_length, sOf_length]; exact line_of hl
      · rw [← sOf_append]; exact R.here S vr_str
    · exact R.elim
  · rename_i xs ys
    unfold pAdd at R
    dsimp only at R
    split at R
    · rename_i hl
      obtain ⟨p, xs', rfl, e1, r1⟩ := (by unfold VR at ra; exact ra : ∃ p ys, x = .ref p ∧ H p = some (.tup ys) ∧ VRs X.K φ h.length H xs ys)
      obtain ⟨q, ys', rfl, e2, r2⟩ := (by unfold VR at rb; exact rb : ∃ p zs, y = .ref p ∧ H p = some (.tup zs) ∧ VRs X.K φ h.length H ys zs)
      refine op_catA pins s σ H _ _ v u Q I rx ry ⟨p, q, xs', ys', rfl, rfl, SqT.of e1, SqT.of e2, ?_, fun z => ?_, fun z1 z2 => ?_, fun _ _ p' hp' => ?_⟩
      · rw [← r1.length, ← r2.length]; exact line_of hl
      · subst z
        have : xs = [] := List.length_eq_zero_iff.mp (by rw [r1.length]; rfl)
        subst this
        exact R.here S (vr_tup e2 r2)
      · subst z2
        have : ys = [] := List.length_eq_zero_iff.mp (by rw [r2.length]; rfl)
        subst this
        refine R.here S (vr_tup e1 ?_)
        rw [List.append_nil]; exact r1
      · exact RSg.nT S R (VRs.append r1 r2) hp'
    · exact R.elim
  · rename_i i j
    unfold pAdd at R
    dsimp only at R
    split at R
    · rename_i xs ys e1 e2
      have ra' : i < h.length ∧ x = .ref (φ i) := by unfold VR at ra; exact ra
      have rb' : j < h.length ∧ y = .ref (φ j) := by unfold VR at rb; exact rb
      obtain ⟨h1, rfl⟩ := ra'
      obtain ⟨h2, rfl⟩ := rb'
      obtain ⟨xs', f1, r1⟩ := lst_at S e1
      obtain ⟨ys', f2, r2⟩ := lst_at S e2
      refine op_cat pins s σ H _ _ v u Q I rx ry ⟨φ i, φ j, xs', ys', rfl, rfl, f1, f2, ?_, fun p hp => ?_⟩
      · have := R.nLlen
        rw [List.length_append, r1.length, r2.length] at this
        exact this
      · exact RSg.nL S R (VRs.append r1 r2) hp
    · exact R.elim
theorem o_sub : OpR X (binaryOp .Sub) (r2 C X.K pSub) := by
  intro pins s σ H x y v u Q I rx ry q
  obtain ⟨φ, h, a, b, S, ra, rb, R⟩ := q
  cases a <;> cases b <;> first | exact R.elim | skip
  rename_i i j
  cases ra.int; cases rb.int
  exact op_sub pins s σ H _ _ v u Q I rx ry ⟨i, j, rfl, rfl, R.here S vr_int⟩
theorem o_fdiv : OpR X (binaryOp .FloorDiv) (r2 C X.K pFdiv) := by
  intro pins s σ H x y v u Q I rx ry q
  obtain ⟨φ, h, a, b, S, ra, rb, R⟩ := q
  cases a <;> cases b <;> first | exact R.elim | skip
  rename_i i j
  cases ra.int; cases rb.int
  unfold pFdiv at R
  dsimp only at R
  split at R
  · rename_i hc
    exact op_fdiv pins s σ H _ _ v u Q I rx ry ⟨i, j, rfl, rfl, hc, R.here S vr_int⟩
  · exact R.elim
theorem o_mod : OpR X (binaryOp .Mod) (r2 C X.K pMod) := by
  intro pins s σ H x y v u Q I rx ry q
  obtain ⟨φ, h, a, b, S, ra, rb, R⟩ := q
  cases a <;> cases b <;> first | exact R.elim | skip
  rename_i i j
  cases ra.int; cases rb.int
  unfold pMod at R
  dsimp only at R
  split at R
  · rename_i hc
    exact op_mod pins s σ H _ _ v u Q I rx ry ⟨i, j, rfl, rfl, hc, R.here S vr_int⟩
  · exact R.elim
theorem o_pow : OpR X (binaryOp .Pow) (r2 C X.K pPow) := by
  intro pins s σ H x y v u Q I rx ry q
  obtain ⟨φ, h, a, b, S, ra, rb, R⟩ := q
  cases a <;> cases b <;> first | exact R.elim | skip
  rename_i i j
  cases ra.int; cases rb.int
  unfold pPow at R
  dsimp only at R
  split at R
  · rename_i hc
    exact op_pow pins s σ H _ _ v u Q I rx ry ⟨i, j, rfl, rfl, ⟨hc.1, hc.2.1, by have := hc.2.2; omega⟩, R.here S vr_int⟩
  · exact R.elim
theorem o_mul : OpR X (binaryOp .Mult) (r2 C X.K pMul) := by
  intro pins s σ H x y v u Q I rx ry q
  obtain ⟨φ, h, a, b, S, ra, rb, R⟩ := q
  cases a <;> cases b <;> first | exact R.elim | skip
  · rename_i i j
    cases ra.int; cases rb.int
    unfold pMul at R
    dsimp only at R
    split at R
    · rename_i hc
      refine op_mul pins s σ H _ _ v u Q I rx ry ⟨i, j, rfl, rfl, ?_, R.here S vr_int⟩
      unfold mulOk at hc
      simp only [Bool.or_eq_true, Bool.and_eq_true, decide_eq_true_eq] at hc
      unfold CMul
      rcases hc with ⟨h1, h2⟩ | ⟨h1, h2⟩
      · left; omega
      · right; omega
    · exact R.elim
  · rename_i xs k
    cases rb.int
    unfold pMul at R
    dsimp only at R
    split at R
    · rename_i hc
      obtain ⟨hc1, hc2, hc3, hc4⟩ := hc
      obtain ⟨p, xs', rfl, e1, r1⟩ := (by unfold VR at ra; exact ra : ∃ p ys, x = .ref p ∧ H p = some (.tup ys) ∧ VRs X.K φ h.length H xs ys)
      refine op_repT pins s σ H _ _ v u Q I rx ry ⟨p, k, xs', rfl, rfl, SqT.of e1, fun z => hc1 ?_, hc2, hc3, by rw [← r1.length]; exact hc4, fun p' hp' => RSg.nT S R (r1.rep _) hp'⟩
      subst z
      exact List.length_eq_zero_iff.mp (by rw [r1.length]; rfl)
    · exact R.elim
  · rename_i i k
    cases rb.int
    unfold pMul at R
    dsimp only at R
    split at R
    · rename_i xs e1
      split at R
      · rename_i hc
        have ra' : i < h.length ∧ x = .ref (φ i) := by unfold VR at ra; exact ra
        obtain ⟨h1, rfl⟩ := ra'
        obtain ⟨xs', f1, r1⟩ := lst_at S e1
        have hl := R.nLlen
        refine op_rep pins s σ H _ _ v u Q I rx ry ⟨φ i, k, xs', rfl, rfl, f1, by omega, by omega, ?_, fun p hp => RSg.nL S R (r1.rep _) hp⟩
        rw [(r1.rep k.toNat).length] at hl
        simp only [List.length_flatten, List.map_replicate, List.sum_replicate_nat] at hl
        rw [Nat.mul_comm]; exact hl
      · exact R.elim
    · exact R.elim
theorem o_cmp {op : CmpOp} {f : Int → Int → Bool} (ho : OpR X (compareOp op) (rI0 fun i j => .bl (f i j))) : OpR X (compareOp op) (r2 C X.K (pCmp f)) := by
  intro pins s σ H x y v u Q I rx ry q
  obtain ⟨φ, h, a, b, S, ra, rb, R⟩ := q
  cases a <;> cases b <;> first | exact R.elim | skip
  rename_i i j
  cases ra.int; cases rb.int
  exact ho pins s σ H _ _ v u Q I rx ry ⟨i, j, rfl, rfl, R.here S vr_bl⟩
theorem o_neg : UnR X (unaryOp .USub) (r1 C X.K pNeg) := by
  intro pins s σ H x v Q I rx q
  obtain ⟨φ, h, a, S, ra, R⟩ := q
  cases a <;> first | exact R.elim | skip
  rename_i i
  cases ra.int
  exact un_neg pins s σ H _ v Q I rx ⟨i, rfl, R.here S vr_int⟩
end
end LD
end
section
set_option Elab.async false
set_option linter.all false
set_option maxRecDepth 100000
set_option maxHeartbeats 1000000
/-! LDD: == and in -/
namespace LD
open PySem L2

/-- what a value is, for == -/
inductive Kd where
  | s | l (xs : List LV) | t (xs : List LV) | x
def kdOf (h : LH) : LV → Kd
  | .tup xs => .t xs
  | .ktu xs => .t xs
  | .frl xs => .l xs
  | .ref i => match h[i]? with
    | some (.lst xs) => .l xs
    | _ => .x
  | _ => .s
def eqS : LV → LV → Option Bool
  | .non, .non => some true
  | .non, .bl _ => some false
  | .non, .int _ => some false
  | .non, .str _ => some false
  | .bl _, .non => some false
  | .bl a, .bl b => some (a == b)
  | .bl a, .int j => some ((if a then 1 else 0) == j)
  | .bl _, .str _ => some false
  | .int _, .non => some false
  | .int i, .bl b => some (i == (if b then 1 else 0))
  | .int i, .int j => some (i == j)
  | .int _, .str _ => some false
  | .str _, .non => some false
  | .str _, .bl _ => some false
  | .str _, .int _ => some false
  | .str x, .str y => some (x == y)
  | _, _ => none
def eqL (f : LV → LV → Option Bool) : List LV → List LV → Option Bool
  | [], [] => some true
  | x :: xs, y :: ys => match f x y, eqL f xs ys with
    | some b, some r => some (b && r)
    | _, _ => none
  | _, _ => some false
/-- == of data: none where it is not told -/
def eqV : Nat → LH → LV → LV → Option Bool
  | 0, _, _, _ => none
  | n + 1, h, a, b => match kdOf h a, kdOf h b with
    | .s, .s => eqS a b
    | .l xs, .l ys => if xs.length = ys.length then eqL (eqV n h) xs ys else some false
    | .t xs, .t ys => eqL (eqV n h) xs ys
    | .l _, .t _ => some false
    | .t _, .l _ => some false
    | .s, .l _ => some false
    | .s, .t _ => some false
    | .l _, .s => some false
    | .t _, .s => some false
    | _, _ => none

theorem sOf_inj {x y : List Nat} (e : sOf x = sOf y) : x = y := by
  unfold sOf at e
  injection e with e
  simpa using congrArg Array.toList e
theorem sOf_beq (x y : List Nat) : (sOf x == sOf y) = (x == y) := by
  by_cases e : x = y
  · subst e; simp
  · have : sOf x ≠ sOf y := fun z => e (sOf_inj z)
    rw [beq_eq_false_iff_ne.mpr e, beq_eq_false_iff_ne.mpr this]

section
variable {X : Cx} {C : Cl} {pins : List (Addr × Obj)} {σ : St} {H : Hp} {s : Shared} {φ : Nat → Addr} {h : LH}

theorem Inv.noK (I : Inv X pins σ H s) {p : Addr} {o : Obj} (e : X.K.lookup p = some o) : H p = none :=
  (I.bs p o (I.ok.mod.kin p o e)).2

mutual
/-- one physical value tells one logical one -/
theorem VR.inj (I : Inv X pins σ H s) (S : Sim C X.K φ h H) : ∀ {a b : LV} {v : V}, VR X.K φ h.length H a v → VR X.K φ h.length H b v → a = b
  | .non, b, v, ra, rb => by
    cases ra.non
    cases b <;> unfold VR at rb <;> first | rfl | (cases rb; done) | (obtain ⟨_, _, e, _⟩ := rb; cases e) | (obtain ⟨_, e⟩ := rb; cases e)
  | .bl x, b, v, ra, rb => by
    cases ra.bl
    cases b <;> unfold VR at rb <;> first | (cases rb; rfl) | (cases rb; done) | (obtain ⟨_, _, e, _⟩ := rb; cases e) | (obtain ⟨_, e⟩ := rb; cases e)
  | .int x, b, v, ra, rb => by
    cases ra.int
    cases b <;> unfold VR at rb <;> first | (cases rb; rfl) | (cases rb; done) | (obtain ⟨_, _, e, _⟩ := rb; cases e) | (obtain ⟨_, e⟩ := rb; cases e)
  | .str x, b, v, ra, rb => by
    cases ra.str
    cases b <;> unfold VR at rb <;> first | (injection rb with e; rw [sOf_inj e]) | (cases rb; done) | (obtain ⟨_, _, e, _⟩ := rb; cases e) | (obtain ⟨_, e⟩ := rb; cases e)
  | .tup xs, b, v, ra, rb => by
    unfold VR at ra
    obtain ⟨p, ys, rfl, e, rs⟩ := ra
    cases b with
    | tup zs =>
      unfold VR at rb
      obtain ⟨q, ws, e1, e2, rt⟩ := rb
      cases e1
      rw [e] at e2; cases e2
      rw [VRs.inj I S rs rt]
    | ktu zs =>
      unfold VR at rb
      obtain ⟨q, ws, e1, ⟨o, _, _, e2, _⟩, rt⟩ := rb
      cases e1
      rw [Inv.noK I e2] at e; cases e
    | frl zs =>
      unfold VR at rb
      obtain ⟨q, ws, e1, ⟨o, e2⟩ | ⟨o, _, _, e2, _⟩, rt⟩ := rb
      · cases e1; rw [e] at e2; cases e2
      · cases e1; rw [Inv.noK I e2] at e; cases e
    | ref i =>
      unfold VR at rb
      obtain ⟨hi, e1⟩ := rb
      cases e1
      obtain ⟨o, e2, n1, _⟩ := S.at_ hi
      rw [e] at e2; cases e2
      exact absurd rfl (n1 _)
    | _ => unfold VR at rb; cases rb
  | .ktu xs, b, v, ra, rb => by
    unfold VR at ra
    obtain ⟨p, ys, rfl, ⟨o, its, m, e, ec, ed, _, ev⟩, rs⟩ := ra
    cases b with
    | tup zs =>
      unfold VR at rb
      obtain ⟨q, ws, e1, e2, rt⟩ := rb
      cases e1
      rw [Inv.noK I e] at e2; cases e2
    | ktu zs =>
      unfold VR at rb
      obtain ⟨q, ws, e1, ⟨o', its', m', e2, _, ed', _, ev'⟩, rt⟩ := rb
      cases e1
      rw [e] at e2; cases e2
      rw [ed] at ed'; cases ed'
      have := ev.inj ev'
      subst this
      rw [VRs.inj I S rs rt]
    | frl zs =>
      unfold VR at rb
      obtain ⟨q, ws, e1, ⟨o', e2⟩ | ⟨o', _, _, e2, ec', _⟩, rt⟩ := rb
      · cases e1; rw [Inv.noK I e] at e2; cases e2
      · cases e1
        rw [e] at e2; cases e2
        rw [ec] at ec'
        exact absurd ec' (by decide +kernel)
    | ref i =>
      unfold VR at rb
      obtain ⟨hi, e1⟩ := rb
      cases e1
      obtain ⟨o', e2, _⟩ := S.at_ hi
      rw [Inv.noK I e] at e2; cases e2
    | _ => unfold VR at rb; cases rb
  | .frl xs, b, v, ra, rb => by
    unfold VR at ra
    obtain ⟨p, ys, rfl, q, rs⟩ := ra
    cases b with
    | tup zs =>
      unfold VR at rb
      obtain ⟨p', ws, e1, e2, rt⟩ := rb
      cases e1
      rcases q with ⟨o, e⟩ | ⟨o, _, _, e, _⟩
      · rw [e] at e2; cases e2
      · rw [Inv.noK I e] at e2; cases e2
    | ktu zs =>
      unfold VR at rb
      obtain ⟨p', ws, e1, ⟨o', _, _, e2, ec', _⟩, rt⟩ := rb
      cases e1
      rcases q with ⟨o, e⟩ | ⟨o, _, _, e, ec, _⟩
      · rw [Inv.noK I e2] at e; cases e
      · rw [e] at e2; cases e2
        rw [ec] at ec'
        exact absurd ec' (by decide +kernel)
    | frl zs =>
      unfold VR at rb
      obtain ⟨p', ws, e1, q', rt⟩ := rb
      cases e1
      rcases q with ⟨o, e⟩ | ⟨o, its, m, e, ec, _, ed, _, ev⟩
      · rcases q' with ⟨o', e'⟩ | ⟨o', its', m', e', ec', _, ed', _, ev'⟩
        · rw [e] at e'; cases e'
          rw [VRs.inj I S rs rt]
        · rw [Inv.noK I e'] at e; cases e
      · rcases q' with ⟨o', e'⟩ | ⟨o', its', m', e', ec', _, ed', _, ev'⟩
        · rw [Inv.noK I e] at e'; cases e'
        · rw [e] at e'; cases e'
          rw [ed] at ed'; cases ed'
          have := ev.inj ev'
          subst this
          rw [VRs.inj I S rs rt]
    | ref i =>
      unfold VR at rb
      obtain ⟨hi, e1⟩ := rb
      cases e1
      obtain ⟨o', e2, _, n2⟩ := S.at_ hi
      rcases q with ⟨o, e⟩ | ⟨o, _, _, e, ec, _⟩
      · rw [e] at e2; cases e2
        exact absurd rfl ((n2 _ _ rfl).2 _)
      · rw [Inv.noK I e] at e2; cases e2
    | _ => unfold VR at rb; cases rb
  | .ref i, b, v, ra, rb => by
    unfold VR at ra
    obtain ⟨hi, rfl⟩ := ra
    obtain ⟨o', e2, n1, n2⟩ := S.at_ hi
    cases b with
    | tup zs =>
      unfold VR at rb
      obtain ⟨q, ws, e1, e3, rt⟩ := rb
      cases e1
      rw [e2] at e3; cases e3
      exact absurd rfl (n1 _)
    | ktu zs =>
      unfold VR at rb
      obtain ⟨q, ws, e1, ⟨o, _, _, e3, _⟩, rt⟩ := rb
      cases e1
      rw [Inv.noK I e3] at e2; cases e2
    | frl zs =>
      unfold VR at rb
      obtain ⟨q, ws, e1, ⟨o, e3⟩ | ⟨o, _, _, e3, _⟩, rt⟩ := rb
      · cases e1; rw [e2] at e3; cases e3; exact absurd rfl ((n2 _ _ rfl).2 _)
      · cases e1; rw [Inv.noK I e3] at e2; cases e2
    | ref j =>
      unfold VR at rb
      obtain ⟨hj, e1⟩ := rb
      injection e1 with e1
      rw [S.inj i j hi hj e1]
    | _ => unfold VR at rb; cases rb
theorem VRs.inj (I : Inv X pins σ H s) (S : Sim C X.K φ h H) : ∀ {xs ys : List LV} {vs : List V}, VRs X.K φ h.length H xs vs → VRs X.K φ h.length H ys vs → xs = ys
  | [], ys, vs, rx, ry => by
    unfold VRs at rx; subst rx
    cases ys with
    | nil => rfl
    | cons y ys => unfold VRs at ry; obtain ⟨_, _, e, _⟩ := ry; cases e
  | x :: xs, ys, vs, rx, ry => by
    unfold VRs at rx
    obtain ⟨v, ws, rfl, r1, r2⟩ := rx
    cases ys with
    | nil => unfold VRs at ry; cases ry
    | cons y ys =>
      unfold VRs at ry
      obtain ⟨v', ws', e, t1, t2⟩ := ry
      cases e
      rw [VR.inj I S r1 t1, VRs.inj I S r2 t2]
end
end

theorem eqS_refl' {a : LV} {r : Bool} (e : eqS a a = some r) : r = true := by
  cases a <;> simp [eqS] at e <;> first | exact e.symm | exact e
theorem eqL_refl {f : LV → LV → Option Bool} (hf : ∀ x r, f x x = some r → r = true) : ∀ {xs : List LV} {r : Bool}, eqL f xs xs = some r → r = true
  | [], r, e => by simp [eqL] at e; exact e
  | x :: xs, r, e => by
    unfold eqL at e
    cases h1 : f x x with
    | none => rw [h1] at e; cases e
    | some b =>
      cases h2 : eqL f xs xs with
      | none => rw [h1, h2] at e; cases e
      | some c =>
        rw [h1, h2] at e
        injection e with e
        rw [hf x b h1, eqL_refl hf h2] at e
        exact e.symm
theorem eqV_refl (h : LH) : ∀ (n : Nat) (a : LV) (r : Bool), eqV n h a a = some r → r = true
  | 0, a, r, e => by cases e
  | n + 1, a, r, e => by
    unfold eqV at e
    cases hk : kdOf h a with
    | s => rw [hk] at e; exact eqS_refl' e
    | l xs =>
      rw [hk] at e
      dsimp only at e
      rw [if_pos rfl] at e
      exact eqL_refl (eqV_refl h n) e
    | t xs => rw [hk] at e; exact eqL_refl (eqV_refl h n) e
    | x => rw [hk] at e; cases e
end LD
end
section
set_option Elab.async false
set_option linter.all false
set_option maxRecDepth 100000
set_option maxHeartbeats 1000000
/-! LDE: == and != and in are Python's -/
namespace LD
open PySem L2

theorem eqL_tells {f : LV → LV → Option Bool} : ∀ {xs ys : List LV} {r : Bool}, eqL f xs ys = some r →
    ∃ e : Nat → Bool, (∀ j x y, xs[j]? = some x → ys[j]? = some y → f x y = some (e j)) ∧ r = ((List.range (min xs.length ys.length)).all e && xs.length == ys.length)
  | [], [], r, h => ⟨fun _ => true, fun j x y e _ => by simp at e, by simp [eqL] at h; simp [h]⟩
  | [], y :: ys, r, h => ⟨fun _ => true, fun j x y e _ => by simp at e, by simp [eqL] at h; simp [h]⟩
  | x :: xs, [], r, h => ⟨fun _ => true, fun j x y _ e => by simp at e, by simp [eqL] at h; simp [h]⟩
  | x :: xs, y :: ys, r, h => by
    unfold eqL at h
    cases h1 : f x y with
    | none => rw [h1] at h; cases h
    | some b =>
      cases h2 : eqL f xs ys with
      | none => rw [h1, h2] at h; cases h
      | some c =>
        rw [h1, h2] at h
        injection h with h
        obtain ⟨e, he, hr⟩ := eqL_tells h2
        refine ⟨fun j => match j with
          | 0 => b
          | j + 1 => e j, fun j x' y' e1 e2 => ?_, ?_⟩
        · cases j with
          | zero => simp at e1 e2; subst e1; subst e2; exact h1
          | succ j => exact he j x' y' (by simpa using e1) (by simpa using e2)
        · rw [← h, hr]
          have : min (x :: xs).length (y :: ys).length = min xs.length ys.length + 1 := by simp only [List.length_cons]; omega
          rw [this, List.range_succ_eq_map, List.all_cons, List.all_map]
          simp only [List.length_cons]
          rw [Bool.and_assoc]
          congr 2
          simp

section
variable {X : Cx} {C : Cl} {pins : List (Addr × Obj)} {σ : St} {H : Hp} {s : Shared} {φ : Nat → Addr} {h : LH}

theorem kdOf_ref (h : LH) (i : Nat) : kdOf h (.ref i) = (match h[i]? with
    | some (.lst xs) => .l xs
    | _ => .x) := rfl
theorem kd_l (I : Inv X pins σ H s) (S : Sim C X.K φ h H) {a : LV} {x : V} {v : Value} {xs : List LV} (ra : VR X.K φ h.length H a x) (rx : RelV x v) (e : kdOf h a = .l xs) :
    ∃ l its ys, v = .ref l ∧ s.heap.IsList l its.toArray ∧ Vals ys its ∧ VRs X.K φ h.length H xs ys := by
  have e' : lstOf h a = some xs := by
    cases a with
    | ref i =>
      rw [kdOf_ref] at e
      unfold lstOf
      cases q : h[i]? with
      | none => rw [q] at e; cases e
      | some o =>
        rw [q] at e
        cases o <;> cases e
        simp only [q]
    | frl zs => cases e; rfl
    | _ => cases e
  obtain ⟨p, ys, rfl, q, rs⟩ := lstOf_sq S ra e'
  cases rx
  obtain ⟨its, rv, pl, _⟩ := I.list q
  exact ⟨p, its, ys, rfl, pl.isList, rv, rs⟩
theorem kd_t (I : Inv X pins σ H s) {a : LV} {x : V} {v : Value} {xs : List LV} (ra : VR X.K φ h.length H a x) (rx : RelV x v) (e : kdOf h a = .t xs) :
    ∃ l its ys, v = .ref l ∧ s.heap.IsTuple l its.toArray ∧ Vals ys its ∧ VRs X.K φ h.length H xs ys := by
  have e' : tupOf a = some xs := by
    cases a with
    | ref i =>
      rw [kdOf_ref] at e
      cases q : h[i]? with
      | none => rw [q] at e; cases e
      | some o => rw [q] at e; cases o <;> cases e
    | tup zs => cases e; rfl
    | ktu zs => cases e; rfl
    | _ => cases e
  obtain ⟨p, ys, rfl, q, rs⟩ := tupOf_sq ra e'
  cases rx
  obtain ⟨its, rv, pl, _⟩ := I.tuple q
  exact ⟨p, its, ys, rfl, pl, rv, rs⟩

theorem items_at {F : Value → Value → Bool → Prop} {f : LV → LV → Option Bool} {xs xs' : List LV} {ys ys' : List V} {us us' : List Value} {e : Nat → Bool}
    (he : ∀ j x y, xs[j]? = some x → xs'[j]? = some y → f x y = some (e j)) (r1 : VRs X.K φ h.length H xs ys) (r2 : VRs X.K φ h.length H xs' ys') (v1 : Vals ys us) (v2 : Vals ys' us')
    (ih : ∀ a b r x y v u, f a b = some r → VR X.K φ h.length H a x → VR X.K φ h.length H b y → RelV x v → RelV y u → F v u r) :
    ∀ j (h1 : j < us.toArray.size) (h2 : j < us'.toArray.size), F us.toArray[j] us'.toArray[j] (e j) := by
  intro j h1 h2
  have l1 := r1.length
  have l2 := r2.length
  have l3 := v1.length
  have l4 := v2.length
  have q1 : j < xs.length := by simp at h1; omega
  have q2 : j < xs'.length := by simp at h2; omega
  obtain ⟨y1, e1, t1⟩ := r1.get (i := j) (x := xs[j]) (by simp [q1])
  obtain ⟨y2, e2, t2⟩ := r2.get (i := j) (x := xs'[j]) (by simp [q2])
  obtain ⟨u1, e3, t3⟩ := v1.get e1
  obtain ⟨u2, e4, t4⟩ := v2.get e2
  have z1 : us.toArray[j] = u1 := by
    simp only [List.getElem_toArray]
    exact (List.getElem?_eq_some_iff.mp e3).2
  have z2 : us'.toArray[j] = u2 := by
    simp only [List.getElem_toArray]
    exact (List.getElem?_eq_some_iff.mp e4).2
  rw [z1, z2]
  exact ih _ _ _ _ _ _ _ (he j xs[j] xs'[j] (by simp [q1]) (by simp [q2])) t1 t2 t3 t4

theorem eqS_at {A : Around} {a b : LV} {r : Bool} {x y : V} {v u : Value} (e : eqS a b = some r) (ra : VR X.K φ h.length H a x) (rb : VR X.K φ h.length H b y) (rx : RelV x v) (ry : RelV y u) :
    SeqAt.EqAt A s v u r ∧ SeqAt.RcAt A s v u r ∧ SeqAt.RcNeAt A s v u (!r) := by
  cases a <;> cases b <;> first | (cases e; done) | skip
  · cases ra.non; cases rx; cases rb.non; cases ry; cases e
    exact ⟨.same _, .none_none, .none_none⟩
  · cases ra.non; cases rx; cases rb.bl; cases ry; cases e
    exact ⟨.none_bool _, .none_bool _, .none_bool _⟩
  · cases ra.non; cases rx; cases rb.int; obtain ⟨t', rfl⟩ := ry; cases e
    exact ⟨.none_int _ _, .none_int _ _, .none_int _ _⟩
  · cases ra.non; cases rx; cases rb.str; obtain ⟨t', rfl⟩ := ry; cases e
    exact ⟨.none_str _ _, .none_str _ _, .none_str _ _⟩
  · cases ra.bl; cases rx; cases rb.non; cases ry; cases e
    exact ⟨.bool_none _, .bool_none _, .bool_none _⟩
  · cases ra.bl; cases rx; cases rb.bl; cases ry; cases e
    exact ⟨.bool_bool _ _, .bool_bool _ _, .bool_bool _ _⟩
  · cases ra.bl; cases rx; cases rb.int; obtain ⟨t', rfl⟩ := ry; cases e
    exact ⟨.bool_int _ _ _, .bool_int _ _ _, .bool_int _ _ _⟩
  · cases ra.bl; cases rx; cases rb.str; obtain ⟨t', rfl⟩ := ry; cases e
    exact ⟨.bool_str _ _ _, .bool_str _ _ _, .bool_str _ _ _⟩
  · cases ra.int; obtain ⟨t, rfl⟩ := rx; cases rb.non; cases ry; cases e
    exact ⟨.int_none _ _, .int_none _ _, .int_none _ _⟩
  · cases ra.int; obtain ⟨t, rfl⟩ := rx; cases rb.bl; cases ry; cases e
    exact ⟨.int_bool _ _ _, .int_bool _ _ _, .int_bool _ _ _⟩
  · cases ra.int; obtain ⟨t, rfl⟩ := rx; cases rb.int; obtain ⟨t', rfl⟩ := ry; cases e
    exact ⟨.int_int _ _ _ _, .int_int _ _ _ _, .int_int _ _ _ _⟩
  · cases ra.int; obtain ⟨t, rfl⟩ := rx; cases rb.str; obtain ⟨t', rfl⟩ := ry; cases e
    exact ⟨.int_str _ _ _ _, .int_str _ _ _ _, .int_str _ _ _ _⟩
  · cases ra.str; obtain ⟨t, rfl⟩ := rx; cases rb.non; cases ry; cases e
    exact ⟨.str_none _ _, .str_none _ _, .str_none _ _⟩
  · cases ra.str; obtain ⟨t, rfl⟩ := rx; cases rb.bl; cases ry; cases e
    exact ⟨.str_bool _ _ _, .str_bool _ _ _, .str_bool _ _ _⟩
  · cases ra.str; obtain ⟨t, rfl⟩ := rx; cases rb.int; obtain ⟨t', rfl⟩ := ry; cases e
    exact ⟨.str_int _ _ _ _, .str_int _ _ _ _, .str_int _ _ _ _⟩
  · cases ra.str; obtain ⟨t, rfl⟩ := rx; cases rb.str; obtain ⟨t', rfl⟩ := ry; cases e
    rw [← sOf_beq]
    exact ⟨.str_str _ _ _ _, .str_str _ _ _ _, .str_str _ _ _ _⟩

theorem kd_s {a : LV} (e : kdOf h a = .s) : (a = .non ∨ (∃ b, a = .bl b) ∨ (∃ i, a = .int i) ∨ ∃ x, a = .str x) := by
  cases a with
  | non => exact .inl rfl
  | bl b => exact .inr (.inl ⟨b, rfl⟩)
  | int b => exact .inr (.inr (.inl ⟨b, rfl⟩))
  | str b => exact .inr (.inr (.inr ⟨b, rfl⟩))
  | ref i =>
    rw [kdOf_ref] at e
    cases q : h[i]? with
    | none => rw [q] at e; cases e
    | some o => rw [q] at e; cases o <;> cases e
  | _ => cases e

/-- a scalar beside a list, a tuple -/
theorem scal_seq {A : Around} (hu : A.units < cLine) {a : LV} {x : V} {v : Value} (e : kdOf h a = .s) (ra : VR X.K φ h.length H a x) (rx : RelV x v) {l : Addr} {its : Array Value} :
    (s.heap.IsList l its → (SeqAt.EqAt A s v (.ref l) false ∧ SeqAt.RcAt A s v (.ref l) false ∧ SeqAt.RcNeAt A s v (.ref l) true) ∧ (SeqAt.EqAt A s (.ref l) v false ∧ SeqAt.RcAt A s (.ref l) v false ∧ SeqAt.RcNeAt A s (.ref l) v true)) ∧
    (s.heap.IsTuple l its → (SeqAt.EqAt A s v (.ref l) false ∧ SeqAt.RcAt A s v (.ref l) false ∧ SeqAt.RcNeAt A s v (.ref l) true) ∧ (SeqAt.EqAt A s (.ref l) v false ∧ SeqAt.RcAt A s (.ref l) v false ∧ SeqAt.RcNeAt A s (.ref l) v true)) := by
  rcases kd_s e with rfl | ⟨b, rfl⟩ | ⟨b, rfl⟩ | ⟨b, rfl⟩ <;> unfold VR at ra <;> subst ra
  · cases rx
    exact ⟨fun q => ⟨⟨.none_list q hu, .none_list q hu, .none_list q hu⟩, .list_none q hu, .list_none q hu, .list_none q hu⟩, fun q => ⟨⟨.none_tuple q hu, .none_tuple q hu, .none_tuple q hu⟩, .tuple_none q hu, .tuple_none q hu, .tuple_none q hu⟩⟩
  · cases rx
    exact ⟨fun q => ⟨⟨.bool_list _ q hu, .bool_list _ q hu, .bool_list _ q hu⟩, .list_bool _ q hu, .list_bool _ q hu, .list_bool _ q hu⟩, fun q => ⟨⟨.bool_tuple _ q hu, .bool_tuple _ q hu, .bool_tuple _ q hu⟩, .tuple_bool _ q hu, .tuple_bool _ q hu, .tuple_bool _ q hu⟩⟩
  · obtain ⟨t, rfl⟩ := rx
    exact ⟨fun q => ⟨⟨.int_list _ _ q hu, .int_list _ _ q hu, .int_list _ _ q hu⟩, .list_int _ _ q hu, .list_int _ _ q hu, .list_int _ _ q hu⟩, fun q => ⟨⟨.int_tuple _ _ q hu, .int_tuple _ _ q hu, .int_tuple _ _ q hu⟩, .tuple_int _ _ q hu, .tuple_int _ _ q hu, .tuple_int _ _ q hu⟩⟩
  · obtain ⟨t, rfl⟩ := rx
    exact ⟨fun q => ⟨⟨.str_list _ _ q hu, .str_list _ _ q hu, .str_list _ _ q hu⟩, .list_str _ _ q hu, .list_str _ _ q hu, .list_str _ _ q hu⟩, fun q => ⟨⟨.str_tuple _ _ q hu, .str_tuple _ _ q hu, .str_tuple _ _ q hu⟩, .tuple_str _ _ q hu, .tuple_str _ _ q hu, .tuple_str _ _ q hu⟩⟩

theorem eqV_at (I : Inv X pins σ H s) (S : Sim C X.K φ h H) : ∀ (n : Nat) (A : Around) (a b : LV) (r : Bool) (x y : V) (v u : Value), A.units + n < cLine → eqV n h a b = some r → VR X.K φ h.length H a x → VR X.K φ h.length H b y → RelV x v → RelV y u →
    SeqAt.EqAt A s v u r ∧ SeqAt.RcAt A s v u r ∧ SeqAt.RcNeAt A s v u (!r)
  | 0, A, a, b, r, x, y, v, u, hu, e, ra, rb, rx, ry => by cases e
  | n + 1, A, a, b, r, x, y, v, u, hu, e, ra, rb, rx, ry => by
    have hu0 : A.units < cLine := by omega
    have e0 := e
    unfold eqV at e
    have same : ∀ {l : Addr}, v = .ref l → u = .ref l → SeqAt.EqAt A s v u r := fun {l} e1 e2 => by
      subst e1 e2
      have ex : x = .ref l := by
        have := rx.abs
        simp [absV] at this
        exact this.symm
      have ey : y = .ref l := by
        have := ry.abs
        simp [absV] at this
        exact this.symm
      subst ex ey
      have := VR.inj I S ra rb
      subst this
      rw [eqV_refl h (n + 1) a r e0]
      exact .same _
    cases ha : kdOf h a with
    | s =>
      cases hb : kdOf h b with
      | s => rw [ha, hb] at e; exact eqS_at e ra rb rx ry
      | l ys =>
        rw [ha, hb] at e; cases e
        obtain ⟨l, its, ys', rfl, q, _, _⟩ := kd_l I S rb ry hb
        exact ((scal_seq hu0 ha ra rx).1 q).1
      | t ys =>
        rw [ha, hb] at e; cases e
        obtain ⟨l, its, ys', rfl, q, _, _⟩ := kd_t I rb ry hb
        exact ((scal_seq hu0 ha ra rx).2 q).1
      | x => rw [ha, hb] at e; cases e
    | l xs =>
      obtain ⟨l, its, xs', rfl, q, v1, r1⟩ := kd_l I S ra rx ha
      cases hb : kdOf h b with
      | s =>
        rw [ha, hb] at e; cases e
        exact ((scal_seq hu0 hb rb ry).1 q).2
      | l ys =>
        obtain ⟨l', its', ys', rfl, q', v2, r2⟩ := kd_l I S rb ry hb
        rw [ha, hb] at e
        dsimp only at e
        have l1 := r1.length
        have l2 := r2.length
        have l3 := v1.length
        have l4 := v2.length
        by_cases hl : xs.length = ys.length
        · rw [if_pos hl] at e
          obtain ⟨ev, he, hr⟩ := eqL_tells e
          have hr' : r = (List.range its.toArray.size).all ev := by
            rw [hr, hl, Nat.min_self, beq_self_eq_true, Bool.and_true, ← hl, l1, l3]
            simp
          have hz : its.toArray.size = its'.toArray.size := by simp; omega
          have hq : ∀ j (h1 : j < its.toArray.size) (h2 : j < its'.toArray.size), SeqAt.EqAt A.in1 s its.toArray[j] its'.toArray[j] (ev j) :=
            items_at (F := fun v u r => SeqAt.EqAt A.in1 s v u r) he r1 r2 v1 v2 fun a b r x y v u e1 e2 e3 e4 e5 => (eqV_at I S n A.in1 a b r x y v u (by show A.units + 1 + n < cLine; omega) e1 e2 e3 e4 e5).1
          have rc : SeqAt.RcAt A s (.ref l) (.ref l') r := by rw [hr']; exact .lists q q' hz hu0 hq
          have rn : SeqAt.RcNeAt A s (.ref l) (.ref l') (!r) := by rw [hr']; exact .lists q q' hz hu0 hq
          refine ⟨?_, rc, rn⟩
          by_cases hll : l = l'
          · exact same rfl (by rw [hll])
          · exact .of_refs hll rc
        · rw [if_neg hl] at e
          cases e
          have hz : (its.toArray.size != its'.toArray.size) = true := by
            simp only [List.size_toArray, bne_iff_ne, ne_eq]
            omega
          refine ⟨?_, .lists_lengths q q' hz hu0, .lists_lengths q q' hz hu0⟩
          by_cases hll : l = l'
          · exact same rfl (by rw [hll])
          · exact .of_refs hll (.lists_lengths q q' hz hu0)
      | t ys =>
        obtain ⟨l', its', ys', rfl, q', v2, r2⟩ := kd_t I rb ry hb
        rw [ha, hb] at e; cases e
        exact ⟨.list_tuple q q' hu0, .list_tuple q q' hu0, .list_tuple q q' hu0⟩
      | x => rw [ha, hb] at e; cases e
    | t xs =>
      obtain ⟨l, its, xs', rfl, q, v1, r1⟩ := kd_t I ra rx ha
      cases hb : kdOf h b with
      | s =>
        rw [ha, hb] at e; cases e
        exact ((scal_seq hu0 hb rb ry).2 q).2
      | l ys =>
        obtain ⟨l', its', ys', rfl, q', v2, r2⟩ := kd_l I S rb ry hb
        rw [ha, hb] at e; cases e
        exact ⟨.tuple_list q q' hu0, .tuple_list q q' hu0, .tuple_list q q' hu0⟩
      | t ys =>
        obtain ⟨l', its', ys', rfl, q', v2, r2⟩ := kd_t I rb ry hb
        rw [ha, hb] at e
        dsimp only at e
        have l1 := r1.length
        have l2 := r2.length
        have l3 := v1.length
        have l4 := v2.length
        obtain ⟨ev, he, hr⟩ := eqL_tells e
        have hr' : r = ((List.range (min its.toArray.size its'.toArray.size)).all ev && its.toArray.size == its'.toArray.size) := by
          rw [hr, l1, l2, l3, l4]
          simp
        have hq : ∀ j (h1 : j < its.toArray.size) (h2 : j < its'.toArray.size), SeqAt.EqAt A.in1 s its.toArray[j] its'.toArray[j] (ev j) :=
          items_at (F := fun v u r => SeqAt.EqAt A.in1 s v u r) he r1 r2 v1 v2 fun a b r x y v u e1 e2 e3 e4 e5 => (eqV_at I S n A.in1 a b r x y v u (by show A.units + 1 + n < cLine; omega) e1 e2 e3 e4 e5).1
        have rc : SeqAt.RcAt A s (.ref l) (.ref l') r := by rw [hr']; exact .tuples q q' hu0 hq
        have rn : SeqAt.RcNeAt A s (.ref l) (.ref l') (!r) := by rw [hr']; exact .tuples q q' hu0 hq
        refine ⟨?_, rc, rn⟩
        by_cases hll : l = l'
        · exact same rfl (by rw [hll])
        · exact .of_refs hll rc
      | x => rw [ha, hb] at e; cases e
    | x => rw [ha] at e; cases hb : kdOf h b <;> rw [hb] at e <;> cases e
end

/-! ### the operations -/
def pEq (a b : LV) (h : LH) : Res LV := match eqV 20 h a b with
  | some r => .ok (.bl r) h
  | none => .bad
def pNe (a b : LV) (h : LH) : Res LV := match eqV 20 h a b with
  | some r => .ok (.bl (!r)) h
  | none => .bad
/-- is x one of xs -/
def memV (h : LH) (x : LV) : List LV → Option Bool
  | [] => some false
  | y :: ys => match eqV 20 h y x, memV h x ys with
    | some b, some r => some (b || r)
    | _, _ => none
section
variable {X : Cx} {C : Cl}
theorem o_eq (hu : X.A.units + 64 < cLine) : OpR X (compareOp .Eq) (r2 C X.K pEq) := by
  intro pins s σ H x y v u Q I rx ry q
  obtain ⟨φ, h, a, b, S, ra, rb, R⟩ := q
  unfold pEq at R
  cases e : eqV 20 h a b with
  | none => rw [e] at R; exact R.elim
  | some r =>
    rw [e] at R
    exact (eqV_at I S 20 X.A a b r x y v u (by omega) e ra rb rx ry).2.1 X.prog X.w _ _ ⟨.bl r, H, I, rfl, R.here S vr_bl⟩
theorem o_ne (hu : X.A.units + 64 < cLine) : OpR X (compareOp .NotEq) (r2 C X.K pNe) := by
  intro pins s σ H x y v u Q I rx ry q
  obtain ⟨φ, h, a, b, S, ra, rb, R⟩ := q
  unfold pNe at R
  cases e : eqV 20 h a b with
  | none => rw [e] at R; exact R.elim
  | some r =>
    rw [e] at R
    exact (eqV_at I S 20 X.A a b r x y v u (by omega) e ra rb rx ry).2.2 X.prog X.w _ _ ⟨.bl (!r), H, I, rfl, R.here S vr_bl⟩
end
end LD
end
section
set_option Elab.async false
set_option linter.all false
set_option maxRecDepth 100000
set_option maxHeartbeats 1000000
/-! LDF: dicts, membership, items -/
namespace LD
open PySem L2

/-! ### keys -/
mutual
def keq : LV → LV → Bool
  | .int i, .int j => i == j
  | .str x, .str y => x == y
  | .tup xs, .tup ys => keqs xs ys
  | _, _ => false
def keqs : List LV → List LV → Bool
  | [], [] => true
  | x :: xs, y :: ys => keq x y && keqs xs ys
  | _, _ => false
end
theorem keq_key {a b : LV} {k k' : Key} (ha : keyOf a = some k) (hb : keyOf b = some k') : keq a b = decide (k = k') := by
  cases a <;> cases ha <;> cases b <;> cases hb
  · rename_i i j
    unfold keq
    rw [Bool.eq_iff_iff]
    simp
  · unfold keq; simp
  · unfold keq; simp
  · rename_i x y
    unfold keq
    rw [Bool.eq_iff_iff]
    simp only [beq_iff_eq, decide_eq_true_eq, Sum.inr.injEq]
    exact ⟨fun e => by rw [e], fun e => sOf_inj e⟩
theorem keqs_keys : ∀ {xs ys : List LV} {ks ks' : List Key}, keysOf xs = some ks → keysOf ys = some ks' → keqs xs ys = decide (ks = ks')
  | [], [], ks, ks', ha, hb => by cases ha; cases hb; unfold keqs; simp
  | [], y :: ys, ks, ks', ha, hb => by
    cases ha
    unfold keysOf at hb
    split at hb <;> cases hb
    unfold keqs; simp
  | x :: xs, [], ks, ks', ha, hb => by
    cases hb
    unfold keysOf at ha
    split at ha <;> cases ha
    unfold keqs; simp
  | x :: xs, y :: ys, ks, ks', ha, hb => by
    unfold keysOf at ha hb
    split at ha <;> cases ha
    split at hb <;> cases hb
    rename_i e1 e2 _ _ _ _ e3 e4
    unfold keqs
    rw [keq_key e1 e3, keqs_keys e2 e4, Bool.eq_iff_iff]
    simp
theorem keq_tkey {a b : LV} {k k' : List Key} (ha : tkeyOf a = some k) (hb : tkeyOf b = some k') : keq a b = decide (k = k') := by
  cases a <;> cases b <;> first | (cases ha; done) | (cases hb; done) | skip
  unfold keq
  exact keqs_keys ha hb

def dget : List (LV × LV) → LV → Option LV
  | [], _ => none
  | (k', v) :: r, k => if keq k' k then some v else dget r k
def dput (kvs : List (LV × LV)) (k v : LV) : List (LV × LV) :=
  if kvs.any (fun kv => keq kv.1 k) then kvs.map (fun kv => if keq kv.1 k then (kv.1, v) else kv) else kvs ++ [(k, v)]
def ddel (kvs : List (LV × LV)) (k : LV) : List (LV × LV) := kvs.filter fun kv => !keq kv.1 k

section
variable {κ : Type} [DecidableEq κ] {ko : LV → Option κ} {K : PySem.W.Frag} {φ : Nat → Addr} {n : Nat} {H : Hp}
theorem KRs.val (hk : ∀ {a b : LV} {k k' : κ}, ko a = some k → ko b = some k' → keq a b = decide (k = k')) {k : LV} {k' : κ} (e : ko k = some k') :
    ∀ {kvs : List (LV × LV)} {ys : List (κ × V)}, KRs ko K φ n H kvs ys → (dget kvs k = none ∧ valV ys k' = none) ∨ ∃ x y, dget kvs k = some x ∧ valV ys k' = some y ∧ VR K φ n H x y
  | [], ys, r => by unfold KRs at r; subst r; exact .inl ⟨rfl, rfl⟩
  | (c, x) :: kvs, ys, r => by
    unfold KRs at r
    obtain ⟨c', y, zs, rfl, e1, r1, r2⟩ := r
    unfold dget
    rw [hk e1 e]
    by_cases q : c' = k'
    · subst q
      rw [valV_pos rfl]
      exact .inr ⟨x, y, by simp, rfl, r1⟩
    · rw [valV_neg (p := (c', y)) q]
      simpa [q] using KRs.val hk e r2
theorem KRs.any (hk : ∀ {a b : LV} {k k' : κ}, ko a = some k → ko b = some k' → keq a b = decide (k = k')) {k : LV} {k' : κ} (e : ko k = some k') :
    ∀ {kvs : List (LV × LV)} {ys : List (κ × V)}, KRs ko K φ n H kvs ys → (kvs.any fun kv => keq kv.1 k) = ys.any fun kv => decide (kv.1 = k')
  | [], ys, r => by unfold KRs at r; subst r; rfl
  | (c, x) :: kvs, ys, r => by
    unfold KRs at r
    obtain ⟨c', y, zs, rfl, e1, r1, r2⟩ := r
    simp only [List.any_cons]
    rw [hk e1 e, KRs.any hk e r2]
theorem KRs.repl (hk : ∀ {a b : LV} {k k' : κ}, ko a = some k → ko b = some k' → keq a b = decide (k = k')) {k x : LV} {k' : κ} {y : V} (e : ko k = some k') (rx : VR K φ n H x y) :
    ∀ {kvs : List (LV × LV)} {ys : List (κ × V)}, KRs ko K φ n H kvs ys → KRs ko K φ n H (kvs.map fun kv => if keq kv.1 k then (kv.1, x) else kv) (ys.map fun kv => if kv.1 = k' then (kv.1, y) else kv)
  | [], ys, r => by unfold KRs at r; subst r; unfold KRs; rfl
  | (c, z) :: kvs, ys, r => by
    unfold KRs at r
    obtain ⟨c', w, zs, rfl, e1, r1, r2⟩ := r
    simp only [List.map_cons]
    rw [hk e1 e]
    have ih := KRs.repl hk e rx r2
    by_cases q : c' = k'
    · subst q
      simp only [decide_true, if_true]
      exact ⟨c', y, _, rfl, e1, rx, ih⟩
    · simp only [q, decide_false, Bool.false_eq_true, if_false]
      exact ⟨c', w, _, rfl, e1, r1, ih⟩
theorem KRs.snoc {k x : LV} {k' : κ} {y : V} (e : ko k = some k') (rx : VR K φ n H x y) : ∀ {kvs : List (LV × LV)} {ys : List (κ × V)}, KRs ko K φ n H kvs ys → KRs ko K φ n H (kvs ++ [(k, x)]) (ys ++ [(k', y)])
  | [], ys, r => by unfold KRs at r; subst r; exact ⟨k', y, [], rfl, e, rx, rfl⟩
  | (c, z) :: kvs, ys, r => by
    unfold KRs at r
    obtain ⟨c', w, zs, rfl, e1, r1, r2⟩ := r
    exact ⟨c', w, _, rfl, e1, r1, KRs.snoc e rx r2⟩
theorem KRs.put (hk : ∀ {a b : LV} {k k' : κ}, ko a = some k → ko b = some k' → keq a b = decide (k = k')) {k x : LV} {k' : κ} {y : V} (e : ko k = some k') (rx : VR K φ n H x y) {kvs : List (LV × LV)} {ys : List (κ × V)} (r : KRs ko K φ n H kvs ys) :
    KRs ko K φ n H (dput kvs k x) (putK ys k' y) := by
  unfold dput putK
  rw [KRs.any hk e r]
  by_cases q : (ys.any fun kv => decide (kv.1 = k')) = true
  · rw [if_pos q, if_pos q]; exact KRs.repl hk e rx r
  · rw [if_neg q, if_neg q]; exact KRs.snoc e rx r
theorem KRs.del (hk : ∀ {a b : LV} {k k' : κ}, ko a = some k → ko b = some k' → keq a b = decide (k = k')) {k : LV} {k' : κ} (e : ko k = some k') :
    ∀ {kvs : List (LV × LV)} {ys : List (κ × V)}, KRs ko K φ n H kvs ys → KRs ko K φ n H (ddel kvs k) (dropK ys k')
  | [], ys, r => by unfold KRs at r; subst r; unfold ddel dropK KRs; rfl
  | (c, z) :: kvs, ys, r => by
    unfold KRs at r
    obtain ⟨c', w, zs, rfl, e1, r1, r2⟩ := r
    have ih := KRs.del hk e r2
    unfold ddel dropK at ih ⊢
    simp only [List.filter_cons]
    rw [hk e1 e]
    by_cases q : c' = k'
    · subst q; simpa using ih
    · simp only [q, decide_false, Bool.not_false, if_true, ne_eq, not_false_eq_true, decide_true]
      exact ⟨c', w, _, rfl, e1, r1, ih⟩
theorem KRs.length : ∀ {kvs : List (LV × LV)} {ys : List (κ × V)}, KRs ko K φ n H kvs ys → kvs.length = ys.length
  | [], ys, r => by unfold KRs at r; subst r; rfl
  | (c, z) :: kvs, ys, r => by
    unfold KRs at r
    obtain ⟨c', w, zs, rfl, e1, r1, r2⟩ := r
    simp [KRs.length r2]
end

/-- the key's value -/
theorem key_V {K : PySem.W.Frag} {φ : Nat → Addr} {n : Nat} {H : Hp} {a : LV} {x : V} {k : Key} (r : VR K φ n H a x) (e : keyOf a = some k) : x = kV k := by
  cases a <;> cases e
  · exact r.int
  · exact r.str
theorem keys_V {K : PySem.W.Frag} {φ : Nat → Addr} {n : Nat} {H : Hp} : ∀ {xs : List LV} {ys : List V} {ks : List Key}, VRs K φ n H xs ys → keysOf xs = some ks → ys = ks.map kV
  | [], ys, ks, r, e => by cases e; unfold VRs at r; exact r
  | x :: xs, ys, ks, r, e => by
    unfold keysOf at e
    split at e <;> cases e
    rename_i k l e1 e2
    unfold VRs at r
    obtain ⟨y, zs, rfl, r1, r2⟩ := r
    rw [key_V r1 e1, keys_V r2 e2]
    rfl

/-- the pairs of a dict, and whether its keys are tuples -/
def dicOf (h : LH) : LV → Option (Bool × List (LV × LV))
  | .ref i => match h[i]? with
    | some (.dK kvs) => some (false, kvs)
    | some (.dT kvs) => some (true, kvs)
    | some (.fK kvs) => some (false, kvs)
    | some (.fT kvs) => some (true, kvs)
    | _ => none
  | _ => none
/-- the key fits the dict -/
def fits (t : Bool) (k : LV) : Bool := if t then (tkeyOf k).isSome else (keyOf k).isSome

section
variable {C : Cl} {K : PySem.W.Frag} {φ : Nat → Addr} {h : LH} {H : Hp}
theorem dicOf_at (S : Sim C K φ h H) {a : LV} {x : V} {t : Bool} {kvs : List (LV × LV)} (r : VR K φ h.length H a x) (e : dicOf h a = some (t, kvs)) :
    ∃ p, x = .ref p ∧ ((t = false ∧ ∃ ys, Rd H p (.dK ys) ∧ KRs keyOf K φ h.length H kvs ys) ∨ (t = true ∧ ∃ ys, Rd H p (.dT ys) ∧ KRs tkeyOf K φ h.length H kvs ys)) := by
  cases a with
  | ref i =>
    unfold VR at r
    obtain ⟨hi, rfl⟩ := r
    have e' : (match h[i]? with
      | some (.dK kvs) => some (false, kvs)
      | some (.dT kvs) => some (true, kvs)
      | some (.fK kvs) => some (false, kvs)
      | some (.fT kvs) => some (true, kvs)
      | _ => none) = some (t, kvs) := e
    cases q : h[i]? with
    | none => rw [q] at e'; cases e'
    | some o =>
      rw [q] at e'
      have ob := S.obj i o q
      refine ⟨_, rfl, ?_⟩
      cases o with
      | dK zs => cases e'; obtain ⟨ys, e1, e2⟩ := ob; exact .inl ⟨rfl, ys, .inl e1, e2⟩
      | dT zs => cases e'; obtain ⟨ys, e1, e2⟩ := ob; exact .inr ⟨rfl, ys, .inl e1, e2⟩
      | fK zs => cases e'; obtain ⟨o, ys, e1, e2⟩ := ob; exact .inl ⟨rfl, ys, .inr ⟨o, e1⟩, e2⟩
      | fT zs => cases e'; obtain ⟨o, ys, e1, e2⟩ := ob; exact .inr ⟨rfl, ys, .inr ⟨o, e1⟩, e2⟩
      | _ => cases e'
  | _ => cases e
/-- a look into a dict -/
theorem dicOf_get (S : Sim C K φ h H) {a k : LV} {x y : V} {t : Bool} {kvs : List (LV × LV)} (r : VR K φ h.length H a x) (e : dicOf h a = some (t, kvs)) (ry : VR K φ h.length H k y) (hf : fits t k = true) :
    ∃ p o, x = .ref p ∧ IsD H p ∧ DGet H p y o ∧ ((dget kvs k = none ∧ o = none) ∨ ∃ v w, dget kvs k = some v ∧ o = some w ∧ VR K φ h.length H v w) := by
  obtain ⟨p, rfl, ⟨rfl, ys, rd, kr⟩ | ⟨rfl, ys, rd, kr⟩⟩ := dicOf_at S r e
  · obtain ⟨k', ek⟩ := Option.isSome_iff_exists.mp (show (keyOf k).isSome = true from hf)
    have := key_V ry ek
    subst this
    refine ⟨p, valV ys k', rfl, .inl ⟨_, rd⟩, .inl ⟨ys, k', rd, rfl, rfl⟩, ?_⟩
    exact KRs.val keq_key ek kr
  · obtain ⟨k', ek⟩ := Option.isSome_iff_exists.mp (show (tkeyOf k).isSome = true from hf)
    cases k with
    | tup xs =>
      unfold VR at ry
      obtain ⟨q, zs, rfl, eq, rs⟩ := ry
      have := keys_V rs ek
      subst this
      refine ⟨p, valV ys k', rfl, .inr ⟨_, rd⟩, .inr ⟨ys, k', q, rd, rfl, eq, rfl⟩, ?_⟩
      exact KRs.val keq_tkey ek kr
    | _ => cases ek
end

/-! ### membership -/
def pIn (a b : LV) (h : LH) : Res LV := match a, b with
  | .str [c], .str y => .ok (.bl (decide (c ∈ y))) h
  | _, _ => match lstOf h b with
    | some ys => (match memV h a ys with
      | some r => .ok (.bl r) h
      | none => .bad)
    | none => match tupOf b with
      | some ys => (match memV h a ys with
        | some r => .ok (.bl r) h
        | none => .bad)
      | none => match dicOf h b with
        | some (t, kvs) => if fits t a then .ok (.bl (dget kvs a).isSome) h else .bad
        | none => .bad
def notB : Res LV → Res LV
  | .ok (.bl b) h => .ok (.bl (!b)) h
  | _ => .bad
def pNotIn (a b : LV) (h : LH) : Res LV := notB (pIn a b h)

section
variable {X : Cx} {C : Cl} {pins : List (Addr × Obj)} {σ : St} {H : Hp} {s : Shared} {φ : Nat → Addr} {h : LH}
open Classical in
theorem memV_at (I : Inv X pins σ H s) (S : Sim C X.K φ h H) {A : Around} (hu : A.units + 20 < cLine) {a : LV} {x : V} {v : Value} (ra : VR X.K φ h.length H a x) (rx : RelV x v) {ys : List LV} {zs : List V} {us : List Value} (rs : VRs X.K φ h.length H ys zs) (rv : Vals zs us) {r : Bool}
    (e : memV h a ys = some r) : ∃ ev : Value → Bool, (∀ y ∈ us, SeqAt.EqAt A s y v (ev y)) ∧ us.any ev = r := by
  let ev : Value → Bool := fun u => decide (∃ b y, VR X.K φ h.length H b y ∧ RelV y u ∧ eqV 20 h b a = some true)
  have key : ∀ b y u r, VR X.K φ h.length H b y → RelV y u → eqV 20 h b a = some r → ev u = r := fun b y u r rb ry e => by
    cases r with
    | true => exact decide_eq_true ⟨b, y, rb, ry, e⟩
    | false =>
      refine decide_eq_false fun ⟨b', y', rb', ry', e'⟩ => ?_
      have := ry.inj ry'
      subst this
      have := VR.inj I S rb rb'
      subst this
      rw [e] at e'; cases e'
  refine ⟨ev, ?_⟩
  clear_value ev
  induction ys generalizing zs us r with
  | nil =>
    unfold VRs at rs; subst rs
    cases rv
    cases e
    exact ⟨fun y hy => (by cases hy), rfl⟩
  | cons y ys ih =>
    unfold VRs at rs
    obtain ⟨z, zs, rfl, r1, r2⟩ := rs
    cases rv with
    | cons q1 q2 =>
      rename_i u us
      unfold memV at e
      cases e1 : eqV 20 h y a with
      | none => rw [e1] at e; cases e
      | some b =>
        cases e2 : memV h a ys with
        | none => rw [e1, e2] at e; cases e
        | some c =>
          rw [e1, e2] at e
          cases e
          obtain ⟨i1, i2⟩ := ih r2 q2 e2
          refine ⟨fun w hw => ?_, ?_⟩
          · rcases List.mem_cons.mp hw with rfl | hw
            · rw [key y z w b r1 q1 e1]
              exact (eqV_at I S 20 A y a b z x w v hu e1 r1 ra q1 rx).1
            · exact i1 w hw
          · rw [List.any_cons, key y z u b r1 q1 e1, i2]
end

section
variable {X : Cx} {C : Cl}
theorem pIn_ok (hu : X.A.units + 64 < cLine) {pins : List (Addr × Obj)} {s : Shared} {σ : St} {H : Hp} {x y : V} {v u : Value} (I : Inv X pins σ H s) (rx : RelV x v) (ry : RelV y u) {φ : Nat → Addr} {h : LH} {a b : LV} (S : Sim C X.K φ h H) (ra : VR X.K φ h.length H a x) (rb : VR X.K φ h.length H b y)
    {r : LV} {h' : LH} (e : pIn a b h = .ok r h') : ∃ k, r = .bl k ∧ h' = h ∧ (∀ {Q : VK}, Q (.bl k) H → wpAny (model X.prog X.w) X.A (compareOp .In v u) (EP X pins σ Q) X.xe s) ∧ (∀ {Q : VK}, Q (.bl (!k)) H → wpAny (model X.prog X.w) X.A (compareOp .NotIn v u) (EP X pins σ Q) X.xe s) := by
  unfold pIn at e
  split at e
  · rename_i c z
    cases e
    cases ra.str; cases rb.str
    refine ⟨_, rfl, rfl, fun {Q} q => op_in_sign pins s σ H _ _ v u Q I rx ry ⟨c, sOf z, rfl, rfl, ?_⟩, fun {Q} q => op_notIn_sign pins s σ H _ _ v u Q I rx ry ⟨c, sOf z, rfl, rfl, ?_⟩⟩
    · rw [show decide (c ∈ (sOf z).cps.toList) = decide (c ∈ z) from decide_eq_decide.mpr (by simp [sOf])]; exact q
    · rw [show decide (c ∈ (sOf z).cps.toList) = decide (c ∈ z) from decide_eq_decide.mpr (by simp [sOf])]; exact q
  · split at e
    · rename_i ys e1
      split at e <;> cases e
      rename_i r e2
      obtain ⟨p, zs, rfl, q1, q2⟩ := lstOf_sq S rb e1
      cases ry
      obtain ⟨its, rv, pl, _⟩ := I.list q1
      obtain ⟨ev, k1, k2⟩ := memV_at I S (A := X.A.in1) (by show X.A.units + 1 + 20 < cLine; omega) ra rx q2 rv e2
      have k2' : its.toArray.any ev = r := by simpa using k2
      refine ⟨r, rfl, rfl, fun {Q} q => SeqAt.in_listAt ev pl.isList (fun y hy => k1 y (by simpa using hy)) ?_, fun {Q} q => SeqAt.notIn_listAt ev pl.isList (fun y hy => k1 y (by simpa using hy)) ?_⟩
      · rw [k2']; exact ⟨.bl r, H, I, rfl, q⟩
      · rw [k2']; exact ⟨.bl (!r), H, I, rfl, q⟩
    · split at e
      · rename_i ys e1
        split at e <;> cases e
        rename_i r e2
        obtain ⟨p, zs, rfl, q1, q2⟩ := tupOf_sq rb e1
        cases ry
        obtain ⟨its, rv, pl, _⟩ := I.tuple q1
        obtain ⟨ev, k1, k2⟩ := memV_at I S (A := X.A.in1) (by show X.A.units + 1 + 20 < cLine; omega) ra rx q2 rv e2
        have k2' : its.toArray.any ev = r := by simpa using k2
        refine ⟨r, rfl, rfl, fun {Q} q => SeqAt.in_tupleAt ev pl (fun y hy => k1 y (by simpa using hy)) ?_, fun {Q} q => SeqAt.notIn_tupleAt ev pl (fun y hy => k1 y (by simpa using hy)) ?_⟩
        · rw [k2']; exact ⟨.bl r, H, I, rfl, q⟩
        · rw [k2']; exact ⟨.bl (!r), H, I, rfl, q⟩
      · split at e
        · rename_i t kvs e1
          split at e <;> cases e
          rename_i hf
          obtain ⟨p, o, rfl, _, g, q⟩ := dicOf_get S rb e1 ra hf
          cases ry
          have ho : o.isSome = (dget kvs a).isSome := by
            rcases q with ⟨q1, q2⟩ | ⟨w1, w2, q1, q2, _⟩ <;> rw [q1, q2] <;> rfl
          refine ⟨_, rfl, rfl, fun {Q} q => d_in (by omega) I g rx fun s' I' => ?_, fun {Q} q => d_notIn (by omega) I g rx fun s' I' => ?_⟩
          · rw [ho]; exact ⟨.bl _, H, I', rfl, q⟩
          · rw [ho]; exact ⟨.bl _, H, I', rfl, q⟩
        · cases e
theorem o_in (hu : X.A.units + 64 < cLine) : OpR X (compareOp .In) (r2 C X.K pIn) := by
  intro pins s σ H x y v u Q I rx ry q
  obtain ⟨φ, h, a, b, S, ra, rb, R⟩ := q
  cases e : pIn a b h with
  | ok r h' =>
    obtain ⟨k, rfl, rfl, q1, _⟩ := pIn_ok hu I rx ry S ra rb e
    rw [e] at R
    exact q1 (R.here S vr_bl)
  | exc c p h' =>
    exfalso
    unfold pIn at e
    repeat' split at e
    all_goals cases e
  | bad => rw [e] at R; exact R.elim
theorem o_notin (hu : X.A.units + 64 < cLine) : OpR X (compareOp .NotIn) (r2 C X.K pNotIn) := by
  intro pins s σ H x y v u Q I rx ry q
  obtain ⟨φ, h, a, b, S, ra, rb, R⟩ := q
  unfold pNotIn at R
  cases e : pIn a b h with
  | ok r h' =>
    obtain ⟨k, rfl, rfl, _, q1⟩ := pIn_ok hu I rx ry S ra rb e
    rw [e] at R
    exact q1 (RSg.here (a := LV.bl (!k)) S R vr_bl)
  | exc c p h' => rw [e] at R; exact R.elim
  | bad => rw [e] at R; exact R.elim
end

/-! ### items -/
def got (o : Option LV) (h : LH) : Res LV := match o with
  | some v => .ok v h
  | none => .bad
def pSeqIdx (a : LV) (i : Int) (h : LH) : Res LV := match a with
  | .str x => if x.length ≤ 16777216 then got ((atI x i).map fun c => .str [c]) h else .bad
  | _ => match lstOf h a with
    | some xs => got (atI xs i) h
    | none => match tupOf a with
      | some xs => got (atI xs i) h
      | none => .bad
def pIdx (a b : LV) (h : LH) : Res LV := match dicOf h a with
  | some (t, kvs) => if fits t b then got (dget kvs b) h else .bad
  | none => match b with
    | .int i => pSeqIdx a i h
    | _ => .bad

theorem VRs.atI {K : PySem.W.Frag} {φ : Nat → Addr} {n : Nat} {H : Hp} {xs : List LV} {ys : List V} {i : Int} {v : LV} (r : VRs K φ n H xs ys) (e : L2.atI xs i = some v) : ∃ y, L2.atI ys i = some y ∧ VR K φ n H v y := by
  unfold L2.atI at e ⊢
  rw [← r.length]
  cases q : ixN xs.length i with
  | none => rw [q] at e; cases e
  | some j =>
    rw [q] at e
    exact r.get e
section
variable {X : Cx} {C : Cl}
theorem o_idx (hu : X.A.units + 64 < cLine) : IxR X (r2 C X.K pIdx) := by
  intro value slice pins s σ H x y v u Q I rx ry q hs
  obtain ⟨φ, h, a, b, S, ra, rb, R⟩ := q
  unfold pIdx at R
  split at R
  · rename_i t kvs e1
    split at R
    · rename_i hf
      cases e2 : dget kvs b with
      | none => rw [e2] at R; exact R.elim
      | some w =>
        rw [e2] at R
        obtain ⟨p, o, rfl, _, g, q⟩ := dicOf_get S ra e1 rb hf
        rcases q with ⟨q1, _⟩ | ⟨w1, w2, q1, q2, q3⟩
        · rw [e2] at q1; cases q1
        · rw [e2] at q1; cases q1
          subst q2
          cases rx
          exact PyProof.Rows.tail_any (dict_typeIs I g) PySem.F.slot_dict_getitem.lookup (d_getItem (by omega) I g ry fun w' s3 I3 rw' => ⟨w2, H, I3, rw', RSg.here S R q3⟩) hs
    · exact R.elim
  · split at R
    · rename_i i
      cases rb.int
      unfold pSeqIdx at R
      split at R
      · rename_i z _
        cases ra.str
        split at R
        · rename_i hl
          cases e : atI z i with
          | none => rw [e] at R; exact R.elim
          | some c =>
            rw [e] at R
            refine ix_str value slice pins s σ H _ _ v u Q I rx ry ⟨sOf z, i, c, rfl, rfl, ?_, ?_, ?_⟩ hs
            · rw [sOf_length]; exact line_of hl
            · simpa [sOf] using e
            · exact RSg.here (a := LV.str [c]) S R vr_str
        · exact R.elim
      · split at R
        · rename_i xs e1
          cases e : atI xs i with
          | none => rw [e] at R; exact R.elim
          | some c =>
            rw [e] at R
            obtain ⟨p, ys, rfl, q1, q2⟩ := lstOf_sq S ra e1
            obtain ⟨w, ew, rw'⟩ := q2.atI e
            exact ix_list value slice pins s σ H _ _ v u Q I rx ry ⟨p, ys, i, w, rfl, rfl, q1, ew, RSg.here S R rw'⟩ hs
        · split at R
          · rename_i xs e1
            cases e : atI xs i with
            | none => rw [e] at R; exact R.elim
            | some c =>
              rw [e] at R
              obtain ⟨p, ys, rfl, q1, q2⟩ := tupOf_sq ra e1
              obtain ⟨w, ew, rw'⟩ := q2.atI e
              exact ix_tup value slice pins s σ H _ _ v u Q I rx ry ⟨p, ys, i, w, rfl, rfl, q1, ew, RSg.here S R rw'⟩ hs
          · exact R.elim
    · exact R.elim
end
end LD
end
section
set_option Elab.async false
set_option linter.all false
set_option maxRecDepth 100000
set_option maxHeartbeats 1000000
/-! LDG: built-in functions, methods of lists and dicts, slices, stores -/
namespace LD
open PySem L2

def rN (C : Cl) (K : PySem.W.Frag) (p : List LV → LH → Res LV) : List V → Hp → VK → Prop := fun xs H Q =>
  ∃ φ h as, Sim C K φ h H ∧ VRs K φ h.length H as xs ∧ RSg C K (RV K) (fun _ _ _ => False) φ h H (p as h) Q
def rM (C : Cl) (K : PySem.W.Frag) (p : LV → List LV → LH → Res LV) : V → List V → Hp → VK → Prop := fun x xs H Q =>
  ∃ φ h a as, Sim C K φ h H ∧ VR K φ h.length H a x ∧ VRs K φ h.length H as xs ∧ RSg C K (RV K) (fun _ _ _ => False) φ h H (p a as h) Q

theorem VRs.one {K : PySem.W.Frag} {φ : Nat → Addr} {n : Nat} {H : Hp} {a : LV} {xs : List V} (r : VRs K φ n H [a] xs) : ∃ x, xs = [x] ∧ VR K φ n H a x := by
  unfold VRs at r
  obtain ⟨y, zs, rfl, r1, r2⟩ := r
  unfold VRs at r2
  subst r2
  exact ⟨y, rfl, r1⟩
theorem VRs.two {K : PySem.W.Frag} {φ : Nat → Addr} {n : Nat} {H : Hp} {a b : LV} {xs : List V} (r : VRs K φ n H [a, b] xs) : ∃ x y, xs = [x, y] ∧ VR K φ n H a x ∧ VR K φ n H b y := by
  unfold VRs at r
  obtain ⟨y, zs, rfl, r1, r2⟩ := r
  obtain ⟨z, rfl, r3⟩ := r2.one
  exact ⟨y, z, rfl, r1, r3⟩

def intsOf : List LV → Option (List Int)
  | [] => some []
  | .int i :: xs => (intsOf xs).map (i :: ·)
  | _ :: _ => none
def strsOf : List LV → Option (List (List Nat))
  | [] => some []
  | .str x :: xs => (strsOf xs).map (x :: ·)
  | _ :: _ => none
def blsOf : List LV → Option (List Bool)
  | [] => some []
  | .bl x :: xs => (blsOf xs).map (x :: ·)
  | _ :: _ => none
section
variable {K : PySem.W.Frag} {φ : Nat → Addr} {n : Nat} {H : Hp}
theorem ints_V : ∀ {xs : List LV} {ys : List V} {is : List Int}, VRs K φ n H xs ys → intsOf xs = some is → ys = is.map V.int
  | [], ys, is, r, e => by cases e; unfold VRs at r; exact r
  | x :: xs, ys, is, r, e => by
    unfold VRs at r
    obtain ⟨y, zs, rfl, r1, r2⟩ := r
    cases x with
    | int i =>
      have e' : (intsOf xs).map (i :: ·) = some is := e
      cases q : intsOf xs with
      | none => rw [q] at e'; cases e'
      | some js =>
        rw [q] at e'; cases e'
        rw [r1.int, ints_V r2 q]
        rfl
    | _ => cases e
theorem strs_V : ∀ {xs : List LV} {ys : List V} {is : List (List Nat)}, VRs K φ n H xs ys → strsOf xs = some is → ys = is.map fun x => V.str (sOf x)
  | [], ys, is, r, e => by cases e; unfold VRs at r; exact r
  | x :: xs, ys, is, r, e => by
    unfold VRs at r
    obtain ⟨y, zs, rfl, r1, r2⟩ := r
    cases x with
    | str i =>
      have e' : (strsOf xs).map (i :: ·) = some is := e
      cases q : strsOf xs with
      | none => rw [q] at e'; cases e'
      | some js =>
        rw [q] at e'; cases e'
        rw [r1.str, strs_V r2 q]
        rfl
    | _ => cases e
theorem bls_V : ∀ {xs : List LV} {ys : List V} {is : List Bool}, VRs K φ n H xs ys → blsOf xs = some is → ys = is.map V.bl
  | [], ys, is, r, e => by cases e; unfold VRs at r; exact r
  | x :: xs, ys, is, r, e => by
    unfold VRs at r
    obtain ⟨y, zs, rfl, r1, r2⟩ := r
    cases x with
    | bl i =>
      have e' : (blsOf xs).map (i :: ·) = some is := e
      cases q : blsOf xs with
      | none => rw [q] at e'; cases e'
      | some js =>
        rw [q] at e'; cases e'
        rw [r1.bl, bls_V r2 q]
        rfl
    | _ => cases e
end

def pLen (as : List LV) (h : LH) : Res LV := match as with
  | [.str x] => if x.length ≤ 16777216 then .ok (.int x.length) h else .bad
  | [a] => match lstOf h a with
    | some xs => .ok (.int xs.length) h
    | none => match tupOf a with
      | some xs => .ok (.int xs.length) h
      | none => match dicOf h a with
        | some (false, kvs) => .ok (.int kvs.length) h
        | _ => .bad
  | _ => .bad
def pAbs (as : List LV) (h : LH) : Res LV := match as with
  | [.int i] => .ok (.int (if i < 0 then -i else i)) h
  | _ => .bad
def pMax2 (as : List LV) (h : LH) : Res LV := match as with
  | [.int i, .int j] => .ok (.int (if j > i then j else i)) h
  | _ => .bad
def pMin2 (as : List LV) (h : LH) : Res LV := match as with
  | [.int i, .int j] => .ok (.int (if j < i then j else i)) h
  | _ => .bad
def pSum (as : List LV) (h : LH) : Res LV := match as with
  | [a] => match lstOf h a with
    | some xs => (match intsOf xs with
      | some is => .ok (.int is.sum) h
      | none => .bad)
    | none => .bad
  | _ => .bad
def pList (as : List LV) (h : LH) : Res LV := match as with
  | [a] => match lstOf h a with
    | some xs => newL xs h
    | none => match tupOf a with
      | some xs => newL xs h
      | none => match a with
        | .ref i => (match h[i]? with
          | some (.dK kvs) => newL (kvs.map (·.1)) h
          | _ => .bad)
        | _ => .bad
  | _ => .bad
def pTuple (as : List LV) (h : LH) : Res LV := match as with
  | [a] => match lstOf h a with
    | some xs => .ok (.tup xs) h
    | none => match a with
      | .tup xs => .ok (.tup xs) h
      | _ => .bad
  | _ => .bad
def pairsOf : List LV → Option (List (LV × LV))
  | [] => some []
  | .tup [k, v] :: xs => if (keyOf k).isSome then (pairsOf xs).map ((k, v) :: ·) else none
  | _ :: _ => none
def dmerge (kvs more : List (LV × LV)) : List (LV × LV) := more.foldl (fun acc kv => dput acc kv.1 kv.2) kvs
def pDict (as : List LV) (h : LH) : Res LV := match as with
  | [.ref i] => (match h[i]? with
    | some (.dK kvs) => .ok (.ref h.length) (h ++ [.dK kvs])
    | some (.fK kvs) => .ok (.ref h.length) (h ++ [.dK kvs])
    | some (.lst xs) => (match pairsOf xs with
      | some kvs => .ok (.ref h.length) (h ++ [.dK (dmerge [] kvs)])
      | none => .bad)
    | _ => .bad)
  | _ => .bad

section
variable {X : Cx} {C : Cl}
theorem b_len : CallR X (.builtin "len") (rN C X.K pLen) := by
  intro pins s σ H xs us Q I r q
  obtain ⟨φ, h, as, S, rs, R⟩ := q
  unfold pLen at R
  split at R
  · obtain ⟨x, rfl, ra⟩ := rs.one
    cases ra.str
    split at R
    · rename_i x hl
      exact call_len_str pins s σ H _ us Q I r ⟨sOf x, rfl, by rw [sOf_length]; exact line_of hl, by rw [sOf_length]; exact R.here S vr_int⟩
    · exact R.elim
  · obtain ⟨x, rfl, ra⟩ := rs.one
    split at R
    · rename_i xs e
      obtain ⟨p, ys, rfl, q1, q2⟩ := lstOf_sq S ra e
      exact call_len_seq pins s σ H _ us Q I r ⟨p, ys, rfl, .inl q1, by rw [← q2.length]; exact R.here S vr_int⟩
    · split at R
      · rename_i xs e
        obtain ⟨p, ys, rfl, q1, q2⟩ := tupOf_sq ra e
        exact call_len_seq pins s σ H _ us Q I r ⟨p, ys, rfl, .inr q1, by rw [← q2.length]; exact R.here S vr_int⟩
      · split at R
        · rename_i kvs e
          obtain ⟨p, rfl, ⟨_, ys, rd, kr⟩ | ⟨z, _⟩⟩ := dicOf_at S ra e
          · rw [Vals.ref1 r]
            refine d_len I rd fun t s' I' => ⟨.int ys.length, H, I', ⟨_, rfl⟩, ?_⟩
            rw [← kr.length]
            exact R.here S vr_int
          · cases z
        · exact R.elim
  · exact R.elim
theorem b_abs : CallR X (.builtin "abs") (rN C X.K pAbs) := by
  intro pins s σ H xs us Q I r q
  obtain ⟨φ, h, as, S, rs, R⟩ := q
  unfold pAbs at R
  split at R
  · obtain ⟨x, rfl, ra⟩ := rs.one
    cases ra.int
    exact call_abs pins s σ H _ us Q I r ⟨_, rfl, R.here S vr_int⟩
  · exact R.elim
theorem b_max2 (hc : X.calm = true) : CallR X (.builtin "max") (rN C X.K pMax2) := by
  intro pins s σ H xs us Q I r q
  obtain ⟨φ, h, as, S, rs, R⟩ := q
  unfold pMax2 at R
  split at R
  · obtain ⟨x, y, rfl, ra, rb⟩ := rs.two
    cases ra.int; cases rb.int
    exact call_max2 hc pins s σ H _ us Q I r ⟨_, _, rfl, R.here S vr_int⟩
  · exact R.elim
theorem b_min2 (hc : X.calm = true) : CallR X (.builtin "min") (rN C X.K pMin2) := by
  intro pins s σ H xs us Q I r q
  obtain ⟨φ, h, as, S, rs, R⟩ := q
  unfold pMin2 at R
  split at R
  · obtain ⟨x, y, rfl, ra, rb⟩ := rs.two
    cases ra.int; cases rb.int
    exact call_min2 hc pins s σ H _ us Q I r ⟨_, _, rfl, R.here S vr_int⟩
  · exact R.elim
theorem b_sum (hc : X.calm = true) : CallR X (.builtin "sum") (rN C X.K pSum) := by
  intro pins s σ H xs us Q I r q
  obtain ⟨φ, h, as, S, rs, R⟩ := q
  unfold pSum at R
  split at R
  · obtain ⟨x, rfl, ra⟩ := rs.one
    split at R
    · rename_i xs e
      split at R
      · rename_i is e2
        obtain ⟨p, ys, rfl, q1, q2⟩ := lstOf_sq S ra e
        have := ints_V q2 e2
        subst this
        exact cr_sum hc pins s σ H _ us Q I r ⟨p, is, rfl, q1, R.here S vr_int⟩
      · exact R.elim
    · exact R.elim
  · exact R.elim
theorem KRs.keys {κ : Type} {ko : LV → Option κ} {f : κ → V} {K : PySem.W.Frag} {φ : Nat → Addr} {n : Nat} {H : Hp} (hf : ∀ a k, ko a = some k → VR K φ n H a (f k)) : ∀ {kvs : List (LV × LV)} {ys : List (κ × V)}, KRs ko K φ n H kvs ys → VRs K φ n H (kvs.map (·.1)) (ys.map fun kv => f kv.1)
  | [], ys, r => by unfold KRs at r; subst r; exact VRs.nil
  | (k, x) :: kvs, ys, r => by
    unfold KRs at r
    obtain ⟨k', y, zs, rfl, e1, r1, r2⟩ := r
    exact VRs.cons (hf k k' e1) (KRs.keys hf r2)
theorem vr_key {K : PySem.W.Frag} {φ : Nat → Addr} {n : Nat} {H : Hp} (a : LV) (k : Key) (e : keyOf a = some k) : VR K φ n H a (kV k) := by
  cases a <;> cases e
  · exact vr_int
  · exact vr_str
theorem KRs.vals {κ : Type} {ko : LV → Option κ} {K : PySem.W.Frag} {φ : Nat → Addr} {n : Nat} {H : Hp} : ∀ {kvs : List (LV × LV)} {ys : List (κ × V)}, KRs ko K φ n H kvs ys → VRs K φ n H (kvs.map (·.2)) (ys.map fun kv => kv.2)
  | [], ys, r => by unfold KRs at r; subst r; exact VRs.nil
  | (k, x) :: kvs, ys, r => by
    unfold KRs at r
    obtain ⟨k', y, zs, rfl, e1, r1, r2⟩ := r
    exact VRs.cons r1 (KRs.vals r2)
theorem dk_at {K : PySem.W.Frag} {φ : Nat → Addr} {h : LH} {H : Hp} (S : Sim C K φ h H) {i : Nat} {kvs : List (LV × LV)} (e : h[i]? = some (.dK kvs)) : ∃ ys, H (φ i) = some (.dK ys) ∧ KRs keyOf K φ h.length H kvs ys := S.obj i _ e
theorem b_list (hc : X.calm = true) : CallR X (.type "list") (rN C X.K pList) := by
  intro pins s σ H xs us Q I r q
  obtain ⟨φ, h, as, S, rs, R⟩ := q
  unfold pList at R
  split at R
  · obtain ⟨x, rfl, ra⟩ := rs.one
    split at R
    · rename_i xs e
      obtain ⟨p, ys, rfl, q1, q2⟩ := lstOf_sq S ra e
      exact call_list_of pins s σ H _ us Q I r ⟨p, ys, rfl, .inl q1, fun l hl => RSg.nL S R q2 hl⟩
    · split at R
      · rename_i xs e
        obtain ⟨p, ys, rfl, q1, q2⟩ := tupOf_sq ra e
        exact call_list_of pins s σ H _ us Q I r ⟨p, ys, rfl, .inr q1, fun l hl => RSg.nL S R q2 hl⟩
      · split at R
        · rename_i i _ _
          split at R
          · rename_i kvs e
            have ra' : i < h.length ∧ x = .ref (φ i) := by unfold VR at ra; exact ra
            obtain ⟨hi, rfl⟩ := ra'
            obtain ⟨ys, e1, kr⟩ := dk_at S e
            exact call_list_dK hc pins s σ H _ us Q I r ⟨φ i, ys, rfl, e1, fun l hl => RSg.nL S R (kr.keys vr_key) hl⟩
          · exact R.elim
        · exact R.elim
  · exact R.elim
theorem b_tuple : CallR X (.type "tuple") (rN C X.K pTuple) := by
  intro pins s σ H xs us Q I r q
  obtain ⟨φ, h, as, S, rs, R⟩ := q
  unfold pTuple at R
  split at R
  · obtain ⟨x, rfl, ra⟩ := rs.one
    split at R
    · rename_i xs e
      obtain ⟨p, ys, rfl, q1, q2⟩ := lstOf_sq S ra e
      exact call_tuple_of pins s σ H _ us Q I r ⟨p, ys, rfl, .inl ⟨q1, fun l hl => RSg.nT S R q2 hl⟩⟩
    · split at R
      · rename_i xs _
        have ra' := ra
        unfold VR at ra'
        obtain ⟨p, ys, rfl, q1, q2⟩ := ra'
        exact call_tuple_of pins s σ H _ us Q I r ⟨p, ys, rfl, .inr ⟨SqT.of q1, R.here S ra⟩⟩
      · exact R.elim
  · exact R.elim
end
end LD
end
section
set_option Elab.async false
set_option linter.all false
set_option maxRecDepth 100000
set_option maxHeartbeats 1000000
/-! LDH: dict(..), methods of lists and dicts, slices, stores, isinstance -/
namespace LD
open PySem L2

section
variable {C : Cl} {K : PySem.W.Frag} {φ : Nat → Addr} {h : LH} {H : Hp} {E : XK} {Q : VK}
/-- behind a new object that both heaps tell -/
theorem RSg.nO {lo : LO} {o : HO} {p : Addr} (S : Sim C K φ h H) (x : RSg C K (RV K) E φ h H (.ok (.ref h.length) (h ++ [lo])) Q) (hp : H p = none)
    (ho : ∀ φ' H', Carry φ h.length H φ' (h.length + 1) H' → H' p = some o → φ' h.length = p → OR C K φ' (h.length + 1) H' p lo) : Q (.ref p) (upd H p o) := by
  obtain ⟨st, e⟩ := Step.alloc (o := o) (lo := lo) S hp ho
  refine x _ _ _ st ?_
  have := vr_ref (K := K) (φ := ext φ h.length p) (H := upd H p o) (n := (h ++ [lo]).length) (i := h.length) (by simp)
  rw [e] at this
  exact this
/-- behind a store into an object of both heaps -/
theorem RSg.wO {lo : LO} {o : HO} {i : Nat} {a : LV} {v : V} (S : Sim C K φ h H) (hi : i < h.length) (hz : ∃ u, H (φ i) = some u ∧ ∀ ob w, u ≠ .frz ob w) (x : RSg C K (RV K) E φ h H (.ok a (h.set i lo)) Q)
    (ho : ∀ H', Carry φ h.length H φ h.length H' → H' (φ i) = some o → OR C K φ h.length H' (φ i) lo) (hv : VR K φ h.length H a v) : Q v (upd H (φ i) o) := by
  have st := Step.write (C := C) (K := K) (φ := φ) (h := h) (H := H) (o := o) (lo := lo) S hi (fun ob u e => by obtain ⟨w, e1, e2⟩ := hz; rw [e1] at e; cases e; exact e2 _ _ rfl) ho
  refine x _ _ _ st ?_
  exact VR.carry (st.carry S) hv
end

theorem pairs_V {X : Cx} {C : Cl} {φ : Nat → Addr} {h : LH} {H : Hp} (S : Sim C X.K φ h H) : ∀ {xs : List LV} {ys : List V} {kvs : List (LV × LV)}, VRs X.K φ h.length H xs ys → pairsOf xs = some kvs →
    ∃ ps : List Addr, ∃ zs : List (Key × V), ys = ps.map V.ref ∧ Paired (fun p kv => SqT X.K H p [kV kv.1, kv.2]) ps zs ∧ KRs keyOf X.K φ h.length H kvs zs
  | [], ys, kvs, r, e => by cases e; unfold VRs at r; subst r; exact ⟨[], [], rfl, .nil, by unfold KRs; rfl⟩
  | x :: xs, ys, kvs, r, e => by
    unfold VRs at r
    obtain ⟨y, ws, rfl, r1, r2⟩ := r
    unfold pairsOf at e
    split at e
    · rename_i _ heq; cases heq
    · rename_i k v xs' heq
      cases heq
      split at e
      · rename_i hk
        obtain ⟨k', ek⟩ := Option.isSome_iff_exists.mp hk
        cases q : pairsOf xs with
        | none => rw [q] at e; cases e
        | some more =>
          rw [q] at e; cases e
          obtain ⟨ps, zs, e1, e2, e3⟩ := pairs_V S r2 q
          unfold VR at r1
          obtain ⟨p, us, rfl, ep, rv⟩ := r1
          obtain ⟨u1, u2, rfl, t1, t2⟩ := rv.two
          have := key_V t1 ek
          subst this
          refine ⟨p :: ps, (k', u2) :: zs, by rw [e1]; rfl, .cons (SqT.of ep) e2, ?_⟩
          unfold KRs
          exact ⟨k', u2, zs, rfl, ek, t2, e3⟩
      · cases e
    · cases e
theorem KRs.merge {K : PySem.W.Frag} {φ : Nat → Addr} {n : Nat} {H : Hp} : ∀ {more : List (LV × LV)} {zs : List (Key × V)} {kvs : List (LV × LV)} {ys : List (Key × V)}, KRs keyOf K φ n H more zs → KRs keyOf K φ n H kvs ys → KRs keyOf K φ n H (dmerge kvs more) (mergeK ys zs)
  | [], zs, kvs, ys, r, q => by unfold KRs at r; subst r; exact q
  | (k, x) :: more, zs, kvs, ys, r, q => by
    unfold KRs at r
    obtain ⟨k', y, ws, rfl, e1, r1, r2⟩ := r
    exact KRs.merge (kvs := dput kvs k x) (ys := putK ys k' y) r2 (KRs.put keq_key e1 r1 q)

section
variable {X : Cx} {C : Cl}
theorem b_dict (hc : X.calm = true) : CallR X (.type "dict") (rN C X.K pDict) := by
  intro pins s σ H xs us Q I r q
  obtain ⟨φ, h, as, S, rs, R⟩ := q
  unfold pDict at R
  split at R
  · rename_i i
    obtain ⟨x, rfl, ra⟩ := rs.one
    have ra' : i < h.length ∧ x = .ref (φ i) := by unfold VR at ra; exact ra
    obtain ⟨hi, rfl⟩ := ra'
    split at R
    · rename_i kvs e
      obtain ⟨ys, e1, kr⟩ := dk_at S e
      rw [Vals.ref1 r]
      refine d_copyOf I (.inl e1) fun p s' hp I' => ⟨.ref p, _, I', rfl, RSg.nO S R hp fun φ' H' c e2 e3 => ⟨ys, e2, kr.carry c⟩⟩
    · rename_i kvs e
      obtain ⟨o, ys, e1, kr⟩ := S.obj i _ e
      rw [Vals.ref1 r]
      refine d_copyOf I (.inr ⟨o, e1⟩) fun p s' hp I' => ⟨.ref p, _, I', rfl, RSg.nO S R hp fun φ' H' c e2 e3 => ⟨ys, e2, kr.carry c⟩⟩
    · rename_i xs e
      split at R
      · rename_i kvs e2
        obtain ⟨ys, e1, kr⟩ := lst_at S e
        obtain ⟨ps, zs, rfl, e3, e4⟩ := pairs_V S kr e2
        refine call_dictP hc pins s σ H _ us Q I r ⟨φ i, ps, zs, rfl, SqL.of e1, e3, fun p hp => RSg.nO S R hp fun φ' H' c e5 e6 => ⟨_, e5, ?_⟩⟩
        exact KRs.merge (e4.carry c) (by unfold KRs; rfl)
      · exact R.elim
    · exact R.elim
  · exact R.elim
end

/-! ### methods -/
def pAppend (a : LV) (as : List LV) (h : LH) : Res LV := match a, as with
  | .ref i, [v] => (match h[i]? with
    | some (.lst xs) => if xs.length < 16777216 then .ok .non (h.set i (.lst (xs ++ [v]))) else .bad
    | _ => .bad)
  | _, _ => .bad
/-- seqIndex, for a list's pop -/
def popIx (i : Int) (n : Nat) : Option Nat := if 0 ≤ i then (if i < n then some i.toNat else none) else none
def pPopAt (a : LV) (as : List LV) (h : LH) : Res LV := match a, as with
  | .ref i, [.int k] => (match h[i]? with
    | some (.lst xs) => (if k < 9223372036854775808 then (match popIx k xs.length with
      | some j => (match xs[j]? with
        | some v => .ok v (h.set i (.lst (xs.eraseIdx j)))
        | none => .bad)
      | none => .bad) else .bad)
    | _ => .bad)
  | _, _ => .bad
def pGet2 (a : LV) (as : List LV) (h : LH) : Res LV := match as with
  | [k, d] => (match dicOf h a with
    | some (t, kvs) => if fits t k then .ok ((dget kvs k).getD d) h else .bad
    | none => .bad)
  | _ => .bad
def pDPop (a : LV) (as : List LV) (h : LH) : Res LV := match a, as with
  | .ref i, [k] => (match h[i]? with
    | some (.dK kvs) => if (keyOf k).isSome then (match dget kvs k with
      | some v => .ok v (h.set i (.dK (ddel kvs k)))
      | none => .bad) else .bad
    | _ => .bad)
  | _, _ => .bad
section
variable {X : Cx} {C : Cl}
theorem m_append : MtR X "list.append" (rM C X.K pAppend) := by
  intro pins s σ H x xs v us Q I rx rs q
  obtain ⟨φ, h, a, as, S, ra, ras, R⟩ := q
  unfold pAppend at R
  split at R
  · rename_i i w
    have ra' : i < h.length ∧ x = .ref (φ i) := by unfold VR at ra; exact ra
    obtain ⟨hi, rfl⟩ := ra'
    obtain ⟨y, rfl, ry⟩ := ras.one
    split at R
    · rename_i zs e
      split at R
      · rename_i hl
        obtain ⟨ys, e1, kr⟩ := lst_at S e
        refine mt_append pins s σ H _ _ v us Q I rx rs ⟨φ i, ys, y, rfl, rfl, e1, ?_, ?_⟩
        · rw [← kr.length, sizeLine_eq]; exact hl
        · exact RSg.wO S hi ⟨_, e1, fun _ _ z => (by cases z)⟩ R (fun H' c e2 => ⟨_, e2, VRs.append (kr.carry c) (VRs.cons (VR.carry c ry) VRs.nil)⟩) vr_non
      · exact R.elim
    · exact R.elim
  · exact R.elim
theorem m_popAt : MtR X "list.pop" (rM C X.K pPopAt) := by
  intro pins s σ H x xs v us Q I rx rs q
  obtain ⟨φ, h, a, as, S, ra, ras, R⟩ := q
  unfold pPopAt at R
  split at R
  · rename_i i k
    have ra' : i < h.length ∧ x = .ref (φ i) := by unfold VR at ra; exact ra
    obtain ⟨hi, rfl⟩ := ra'
    obtain ⟨y, rfl, ry⟩ := ras.one
    cases ry.int
    split at R
    · rename_i zs e
      split at R
      · rename_i hk
        cases e2 : popIx k zs.length with
        | none => rw [e2] at R; exact R.elim
        | some j =>
          rw [e2] at R
          dsimp only at R
          cases e3 : zs[j]? with
          | none => rw [e3] at R; exact R.elim
          | some w =>
            rw [e3] at R
            obtain ⟨ys, e1, kr⟩ := lst_at S e
            obtain ⟨y, e4, ry⟩ := kr.get e3
            unfold popIx at e2
            split at e2
            · split at e2
              · rename_i h0 h1
                cases e2
                refine mt_popAt pins s σ H _ _ v us Q I rx rs ⟨φ i, ys, k, k.toNat, y, rfl, rfl, e1, by omega, by omega, ?_, e4, ?_⟩
                · exact PySem.StrLaws.seqIndex_nonneg h0 (by rw [← kr.length]; exact h1)
                · exact RSg.wO S hi ⟨_, e1, fun _ _ z => (by cases z)⟩ R (fun H' c e2 => ⟨_, e2, VRs.eraseIdx _ (kr.carry c)⟩) ry
              · cases e2
            · cases e2
      · exact R.elim
    · exact R.elim
  · exact R.elim
theorem m_get2 (hu : X.A.units + 64 < cLine) : MtR X "dict.get" (rM C X.K pGet2) := by
  intro pins s σ H x xs v us Q I rx rs q
  obtain ⟨φ, h, a, as, S, ra, ras, R⟩ := q
  unfold pGet2 at R
  split at R
  · rename_i k d
    obtain ⟨y, z, rfl, ry, rz⟩ := ras.two
    split at R
    · rename_i t kvs e
      split at R
      · rename_i hf
        obtain ⟨p, o, rfl, _, g, q⟩ := dicOf_get S ra e ry hf
        cases rx
        obtain ⟨u1, u2, rfl, t1, t2⟩ := rs.two
        refine d_get2 (by omega) I g t1 t2 fun w' s' I' rw' => ⟨_, H, I', rw', ?_⟩
        refine R.here S ?_
        rcases q with ⟨q1, q2⟩ | ⟨w1, w2, q1, q2, q3⟩
        · rw [q1, q2]; exact rz
        · rw [q1, q2]; exact q3
      · exact R.elim
    · exact R.elim
  · exact R.elim
theorem m_dpop : MtR X "dict.pop" (rM C X.K pDPop) := by
  intro pins s σ H x xs v us Q I rx rs q
  obtain ⟨φ, h, a, as, S, ra, ras, R⟩ := q
  unfold pDPop at R
  split at R
  · rename_i i k
    have ra' : i < h.length ∧ x = .ref (φ i) := by unfold VR at ra; exact ra
    obtain ⟨hi, rfl⟩ := ra'
    obtain ⟨y, rfl, ry⟩ := ras.one
    split at R
    · rename_i kvs e
      split at R
      · rename_i hk
        obtain ⟨k', ek⟩ := Option.isSome_iff_exists.mp hk
        cases e2 : dget kvs k with
        | none => rw [e2] at R; exact R.elim
        | some w =>
          rw [e2] at R
          obtain ⟨ys, e1, kr⟩ := dk_at S e
          have := key_V ry ek
          subst this
          rcases KRs.val keq_key ek kr with ⟨q1, _⟩ | ⟨w1, w2, q1, q2, q3⟩
          · rw [e2] at q1; cases q1
          · rw [e2] at q1; cases q1
            cases rx
            obtain ⟨u1, rfl, t1⟩ := rs.one
            refine d_pop I e1 t1 q2 (.inl rfl) fun w' s' I' rw' => ⟨w2, _, I', rw', ?_⟩
            exact RSg.wO S hi ⟨_, e1, fun _ _ z => (by cases z)⟩ R (fun H' c e2 => ⟨_, e2, KRs.del keq_key ek (kr.carry c)⟩) q3
      · exact R.elim
    · exact R.elim
  · exact R.elim
end
end LD
end
section
set_option Elab.async false
set_option linter.all false
set_option maxRecDepth 100000
set_option maxHeartbeats 1000000
/-! LDI: slices, stores by place, isinstance -/
namespace LD
open PySem L2

/-! ### slices -/
def cutL (xs : List LV) (lo hi : Option Int) : List LV := (xs.drop (HT.sIx xs.length 0 lo)).take (HT.sIx xs.length xs.length hi - HT.sIx xs.length 0 lo)
def pSlice (a : LV) (lo hi : Option Int) (h : LH) : Res LV := match lstOf h a with
  | some xs => newL (cutL xs lo hi) h
  | none => match a with
    | .tup xs => .ok (.tup (cutL xs lo hi)) h
    | _ => .bad
theorem VRs.cut {K : PySem.W.Frag} {φ : Nat → Addr} {n : Nat} {H : Hp} {xs : List LV} {ys : List V} (r : VRs K φ n H xs ys) (lo hi : Option Int) : VRs K φ n H (cutL xs lo hi) (cutV ys lo hi) := by
  unfold cutL cutV
  rw [← r.length]
  exact VRs.take _ (VRs.drop _ r)
theorem cutL_whole {xs : List LV} {lo hi : Option Int} (h : HT.sIx xs.length 0 lo = 0 ∧ HT.sIx xs.length xs.length hi = xs.length) : cutL xs lo hi = xs := by
  unfold cutL
  rw [h.1, h.2]
  simp
def rS (C : Cl) (K : PySem.W.Frag) (p : LV → Option Int → Option Int → LH → Res LV) : V → Option Int → Option Int → Hp → VK → Prop := fun x lo hi H Q =>
  ∃ φ h a, Sim C K φ h H ∧ VR K φ h.length H a x ∧ RSg C K (RV K) (fun _ _ _ => False) φ h H (p a lo hi h) Q
theorem o_slice {X : Cx} {C : Cl} : SlR X (rS C X.K pSlice) := by
  intro pins s σ H x v vl vu lo hi sl Q I rx hs pl pu q
  obtain ⟨φ, h, a, S, ra, R⟩ := q
  unfold pSlice at R
  split at R
  · rename_i xs e
    obtain ⟨p, ys, rfl, q1, q2⟩ := lstOf_sq S ra e
    exact sl_list pins s σ H _ v vl vu lo hi sl Q I rx hs pl pu ⟨p, ys, rfl, q1, fun p' hp' => RSg.nL S R (q2.cut lo hi) hp'⟩
  · split at R
    · rename_i xs _
      have ra' := ra
      unfold VR at ra'
      obtain ⟨p, ys, rfl, q1, q2⟩ := ra'
      refine sl_tupA pins s σ H _ v vl vu lo hi sl Q I rx hs pl pu ⟨p, ys, rfl, SqT.of q1, fun hw => ?_, fun _ p' hp' => RSg.nT S R (q2.cut lo hi) hp'⟩
      rw [← q2.length] at hw
      rw [cutL_whole hw] at R
      exact R.here S ra
    · exact R.elim

/-! ### o[i] = v -/
def pSet (a b v : LV) (h : LH) : Res LV := match a with
  | .ref i => (match h[i]? with
    | some (.lst xs) => (match b with
      | .int k => (match ixN xs.length k with
        | some j => .ok .non (h.set i (.lst (xs.set j v)))
        | none => .bad)
      | _ => .bad)
    | some (.dK kvs) => if (keyOf b).isSome ∧ kvs.length < 16777216 then .ok .non (h.set i (.dK (dput kvs b v))) else .bad
    | some (.dT kvs) => if (tkeyOf b).isSome ∧ kvs.length < 16777216 then .ok .non (h.set i (.dT (dput kvs b v))) else .bad
    | _ => .bad)
  | _ => .bad
def rSt (C : Cl) (K : PySem.W.Frag) (p : LV → LV → LV → LH → Res LV) : TSet := fun o i v H Q =>
  ∃ φ h a b c, Sim C K φ h H ∧ VR K φ h.length H a o ∧ VR K φ h.length H b i ∧ VR K φ h.length H c v ∧ RSg C K (RV K) (fun _ _ _ => False) φ h H (p a b c h) fun _ H' => Q H'
theorem o_set {X : Cx} {C : Cl} (hu : X.A.units + 64 < cLine) : PSet X (rSt C X.K pSet) := by
  intro pins s σ H o i v ov iv u Q I ro ri rv q
  obtain ⟨φ, h, a, b, c, S, ra, rb, rc, R⟩ := q
  unfold pSet at R
  split at R
  · rename_i n
    have ra' : n < h.length ∧ o = .ref (φ n) := by unfold VR at ra; exact ra
    obtain ⟨hi, rfl⟩ := ra'
    split at R
    · rename_i xs e
      split at R
      · rename_i k
        cases rb.int
        obtain ⟨ys, e1, kr⟩ := lst_at S e
        cases e2 : ixN xs.length k with
        | none => rw [e2] at R; exact R.elim
        | some j =>
          rw [e2] at R
          refine set_list pins s σ H _ _ v ov iv u Q I ro ri rv ⟨φ n, ys, k, j, rfl, rfl, e1, by rw [← kr.length]; exact e2, ?_⟩
          exact RSg.wO (Q := fun _ H' => Q H') S hi ⟨_, e1, fun _ _ z => (by cases z)⟩ R (fun H' c e2 => ⟨_, e2, VRs.set (VR.carry c rc) _ (kr.carry c)⟩) vr_non
      · exact R.elim
    · rename_i kvs e
      split at R
      · rename_i hc
        obtain ⟨k', ek⟩ := Option.isSome_iff_exists.mp hc.1
        obtain ⟨ys, e1, kr⟩ := dk_at S e
        have := key_V rb ek
        subst this
        cases ro
        refine d_setItem (by omega) I (DPut.k e1 (by rw [← kr.length, sizeLine_eq]; exact hc.2)) ri rv fun s' I' => ⟨_, I', ?_⟩
        exact RSg.wO (Q := fun _ H' => Q H') S hi ⟨_, e1, fun _ _ z => (by cases z)⟩ R (fun H' c e2 => ⟨_, e2, KRs.put keq_key ek (VR.carry c rc) (kr.carry c)⟩) vr_non
      · exact R.elim
    · rename_i kvs e
      split at R
      · rename_i hc
        obtain ⟨k', ek⟩ := Option.isSome_iff_exists.mp hc.1
        obtain ⟨ys, e1, kr⟩ : ∃ ys, H (φ n) = some (.dT ys) ∧ KRs tkeyOf X.K φ h.length H kvs ys := S.obj n _ e
        cases b with
        | tup zs =>
          unfold VR at rb
          obtain ⟨p, ws, rfl, e3, rs⟩ := rb
          have := keys_V rs ek
          subst this
          cases ro
          refine d_setItem (by omega) I (DPut.t e1 e3 (by rw [← kr.length, sizeLine_eq]; exact hc.2)) ri rv fun s' I' => ⟨_, I', ?_⟩
          exact RSg.wO (Q := fun _ H' => Q H') S hi ⟨_, e1, fun _ _ z => (by cases z)⟩ R (fun H' c e2 => ⟨_, e2, KRs.put keq_tkey ek (VR.carry c rc) (kr.carry c)⟩) vr_non
        | _ => cases ek
      · exact R.elim
    · exact R.elim
  · exact R.elim

/-! ### isinstance -/
/-- a class: a built-in one by its number, an own one -/
inductive Tq where
  | ty (t : Nat) | cls (c : Nat)
  deriving DecidableEq
def tyNm : Nat → String
  | 0 => "str"
  | 1 => "int"
  | 2 => "bool"
  | 3 => "list"
  | 4 => "tuple"
  | 5 => "dict"
  | _ => "NoneType"
def tqOf (h : LH) : LV → Option Tq
  | .non => some (.ty 6)
  | .bl _ => some (.ty 2)
  | .int _ => some (.ty 1)
  | .str _ => some (.ty 0)
  | .tup _ => some (.ty 4)
  | .ktu _ => some (.ty 4)
  | .frl _ => some (.ty 3)
  | .ref i => match h[i]? with
    | some (.lst _) => some (.ty 3)
    | some (.dK _) => some (.ty 5)
    | some (.dT _) => some (.ty 5)
    | some (.fK _) => some (.ty 5)
    | some (.ins c _) => some (.cls c)
    | _ => none
def isiQ : Tq → Tq → Bool
  | .ty t, .ty q => t == q || (t == 2 && q == 1)
  | .cls c, .cls d => c == d
  | _, _ => false
def tqV (C : Cl) : Tq → Value
  | .ty t => .type (tyNm t)
  | .cls c => .ref (C.cA c)
def tqX (C : Cl) : Tq → V
  | .ty t => .ty (tyNm t)
  | .cls c => .ref (C.cA c)
theorem kit_all : ∀ t q : Fin 7, kitB (tyNm t.val) (tyNm q.val) = some (isiQ (.ty t.val) (.ty q.val)) := by decide +kernel
/-- what is known of an own class, for isinstance -/
structure ClsI (K : PySem.W.Frag) (C : Addr) : Prop where
  cl : Cls K C
  ha : PySem.W.findIn K (.ref C) "__class__" = some (some (.builtin "object.__class__"))
  hn : PySem.W.specialIn K (.builtin "object.__class__") "__get__" = some (some (.builtin "getset_descriptor.__get__"))
  htk : PySem.W.takesIn K (.builtin "object.__class__") = some true
  hm : PySem.W.mroIn K C (.type "object") = some true
/-- which answers isinstance gives -/
def IsiOk (C : Cl) (K : PySem.W.Frag) (t q : Tq) : Prop := PySem.W.kitOne K (tqV C t) (tqV C q) = some (isiQ t q)
def okTq (n : Nat) : Tq → Bool
  | .ty t => decide (t < 7)
  | .cls c => decide (c < n)
structure IsiAll (C : Cl) (K : PySem.W.Frag) (n : Nat) : Prop where
  cls : ∀ c, c < n → ClsI K (C.cA c)
  isi : ∀ t q, okTq n t = true → okTq n q = true → IsiOk C K t q
def pIsi (n : Nat) (ts : List Tq) (a : LV) (h : LH) : Res LV := match tqOf h a with
  | some t => if okTq n t && ts.all (okTq n) then .ok (.bl (ts.any (isiQ t))) h else .bad
  | none => .bad
theorem ty_of {X : Cx} {C : Cl} {φ : Nat → Addr} {h : LH} {H : Hp} {pins : List (Addr × Obj)} {σ : St} {s : Shared} (I : Inv X pins σ H s) (S : Sim C X.K φ h H) {a : LV} {x : V} {t : Tq} (ra : VR X.K φ h.length H a x) (e : tqOf h a = some t)
    (hC : ∀ c, t = .cls c → ClsI X.K (C.cA c)) : TyX X.K H x (tqV C t) := by
  cases a with
  | non => cases e; cases ra.non; exact .base .non
  | bl b => cases e; cases ra.bl; exact .base (.bl b)
  | int b => cases e; cases ra.int; exact .base (.int b)
  | str b => cases e; cases ra.str; exact .base (.str _)
  | tup xs => cases e; unfold VR at ra; obtain ⟨p, ys, rfl, q, _⟩ := ra; exact .base (.tup q)
  | ktu xs => cases e; unfold VR at ra; obtain ⟨p, ys, rfl, ⟨o, _, _, q, q2, _⟩, _⟩ := ra; exact .kTuple q q2
  | frl xs =>
    cases e; unfold VR at ra; obtain ⟨p, ys, rfl, ⟨o, q⟩ | ⟨o, _, _, q, q2, _⟩, _⟩ := ra
    · exact .base (.frz q)
    · exact .kList q q2
  | ref i =>
    unfold VR at ra
    obtain ⟨hi, rfl⟩ := ra
    have e' : (match h[i]? with
      | some (.lst _) => some (Tq.ty 3)
      | some (.dK _) => some (.ty 5)
      | some (.dT _) => some (.ty 5)
      | some (.fK _) => some (.ty 5)
      | some (.ins c _) => some (.cls c)
      | _ => none) = some t := e
    cases q : h[i]? with
    | none => rw [q] at e'; cases e'
    | some o =>
      rw [q] at e'
      have ob := S.obj i o q
      cases o with
      | lst xs => cases e'; obtain ⟨ys, e1, _⟩ := ob; exact .base (.lst e1)
      | dK xs => cases e'; obtain ⟨ys, e1, _⟩ := ob; exact .base (.dK e1)
      | dT xs => cases e'; obtain ⟨ys, e1, _⟩ := ob; exact .base (.dT e1)
      | fK xs => cases e'; obtain ⟨o, ys, e1, _⟩ := ob; exact .fDict e1
      | fT xs => cases e'
      | ins c fs =>
        cases e'
        obtain ⟨_, dx, ys, e1, _⟩ := ob
        have f := hC c rfl
        exact .base (.ins e1 f.cl f.ha f.hn f.htk f.hm)
theorem tqX_cls (C : Cl) (q : Tq) : ClsV (tqX C q) (tqV C q) := by
  cases q with
  | ty t => exact .ty _
  | cls c => exact .own _
theorem kitAny_of {C : Cl} {K : PySem.W.Frag} {n : Nat} (G : IsiAll C K n) {t : Tq} (ht : okTq n t = true) : ∀ {ts : List Tq}, ts.all (okTq n) = true → PySem.W.kitAny K (tqV C t) (ts.map (tqV C)) = some (ts.any (isiQ t))
  | [], _ => rfl
  | q :: ts, h => by
    simp only [List.all_cons, Bool.and_eq_true] at h
    refine kitAny_cons (b := isiQ t q) (G.isi t q ht h.1) (fun e => ?_) fun e => ?_
    · rw [List.any_cons, e, Bool.false_or]; exact kitAny_of G ht h.2
    · rw [List.any_cons, e, Bool.true_or]
theorem paired_cls (C : Cl) : ∀ ts : List Tq, Paired ClsV (ts.map (tqX C)) (ts.map (tqV C))
  | [] => .nil
  | q :: ts => .cons (tqX_cls C q) (paired_cls C ts)
/-- isinstance(x, T) -/
theorem b_isi1 {X : Cx} {C : Cl} {n : Nat} (G : IsiAll C X.K n) (q : Tq) : CallR X (.builtin "isinstance") (fun xs H Q => ∃ x, xs = [x, tqX C q] ∧ r1 C X.K (pIsi n [q]) x H Q) := by
  intro pins s σ H xs us Q I r z
  obtain ⟨x, rfl, φ, h, a, S, ra, R⟩ := z
  unfold pIsi at R
  split at R
  · rename_i t e
    split at R
    · rename_i hk
      simp only [Bool.and_eq_true, List.all_cons, List.all_nil, and_true] at hk
      have ty := ty_of I S ra e fun c ec => by
        subst ec
        exact G.cls c (of_decide_eq_true hk.1)
      refine call_isi pins s σ H _ us Q I r ⟨x, tqX C q, tqV C t, tqV C q, isiQ t q, rfl, tqX_cls C q, ty, G.isi t q hk.1 hk.2, ?_⟩
      have : ([q].any (isiQ t)) = isiQ t q := by simp
      rw [this] at R
      exact R.here S vr_bl
    · exact R.elim
  · exact R.elim
/-- isinstance(x, (S, T)) -/
theorem b_isiT {X : Cx} {C : Cl} {n : Nat} (G : IsiAll C X.K n) (ts : List Tq) : CallR X (.builtin "isinstance") (fun xs H Q => ∃ x tp, xs = [x, .ref tp] ∧ H tp = some (.tup (ts.map (tqX C))) ∧ r1 C X.K (pIsi n ts) x H Q) := by
  intro pins s σ H xs us Q I r z
  obtain ⟨x, tp, rfl, hT, φ, h, a, S, ra, R⟩ := z
  unfold pIsi at R
  split at R
  · rename_i t e
    split at R
    · rename_i hk
      simp only [Bool.and_eq_true] at hk
      have ty := ty_of I S ra e fun c ec => by
        subst ec
        exact G.cls c (of_decide_eq_true hk.1)
      exact call_isiT pins s σ H _ us Q I r ⟨x, tp, _, tqV C t, ts.map (tqV C), _, rfl, hT, paired_cls C ts, ty, kitAny_of G hk.1 hk.2, R.here S vr_bl⟩
    · exact R.elim
  · exact R.elim
end LD
end
section
set_option Elab.async false
set_option linter.all false
set_option maxRecDepth 100000
set_option autoImplicit false
/-! LEA: == of tuples that hold dicts -/
namespace LE
open PySem PySem.SeqAt
open AutoSeq1 (wpAny_loadPart')
open MeetsSeq MeetsSeq2 MeetsSeq3 SeqRoads2

theorem tupleP {prog : Program} {w : World} (l b : Addr) (items items2 : Array Value) (n n2 : Nat) (dd dd2 : Option Addr) (sl sl2 : Array (Option Value)) (e : Nat → Bool) :
    MeetsIn prog w (Builtin.«tuple.__eq__» ⟨[.ref l, .ref b], []⟩)
      (fun A R s => s.heap.get? l = some { cls := .type "tuple", dict := dd, data := .seq items n, slots := sl } ∧ s.heap.get? b = some { cls := .type "tuple", dict := dd2, data := .seq items2 n2, slots := sl2 } ∧
        (∀ j (h1 : j < items.size) (h2 : j < items2.size), EqP prog w A.in1 s items[j] items2[j] (e j)) ∧ R (.ok (.ret (.bool ((List.range (min items.size items2.size)).all e && items.size == items2.size)))) s) :=
  .of_wp fun A R s h => by
    obtain ⟨hp, g, d, tk, os⟩ := s
    obtain ⟨hl, hb, he, h⟩ := h
    have f2 := AutoSeq1.sub_tuple_tuple
    have hZ : (items.toList.zip items2.toList).length = min items.size items2.size := by simp
    wp_walk using wpAny_loadPart' hl, wpAny_loadPart' hb, wpAny_forIn_list _ (fun rest b s' => b.1 = none ∧ s' = ⟨hp, g, d, tk, os⟩ ∧ ∃ i, rest = (items.toList.zip items2.toList).drop i ∧ R (.ok (.ret (.bool (((List.range (min items.size items2.size)).drop i).all e && items.size == items2.size)))) ⟨hp, g, d, tk, os⟩) _
    case turn =>
      rintro ⟨y, x⟩ rest b s' ⟨hb', rfl, i, hz, hR⟩
      have hlt : i < (items.toList.zip items2.toList).length := by
        rcases Nat.lt_or_ge i (items.toList.zip items2.toList).length with h' | h'
        · exact h'
        · rw [List.drop_of_length_le h'] at hz; cases hz
      have hm : i < min items.size items2.size := hZ ▸ hlt
      rw [List.drop_eq_getElem_cons hlt] at hz
      injection hz with hyx hrest
      have hy : y = items[i]'(Nat.lt_of_lt_of_le hm (Nat.min_le_left _ _)) := by have := congrArg Prod.fst hyx; simpa using this
      have hx : x = items2[i]'(Nat.lt_of_lt_of_le hm (Nat.min_le_right _ _)) := by have := congrArg Prod.snd hyx; simpa using this
      subst hy hx
      have hd : (List.range (min items.size items2.size)).drop i = i :: (List.range (min items.size items2.size)).drop (i + 1) := by simp [List.drop_eq_getElem_cons, hm]
      rw [hd, List.all_cons] at hR
      refine wpAny_bind (he i _ _ _ _ ?_)
      cases hy : e i with
      | true =>
        rw [hy] at hR
        wp_walk
        exact ⟨rfl, rfl, i + 1, hrest, by simpa using hR⟩
      | false =>
        rw [hy] at hR
        wp_walk
        exact ⟨_, rfl, by simpa using hR⟩
    case fin =>
      rintro ⟨b1, b2⟩ s' ⟨hb', rfl, i, hz, hR⟩
      simp only at hb'
      subst hb'
      have hge : min items.size items2.size ≤ i := by
        rcases Nat.lt_or_ge i (items.toList.zip items2.toList).length with h' | h'
        · rw [List.drop_eq_getElem_cons h'] at hz; cases hz
        · exact hZ ▸ h'
      rw [List.drop_of_length_le (by simpa using hge)] at hR
      wp_walk
      exact ⟨_, rfl, by simpa [Builtin.Tuple.tupleCompareSizes] using hR⟩
    case h => exact ⟨rfl, rfl, 0, rfl, by simpa using h⟩
theorem rc_tupleP {prog : Program} {w : World} {A : Around} {s : Shared} {l b : Addr} {items items2 : Array Value} {e : Nat → Bool} (hl : s.heap.IsTuple l items) (hb : s.heap.IsTuple b items2) (hu : A.units < cLine)
    (he : ∀ j (h1 : j < items.size) (h2 : j < items2.size), EqP prog w A.in1 s items[j] items2[j] (e j)) (E Q : Value → Shared → Prop) (h : Q (.bool ((List.range (min items.size items2.size)).all e && items.size == items2.size)) s) : wpAny (model prog w) A (richCompare .Eq (.ref l) (.ref b)) Q E s := by
  obtain ⟨⟨cls, dd, data, sl⟩, ho, hc, n, hd⟩ := id hl
  obtain ⟨⟨cls2, dd2, data2, sl2⟩, ho2, hc2, n2, hd2⟩ := id hb
  simp only at hc hd hc2 hd2
  subst hc hd hc2 hd2
  exact wpAny_richCompare_same_room (op := .Eq) ⟨_, ho, rfl⟩ ⟨_, ho2, rfl⟩ F.slot_tuple_eq (call_meetsIn F.slot_tuple_eq ⟨_, ho, rfl⟩ F.entry_tuple_eq (F.args_tuple_eq_2 _ _) (tupleP l b items items2 n n2 dd dd2 sl sl2 e) ⟨ho, ho2, he, (fun x => nomatch x), h⟩) hu
end LE
end
section
set_option Elab.async false
set_option linter.all false
set_option maxRecDepth 100000
set_option autoImplicit false
/-! LEB: == of tuples that hold dicts, logically -/
namespace LD
open PySem L2

def eqD (h : LH) (kb : List (LV × LV)) : List (LV × LV) → Option Bool
  | [] => some true
  | (k, v) :: r => match dget kb k with
    | none => some false
    | some y => (match eqV 20 h v y, eqD h kb r with
      | some e, some b => some (e && b)
      | _, _ => none)
def eqI (h : LH) (a b : LV) : Option Bool := match a, b with
  | .ref i, .ref j => (match h[i]?, h[j]? with
    | some (.dK ka), some (.dK kb) => if i = j then some true else if ka.length = kb.length then eqD h kb ka else some false
    | _, _ => eqV 20 h (.ref i) (.ref j))
  | a, b => eqV 20 h a b
/-- == of two tuples -/
def pEqD (a b : LV) (h : LH) : Res LV := match tupOf a, tupOf b with
  | some xs, some ys => (match eqL (eqI h) xs ys with
    | some r => .ok (.bl r) h
    | none => .bad)
  | _, _ => .bad
section
variable {X : Cx} {C : Cl} {pins : List (Addr × Obj)} {σ : St} {H : Hp} {s : Shared} {φ : Nat → Addr} {h : LH}
theorem eqD_hits (I : Inv X pins σ H s) (S : Sim C X.K φ h H) {A : Around} (hu : A.units + 20 < cLine) {kb : List (LV × LV)} {yb : List (Key × V)} {vb : List (Key × Value)} (rb : KRs keyOf X.K φ h.length H kb yb) (kvb : KV yb vb) :
    ∀ {ka : List (LV × LV)} {ya : List (Key × V)} {va : List (Key × Value)} {r : Bool}, KRs keyOf X.K φ h.length H ka ya → KV ya va → eqD h kb ka = some r → PySem.W.KeqHitsP X.prog X.w A s vb va r
  | [], ya, va, r, ra, kva, e => by
    unfold KRs at ra
    subst ra
    cases kva
    cases e
    exact .nil
  | (k, v) :: ka, ya, va, r, ra, kva, e => by
    unfold KRs at ra
    obtain ⟨k', y, zs, rfl, e1, e2, e3⟩ := ra
    cases kva with
    | cons p q =>
      rename_i w ws
      obtain ⟨wk, wv⟩ := w
      obtain ⟨p1, p2⟩ := p
      dsimp only at p1 p2
      subst p1
      unfold eqD at e
      have hv := KRs.val keq_key e1 rb
      have hw := kvb.val k'
      rcases hv with ⟨d1, d2⟩ | ⟨x', y', d1, d2, d3⟩
      · rw [d1] at e
        cases e
        rw [d2] at hw
        exact .miss (RelO.none_of hw)
      · rw [d1] at e
        dsimp only at e
        rw [d2] at hw
        obtain ⟨u, hu1, hu2⟩ := RelO.some_of hw
        cases q1 : eqV 20 h v x' with
        | none => rw [q1] at e; cases e
        | some b1 =>
          cases q2 : eqD h kb ka with
          | none => rw [q1, q2] at e; cases e
          | some b2 =>
            rw [q1, q2] at e
            cases e
            exact .hit hu1 (eqV_at I S 20 A v x' b1 y y' wv u (by omega) q1 e2 d3 p2 hu2).1.eqP (eqD_hits I S hu rb kvb e3 q q2)
theorem eqI_at (I : Inv X pins σ H s) (S : Sim C X.K φ h H) {A : Around} (hu : A.units + 30 < cLine) {a b : LV} {r : Bool} {x y : V} {v u : Value} (e : eqI h a b = some r) (ra : VR X.K φ h.length H a x) (rb : VR X.K φ h.length H b y) (rx : RelV x v) (ry : RelV y u) :
    SeqAt.EqP X.prog X.w A s v u r := by
  have base : eqV 20 h a b = some r → SeqAt.EqP X.prog X.w A s v u r := fun e => (eqV_at I S 20 A a b r x y v u (by omega) e ra rb rx ry).1.eqP
  unfold eqI at e
  split at e
  · rename_i i j
    split at e
    · rename_i ka kb ei ej
      obtain ⟨ya, a1, a2⟩ := dk_at S ei
      obtain ⟨yb, b1, b2⟩ := dk_at S ej
      unfold VR at ra rb
      obtain ⟨hi, rfl⟩ := ra
      obtain ⟨hj, rfl⟩ := rb
      cases rx
      cases ry
      split at e
      · rename_i hij
        subst hij
        cases e
        exact (SeqAt.EqAt.same _).eqP
      · rename_i hij
        have hne : φ i ≠ φ j := fun z => hij (S.inj i j hi hj z)
        obtain ⟨za, da, va, ka', ma⟩ := dk_of I.hok a1
        obtain ⟨zb, db, vb, kb', mb⟩ := dk_of I.hok b1
        have la : ka.length = va.length := by rw [a2.length]; exact Paired.length ka'
        have lb : kb.length = vb.length := by rw [b2.length]; exact Paired.length kb'
        refine SeqAt.eqP_refs hne fun E Q hq => ?_
        split at e
        · rename_i hl
          refine PySem.W.rcP_dicts (r := r) da db ma mb (by omega) (fun _ => eqD_hits I S (by show A.units + 1 + 20 < cLine; omega) b2 kb' a2 ka' e) E Q ?_
          rw [← la, ← lb, hl]
          simpa using hq
        · rename_i hl
          cases e
          refine PySem.W.rcP_dicts (r := true) da db ma mb (by omega) (fun z => absurd (by rw [la, lb]; exact z) hl) E Q ?_
          rw [← la, ← lb, beq_eq_false_iff_ne.mpr hl]
          exact hq
    · exact base e
  · exact base e
theorem o_eqd (hu : X.A.units + 64 < cLine) : OpR X (compareOp .Eq) (r2 C X.K pEqD) := by
  intro pins s σ H x y v u Q I rx ry q
  obtain ⟨φ, h, a, b, S, ra, rb, R⟩ := q
  unfold pEqD at R
  split at R
  · rename_i xs ys e1 e2
    split at R
    · rename_i r er
      obtain ⟨p, zs, rfl, q1, q2⟩ := tupOf_sq ra e1
      obtain ⟨p', zs', rfl, q3, q4⟩ := tupOf_sq rb e2
      cases rx
      cases ry
      obtain ⟨its, v1, t1, _⟩ := I.tuple q1
      obtain ⟨its', v2, t2, _⟩ := I.tuple q3
      obtain ⟨e, he, hr⟩ := eqL_tells er
      show wpAny (model X.prog X.w) X.A (richCompare .Eq (.ref p) (.ref p')) (EP X pins σ Q) X.xe s
      refine LE.rc_tupleP (e := e) t1 t2 (by omega) (items_at (F := fun v u r => SeqAt.EqP X.prog X.w X.A.in1 s v u r) he q2 q4 v1 v2 fun a b r x y v u w1 w2 w3 w4 w5 => eqI_at I S (by show X.A.units + 1 + 30 < cLine; omega) w1 w2 w3 w4 w5) _ _ ?_
      have l1 : its.toArray.size = xs.length := by rw [q2.length, List.size_toArray, v1.length]
      have l2 : its'.toArray.size = ys.length := by rw [q4.length, List.size_toArray, v2.length]
      rw [l1, l2, ← hr]
      exact ⟨.bl r, H, I, rfl, R.here S vr_bl⟩
    · exact R.elim
  · exact R.elim
end
end LD
end
section
set_option Elab.async false
set_option linter.all false
set_option maxRecDepth 100000
/-! LDJ: the own syntax and its evaluator -/
namespace LD
open PySem L2

inductive O2 where
  | add | sub | mul | fdiv | mod | pow | eq | ne | lt | le | gt | ge | isin | notin | idx | eqd
  deriving DecidableEq
inductive Bf where
  | len | abs | sum | list | tuple | dict | max2 | min2
  deriving DecidableEq
inductive Bm where
  | append | popAt | get2 | dpop
  deriving DecidableEq
/-- what is done with a comprehension's list: kept, or handed to a function and dropped -/
inductive Ck where
  | keep | all | any | sum
  deriving DecidableEq
mutual
inductive Ex where
  | var (i : Nat)
  | con (c : LV)
  | glo (g : Nat)
  | op2 (o : O2) (a b : Ex)
  | neg (a : Ex)
  | isN (ng : Bool) (a : Ex)
  | bop (isAnd : Bool) (xs : Exs)
  | nt (a : Ex)
  | chn (a b c : Ex)
  | ite (c a b : Ex)
  | tup (xs : Exs)
  | lst (xs : Exs)
  | dnw (t : Bool)
  | dsp (ks : List LV) (vs : Exs)
  | slc (a : Ex) (lo hi : Ox)
  | fld (a : Ex) (f : Nat)
  | cal (f : Nat) (xs : Exs)
  | met (o : Ex) (m : Nat) (xs : Exs)
  | mke (c : Nat) (xs : Exs) (ks : List Nat) (kws : Exs)
  | bif (b : Bf) (xs : Exs)
  | bme (m : Bm) (o : Ex) (xs : Exs)
  | isi (a : Ex) (ts : List Tq) (tupled : Bool)
  | lvl (e : Ex)
  | sst (e : Ex)
  | lsc (elt : Ex) (own : List Nat) (tg : Tg) (src : Sr) (tst : Ox)
  | eqo (ng : Bool) (a b : Ex)
  | cmp (k : Ck) (elt : Ex) (own : List Nat) (tg : Tg) (src : Sr) (tst : Ox)
inductive Exs where
  | nil
  | cons (e : Ex) (es : Exs)
inductive Ox where
  | none
  | some (e : Ex)
inductive Sr where
  | exp (e : Ex)
  | rng (e : Ex)
  | kys (e : Ex)
  | vls (e : Ex)
  | its (e : Ex)
inductive Tg where
  | nm (i : Nat)
  | tp (ts : Tgs)
  | sb (o i : Ex)
inductive Tgs where
  | nil
  | cons (t : Tg) (ts : Tgs)
end
def tgsLen : Tgs → Nat
  | .nil => 0
  | .cons _ ts => tgsLen ts + 1
mutual
inductive Sm where
  | ex (e : Ex)
  | set (t : Tg) (e : Ex)
  | par (is : List Nat) (es : Exs)
  | slc (i : Nat) (elt : Ex) (own : List Nat) (tg : Tg) (src : Sr) (tst : Ox)
  | fst (o : Ex) (f : Nat) (e : Ex)
  | agN (i : Nat) (sub : Bool) (e : Ex)
  | agF (o : Ex) (f : Nat) (sub : Bool) (e : Ex)
  | agS (o i : Ex) (sub : Bool) (e : Ex)
  | iff (c : Ex) (a b : Sms)
  | for_ (t : Tg) (src : Sr) (body : Sms)
  | whl (c : Ex) (body : Sms)
  | ret (e : Ex)
  | retN
  | rse (c : Nat)
  | try_ (body : Sms) (c : Nat) (slot : Option Nat) (hd : Sms)
  | pass
  | cont
  | never
inductive Sms where
  | nil
  | cons (s : Sm) (ss : Sms)
end

/-- a def -/
structure FnI where
  at_ : Str × Option Str
  ps : List Str
  dv : List LV
  N : List Str
  body : Sms
  kwo : Bool
def FnI.nm (f : FnI) : Str := f.at_.1
def FnI.top (f : FnI) : Bool := f.at_.2.isNone
/-- a class: its fields in their turn (numbers of names), its methods (numbers of names, of defs), its __init__, its __eq__, how it is made (values told, keywords by parameters' numbers) -/
structure ClI where
  nm : Str
  fs : List Nat
  ms : List (Nat × Nat)
  ini : Nat
  eqf : Nat
  pats : List (Nat × List Nat)
structure Prg where
  fns : List FnI
  cls : List ClI
  fnm : List Str
  mnm : List Str
  glo : List (Str × LV)
  exc : List (List Nat)
  xnm : List Str

abbrev FT := Nat → List LV → LH → Res LV

/-- what a run of statements comes to -/
inductive SR where
  | nx (ls : LSt) (h : LH) | rt (v : LV) (h : LH) | ct (ls : LSt) (h : LH) | exc (c : Nat) (p : Option LV) (ls : LSt) (h : LH) | bad

/-- a dict that is not walked -/
def isDic (h : LH) : LV → Bool
  | .ref i => match h[i]? with
    | some (.dK _) => true
    | some (.dT _) => true
    | _ => false
  | _ => false
def p2 : O2 → LV → LV → LH → Res LV
  | .add => pAdd
  | .sub => pSub
  | .mul => pMul
  | .fdiv => pFdiv
  | .mod => pMod
  | .pow => pPow
  | .eq => pEq
  | .ne => pNe
  | .lt => pCmp fun i j => decide (i < j)
  | .le => pCmp fun i j => decide (i ≤ j)
  | .gt => pCmp fun i j => decide (j < i)
  | .ge => pCmp fun i j => decide (j ≤ i)
  | .isin => pIn
  | .notin => pNotIn
  | .idx => pIdx
  | .eqd => pEqD
def pB : Bf → List LV → LH → Res LV
  | .len => pLen
  | .abs => pAbs
  | .sum => pSum
  | .list => pList
  | .tuple => pTuple
  | .dict => pDict
  | .max2 => pMax2
  | .min2 => pMin2
def pM : Bm → LV → List LV → LH → Res LV
  | .append => pAppend
  | .popAt => pPopAt
  | .get2 => pGet2
  | .dpop => pDPop
/-- the receiver is of the method's type -/
def bmT : Bm → LV → LH → Bool
  | .append, a, h => (lstOf h a).isSome
  | .popAt, a, h => (lstOf h a).isSome
  | .get2, a, h => isDic h a
  | .dpop, a, h => isDic h a
/-- the list of a comprehension, used -/
def pC : Ck → List LV → LH → Res LV
  | .keep, xs, h => newL xs h
  | .all, xs, h => match blsOf xs with
    | some bs => .ok (.bl (bs.all id)) h
    | none => .bad
  | .any, xs, h => match blsOf xs with
    | some bs => .ok (.bl (bs.any id)) h
    | none => .bad
  | .sum, xs, h => match intsOf xs with
    | some is => .ok (.int is.sum) h
    | none => .bad
/-- x is None -/
def isNM (ng : Bool) (x : LV) (h : LH) : Res LV := match x with
  | .non => .ok (.bl (!ng)) h
  | _ => .ok (.bl ng) h
/-- distinct ones -/
def ddL : List (List Nat) → List (List Nat) → List (List Nat)
  | [], l => l
  | x :: xs, l => ddL xs (if x ∈ l then l else x :: l)
def insS (x : List Nat) : List (List Nat) → List (List Nat)
  | [] => [x]
  | y :: ys => if x ≤ y then x :: y :: ys else y :: insS x ys
def sortL : List (List Nat) → List (List Nat)
  | [] => []
  | x :: xs => insS x (sortL xs)
/-- len of a set of texts -/
def pLs (xs : List LV) (h : LH) : Res LV := match strsOf xs with
  | some ss => if ss.length < 4000 then .ok (.int (ddL ss []).length) h else .bad
  | none => .bad
/-- sorted(set(xs)), texts -/
def pSst (a : LV) (h : LH) : Res LV := match lstOf h a with
  | some xs => (match strsOf xs with
    | some ss => if ss.length < 64 then newL ((sortL (ddL ss [])).map LV.str) h else .bad
    | none => .bad)
  | none => .bad
/-- list(d.values()) -/
def pLvl (a : LV) (h : LH) : Res LV := match a with
  | .ref i => (match h[i]? with
    | some (.dK kvs) => newL (kvs.map (·.2)) h
    | _ => .bad)
  | _ => .bad
/-- {k: v, ..}, the keys written -/
def pDsp (ks : List LV) (vs : List LV) (h : LH) : Res LV := if ks.length = vs.length ∧ ks.all (fun k => (keyOf k).isSome) then .ok (.ref h.length) (h ++ [.dK (dmerge [] (ks.zip vs))]) else .bad
def asB : LV → LH → Res Bool
  | .bl b, h => .ok b h
  | _, _ => .bad
def asI : LV → LH → Res (Option Int)
  | .int i, h => .ok (some i) h
  | _, _ => .bad
def slotE (ls : LSt) (i : Nat) (h : LH) : Res LV := match ls[i]? with
  | some (some v) => .ok v h
  | _ => .bad
/-- o.f -/
def pFld (P : Prg) (a : LV) (f : Nat) (h : LH) : Res LV := match a with
  | .ref i => (match h[i]? with
    | some (.ins c fs) => (match P.cls[c]? with
      | some ci => got (fs[ci.fs.idxOf f]?) h
      | none => .bad)
    | _ => .bad)
  | _ => .bad
/-- the class of an instance -/
def insC (h : LH) : LV → Option Nat
  | .ref i => (match h[i]? with
    | some (.ins c _) => some c
    | _ => none)
  | _ => none
/-- o.f = v -/
def pFst (P : Prg) (a : LV) (f : Nat) (v : LV) (h : LH) : Res LV := match a with
  | .ref i => (match h[i]? with
    | some (.ins c fs) => (match P.cls[c]? with
      | some ci => if ci.fs.idxOf f < fs.length then .ok .non (h.set i (.ins c (fs.set (ci.fs.idxOf f) v)))
        else if ci.fs.idxOf f = fs.length ∧ fs.length < ci.fs.length then .ok .non (h.set i (.ins c (fs ++ [v]))) else .bad
      | none => .bad)
    | _ => .bad)
  | _ => .bad
def Prg.fname (P : Prg) (f : Nat) : Str := P.fnm.getD f Str.empty
def Prg.mname (P : Prg) (f : Nat) : Str := P.mnm.getD f Str.empty
/-- the arguments with the defaults -/
def fillA (f : FnI) (as : List LV) : Option (List LV) :=
  if f.kwo = false ∧ as.length ≤ f.ps.length ∧ f.ps.length ≤ as.length + f.dv.length then some (as ++ f.dv.drop (f.dv.length - (f.ps.length - as.length))) else none
def callF (P : Prg) (F : FT) (f : Nat) (as : List LV) (h : LH) : Res LV := match P.fns[f]? with
  | some fi => (match fillA fi as with
    | some bs => F f bs h
    | none => .bad)
  | none => .bad
/-- the method of an instance -/
def methF (P : Prg) (a : LV) (m : Nat) (h : LH) : Option Nat := match a with
  | .ref i => (match h[i]? with
    | some (.ins c _) => (match P.cls[c]? with
      | some ci => ci.ms.lookup m
      | none => none)
    | _ => none)
  | _ => none
/-- keyword arguments put in the parameters' order: ks tells which parameter each is -/
def kwFill (f : FnI) (as : List LV) (ks : List Nat) (ws : List LV) : Option (List LV) :=
  let rest := (List.range f.ps.length).drop as.length
  let vals := rest.map fun j => match (ks.zip ws).lookup j with
    | some v => some v
    | none => f.dv[j - (f.ps.length - f.dv.length)]?
  if as.length + f.dv.length ≥ f.ps.length ∧ as.length ≤ f.ps.length then (vals.mapM id).map (as ++ ·) else none
/-- a new instance -/
def makeC (P : Prg) (F : FT) (c : Nat) (as : List LV) (ks : List Nat) (ws : List LV) (h : LH) : Res LV := match P.cls[c]? with
  | some ci => (match P.fns[ci.ini]? with
    | some fi => (match kwFill fi (.ref h.length :: as) ks ws with
      | some bs => if (as.length, ks) ∈ ci.pats ∧ bs.length = fi.ps.length ∧ ws.length = ks.length then (F ci.ini bs (h ++ [.ins c []])).bind fun v h' => match v with
        | .non => .ok (.ref h.length) h'
        | _ => .bad else .bad
      | none => .bad)
    | none => .bad)
  | none => .bad

/-! ### loops -/
def Res.toS {α : Type} (ls : LSt) : Res α → (α → LH → SR) → SR
  | .ok a h, k => k a h
  | .exc c p h, _ => .exc c p ls h
  | .bad, _ => .bad
def SR.thn : SR → (LSt → LH → SR) → SR
  | .nx ls h, k => k ls h
  | r, _ => r
/-- behind a turn of a loop -/
def SR.turn : SR → (LSt → LH → SR) → SR
  | .nx ls h, k => k ls h
  | .ct ls h, k => k ls h
  | r, _ => r
/-- what is walked -/
inductive Wk where
  | told (xs : List LV)
  | at_ (m n : Nat)
/-- the i-th item: none if there is no walk, some none behind the last one -/
def nxW : Wk → Nat → LH → Option (Option LV)
  | .told xs, i, _ => some xs[i]?
  | .at_ m _, i, h => match h[m]? with
    | some (.lst xs) => some xs[i]?
    | _ => none
def fuelW : Wk → Nat
  | .told xs => xs.length
  | .at_ _ n => n
/-- a loop: k turns at most, from the i-th item on -/
def loopG (w : Wk) (t : LV → LSt → LH → Res LSt) (b : LSt → LH → SR) : Nat → Nat → LSt → LH → SR
  | 0, i, ls, h => (match nxW w i h with
    | some none => .nx ls h
    | _ => .bad)
  | k + 1, i, ls, h => (match nxW w i h with
    | some none => .nx ls h
    | some (some x) => (t x ls h).toS ls fun ls1 h1 => (b ls1 h1).turn fun ls2 h2 => loopG w t b k (i + 1) ls2 h2
    | none => .bad)
def loopW (c : LSt → LH → Res Bool) (b : LSt → LH → SR) : Nat → LSt → LH → SR
  | 0, _, _ => .bad
  | n + 1, ls, h => (c ls h).toS ls fun k h1 => if k then (b ls h1).turn fun ls2 h2 => loopW c b n ls2 h2 else .nx ls h1
/-- nothing may be raised in a comprehension's turns -/
def Res.bindN {α β : Type} : Res α → (α → LH → Res β) → Res β
  | .ok a h, k => k a h
  | _, _ => .bad
/-- a comprehension over items that are told: ls keeps, each turn begins from it -/
def compG (w : Wk) (t : LV → LSt → LH → Res LSt) (q : LSt → LH → Res Bool) (e : LSt → LH → Res LV) (ls : LSt) : Nat → Nat → List LV → LH → Res (List LV)
  | 0, i, acc, h => (match nxW w i h with
    | some none => .ok acc h
    | _ => .bad)
  | k + 1, i, acc, h => (match nxW w i h with
    | some none => .ok acc h
    | some (some x) => (t x ls h).bindN fun ls1 h1 => (q ls1 h1).bindN fun b h2 =>
      if b then (e ls1 h2).bindN fun v h3 => if acc.length < 16777216 then compG w t q e ls k (i + 1) (acc ++ [v]) h3 else .bad else compG w t q e ls k (i + 1) acc h2
    | none => .bad)
/-- how a value is walked -/
def walkV (v : LV) (h : LH) : Res Wk := match v with
  | .tup xs => .ok (.told xs) h
  | .ktu xs => .ok (.told xs) h
  | .frl xs => .ok (.told xs) h
  | .str x => .ok (.told (x.map fun c => .str [c])) h
  | .ref i => (match h[i]? with
    | some (.lst xs) => .ok (.at_ i xs.length) h
    | _ => .bad)
  | _ => .bad
def walkR (v : LV) (h : LH) : Res Wk := match v with
  | .int n => if -4611686018427387904 ≤ n ∧ n < 4611686018427387904 then .ok (.told ((List.range n.toNat).map fun (i : Nat) => LV.int i)) h else .bad
  | _ => .bad
def loopOf (t : LV → LSt → LH → Res LSt) (b : LSt → LH → SR) (w : Wk) (ls : LSt) (h : LH) : SR := loopG w t b (fuelW w) 0 ls h
def compOf (t : LV → LSt → LH → Res LSt) (q : LSt → LH → Res Bool) (e : LSt → LH → Res LV) (own : List Nat) (w : Wk) (ls : LSt) (h : LH) : Res (List LV) := compG w t q e (lwipe ls own) (fuelW w) 0 [] h
/-- a dict is locked while it is walked: e tells which -/
def lockAt (r : Res LV) (h : LH) : Option (Nat × LH) := match r with
  | .ok (.ref m) _ => (match h[m]? with
    | some (.dK kvs) => some (m, h.set m (.fK kvs))
    | some (.dT kvs) => some (m, h.set m (.fT kvs))
    | _ => none)
  | _ => none
def unlockL (m : Nat) (h : LH) : Option LH := match h[m]? with
  | some (.fK kvs) => some (h.set m (.dK kvs))
  | some (.fT kvs) => some (h.set m (.dT kvs))
  | _ => none
def unlockR {α : Type} (m : Nat) : Res α → Res α
  | .ok a h => (match unlockL m h with
    | some h' => .ok a h'
    | none => .bad)
  | _ => .bad
def unlockS (m : Nat) : SR → SR
  | .nx ls h => (match unlockL m h with
    | some h' => .nx ls h'
    | none => .bad)
  | .rt v h => (match unlockL m h with
    | some h' => .rt v h'
    | none => .bad)
  | .ct ls h => (match unlockL m h with
    | some h' => .ct ls h'
    | none => .bad)
  | _ => .bad
/-- the items of a locked dict: 0 its keys, 1 its values, 2 its pairs -/
def walkD (k m : Nat) (v : LV) (h : LH) : Res Wk := match v with
  | .ref i => if i = m then (match h[i]? with
    | some (.fK kvs) => .ok (.told (match k with
      | 0 => kvs.map (·.1)
      | 1 => kvs.map (·.2)
      | _ => kvs.map fun kv => .tup [kv.1, kv.2])) h
    | _ => .bad) else .bad
  | _ => .bad
def wfuel : Nat := 100000
/-- what an own == is asked of here: an instance of the class, or a list -/
def othB (h : LH) (c : Nat) : LV → Bool
  | .ref j => (match h[j]? with
    | some (.ins d _) => decide (d = c)
    | some (.lst _) => true
    | _ => false)
  | _ => false
/-- own ==, != -/
def eqoM (P : Prg) (F : FT) (ng : Bool) (x y : LV) (h : LH) : Res LV := match insC h x with
  | some c => (match P.cls[c]? with
    | some ci => (match P.fns[ci.eqf]? with
      | some fi => if fi.kwo = false ∧ fi.ps.length = 2 ∧ othB h c y = true then (F ci.eqf [x, y] h).bindN fun v h3 => match v with
        | .bl k => .ok (.bl (k != ng)) h3
        | _ => .bad else .bad
      | none => .bad)
    | none => .bad)
  | none => .bad

/-! ### the evaluator -/
section
variable (P : Prg) (F : FT)
mutual
def evE : Ex → LSt → LH → Res LV
  | .var i, ls, h => slotE ls i h
  | .con c, _, h => .ok c h
  | .glo g, _, h => (match P.glo[g]? with
    | some x => .ok x.2 h
    | none => .bad)
  | .op2 o a b, ls, h => (evE a ls h).bind fun x h1 => (evE b ls h1).bind fun y h2 => p2 o x y h2
  | .neg a, ls, h => (evE a ls h).bind fun x h1 => pNeg x h1
  | .isN ng a, ls, h => (evE a ls h).bind fun x h1 => isNM ng x h1
  | .bop k xs, ls, h => evB k xs ls h
  | .nt a, ls, h => (evE a ls h).bind fun x h1 => (asB x h1).bind fun b h2 => .ok (.bl (!b)) h2
  | .chn a b c, ls, h => (evE a ls h).bind fun x h1 => (evE b ls h1).bind fun y h2 => (pCmp (fun i j => decide (i ≤ j)) x y h2).bind fun k h3 => match k with
    | .bl true => (evE c ls h3).bind fun z h4 => pCmp (fun i j => decide (i ≤ j)) y z h4
    | .bl false => .ok (.bl false) h3
    | _ => .bad
  | .ite c a b, ls, h => (evE c ls h).bind fun x h1 => (asB x h1).bind fun k h2 => if k then evE a ls h2 else evE b ls h2
  | .tup xs, ls, h => (evEs xs ls h).bind fun vs h1 => if vs.length ≤ 16777216 then .ok (.tup vs) h1 else .bad
  | .lst xs, ls, h => (evEs xs ls h).bind fun vs h1 => newL vs h1
  | .dnw t, _, h => .ok (.ref h.length) (h ++ [if t then .dT [] else .dK []])
  | .dsp ks vs, ls, h => (evEs vs ls h).bindN fun ws h1 => pDsp ks ws h1
  | .slc a lo hi, ls, h => (evE a ls h).bind fun x h1 => (evO lo ls h1).bind fun l h2 => (evO hi ls h2).bind fun u h3 => pSlice x l u h3
  | .fld a f, ls, h => (evE a ls h).bind fun x h1 => pFld P x f h1
  | .cal f xs, ls, h => (evEs xs ls h).bind fun vs h1 => callF P F f vs h1
  | .met o m xs, ls, h => (evE o ls h).bind fun x h1 => match methF P x m h1 with
    | some f => (evEs xs ls h1).bind fun vs h2 => callF P F f (x :: vs) h2
    | none => .bad
  | .mke c xs ks kws, ls, h => (evEs xs ls h).bind fun vs h1 => (evEs kws ls h1).bind fun ws h2 => makeC P F c vs ks ws h2
  | .bif b xs, ls, h => (evEs xs ls h).bind fun vs h1 => pB b vs h1
  | .bme m o xs, ls, h => (evE o ls h).bind fun x h1 => if bmT m x h1 then (evEs xs ls h1).bind fun vs h2 => pM m x vs h2 else .bad
  | .isi a ts _, ls, h => (evE a ls h).bind fun x h1 => pIsi P.cls.length ts x h1
  | .lvl e, ls, h => (evE e ls h).bind fun x h1 => pLvl x h1
  | .sst e, ls, h => (evE e ls h).bind fun x h1 => pSst x h1
  | .lsc elt own tg src tst, ls, h => (evCs (fun w => compOf (fun v ls h => asg tg v ls h) (fun ls h => evQ tst ls h) (fun ls h => evE elt ls h) own w) src ls h).bind fun xs h1 => pLs xs h1
  | .eqo ng a b, ls, h => (evE a ls h).bind fun x h1 => (evE b ls h1).bind fun y h2 => eqoM P F ng x y h2
  | .cmp k elt own tg src tst, ls, h => (evCs (fun w => compOf (fun v ls h => asg tg v ls h) (fun ls h => evQ tst ls h) (fun ls h => evE elt ls h) own w) src ls h).bind fun xs h1 => pC k xs h1
def evEs : Exs → LSt → LH → Res (List LV)
  | .nil, _, h => .ok [] h
  | .cons e es, ls, h => (evE e ls h).bind fun v h1 => (evEs es ls h1).bind fun vs h2 => .ok (v :: vs) h2
def evB : Bool → Exs → LSt → LH → Res LV
  | _, .nil, _, _ => .bad
  | k, .cons e es, ls, h => (evE e ls h).bind fun x h1 => (asB x h1).bind fun b h2 => match es with
    | .nil => .ok (.bl b) h2
    | .cons _ _ => if b == k then evB k es ls h2 else .ok (.bl b) h2
def evO : Ox → LSt → LH → Res (Option Int)
  | .none, _, h => .ok none h
  | .some e, ls, h => (evE e ls h).bind fun v h1 => asI v h1
/-- a comprehension's test -/
def evQ : Ox → LSt → LH → Res Bool
  | .none, _, h => .ok true h
  | .some e, ls, h => (evE e ls h).bind fun v h1 => asB v h1
/-- a source, walked by k (a comprehension) -/
def evCs (k : Wk → LSt → LH → Res (List LV)) : Sr → LSt → LH → Res (List LV)
  | .exp e, ls, h => (evE e ls h).bind fun v h1 => (walkV v h1).bind fun w h2 => k w ls h2
  | .rng e, ls, h => (evE e ls h).bind fun v h1 => (walkR v h1).bind fun w h2 => k w ls h2
  | .kys e, ls, h => (match lockAt (evE e ls h) h with
    | some (m, h0) => unlockR m ((evE e ls h0).bind fun v h1 => (walkD 0 m v h1).bind fun w h2 => k w ls h2)
    | none => .bad)
  | .vls e, ls, h => (match lockAt (evE e ls h) h with
    | some (m, h0) => unlockR m ((evE e ls h0).bind fun v h1 => (walkD 1 m v h1).bind fun w h2 => k w ls h2)
    | none => .bad)
  | .its e, ls, h => (match lockAt (evE e ls h) h with
    | some (m, h0) => unlockR m ((evE e ls h0).bind fun v h1 => (walkD 2 m v h1).bind fun w h2 => k w ls h2)
    | none => .bad)
/-- a value is given to a target -/
def asg : Tg → LV → LSt → LH → Res LSt
  | .nm i, v, ls, h => .ok (ls.set i (some v)) h
  | .tp ts, v, ls, h => (match tupOf v with
    | some vs => if vs.length = tgsLen ts then asgs ts vs ls h else .bad
    | none => .bad)
  | .sb o i, v, ls, h => (evE o ls h).bindN fun x h1 => (evE i ls h1).bindN fun y h2 => (pSet x y v h2).bindN fun _ h3 => .ok ls h3
def asgs : Tgs → List LV → LSt → LH → Res LSt
  | .nil, [], ls, h => .ok ls h
  | .cons t ts, v :: vs, ls, h => (asg t v ls h).bindN fun ls1 h1 => asgs ts vs ls1 h1
  | _, _, _, _ => .bad
end
/-- a comprehension's list -/
def evC (elt : Ex) (own : List Nat) (tg : Tg) (src : Sr) (tst : Ox) (ls : LSt) (h : LH) : Res (List LV) :=
  evCs P F (fun w => compOf (fun v ls h => asg P F tg v ls h) (fun ls h => evQ P F tst ls h) (fun ls h => evE P F elt ls h) own w) src ls h
/-- a source, walked by k (a for) -/
def evFs (k : Wk → LSt → LH → SR) : Sr → LSt → LH → SR
  | .exp e, ls, h => (evE P F e ls h).toS ls fun v h1 => (walkV v h1).toS ls fun w h2 => k w ls h2
  | .rng e, ls, h => (evE P F e ls h).toS ls fun v h1 => (walkR v h1).toS ls fun w h2 => k w ls h2
  | .kys e, ls, h => (match lockAt (evE P F e ls h) h with
    | some (m, h0) => unlockS m ((evE P F e ls h0).toS ls fun v h1 => (walkD 0 m v h1).toS ls fun w h2 => k w ls h2)
    | none => .bad)
  | .vls e, ls, h => (match lockAt (evE P F e ls h) h with
    | some (m, h0) => unlockS m ((evE P F e ls h0).toS ls fun v h1 => (walkD 1 m v h1).toS ls fun w h2 => k w ls h2)
    | none => .bad)
  | .its e, ls, h => (match lockAt (evE P F e ls h) h with
    | some (m, h0) => unlockS m ((evE P F e ls h0).toS ls fun v h1 => (walkD 2 m v h1).toS ls fun w h2 => k w ls h2)
    | none => .bad)
def parSet : List Nat → List LV → LSt → Option LSt
  | [], [], ls => some ls
  | i :: is, v :: vs, ls => parSet is vs (ls.set i (some v))
  | _, _, _ => none
def agO (sub : Bool) : LV → LV → LH → Res LV := fun a b h => match a, b with
  | .int i, .int j => .ok (.int (if sub then i - j else i + j)) h
  | _, _ => .bad
mutual
def evS : Sm → LSt → LH → SR
  | .ex e, ls, h => (evE P F e ls h).toS ls fun _ h1 => .nx ls h1
  | .set t e, ls, h => (evE P F e ls h).toS ls fun v h1 => (asg P F t v ls h1).toS ls fun ls1 h2 => .nx ls1 h2
  | .par is es, ls, h => (evEs P F es ls h).toS ls fun vs h1 => (match parSet is.reverse vs.reverse ls with
    | some ls1 => .nx ls1 h1
    | none => .bad)
  | .slc i elt own tg src tst, ls, h => (evC P F elt own tg src tst ls h).toS ls fun xs h1 => (newL xs h1).toS ls fun v h2 => .nx (ls.set i (some v)) h2
  | .fst o f e, ls, h => (evE P F e ls h).toS ls fun v h1 => (evE P F o ls h1).toS ls fun x h2 => (pFst P x f v h2).toS ls fun _ h3 => .nx ls h3
  | .agN i sub e, ls, h => (slotE ls i h).toS ls fun x h0 => (evE P F e ls h0).toS ls fun y h1 => (agO sub x y h1).toS ls fun z h2 => .nx (ls.set i (some z)) h2
  | .agF o f sub e, ls, h => (evE P F o ls h).toS ls fun a h1 => (pFld P a f h1).toS ls fun x h2 => (evE P F e ls h2).toS ls fun y h3 => (agO sub x y h3).toS ls fun z h4 => if insC h4 a = insC h1 a then (pFst P a f z h4).toS ls fun _ h5 => .nx ls h5 else .bad
  | .agS o i sub e, ls, h => (evE P F o ls h).toS ls fun a h1 => (evE P F i ls h1).toS ls fun b h2 => (pIdx a b h2).toS ls fun x h3 => (evE P F e ls h3).toS ls fun y h4 => (agO sub x y h4).toS ls fun z h5 => (pSet a b z h5).toS ls fun _ h6 => .nx ls h6
  | .iff c a b, ls, h => (evE P F c ls h).toS ls fun x h1 => (asB x h1).toS ls fun k h2 => if k then evSs a ls h2 else evSs b ls h2
  | .for_ t src body, ls, h => evFs P F (fun w => loopOf (fun v ls h => asg P F t v ls h) (fun ls h => evSs body ls h) w) src ls h
  | .whl c body, ls, h => loopW (fun ls h => (evE P F c ls h).bind fun x h1 => asB x h1) (fun ls h => evSs body ls h) wfuel ls h
  | .ret e, ls, h => (evE P F e ls h).toS ls fun v h1 => .rt v h1
  | .retN, _, h => .rt .non h
  | .rse c, ls, h => .exc c none ls h
  | .try_ body c sl hd, ls, h => (match evSs body ls h with
    | .exc d p ls1 h1 => if (P.exc.getD d []).contains c then (match sl with
      | none => evSs hd ls1 h1
      | some _ => .bad) else .exc d p ls1 h1
    | r => r)
  | .pass, ls, h => .nx ls h
  | .cont, ls, h => .ct ls h
  | .never, _, _ => .bad
def evSs : Sms → LSt → LH → SR
  | .nil, ls, h => .nx ls h
  | .cons s ss, ls, h => (evS s ls h).thn fun ls1 h1 => evSs ss ls1 h1
end
def evFn (f : FnI) (as : List LV) (h : LH) : Res LV :=
  if as.length = f.ps.length then (match evSs P F f.body (as.map some ++ List.replicate (f.N.length - as.length) none) h with
    | .nx _ h1 => .ok .non h1
    | .rt v h1 => .ok v h1
    | .exc c p _ h1 => .exc c p h1
    | _ => .bad) else .bad
end
/-- a call, n deep at most -/
def run (P : Prg) : Nat → FT
  | 0, _, _, _ => .bad
  | n + 1, f, as, h => match P.fns[f]? with
    | some fi => evFn P (run P n) fi as h
    | none => .bad
end LD
end
section
set_option Elab.async false
set_option linter.all false
set_option maxRecDepth 100000
/-! LDK: the rules, one for each kind of expression -/
namespace LD
open PySem L2

def NoX {α : Type} (r : Res α) : Prop := ∀ c p h, r ≠ .exc c p h
theorem RSg.noX {C : Cl} {K : PySem.W.Frag} {α β : Type} {R : RL α β} {E E' : XK} {φ : Nat → Addr} {h : LH} {H : Hp} {r : Res α} {Q : β → Hp → Prop} (n : NoX r) (x : RSg C K R E φ h H r Q) : RSg C K R E' φ h H r Q := by
  cases r with
  | ok a h' => exact x
  | exc c p h' => exact absurd rfl (n c p h')
  | bad => exact x
theorem nx_ok {α : Type} {a : α} {h : LH} : NoX (.ok a h) := fun _ _ _ e => nomatch e
theorem nx_bad {α : Type} : NoX (.bad : Res α) := fun _ _ _ e => nomatch e
theorem nx_newL (xs : List LV) (h : LH) : NoX (newL xs h) := by
  unfold newL; split
  · exact nx_ok
  · exact nx_bad
theorem nx_got (o : Option LV) (h : LH) : NoX (got o h) := by
  unfold got; split
  · exact nx_ok
  · exact nx_bad
theorem nx_p2 (o : O2) (a b : LV) (h : LH) : NoX (p2 o a b h) := by
  cases o
  · show NoX (pAdd a b h); unfold pAdd; repeat' split
    all_goals first | exact nx_ok | exact nx_bad | exact nx_newL _ _
  · show NoX (pSub a b h); unfold pSub; repeat' split
    all_goals first | exact nx_ok | exact nx_bad
  · show NoX (pMul a b h); unfold pMul; repeat' split
    all_goals first | exact nx_ok | exact nx_bad | exact nx_newL _ _
  · show NoX (pFdiv a b h); unfold pFdiv; repeat' split
    all_goals first | exact nx_ok | exact nx_bad
  · show NoX (pMod a b h); unfold pMod; repeat' split
    all_goals first | exact nx_ok | exact nx_bad
  · show NoX (pPow a b h); unfold pPow; repeat' split
    all_goals first | exact nx_ok | exact nx_bad
  · show NoX (pEq a b h); unfold pEq; repeat' split
    all_goals first | exact nx_ok | exact nx_bad
  · show NoX (pNe a b h); unfold pNe; repeat' split
    all_goals first | exact nx_ok | exact nx_bad
  · show NoX (pCmp (fun i j => decide (i < j)) a b h); unfold pCmp; repeat' split
    all_goals first | exact nx_ok | exact nx_bad
  · show NoX (pCmp (fun i j => decide (i ≤ j)) a b h); unfold pCmp; repeat' split
    all_goals first | exact nx_ok | exact nx_bad
  · show NoX (pCmp (fun i j => decide (j < i)) a b h); unfold pCmp; repeat' split
    all_goals first | exact nx_ok | exact nx_bad
  · show NoX (pCmp (fun i j => decide (j ≤ i)) a b h); unfold pCmp; repeat' split
    all_goals first | exact nx_ok | exact nx_bad
  · show NoX (pIn a b h); unfold pIn; repeat' split
    all_goals first | exact nx_ok | exact nx_bad
  · show NoX (pNotIn a b h); unfold pNotIn notB; repeat' split
    all_goals first | exact nx_ok | exact nx_bad
  · show NoX (pIdx a b h); unfold pIdx; repeat' split
    all_goals first | exact nx_got _ _ | exact nx_bad | (unfold pSeqIdx; repeat' split)
    all_goals first | exact nx_got _ _ | exact nx_bad
  · show NoX (pEqD a b h); unfold pEqD; repeat' split
    all_goals first | exact nx_ok | exact nx_bad
theorem nx_pB (o : Bf) (as : List LV) (h : LH) : NoX (pB o as h) := by
  cases o
  · show NoX (pLen as h); unfold pLen; repeat' split
    all_goals first | exact nx_ok | exact nx_bad
  · show NoX (pAbs as h); unfold pAbs; repeat' split
    all_goals first | exact nx_ok | exact nx_bad
  · show NoX (pSum as h); unfold pSum; repeat' split
    all_goals first | exact nx_ok | exact nx_bad
  · show NoX (pList as h); unfold pList; repeat' split
    all_goals first | exact nx_ok | exact nx_bad | exact nx_newL _ _
  · show NoX (pTuple as h); unfold pTuple; repeat' split
    all_goals first | exact nx_ok | exact nx_bad
  · show NoX (pDict as h); unfold pDict; repeat' split
    all_goals first | exact nx_ok | exact nx_bad
  · show NoX (pMax2 as h); unfold pMax2; repeat' split
    all_goals first | exact nx_ok | exact nx_bad
  · show NoX (pMin2 as h); unfold pMin2; repeat' split
    all_goals first | exact nx_ok | exact nx_bad
theorem nx_pM (o : Bm) (a : LV) (as : List LV) (h : LH) : NoX (pM o a as h) := by
  cases o
  · show NoX (pAppend a as h); unfold pAppend; repeat' split
    all_goals first | exact nx_ok | exact nx_bad
  · show NoX (pPopAt a as h); unfold pPopAt; repeat' split
    all_goals first | exact nx_ok | exact nx_bad
  · show NoX (pGet2 a as h); unfold pGet2; repeat' split
    all_goals first | exact nx_ok | exact nx_bad
  · show NoX (pDPop a as h); unfold pDPop; repeat' split
    all_goals first | exact nx_ok | exact nx_bad
theorem nx_pNeg (a : LV) (h : LH) : NoX (pNeg a h) := by
  unfold pNeg; split
  · exact nx_ok
  · exact nx_bad
theorem nx_pSet (a b v : LV) (h : LH) : NoX (pSet a b v h) := by
  unfold pSet; repeat' split
  all_goals first | exact nx_ok | exact nx_bad
theorem nx_pSlice (a : LV) (l u : Option Int) (h : LH) : NoX (pSlice a l u h) := by
  unfold pSlice; repeat' split
  all_goals first | exact nx_ok | exact nx_bad | exact nx_newL _ _
theorem nx_pIsi (n : Nat) (ts : List Tq) (a : LV) (h : LH) : NoX (pIsi n ts a h) := by
  unfold pIsi; repeat' split
  all_goals first | exact nx_ok | exact nx_bad
theorem nx_asB (a : LV) (h : LH) : NoX (asB a h) := by
  unfold asB; split
  · exact nx_ok
  · exact nx_bad

/-! ### readings -/
section
variable {C : Cl} {K : PySem.W.Frag} {W : WX} {σ : St} {H : Hp} {m m1 m2 : LSt → LH → Res LV} {ma mb : LSt → LH → Res (List LV)}
theorem w_op {p : LV → LV → LH → Res LV} {Q : VK} (n : ∀ a b h, NoX (p a b h)) (x : liftE C K W (fun ls h => (m1 ls h).bind fun a h1 => (m2 ls h1).bind fun b h2 => p a b h2) σ H Q) : tOp (r2 C K p) (liftE C K W m1) (liftE C K W m2) σ H Q :=
  lift_mono (lift_bind2 (R := RV K) (R' := RV K) (R3 := RV K) stabV x) fun _ _ y => lift_mono y fun _ _ ⟨φ, h, a, b, S, ra, rb, R⟩ => ⟨φ, h, a, b, S, ra, rb, R.noX (n _ _ _)⟩
theorem w_un {p : LV → LH → Res LV} {Q : VK} (n : ∀ a h, NoX (p a h)) (x : liftE C K W (fun ls h => (m ls h).bind fun a h1 => p a h1) σ H Q) : tUn (r1 C K p) (liftE C K W m) σ H Q :=
  lift_mono (lift_bind (R := RV K) (R' := RV K) (k := fun _ a h1 => p a h1) x) fun _ _ ⟨φ, _, h, a, S, _, ra, R⟩ => ⟨φ, h, a, S, ra, R.noX (n _ _)⟩
theorem w_cb {p : List LV → LH → Res LV} {Q : VK} (n : ∀ a h, NoX (p a h)) (x : liftE C K W (fun ls h => (ma ls h).bind fun a h1 => p a h1) σ H Q) : tCB (rN C K p) (liftA C K W ma) σ H Q :=
  lift_mono (lift_bind (R := RVs K) (R' := RV K) (k := fun _ a h1 => p a h1) x) fun _ _ ⟨φ, _, h, a, S, _, ra, R⟩ => ⟨φ, h, a, S, ra, R.noX (n _ _)⟩
theorem w_tup {Q : VK} (x : liftE C K W (fun ls h => (ma ls h).bind fun vs h1 => if vs.length ≤ 16777216 then .ok (.tup vs) h1 else .bad) σ H Q) : tTup (liftA C K W ma) σ H Q := by
  refine lift_mono (lift_bind (R := RVs K) (R' := RV K) (k := fun _ vs h1 => if vs.length ≤ 16777216 then .ok (.tup vs) h1 else .bad) x) fun ys H1 ⟨φ, ls, h, xs, S, _, rs, R⟩ => ?_
  split at R
  · rename_i hl
    exact ⟨by rw [← rs.length]; exact line_of hl, fun p hp => RSg.nT S R rs hp⟩
  · exact R.elim
theorem w_lst {Q : VK} (x : liftE C K W (fun ls h => (ma ls h).bind fun vs h1 => newL vs h1) σ H Q) : tLst (liftA C K W ma) σ H Q := by
  refine lift_mono (lift_bind (R := RVs K) (R' := RV K) (k := fun _ vs h1 => newL vs h1) x) fun ys H1 ⟨φ, ls, h, xs, S, _, rs, R⟩ => ?_
  exact ⟨by rw [← rs.length]; exact RSg.nLlen R, fun p hp => RSg.nL S R rs hp⟩
theorem w_nil {Q : List V → Hp → Prop} (x : liftA C K W (fun _ h => .ok [] h) σ H Q) : tNil σ H Q := by
  obtain ⟨φ, ls, h, S, L, R⟩ := x
  exact R.here S VRs.nil
theorem w_cons {Q : List V → Hp → Prop} (x : liftA C K W (fun ls h => (m ls h).bind fun v h1 => (ma ls h1).bind fun vs h2 => .ok (v :: vs) h2) σ H Q) : tCons (liftE C K W m) (liftA C K W ma) σ H Q :=
  lift_mono (lift_bind2 (R := RV K) (R' := RVs K) (R3 := RVs K) (k := fun v vs h2 => .ok (v :: vs) h2) stabV x) fun _ _ y => lift_mono y fun _ _ ⟨φ, h, a, as, S, ra, rs, R⟩ => R.here S (VRs.cons ra rs)
/-- a test, of a value -/
abbrev tstM (m : LSt → LH → Res LV) : LSt → LH → Res Bool := fun ls h => (m ls h).bind fun x h1 => asB x h1
theorem asB_at {φ : Nat → Addr} {h : LH} {a : LV} {x : V} {E : XK} {Q : Bool → Hp → Prop} (S : Sim C K φ h H) (ra : VR K φ h.length H a x) (R : RSg C K RB E φ h H (asB a h) Q) : ∃ c, x = .bl c ∧ a = .bl c ∧ Q c H := by
  cases a <;> first | exact R.elim | skip
  rename_i b
  exact ⟨b, ra.bl, rfl, R.here S rfl⟩
theorem w_tst {Q : Bool → Hp → Prop} (x : liftT C K W (tstM m) σ H Q) : tB (liftE C K W m) σ H Q :=
  lift_mono (lift_bind (R := RV K) (R' := RB) (k := fun _ a h1 => asB a h1) x) fun _ _ ⟨φ, ls, h, a, S, _, ra, R⟩ => let ⟨c, e, _, q⟩ := asB_at S ra R; ⟨c, e, q⟩
end
section
variable {X : Cx} {C : Cl} {W : WX} {a b c : Expr} {m m1 m2 m3 : LSt → LH → Res LV} {pos : Pos} {ma : LSt → LH → Res (List LV)}
theorem k_var {i : Nat} {x : Str} (hN : X.N[i]? = some x) (hv : Vis X.env.scope x) (hd : (x == ("__debug__" : Str)) = false) (hcd : (x == ("__classdict__" : Str)) = false) : PE X (.Name x pos) (liftE C X.K W fun ls h => slotE ls i h) :=
  (pe_var hN hv hd hcd).weak fun σ H Q ⟨φ, ls, h, S, L, R⟩ => by
    dsimp only [slotE] at R
    split at R
    · rename_i v e
      obtain ⟨y, e1, e2⟩ := L.get e
      exact ⟨y, e1, R.here S e2⟩
    · exact R.elim
theorem k_con {e : Expr} {v : V} {a : LV} (h : PE X e (tC v)) (r : ∀ φ n H, VR X.K φ n H a v) : PE X e (liftE C X.K W fun _ h => .ok a h) :=
  h.weak fun σ H Q ⟨φ, ls, h, S, L, R⟩ => R.here S (r _ _ _)
theorem k_op {op : Operator} {p : LV → LV → LH → Res LV} (ho : OpR X (binaryOp op) (r2 C X.K p)) (n : ∀ a b h, NoX (p a b h)) (ha : PE X a (liftE C X.K W m1)) (hb : PE X b (liftE C X.K W m2)) :
    PE X (.BinOp a op b pos) (liftE C X.K W fun ls h => (m1 ls h).bind fun x h1 => (m2 ls h1).bind fun y h2 => p x y h2) := (pe_op ho ha hb).weak fun _ _ _ x => w_op n x
theorem k_cmp {op : CmpOp} {p : LV → LV → LH → Res LV} (ho : OpR X (compareOp op) (r2 C X.K p)) (n : ∀ a b h, NoX (p a b h)) (ha : PE X a (liftE C X.K W m1)) (hb : PE X b (liftE C X.K W m2)) (hm : behindInMarks op b = false) :
    PE X (.Compare a [op] [b] pos) (liftE C X.K W fun ls h => (m1 ls h).bind fun x h1 => (m2 ls h1).bind fun y h2 => p x y h2) := (pe_cmpR ho ha hb hm).weak fun _ _ _ x => w_op n x
theorem k_cmpT {op : CmpOp} {p : LV → LV → LH → Res LV} (ho : OpR X (compareOp op) (r2 C X.K p)) (n : ∀ a b h, NoX (p a b h)) (ha : PE X a (liftE C X.K W m1)) (hb : PE X b (liftE C X.K W m2)) (hm : behindInMarks op b = false) :
    PT X (.Compare a [op] [b] pos) (liftT C X.K W (tstM fun ls h => (m1 ls h).bind fun x h1 => (m2 ls h1).bind fun y h2 => p x y h2)) :=
  (pt_cmpR ho ha hb hm).weak fun _ _ _ x => w_op n (w_tst x)
theorem k_ix {p : LV → LV → LH → Res LV} (ho : IxR X (r2 C X.K p)) (n : ∀ a b h, NoX (p a b h)) (ha : PE X a (liftE C X.K W m1)) (hb : PE X b (liftE C X.K W m2)) (hs : PlainIx b) :
    PE X (.Subscript a b pos) (liftE C X.K W fun ls h => (m1 ls h).bind fun x h1 => (m2 ls h1).bind fun y h2 => p x y h2) := (pe_ix ho ha hb hs).weak fun _ _ _ x => w_op n x
theorem k_un {op : UnaryOp} {p : LV → LH → Res LV} (ho : UnR X (unaryOp op) (r1 C X.K p)) (n : ∀ a h, NoX (p a h)) (ha : PE X a (liftE C X.K W m1)) :
    PE X (.UnaryOp op a pos) (liftE C X.K W fun ls h => (m1 ls h).bind fun x h1 => p x h1) := (pe_un ho ha).weak fun _ _ _ x => w_un n x
theorem isN_at {K : PySem.W.Frag} {φ : Nat → Addr} {n : Nat} {H : Hp} {a : LV} {x : V} (ra : VR K φ n H a x) : (a = .non ∧ x = .non) ∨ ((∀ ng h, isNM ng a h = .ok (.bl ng) h) ∧ x ≠ .non) := by
  cases a with
  | non => exact .inl ⟨rfl, ra.non⟩
  | bl b => exact .inr ⟨fun _ _ => rfl, by rw [ra.bl]; exact fun e => nomatch e⟩
  | int b => exact .inr ⟨fun _ _ => rfl, by rw [ra.int]; exact fun e => nomatch e⟩
  | str b => exact .inr ⟨fun _ _ => rfl, by rw [ra.str]; exact fun e => nomatch e⟩
  | tup b => unfold VR at ra; obtain ⟨p, _, rfl, _⟩ := ra; exact .inr ⟨fun _ _ => rfl, fun e => nomatch e⟩
  | ktu b => unfold VR at ra; obtain ⟨p, _, rfl, _⟩ := ra; exact .inr ⟨fun _ _ => rfl, fun e => nomatch e⟩
  | frl b => unfold VR at ra; obtain ⟨p, _, rfl, _⟩ := ra; exact .inr ⟨fun _ _ => rfl, fun e => nomatch e⟩
  | ref b => unfold VR at ra; obtain ⟨_, rfl⟩ := ra; exact .inr ⟨fun _ _ => rfl, fun e => nomatch e⟩
theorem w_isN {K : PySem.W.Frag} {σ : St} {H : Hp} {Q : VK} (ng : Bool) (x : liftE C K W (fun ls h => (m ls h).bind fun a h1 => isNM ng a h1) σ H Q) : liftE C K W m σ H fun x H1 => Q (.bl (if ng then !decide (x = .non) else decide (x = .non))) H1 :=
  lift_mono (lift_bind (R := RV K) (R' := RV K) (k := fun _ a h1 => isNM ng a h1) x) fun _ _ ⟨φ, ls, h, a, S, _, ra, R⟩ => by
    rcases isN_at ra with ⟨rfl, rfl⟩ | ⟨e1, e2⟩
    · have := RSg.here (b := V.bl !ng) S R vr_bl
      cases ng <;> simpa using this
    · rw [e1] at R
      have := RSg.here (b := V.bl ng) S R vr_bl
      cases ng <;> simpa [e2] using this
theorem k_isN {j : Nat} {pos' : Pos} (ha : PE X a (liftE C X.K W m)) : PE X (.Compare a [.Is] [.Constant .none j pos'] pos) (liftE C X.K W fun ls h => (m ls h).bind fun x h1 => isNM false x h1) :=
  (pe_cmp (pc_isN ha)).weak fun _ _ _ x => w_isN false x
theorem k_notN {j : Nat} {pos' : Pos} (ha : PE X a (liftE C X.K W m)) : PE X (.Compare a [.IsNot] [.Constant .none j pos'] pos) (liftE C X.K W fun ls h => (m ls h).bind fun x h1 => isNM true x h1) :=
  (pe_cmp (pc_notN ha)).weak fun _ _ _ x => w_isN true x
theorem k_isNT {j : Nat} {pos' : Pos} (ha : PE X a (liftE C X.K W m)) : PT X (.Compare a [.Is] [.Constant .none j pos'] pos) (liftT C X.K W (tstM fun ls h => (m ls h).bind fun x h1 => isNM false x h1)) :=
  (pt_cmp (pc_isN ha)).weak fun _ _ _ x => w_isN false (w_tst x)
theorem k_notNT {j : Nat} {pos' : Pos} (ha : PE X a (liftE C X.K W m)) : PT X (.Compare a [.IsNot] [.Constant .none j pos'] pos) (liftT C X.K W (tstM fun ls h => (m ls h).bind fun x h1 => isNM true x h1)) :=
  (pt_cmp (pc_notN ha)).weak fun _ _ _ x => w_isN true (w_tst x)
theorem k_not (ha : PT X a (liftT C X.K W (tstM m))) : PT X (.UnaryOp .Not a pos) (liftT C X.K W (tstM fun ls h => (m ls h).bind fun x h1 => (asB x h1).bind fun k h2 => .ok (.bl (!k)) h2)) :=
  (pt_not ha).weak fun σ H Q ⟨φ, ls, h, S, L, R⟩ => by
    refine ⟨φ, ls, h, S, L, ?_⟩
    dsimp only [tstM] at R ⊢
    revert R
    cases m ls h with
    | ok v h1 => cases v <;> first | exact fun R => R.elim | exact fun R φ' H' b s r => (show _ = _ from r) ▸ R φ' H' _ s rfl
    | exc c p h1 => exact fun R => R
    | bad => exact fun R => R.elim
theorem k_notV (ha : PE X a (liftE C X.K W m)) : PE X (.UnaryOp .Not a pos) (liftE C X.K W fun ls h => (m ls h).bind fun x h1 => (asB x h1).bind fun k h2 => .ok (.bl (!k)) h2) :=
  (pe_not ha).weak fun σ H Q x => lift_mono (lift_bind (R := RV X.K) (R' := RV X.K) (k := fun _ x h1 => (asB x h1).bind fun k h2 => .ok (.bl (!k)) h2) x) fun y H1 ⟨φ, ls, h, v, S, _, rv, R⟩ => by
    cases v <;> first | exact R.elim | skip
    rename_i k
    exact ⟨k, rv.bl, RSg.here S R vr_bl⟩
theorem k_chain {op op' : CmpOp} {p q : LV → LV → LH → Res LV} (ho : OpR X (compareOp op) (r2 C X.K p)) (ho' : OpR X (compareOp op') (r2 C X.K q)) (n : ∀ a b h, NoX (p a b h)) (n' : ∀ a b h, NoX (q a b h))
    (ha : PE X a (liftE C X.K W m1)) (hb : PE X b (liftE C X.K W m2)) (hc : PE X c (liftE C X.K W m3)) (hm : lastMarks [op, op'] [b, c] = false) :
    (∀ (σ : St) (H : Hp) (Q : VK), liftE C X.K W (fun ls h => (m1 ls h).bind fun x h1 => (m2 ls h1).bind fun y h2 => (p x y h2).bind fun k h3 => match k with
      | .bl true => (m3 ls h3).bind fun z h4 => q y z h4
      | .bl false => .ok (.bl false) h3
      | _ => .bad) σ H Q → tChain (r2 C X.K p) (r2 C X.K q) (liftE C X.K W m1) (liftE C X.K W m2) (liftE C X.K W m3) σ H Q) := fun σ H Q x => by
  refine lift_mono (lift_bind (R := RV X.K) (R' := RV X.K) (k := fun ls x h1 => (m2 ls h1).bind fun y h2 => (p x y h2).bind fun k h3 => match k with
      | .bl true => (m3 ls h3).bind fun z h4 => q y z h4
      | .bl false => .ok (.bl false) h3
      | _ => .bad) x) fun v H1 ⟨φ1, ls, h1, a1, S1, L1, ra, R1⟩ => ?_
  refine ⟨φ1, ls, h1, S1, L1, RSg.mono (RSg.bind (R := RV X.K) S1 R1) fun u H2 ⟨φ2, h2, b1, st2, rb, R2⟩ => ?_⟩
  have ra2 := VR.carry (st2.carry S1) ra
  have L2 := L1.carry (st2.carry S1)
  refine ⟨φ2, h2, a1, b1, st2.sim, ra2, rb, ?_⟩
  refine RSg.noX (n _ _ _) (RSg.mono (RSg.bind (R := RV X.K) st2.sim R2) fun z H3 ⟨φ3, h3, k, st3, rk, R3⟩ => ?_)
  have L3 := L2.carry (st3.carry st2.sim)
  have rb3 := VR.carry (st3.carry st2.sim) rb
  cases k <;> first | exact R3.elim | skip
  rename_i k
  refine ⟨k, rk.bl, ?_⟩
  cases k with
  | false => simpa using RSg.here (b := V.bl false) st3.sim R3 vr_bl
  | true =>
    rw [if_pos rfl]
    refine ⟨φ3, ls, h3, st3.sim, L3, RSg.mono (RSg.bind (R := RV X.K) st3.sim R3) fun w' H4 ⟨φ4, h4, c1, st4, rc, R4⟩ => ?_⟩
    exact ⟨φ4, h4, b1, c1, st4.sim, VR.carry (st4.carry st3.sim) rb3, rc, R4.noX (n' _ _ _)⟩
theorem k_ite (hc : PT X c (liftT C X.K W (tstM m))) (ha : PE X a (liftE C X.K W m1)) (hb : PE X b (liftE C X.K W m2)) :
    PE X (.IfExp c a b pos) (liftE C X.K W fun ls h => (m ls h).bind fun x h1 => (asB x h1).bind fun k h2 => if k then m1 ls h2 else m2 ls h2) :=
  (pe_ifExp hc ha hb).weak fun σ H Q ⟨φ, ls, h, S, L, R⟩ => by
    have R' : RSg C X.K (RV X.K) (fun c d H' => W c d σ H') φ h H ((tstM m ls h).bind fun k h2 => if k then m1 ls h2 else m2 ls h2) Q := by
      dsimp only [tstM] at R ⊢
      revert R
      cases m ls h with
      | ok v h1 => exact fun R => R
      | exc c p h1 => exact fun R => R
      | bad => exact fun R => R
    refine ⟨φ, ls, h, S, L, RSg.mono (RSg.bind (R := RB) S R') fun k H1 ⟨φ1, h1, k', st, rk, R1⟩ => ?_⟩
    cases rk
    cases k
    · exact ⟨φ1, ls, h1, st.sim, L.carry (st.carry S), R1⟩
    · exact ⟨φ1, ls, h1, st.sim, L.carry (st.carry S), R1⟩
end
end LD
end
section
set_option Elab.async false
set_option linter.all false
set_option maxRecDepth 100000
/-! LDL: and/or, calls, fields, methods -/
namespace LD
open PySem L2

def nst : Expr → Bool
  | .Starred _ _ => false
  | _ => true
theorem star_cons {e : Expr} {es : List Expr} {env : Env} (h : nst e = true) : starEach (e :: es) env = (false, eval e env) :: starEach es env := by
  cases e <;> first | rfl | cases h
theorem star_any {pos : Pos} {env : Env} : ∀ {es : List Expr}, es.all nst = true → (backTo pos (starEach es env)).any (·.1) = false
  | [], _ => rfl
  | e :: es, h => by
    rw [List.all_cons, Bool.and_eq_true] at h
    rw [star_cons h.1]
    show (false || (backTo pos (starEach es env)).any (·.1)) = false
    rw [star_any h.2]; rfl
theorem star_all {pos : Pos} {env : Env} : ∀ {es : List Expr}, es.all nst = true → (backTo pos (starEach es env)).all (fun x => !x.1) = true
  | [], _ => rfl
  | e :: es, h => by
    rw [List.all_cons, Bool.and_eq_true] at h
    rw [star_cons h.1]
    show (true && (backTo pos (starEach es env)).all (fun x => !x.1)) = true
    rw [star_all h.2]; rfl
/-- no super() -/
def nsup : Expr → Bool
  | .Call (.Name _ _) [] [] _ => false
  | _ => true
theorem base_of {o : Expr} {name : Str} {env : Env} (h : nsup o = true) (w : Sem Value) : attributeBase o name env w = w := by
  unfold attributeBase
  split
  · simp [nsup] at h
  · rfl

section
variable {X : Cx} {C : Cl} {W : WX} {a b c : Expr} {m m1 m2 m3 : LSt → LH → Res LV} {pos : Pos} {ma : LSt → LH → Res (List LV)} {rest : List Expr}
/-! ### and, or -/
theorem k_one {op : BoolOp} (ha : PE X a (liftE C X.K W m)) : PE X (.BoolOp op [a] pos) (liftE C X.K W fun ls h => (m ls h).bind fun x h1 => (asB x h1).bind fun k h2 => .ok (.bl k) h2) :=
  (pe_one ha).weak fun σ H Q ⟨φ, ls, h, S, L, R⟩ => ⟨φ, ls, h, S, L, by
    dsimp only at R
    revert R
    cases m ls h with
    | ok v h1 => cases v <;> first | exact fun R => R.elim | exact fun R => R
    | exc c p h1 => exact fun R => R
    | bad => exact fun R => R⟩
theorem k_and (ha : PE X a (liftE C X.K W m1)) (hb : PE X (.BoolOp .And (b :: rest) pos) (liftE C X.K W m2)) :
    PE X (.BoolOp .And (a :: b :: rest) pos) (liftE C X.K W fun ls h => (m1 ls h).bind fun x h1 => (asB x h1).bind fun k h2 => if k == true then m2 ls h2 else .ok (.bl k) h2) :=
  (pe_and ha hb).weak fun σ H Q x => lift_mono (lift_bind (R := RV X.K) (R' := RV X.K) (k := fun ls x h1 => (asB x h1).bind fun k h2 => if k == true then m2 ls h2 else .ok (.bl k) h2) x) fun y H1 ⟨φ, ls, h, v, S, L, rv, R⟩ => by
    cases v <;> first | exact R.elim | skip
    rename_i k
    refine ⟨k, rv.bl, ?_⟩
    cases k
    · exact RSg.here S R vr_bl
    · exact ⟨φ, ls, h, S, L, R⟩
theorem k_or (ha : PE X a (liftE C X.K W m1)) (hb : PE X (.BoolOp .Or (b :: rest) pos) (liftE C X.K W m2)) :
    PE X (.BoolOp .Or (a :: b :: rest) pos) (liftE C X.K W fun ls h => (m1 ls h).bind fun x h1 => (asB x h1).bind fun k h2 => if k == false then m2 ls h2 else .ok (.bl k) h2) :=
  (pe_or ha hb).weak fun σ H Q x => lift_mono (lift_bind (R := RV X.K) (R' := RV X.K) (k := fun ls x h1 => (asB x h1).bind fun k h2 => if k == false then m2 ls h2 else .ok (.bl k) h2) x) fun y H1 ⟨φ, ls, h, v, S, L, rv, R⟩ => by
    cases v <;> first | exact R.elim | skip
    rename_i k
    refine ⟨k, rv.bl, ?_⟩
    cases k
    · exact ⟨φ, ls, h, S, L, R⟩
    · exact RSg.here S R vr_bl
/-- a test of a test -/
theorem tst_bool {ls : LSt} {h : LH} {m : LSt → LH → Res LV} {f : Bool → LH → Res LV} : (tstM (fun ls h => (m ls h).bind fun x h1 => (asB x h1).bind fun k h2 => f k h2) ls h) = (tstM m ls h).bind fun k h2 => (f k h2).bind fun x h3 => asB x h3 := by
  dsimp only [tstM]
  cases m ls h with
  | ok v h1 => cases v <;> rfl
  | exc c p h1 => rfl
  | bad => rfl
theorem k_oneT {op : BoolOp} (hop : op = .And ∨ op = .Or) (ha : PT X a (liftT C X.K W (tstM m))) : PW X (.BoolOp op [a] pos) (liftT C X.K W (tstM fun ls h => (m ls h).bind fun x h1 => (asB x h1).bind fun k h2 => .ok (.bl k) h2)) := by
  have e : (tstM fun ls h => (m ls h).bind fun x h1 => (asB x h1).bind fun k h2 => .ok (.bl k) h2) = tstM m := by
    funext ls h
    rw [tst_bool]
    cases tstM m ls h <;> rfl
  rw [e]
  rcases hop with rfl | rfl
  · exact pw_and1 ha
  · exact pw_or1 ha
theorem k_andT (ha : PT X a (liftT C X.K W (tstM m1))) (hb : PW X (.BoolOp .And (b :: rest) pos) (liftT C X.K W (tstM m2))) :
    PW X (.BoolOp .And (a :: b :: rest) pos) (liftT C X.K W (tstM fun ls h => (m1 ls h).bind fun x h1 => (asB x h1).bind fun k h2 => if k == true then m2 ls h2 else .ok (.bl k) h2)) :=
  (pw_and ha hb).weak fun σ H Q ⟨φ, ls, h, S, L, R⟩ => by
    rw [tst_bool] at R
    refine ⟨φ, ls, h, S, L, RSg.mono (RSg.bind (R := RB) S R) fun k H1 ⟨φ1, h1, k', st, rk, R1⟩ => ?_⟩
    cases rk
    cases k
    · exact R1.here st.sim rfl
    · exact ⟨φ1, ls, h1, st.sim, L.carry (st.carry S), R1⟩
theorem k_orT (ha : PT X a (liftT C X.K W (tstM m1))) (hb : PW X (.BoolOp .Or (b :: rest) pos) (liftT C X.K W (tstM m2))) :
    PW X (.BoolOp .Or (a :: b :: rest) pos) (liftT C X.K W (tstM fun ls h => (m1 ls h).bind fun x h1 => (asB x h1).bind fun k h2 => if k == false then m2 ls h2 else .ok (.bl k) h2)) :=
  (pw_or ha hb).weak fun σ H Q ⟨φ, ls, h, S, L, R⟩ => by
    rw [tst_bool] at R
    refine ⟨φ, ls, h, S, L, RSg.mono (RSg.bind (R := RB) S R) fun k H1 ⟨φ1, h1, k', st, rk, R1⟩ => ?_⟩
    cases rk
    cases k
    · exact ⟨φ1, ls, h1, st.sim, L.carry (st.carry S), R1⟩
    · exact R1.here st.sim rfl
end

/-! ### slices, isinstance -/
section
variable {X : Cx} {C : Cl} {W : WX} {a : Expr} {lo hi : Option Expr} {m : LSt → LH → Res LV} {ml mh : LSt → LH → Res (Option Int)} {pos p2' : Pos}
def RO : RL (Option Int) (Option Int) := fun _ _ _ a b => a = b
abbrev liftO (C : Cl) (K : PySem.W.Frag) (W : WX) (m : LSt → LH → Res (Option Int)) : TO := lift C K RO W m
theorem _root_.L2.PO.weak {e : Option Expr} {t t' : TO} (h : PO X e t) (w : ∀ σ H Q, t' σ H Q → t σ H Q) : PO X e t' := ⟨fun pins s σ H Q I q => h.run pins s σ H Q I (w σ H Q q)⟩
theorem k_pnone : PO X none (liftO C X.K W fun _ h => .ok none h) := po_none.weak fun σ H Q ⟨φ, ls, h, S, L, R⟩ => R.here S rfl
theorem k_psome {e : Expr} (h : PE X e (liftE C X.K W m)) : PO X (some e) (liftO C X.K W fun ls h => (m ls h).bind fun v h1 => asI v h1) :=
  (po_some h).weak fun σ H Q x => lift_mono (lift_bind (R := RV X.K) (R' := RO) (k := fun _ v h1 => asI v h1) x) fun y H1 ⟨φ, ls, h, v, S, L, rv, R⟩ => by
    cases v <;> first | exact R.elim | skip
    exact ⟨_, rv.int, R.here S rfl⟩
theorem k_slice (ha : PE X a (liftE C X.K W m)) (hl : PO X lo (liftO C X.K W ml)) (hh : PO X hi (liftO C X.K W mh)) :
    PE X (.Subscript a (.Slice lo hi none p2') pos) (liftE C X.K W fun ls h => (m ls h).bind fun x h1 => (ml ls h1).bind fun l h2 => (mh ls h2).bind fun u h3 => pSlice x l u h3) :=
  (pe_slice (o_slice (C := C)) ha hl hh).weak fun σ H Q x => by
    refine lift_mono (lift_bind (R := RV X.K) (R' := RV X.K) (k := fun ls x h1 => (ml ls h1).bind fun l h2 => (mh ls h2).bind fun u h3 => pSlice x l u h3) x) fun v H1 ⟨φ1, ls, h1, a1, S1, L1, ra, R1⟩ => ?_
    refine ⟨φ1, ls, h1, S1, L1, RSg.mono (RSg.bind (R := RO) S1 R1) fun l H2 ⟨φ2, h2, l1, st2, rl, R2⟩ => ?_⟩
    cases rl
    refine ⟨φ2, ls, h2, st2.sim, L1.carry (st2.carry S1), RSg.mono (RSg.bind (R := RO) st2.sim R2) fun u H3 ⟨φ3, h3, u1, st3, ru, R3⟩ => ?_⟩
    cases ru
    exact ⟨φ3, h3, a1, st3.sim, VR.carry (st3.carry st2.sim) (VR.carry (st2.carry S1) ra), R3.noX (nx_pSlice _ _ _ _)⟩
end

/-! ### own functions -/
/-- what a def promises: what G says -/
def spF (C : Cl) (K : PySem.W.Frag) (n : Nat) (G : List LV → LH → Res LV) : Sp := fun vs H Q E =>
  ∃ φ h as, Sim C K φ h H ∧ VRs K φ h.length H as vs ∧ as.length = n ∧ RSg C K (RV K) E φ h H (G as h) Q
def BindOk (K : PySem.W.Frag) (fd : FuncData) (ps : List Str) (dv : List LV) : Prop := ∀ j, j ≤ dv.length → ∃ ds dvs, Binds K fd ps ds ∧ Vals dvs ds ∧ ∀ φ n H, VRs K φ n H (dv.drop j) dvs
section
variable {X : Cx} {C : Cl} {W : WX} {k n : Nat} {f : Addr} {fd : FuncData} {ps : List Str} {G : List LV → LH → Res LV} {pins : List (Addr × Obj)} {σ : St} {H : Hp} {s : Shared} {Q : VK}
theorem passes1 (tk : Takes X W) (I : Inv X pins σ H s) {e : Value} {s' : Shared} (c : CX X.prog X.w X.stack H s (fun c d H' => W c d σ H') e s') : X.xe e s' :=
  tk _ _ (XE.of_call I (fun _ _ _ h => h) c)
theorem runF {vs : List V} {us : List Value} {φ : Nat → Addr} {h : LH} {as : List LV} {dv : List LV} (F : FnOk X.prog X.w X.K X.mg X.base (CX X.prog X.w) k f fd ps (spF C X.K ps.length G)) (hr : Room k X.A) (tk : Takes X W)
    (hb : BindOk X.K fd ps dv) (I : Inv X pins σ H s) (r : Vals vs us) (S : Sim C X.K φ h H) (rs : VRs X.K φ h.length H as vs) (j : Nat) (hj : j ≤ dv.length) (hl : as.length + (dv.length - j) = ps.length)
    (R : RSg C X.K (RV X.K) (fun c d H' => W c d σ H') φ h H (G (as ++ dv.drop j) h) Q) : wpAny (model X.prog X.w) X.A (call (.ref f) us) (EP X pins σ Q) X.xe s := by
  obtain ⟨ds, dvs, hb, hd, rd⟩ := hb j hj
  have r2 : Vals (vs ++ dvs) (us ++ ds) := r.append hd
  have rs2 := rs.append (rd φ h.length H)
  have hsp : spF C X.K ps.length G (vs ++ dvs) H Q (fun c d H' => W c d σ H') := ⟨φ, h, as ++ dv.drop j, S, rs2, by simp [hl], R⟩
  have hl : (us ++ ds).length = ps.length := by rw [← r2.length]; exact F.len _ _ _ _ hsp
  refine wpAny_call (codeAny_mono (F.run X.A X.stack s H ⟨us, []⟩ (us ++ ds) (vs ++ dvs) Q _ hr I.env0 (hb s us I.kIn hl) r2 hsp) fun r s' hq => ?_)
  cases r with
  | error e => exact passes1 tk I hq
  | ok fl =>
    cases fl with
    | ret u => exact I.after hq
    | next => exact False.elim hq
    | brk => exact False.elim hq
    | cont => exact False.elim hq
theorem runMk {vs zs : List V} {us ws : List Value} {cA : Addr} {ks : List Str} {g : List Value → List Value → List Value} {gV : List V → List V → List V} (M : Mk X.K cA f) (F : FnOk X.prog X.w X.K X.mg X.base (CX X.prog X.w) k f fd ps (spF C X.K ps.length G)) (hr : Room (k + 1) X.A) (tk : Takes X W)
    (hb : KBn X.K fd ps (n + 1) ks g gV) (I : Inv X pins σ H s) (r : Vals vs us) (rz : Vals zs ws) (l1 : vs.length = n) (l2 : zs.length = ks.length)
    (q : ∀ x dx, H x = none → H dx = none → dx ≠ x → spF C X.K ps.length G (gV (.ref x :: vs) zs) (upd (upd H dx (.own x)) x (.ins cA dx [])) (fun v H2 => v = .non ∧ Q (.ref x) H2) (fun c d H' => W c d σ H')) :
    wpAny (model X.prog X.w) X.A (call (.ref cA) us (ks.zip ws)) (EP X pins σ Q) X.xe s := by
  have hq := q (s.heap.objs.size + 1) s.heap.objs.size (I.hok.fresh (Nat.le_succ _)) (I.hok.fresh (Nat.le_refl _)) (Nat.ne_of_lt (Nat.lt_succ_self _))
  have I2 := Inv.made (C := cA) I
  have r1 : Vals (V.ref (s.heap.objs.size + 1) :: vs) (Value.ref (s.heap.objs.size + 1) :: us) := .cons rfl r
  have r2 := hb.rel r1 rz
  have e1 : (Value.ref (s.heap.objs.size + 1) :: us).length = n + 1 := r1.length.symm.trans (congrArg Nat.succ l1)
  have e2 : ws.length = ks.length := rz.length.symm.trans l2
  refine wpAny_call (make_map (f := f) I.kIn M.makes M.init (beq_iff_eq.mp M.fn) (codeAny_mono (F.run _ X.stack _ _ ⟨Value.ref (s.heap.objs.size + 1) :: us, ks.zip ws⟩ (g (Value.ref (s.heap.objs.size + 1) :: us) ws) _ _ _ (hr.make cA us (ks.zip ws))
    (I2.env0.make cA us (ks.zip ws)) (hb.to _ (Value.ref (s.heap.objs.size + 1) :: us) ws I2.kIn e1 e2) r2 hq) fun r s' hq' => ?_))
  cases r with
  | error e => exact passes1 tk I2 hq'
  | ok fl =>
    cases fl with
    | ret u =>
      obtain ⟨v, H', I3, rv, ev, q3⟩ := I2.after hq'
      subst ev
      exact ⟨rv, ⟨V.ref (s.heap.objs.size + 1), H', I3, rfl, q3⟩⟩
    | next => exact False.elim hq'
    | brk => exact False.elim hq'
    | cont => exact False.elim hq'
end
end LD
end
section
set_option Elab.async false
set_option linter.all false
set_option maxRecDepth 100000
set_option autoImplicit false
/-! LDM: link facts; calls of own defs, fields, methods, new instances, methods of lists and dicts -/
namespace LD
open PySem L2

structure Lk where
  fA : Nat → Addr
  fD : Nat → FuncData
def MkOk (K : PySem.W.Frag) (fd : FuncData) (fi : FnI) (n : Nat) (kx : List Nat) : Prop :=
  ∃ g gV, KBn K fd fi.ps (n + 1) (kx.map fun j => fi.ps.getD j Str.empty) g gV ∧
    ∀ (φ : Nat → Addr) (m : Nat) (H : Hp) (as ws bs : List LV) (vs zs : List V), as.length = n + 1 → VRs K φ m H as vs → VRs K φ m H ws zs → ws.length = kx.length → kwFill fi as kx ws = some bs → VRs K φ m H bs (gV vs zs)
structure FnK (L : Lk) (K : PySem.W.Frag) (i : Nat) (fi : FnI) : Prop where
  kp : PySem.W.keepIn K (.ref (L.fA i)) = true
  bd : fi.kwo = false → BindOk K (L.fD i) fi.ps fi.dv
structure EqK (K : PySem.W.Frag) (C f : Addr) : Prop where
  at_ : PySem.W.findIn K (.ref C) "__eq__" = some (some (.ref f))
  fn : PySem.W.isFn K (.ref f) = true
  ne : PySem.W.findIn K (.ref C) "__ne__" = some (some (.builtin "object.__ne__"))
  sub : PySem.W.subIn K (.type "list") (.ref C) = some false
  mro : PySem.W.mroIn K C (.type "object") = some true
structure ClK (P : Prg) (C : Cl) (L : Lk) (K : PySem.W.Frag) (c : Nat) (ci : ClI) : Prop where
  cl : Cls K (C.cA c)
  fs : C.cF c = ci.fs.map P.fname
  nd : (C.cF c).Nodup
  few : ci.fs.length < 1000
  na : ∀ f ∈ ci.fs, NoAttr K (C.cA c) (P.fname f)
  ms : ∀ m f, ci.ms.lookup m = some f → Meth K (C.cA c) (P.mname m) (L.fA f) ∧ P.mname m ∉ C.cF c
  mkC : Mk K (C.cA c) (L.fA ci.ini)
  pt : ∀ p ∈ ci.pats, ∀ fi, P.fns[ci.ini]? = some fi → MkOk K (L.fD ci.ini) fi p.1 p.2
  eq : ∀ fi, P.fns[ci.eqf]? = some fi → EqK K (C.cA c) (L.fA ci.eqf)
structure Gx (P : Prg) (C : Cl) (L : Lk) (K : PySem.W.Frag) : Prop where
  fn : ∀ i fi, P.fns[i]? = some fi → FnK L K i fi
  cl : ∀ c ci, P.cls[c]? = some ci → ClK P C L K c ci
/-- every def keeps what F says -/
def FnsOk (P : Prg) (C : Cl) (L : Lk) (prog : Program) (w : World) (K : PySem.W.Frag) (mg : Str → Option Value) (base : Heap) (k : Nat) (F : FT) : Prop :=
  ∀ i fi, P.fns[i]? = some fi → FnOk prog w K mg base (CX prog w) k (L.fA i) (L.fD i) fi.ps (spF C K fi.ps.length (F i))

theorem lookup_zip {x : Str} {y : V} : ∀ {ns : List Str} {ys : List V} {k : Nat}, ns.Nodup → ns[k]? = some x → ys[k]? = some y → (ns.zip ys).lookup x = some y
  | [], _, _, _, e, _ => by simp at e
  | _ :: _, [], _, _, _, e => by simp at e
  | n :: ns, z :: ys, 0, nd, e1, e2 => by
    simp at e1 e2; subst e1 e2
    simp [List.lookup_cons]
  | n :: ns, z :: ys, k + 1, nd, e1, e2 => by
    simp at e1 e2
    have hx : x ∈ ns := List.mem_of_getElem? e1
    have hne : (x == n) = false := by
      refine beq_eq_false_iff_ne.mpr fun e => ?_
      subst e
      exact (List.nodup_cons.mp nd).1 hx
    rw [List.zip_cons_cons, List.lookup_cons, hne]
    exact lookup_zip (List.nodup_cons.mp nd).2 e1 e2
theorem lookup_zip_none {x : Str} : ∀ {ns : List Str} {ys : List V}, x ∉ ns → (ns.zip ys).lookup x = none
  | [], _, _ => rfl
  | _ :: _, [], _ => rfl
  | n :: ns, z :: ys, h => by
    have hne : (x == n) = false := beq_eq_false_iff_ne.mpr fun e => h (by simp [e])
    rw [List.zip_cons_cons, List.lookup_cons, hne]
    exact lookup_zip_none fun hx => h (List.mem_cons_of_mem _ hx)
theorem putF_zip {x : Str} {v : V} : ∀ {ns : List Str} {ys : List V} {k : Nat}, ns.Nodup → ns[k]? = some x → k < ys.length → putF x v (ns.zip ys) = ns.zip (ys.set k v)
  | [], _, _, _, e, _ => by simp at e
  | _ :: _, [], _, _, _, e => by simp at e
  | n :: ns, z :: ys, 0, nd, e1, e2 => by
    simp at e1; subst e1
    simp [putF]
  | n :: ns, z :: ys, k + 1, nd, e1, e2 => by
    simp at e1 e2
    have hx : x ∈ ns := List.mem_of_getElem? e1
    have hne : ¬ n = x := fun e => (List.nodup_cons.mp nd).1 (e ▸ hx)
    rw [List.zip_cons_cons, putF, if_neg hne, putF_zip (List.nodup_cons.mp nd).2 e1 e2]
    simp
theorem putF_new {x : Str} {v : V} : ∀ {ns : List Str} {ys : List V}, x ∉ ns → ns.length = ys.length → putF x v (ns.zip ys) = (ns ++ [x]).zip (ys ++ [v])
  | [], [], _, _ => rfl
  | n :: ns, [], _, e => by simp at e
  | [], y :: ys, _, e => by simp at e
  | n :: ns, z :: ys, h, e => by
    have hne : ¬ n = x := fun e => h (by simp [e])
    rw [List.zip_cons_cons, putF, if_neg hne, putF_new (fun hx => h (List.mem_cons_of_mem _ hx)) (by simpa using e)]
    simp

section
variable {P : Prg} {C : Cl} {L : Lk} {K : PySem.W.Frag} {φ : Nat → Addr} {h : LH} {H : Hp}
theorem ins_at (S : Sim C K φ h H) {i c : Nat} {fs : List LV} (e : h[i]? = some (.ins c fs)) :
    fs.length ≤ (C.cF c).length ∧ ∃ dx ys, H (φ i) = some (.ins (C.cA c) dx (((C.cF c).take fs.length).zip ys)) ∧ VRs K φ h.length H fs ys := S.obj i _ e
theorem name_at {c : Nat} {ci : ClI} (k : ClK P C L K c ci) {f : Nat} (hf : f ∈ ci.fs) : (C.cF c)[ci.fs.idxOf f]? = some (P.fname f) := by
  rw [k.fs, List.getElem?_map]
  have hl : ci.fs.idxOf f < ci.fs.length := List.idxOf_lt_length_of_mem hf
  rw [List.getElem?_eq_getElem hl, List.getElem_idxOf hl]
  rfl
end

section
variable {X : Cx} {P : Prg} {C : Cl} {L : Lk} {W : WX} {F : FT} {k : Nat} {a o : Expr} {m : LSt → LH → Res LV} {ma mk : LSt → LH → Res (List LV)} {pos apos p : Pos} {x : Str}
/-! ### fields -/
theorem k_fld {f : Nat} (g : Gx P C L X.K) (ha : PE X a (liftE C X.K W m)) (hb : nsup a = true) : PE X (.Attribute a (P.fname f) pos) (liftE C X.K W fun ls h => (m ls h).bind fun x h1 => pFld P x f h1) :=
  (pe_fld ha (base_of hb _)).weak fun σ H Q x => lift_mono (lift_bind (R := RV X.K) (R' := RV X.K) (k := fun _ x h1 => pFld P x f h1) x) fun y H1 ⟨φ, ls, h, v, S, _, rv, R⟩ => by
    unfold pFld at R
    split at R
    · rename_i i
      split at R
      · rename_i c fs e
        split at R
        · rename_i ci ec
          have kc := g.cl c ci ec
          obtain ⟨hl, dx, ys, e1, rs⟩ := ins_at S e
          unfold VR at rv
          obtain ⟨_, rfl⟩ := rv
          cases eg : fs[ci.fs.idxOf f]? with
          | none => rw [eg] at R; exact R.elim
          | some z =>
            rw [eg] at R
            obtain ⟨u, eu, ru⟩ := rs.get eg
            have hlt := (List.getElem?_eq_some_iff.mp eg).1
            have hf : f ∈ ci.fs := by
              rw [kc.fs, List.length_map] at hl
              exact List.idxOf_lt_length_iff.mp (Nat.lt_of_lt_of_le hlt hl)
            refine ⟨φ i, C.cA c, dx, _, u, rfl, e1, kc.cl, kc.na f hf, lookup_zip (List.Nodup.sublist (List.take_sublist _ _) kc.nd) (k := ci.fs.idxOf f) ?_ eu, R.here S ru⟩
            rw [List.getElem?_take_of_lt hlt]
            exact name_at kc hf
        · exact R.elim
      · exact R.elim
    · exact R.elim
/-- o.f = v, by values -/
theorem fst_ok {σ : St} {H : Hp} {f : Nat} {φ : Nat → Addr} {h : LH} {v w : LV} {y z : V} {E : XK} {Q : VK} (g : Gx P C L X.K) (S : Sim C X.K φ h H) (rv : VR X.K φ h.length H v y) (rw' : VR X.K φ h.length H w z)
    (R : RSg C X.K (RV X.K) E φ h H (pFst P v f w h) Q) : ∃ a c dx fs, insC h v = some c ∧ y = .ref a ∧ H a = some (.ins (C.cA c) dx fs) ∧ Cls X.K (C.cA c) ∧ NoAttr X.K (C.cA c) (P.fname f) ∧ fs.length < 1000 ∧ Q .non (upd H a (.ins (C.cA c) dx (putF (P.fname f) z fs))) := by
  unfold pFst at R
  split at R
  · rename_i i
    split at R
    · rename_i c fs e
      split at R
      · rename_i ci ec
        have kc := g.cl c ci ec
        obtain ⟨hl, dx, ys, e1, rs⟩ := ins_at S e
        have hlen := rs.length
        have hcl : (C.cF c).length = ci.fs.length := by rw [kc.fs, List.length_map]
        have hzl : (((C.cF c).take fs.length).zip ys).length < 1000 := by
          have := kc.few
          simp only [List.length_zip, List.length_take]
          omega
        have hi : i < h.length := (List.getElem?_eq_some_iff.mp e).1
        unfold VR at rv
        obtain ⟨_, rfl⟩ := rv
        have nd' : ((C.cF c).take fs.length).Nodup := List.Nodup.sublist (List.take_sublist _ _) kc.nd
        split at R
        · rename_i hlt
          have hf : f ∈ ci.fs := List.idxOf_lt_length_iff.mp (by omega)
          refine ⟨φ i, c, dx, _, by simp [insC, e], rfl, e1, kc.cl, kc.na f hf, hzl, ?_⟩
          rw [putF_zip nd' (k := ci.fs.idxOf f) (by rw [List.getElem?_take_of_lt hlt]; exact name_at kc hf) (by omega)]
          refine RSg.wO S hi ⟨_, e1, fun _ _ z => by cases z⟩ R (fun H' ca eo => ⟨by simpa using hl, dx, ys.set (ci.fs.idxOf f) z, ?_, ?_⟩) vr_non
          · rw [List.length_set]; exact eo
          · exact VRs.carry ca (rs.set rw' _)
        · split at R
          · rename_i hlt
            obtain ⟨h1, h2⟩ := hlt
            have hf : f ∈ ci.fs := List.idxOf_lt_length_iff.mp (by omega)
            have hnm := name_at kc hf
            have hni : P.fname f ∉ (C.cF c).take fs.length := fun hx => by
              obtain ⟨j, hj, ej⟩ := List.getElem_of_mem hx
              have hj' : j < fs.length := by simp at hj; omega
              have e3 : (C.cF c)[j]? = some (P.fname f) := by
                rw [List.getElem_take] at ej
                rw [List.getElem?_eq_getElem (by omega), ej]
              have := nodup_ix kc.nd e3 hnm
              omega
            refine ⟨φ i, c, dx, _, by simp [insC, e], rfl, e1, kc.cl, kc.na f hf, hzl, ?_⟩
            rw [putF_new hni (by simp; omega)]
            refine RSg.wO S hi ⟨_, e1, fun _ _ z => by cases z⟩ R (fun H' ca eo => ⟨by simp; omega, dx, ys ++ [z], ?_, ?_⟩) vr_non
            · rw [eo, List.length_append]
              have : (C.cF c).take fs.length ++ [P.fname f] = (C.cF c).take (fs.length + 1) := by
                have hlt2 : fs.length < (C.cF c).length := by omega
                rw [List.take_add_one, List.getElem?_eq_getElem hlt2]
                have : (C.cF c)[fs.length] = P.fname f := by
                  rw [h1, List.getElem?_eq_getElem hlt2] at hnm
                  exact Option.some.inj hnm
                rw [this]; rfl
              rw [this]; rfl
            · exact VRs.carry ca (rs.append (VRs.cons rw' VRs.nil))
          · exact R.elim
      · exact R.elim
    · exact R.elim
  · exact R.elim

/-! ### calls -/
theorem runC {pins : List (Addr × Obj)} {σ : St} {H : Hp} {s : Shared} {Q : VK} {vs : List V} {us : List Value} {φ : Nat → Addr} {h : LH} {as : List LV} {f : Nat} {fi : FnI} (g : Gx P C L X.K) (FO : FnsOk P C L X.prog X.w X.K X.mg X.base k F) (hr : Room k X.A) (tk : Takes X W)
    (ef : P.fns[f]? = some fi) (I : Inv X pins σ H s) (r : Vals vs us) (S : Sim C X.K φ h H) (rs : VRs X.K φ h.length H as vs) (R : RSg C X.K (RV X.K) (fun c d H' => W c d σ H') φ h H (callF P F f as h) Q) :
    wpAny (model X.prog X.w) X.A (call (.ref (L.fA f)) us) (EP X pins σ Q) X.xe s := by
  unfold callF at R
  rw [ef] at R
  dsimp only at R
  unfold fillA at R
  split at R
  · rename_i bs eb
    split at eb
    · rename_i hc
      obtain ⟨h0, h1, h2⟩ := hc
      cases eb
      exact runF (FO f fi ef) hr tk ((g.fn f fi ef).bd h0) I r S rs (fi.dv.length - (fi.ps.length - as.length)) (by omega) (by omega) R
    · cases eb
  · exact R.elim
theorem k_call {f : Nat} {fi : FnI} {e : Expr} {es : List Expr} (g : Gx P C L X.K) (FO : FnsOk P C L X.prog X.w X.K X.mg X.base k F) (hr : Room k X.A) (tk : Takes X W) (ef : P.fns[f]? = some fi) (hg : Gl X x) (hm : X.mg x = some (.ref (L.fA f))) (hdb : (x == ("__debug__" : Str)) = false)
    (hn : (e :: es).all nst = true) (ha : PA X (e :: es) (liftA C X.K W ma)) : PE X (.Call (.Name x p) (e :: es) [] pos) (liftE C X.K W fun ls h => (ma ls h).bind fun vs h1 => callF P F f vs h1) := by
  have hn' := hn
  rw [List.all_cons, Bool.and_eq_true] at hn'
  refine ⟨fun pins s σ H Q I x => wpAny_Call_Name_kw (ld_glob I hg hm ?_ hdb)⟩
  have y := lift_bind (R := RVs X.K) (R' := RV X.K) (k := fun _ vs h1 => callF P F f vs h1) x
  refine PySem.W.callWith_K (h₀ := X.base) I.ok.mod.kin (g.fn f fi ef).kp (thn (ha.run pos pins s σ H _ I y) fun us s1 ⟨vs, H1, I1, r, φ, ls, h, as, S, _, rs, R⟩ => ⟨I1.kIn, ?_⟩) (star_cons hn'.1) (star_any hn'.2)
  exact runC g FO hr tk ef I1 r S rs R
theorem k_call0 {f : Nat} {fi : FnI} (g : Gx P C L X.K) (FO : FnsOk P C L X.prog X.w X.K X.mg X.base k F) (hr : Room k X.A) (tk : Takes X W) (ef : P.fns[f]? = some fi) (hg : Gl X x) (hm : X.mg x = some (.ref (L.fA f))) (hdb : (x == ("__debug__" : Str)) = false) :
    PE X (.Call (.Name x p) [] [] pos) (liftE C X.K W fun ls h => (Res.ok [] h : Res (List LV)).bind fun vs h1 => callF P F f vs h1) := by
  refine ⟨fun pins s σ H Q I x => wpAny_Call_Name_kw (ld_glob I hg hm ?_ hdb)⟩
  obtain ⟨φ, ls, h, S, Lc, R⟩ := x
  exact PySem.W.callWith_K0 I.kIn (g.fn f fi ef).kp (runC (us := []) (vs := []) g FO hr tk ef I .nil S VRs.nil R)

/-! ### methods of instances -/
theorem few_form {pos : Pos} {args : List Expr} (hn : args.all nst = true) (hl : args.length < 29) : methodCallForm (args.length + ([] : List Keyword).length) (backTo pos (starEach args X.env)) (backToKw pos (keywordEach [] X.env)) = true := by
  unfold methodCallForm
  rw [star_all hn]
  show (true && true && decide (args.length + 0 + 0 < 30)) = true
  simp; omega
theorem methOf {name : Str} {args : List Expr} {pins : List (Addr × Obj)} {σ : St} {s : Shared} {Q : Value → Shared → Prop} (hb : nsup o = true) (hn : args.all nst = true) (hl : args.length < 29) (hline : (apos.endLine == pos.line) = true)
    (h : wpAny (model X.prog X.w) X.A (eval o X.env) (fun ov s1 => wpAny (model X.prog X.w) X.A (getMethod ov name (do return (← importBound o X.env).getD true)) (fun fx s2 => wpAny (model X.prog X.w) X.A (callWith pos fx.1 fx.2 (backTo pos (starEach args X.env)) (backToKw pos (keywordEach [] X.env))) Q X.xe s2) X.xe s1) X.xe s) :
    wpAny (model X.prog X.w) X.A (eval (.Call (.Attribute o name apos) args [] pos) X.env) Q X.xe s := by
  rw [arm_eval_Call, base_of hb]
  refine wpAny_bind (wpAny_mono h (fun ov s₁ h₁ => ?_) fun _ _ e => e)
  refine wpAny_bind (wpAny_standAt ?_)
  have hpos : methodCallPos true o X.env apos pos = pure pos := by unfold methodCallPos; simp [hline]
  unfold methodCall
  rw [few_form hn hl]
  refine wpAny_bind (wpAny_holding (wpAny_mono h₁ (fun fx s2 h2 => ?_) fun _ _ e => e))
  exact wpAny_bind (wpAny_of_eq hpos h2)
theorem methF_at {H : Hp} {φ : Nat → Addr} {h : LH} {v : LV} {y : V} {mn f : Nat} (g : Gx P C L X.K) (S : Sim C X.K φ h H) (rv : VR X.K φ h.length H v y) (e : methF P v mn h = some f) :
    ∃ a c dx fs, y = .ref a ∧ H a = some (.ins c dx fs) ∧ Cls X.K c ∧ Meth X.K c (P.mname mn) (L.fA f) ∧ fs.lookup (P.mname mn) = none := by
  unfold methF at e
  split at e
  · rename_i i
    split at e
    · rename_i c fs ei
      split at e
      · rename_i ci ec
        have kc := g.cl c ci ec
        obtain ⟨hl, dx, ys, e1, rs⟩ := ins_at S ei
        unfold VR at rv
        obtain ⟨_, rfl⟩ := rv
        exact ⟨φ i, C.cA c, dx, _, rfl, e1, kc.cl, (kc.ms mn f e).1, lookup_zip_none fun hx => (kc.ms mn f e).2 (List.mem_of_mem_take hx)⟩
      · cases e
    · cases e
  · cases e
theorem callF_fi {C : Cl} {K : PySem.W.Frag} {E : XK} {φ : Nat → Addr} {h h' : LH} {H : Hp} {Q : VK} {f : Nat} {as : List LV} (R : RSg C K (RV K) E φ h H (callF P F f as h') Q) : ∃ fi, P.fns[f]? = some fi := by
  unfold callF at R
  split at R
  · rename_i fi efi; exact ⟨fi, efi⟩
  · exact R.elim
/-- a method called: what is evaluated -/
def metM (P : Prg) (F : FT) (m : LSt → LH → Res LV) (mn : Nat) (ma : LSt → LH → Res (List LV)) : LSt → LH → Res LV := fun ls h => (m ls h).bind fun x h1 => match methF P x mn h1 with
  | some f => (ma ls h1).bind fun vs h2 => callF P F f (x :: vs) h2
  | none => .bad
theorem k_meth {mn : Nat} {e : Expr} {es : List Expr} (g : Gx P C L X.K) (FO : FnsOk P C L X.prog X.w X.K X.mg X.base k F) (hr : Room k X.A) (tk : Takes X W) (ho : PE X o (liftE C X.K W m)) (hb : nsup o = true) (hn : (e :: es).all nst = true) (hl : (e :: es).length < 29) (hline : (apos.endLine == pos.line) = true)
    (ha : PA X (e :: es) (liftA C X.K W ma)) : PE X (.Call (.Attribute o (P.mname mn) apos) (e :: es) [] pos) (liftE C X.K W (metM P F m mn ma)) := by
  have hn' := hn
  rw [List.all_cons, Bool.and_eq_true] at hn'
  refine ⟨fun pins s σ H Q I x => methOf (pins := pins) (σ := σ) hb hn hl hline ?_⟩
  have y := lift_bind (R := RV X.K) (R' := RV X.K) (k := fun ls x h1 => match methF P x mn h1 with
    | some f => (ma ls h1).bind fun vs h2 => callF P F f (x :: vs) h2
    | none => .bad) x
  refine thn (ho.run pins s σ H _ I y) fun u s1 ⟨x', H1, I1, rx, φ, ls, h, v, S, Lc, rv, R⟩ => ?_
  split at R
  · rename_i f ef
    obtain ⟨ad, c, dx, fs, rfl, e1, kc, km, hlk⟩ := methF_at g S rv ef
    obtain rfl : u = Value.ref ad := rx
    refine getmeth_ok I1 e1 kc km hlk ?_
    refine PySem.W.callWith_K (first := [.ref ad]) (h₀ := X.base) I.ok.mod.kin km.kp (thn (ha.run pos pins s1 σ H1 _ I1 ⟨φ, ls, h, S, Lc, RSg.bind (R := RVs X.K) S R⟩) fun us s2 ⟨vs, H2, I2, r2, φ2, h2, as, st, ras, R2⟩ => ⟨I2.kIn, ?_⟩) (star_cons hn'.1) (star_any hn'.2)
    obtain ⟨fi, efi⟩ := callF_fi R2
    exact runC (us := .ref ad :: us) (vs := .ref ad :: vs) g FO hr tk efi I2 (.cons rfl r2) st.sim (VRs.cons (VR.carry (st.carry S) rv) ras) R2
  · exact R.elim
theorem k_meth0 {mn : Nat} (g : Gx P C L X.K) (FO : FnsOk P C L X.prog X.w X.K X.mg X.base k F) (hr : Room k X.A) (tk : Takes X W) (ho : PE X o (liftE C X.K W m)) (hb : nsup o = true) (hline : (apos.endLine == pos.line) = true) :
    PE X (.Call (.Attribute o (P.mname mn) apos) [] [] pos) (liftE C X.K W (metM P F m mn fun _ h => .ok [] h)) := by
  refine ⟨fun pins s σ H Q I x => methOf (pins := pins) (σ := σ) hb rfl (by decide) hline ?_⟩
  have y := lift_bind (R := RV X.K) (R' := RV X.K) (k := fun ls x h1 => match methF P x mn h1 with
    | some f => (Res.ok [] h1 : Res (List LV)).bind fun vs h2 => callF P F f (x :: vs) h2
    | none => .bad) x
  refine thn (ho.run pins s σ H _ I y) fun u s1 ⟨x', H1, I1, rx, φ, ls, h, v, S, Lc, rv, R⟩ => ?_
  split at R
  · rename_i f ef
    obtain ⟨ad, c, dx, fs, rfl, e1, kc, km, hlk⟩ := methF_at g S rv ef
    obtain rfl : u = Value.ref ad := rx
    refine getmeth_ok I1 e1 kc km hlk ?_
    obtain ⟨fi, efi⟩ := callF_fi (R := R)
    exact PySem.W.callWith_K0 (first := [.ref ad]) I1.kIn km.kp (runC (us := [.ref ad]) (vs := [.ref ad]) g FO hr tk efi I1 (.cons rfl .nil) S (VRs.cons rv VRs.nil) R)
  · exact R.elim

/-! ### new instances -/
theorem k_make {c : Nat} {ci : ClI} {fi : FnI} {ks : List Nat} {e : Expr} {es : List Expr} {kws : List Keyword} (g : Gx P C L X.K) (FO : FnsOk P C L X.prog X.w X.K X.mg X.base k F) (hr : Room (k + 1) X.A) (tk : Takes X W) (ec : P.cls[c]? = some ci) (ei : P.fns[ci.ini]? = some fi)
    (hg : Gl X x) (hm : X.mg x = some (.ref (C.cA c))) (hdb : (x == ("__debug__" : Str)) = false) (hn : (e :: es).all nst = true) (hkn : kws.map (fun q => q.arg) = ks.map fun j => some (fi.ps.getD j Str.empty))
    (ha : PA X (e :: es) (liftA C X.K W ma)) (hk : PK X kws (liftA C X.K W mk)) :
    PE X (.Call (.Name x p) (e :: es) kws pos) (liftE C X.K W fun ls h => (ma ls h).bind fun vs h1 => (mk ls h1).bind fun ws h2 => makeC P F c vs ks ws h2) := by
  have hn' := hn
  rw [List.all_cons, Bool.and_eq_true] at hn'
  have kc := g.cl c ci ec
  have kn : ∀ {kws : List Keyword} {l : List Str}, kws.map (fun q => q.arg) = l.map some → (backToKw pos (keywordEach kws X.env)).all (·.1.isSome) = true ∧ (backToKw pos (keywordEach kws X.env)).filterMap (·.1) = l ∧ (backToKw pos (keywordEach kws X.env)).any (·.1.isNone) = false := by
    intro kws
    induction kws with
    | nil => intro l e; cases l <;> first | exact ⟨rfl, rfl, rfl⟩ | cases e
    | cons q r ih =>
      intro l e
      cases l with
      | nil => cases e
      | cons a l =>
        obtain ⟨qn, qv, qp⟩ := q
        simp only [List.map_cons, List.cons.injEq] at e
        obtain ⟨e1, e2⟩ := e
        obtain rfl : qn = some a := e1
        obtain ⟨h1, h2, h3⟩ := ih e2
        refine ⟨?_, ?_, ?_⟩
        · show (true && (backToKw pos (keywordEach r X.env)).all (·.1.isSome)) = true
          rw [h1]; rfl
        · show a :: (backToKw pos (keywordEach r X.env)).filterMap (·.1) = _
          rw [h2]
        · show (false || (backToKw pos (keywordEach r X.env)).any (·.1.isNone)) = false
          rw [h3]; rfl
  obtain ⟨k1, k2, k3⟩ := kn (l := ks.map fun j => fi.ps.getD j Str.empty) (by rw [hkn, List.map_map]; rfl)
  refine ⟨fun pins s σ H Q I x => wpAny_Call_Name_kw (ld_glob I hg hm ?_ hdb)⟩
  have y := lift_bind2 (R := RVs X.K) (R' := RVs X.K) (R3 := RV X.K) (k := fun vs ws h2 => makeC P F c vs ks ws h2) stabVs x
  refine PySem.W.callWith_KW (h₀ := X.base) I.ok.mod.kin kc.mkC.kp k1 (thn (ha.run pos pins s σ H _ I y) fun us s1 ⟨vs, H1, I1, r, q⟩ => ?_) (by rw [star_any hn, k3]; rfl) (star_cons hn'.1)
  refine thn (hk.run pos pins s1 σ H1 _ I1 q) fun ws s2 ⟨zs, H2, I2, rz, φ, h, as, bs, S, ras, rbs, R⟩ => ⟨I2.kIn, ?_⟩
  rw [k2]
  unfold makeC at R
  rw [ec] at R
  dsimp only at R
  rw [ei] at R
  dsimp only at R
  split at R
  · rename_i ds eds
    split at R
    · rename_i hc
      obtain ⟨hp, hdl, hwl⟩ := hc
      obtain ⟨gg, gV, hb, rel⟩ := kc.pt _ hp fi ei
      refine runMk (G := F ci.ini) kc.mkC (FO ci.ini fi ei) hr tk hb I2 r rz ras.length.symm (by rw [← rbs.length, hwl, List.length_map]) fun nx ndx hx hdx hne => ?_
      have st1 := Step.extra (o := .own nx) S hdx
      have hx1 : upd H2 ndx (.own nx) nx = none := by rw [upd_ne (Ne.symm hne)]; exact hx
      obtain ⟨st2, en⟩ := Step.alloc (o := .ins (C.cA c) ndx []) (lo := .ins c []) st1.sim hx1 fun φ' H' ca eo ep => ⟨by simp, ndx, [], by simpa using eo, VRs.nil⟩
      have st := Step.trans S st1 st2
      have ca := st.carry S
      have hnr : VR X.K (ext φ h.length nx) (h ++ [LO.ins c []]).length (upd (upd H2 ndx (.own nx)) nx (.ins (C.cA c) ndx [])) (.ref h.length) (.ref nx) := by
        unfold VR
        exact ⟨by simp, by rw [en]⟩
      refine ⟨ext φ h.length nx, h ++ [.ins c []], ds, st.sim, rel _ _ _ (.ref h.length :: as) bs ds _ _ (by simp) (VRs.cons hnr (VRs.carry ca ras)) (VRs.carry ca rbs) hwl eds, hdl, ?_⟩
      have R2 := RSg.bind (R := RV X.K) st.sim (RSg.shift S st R)
      refine R2.mono fun v H3 ⟨φ3, h3, lv, st3, rlv, R3⟩ => ?_
      cases lv <;> first | exact R3.elim | skip
      refine ⟨rlv.non, RSg.here st3.sim R3 ?_⟩
      exact VR.carry (st3.carry st.sim) hnr
    · exact R.elim
  · exact R.elim
end
end LD
end
section
set_option Elab.async false
set_option linter.all false
set_option maxRecDepth 100000
set_option autoImplicit false
/-! LEC: own == and != of instances -/
namespace LD
open PySem L2

section
variable {prog : Program} {w : PySem.World} {A : Around} {E : Value → Shared → Prop} {s : Shared} {K : PySem.W.Frag} {x C f : Addr} {ox : Obj} {od : Option Obj} {b tb : Value}
theorem objNe_entry (X : K.In s.heap) (I : PySem.W.InstAt s.heap x ox C od) (hs : PySem.W.findIn K (.ref C) "__eq__" = some (some (.ref f))) (hf : PySem.W.isFn K (.ref f) = true) (hu : A.units < cLine) {Q : Fin → Shared → Prop}
    (hcall : wpAny (model prog w) A (call (.ref f) [.ref x, b]) (fun v s' => ∃ k, v = .bool k ∧ Q (.done (.ret (.bool (!k)))) s') E s) :
    wpAny (model prog w) A (Builtin.«object.__ne__» ⟨[.ref x, b], []⟩) Q E s := by
  unfold Builtin.«object.__ne__»
  repeat (first
    | with_reducible refine wpAny_cRoomFor hu ?_
    | (refine wpAny_bind (m := callSpecialIfBound? (.ref x) (Str.ofString "__eq__") [b])
        (PySem.W.ifBound_K X I hs hf (wpAny_mono hcall (fun r s' hr => by
          obtain ⟨k, rfl, hq⟩ := hr
          repeat (first | exact hq | exact wpAny_pure hq | exact wpAny_truthy_bool hq | (refine wpAny_bind (m := truthy (.bool _)) (wpAny_truthy_bool ?_)) | wp_step)) fun _ _ e => e)))
    | wp_step)
theorem ifBound_objNe {M : Model} {args : List Value} {Q : Option Value → Shared → Prop} (X : K.In s.heap) (I : PySem.W.InstAt s.heap x ox C od) (hs : PySem.W.findIn K (.ref C) "__ne__" = some (some (.builtin "object.__ne__")))
    (h : wpAny M A (call (.builtin "object.__ne__") (.ref x :: args)) (fun v => Q (some v)) E s) : wpAny M A (callSpecialIfBound? (.ref x) "__ne__" args) Q E s := by
  simp only [callSpecialIfBound?, bindSpecialIfBound?]
  refine wpAny_holding (wpAny_bind (wpAny_bind (wpAny_bind (I.type.here ((PySem.W.looks_findIn X hs).here ?_)))))
  refine wpAny_bind (wpAny_askSetting (wpAny_ite ?_))
  have fin : wpAny M A (call (.builtin "object.__ne__") ([.ref x] ++ args) >>= fun v => pure (some v)) Q E s := wpAny_bind (wpAny_mono h (fun v s' h' => wpAny_pure h') fun _ _ h' => h')
  split
  · exact wpAny_bind (wpAny_of_eq (F.cmp_object.ne.bind _) (wpAny_pure (by exact fin)))
  · exact wpAny_tryCatch (wpAny_bind (wpAny_of_eq (F.cmp_object.ne.bind _) (wpAny_pure (by exact fin))))
theorem cmpNe_K {Q : Value → Shared → Prop} (hu : A.units + 1 < cLine) (X : K.In s.heap) (I : PySem.W.InstAt s.heap x ox C od) (hb : PySem.W.Looks (model prog w) s.heap (typeOf b) tb) (hn : PySem.W.notFirst K C tb = true) (e : EqK K C f)
    (h : wpAny (model prog w) A.in1 (call (.ref f) [.ref x, b]) (fun v s' => ∃ k, v = .bool k ∧ Q (.bool (!k)) s') E s) : wpAny (model prog w) A (richCompare .NotEq (.ref x) b) Q E s := by
  have one : wpAny (model prog w) A (tryCompare (.ref x) "__ne__" b) (fun r s' => ∃ v, r = some v ∧ Q v s') E s := by
    unfold tryCompare
    refine wpAny_bind (ifBound_objNe X I e.ne (wpAny_call (codeAny_call_builtin F.cmp_object.ne.plain F.cmpEntry_ne (PySem.W.check_slot F.cmpKind_ne F.cmpSplit_ne (I.type.andThen (PySem.W.looks_mroIn X e.mro)) (F.cmpArgs_ne _ _)
      (objNe_entry (A := A.in1) X I e.at_ e.fn hu (wpAny_mono h (fun v s' hv => ?_) fun _ _ e => e))))))
    obtain ⟨k, rfl, hq⟩ := hv
    exact ⟨k, rfl, wpAny_pure ⟨_, rfl, hq⟩⟩
  unfold richCompare
  simp only [oneThing_ref]
  refine wpAny_holding (wpAny_bind (wpAny_cRoomFor (Nat.lt_of_succ_lt hu) ?_))
  rw [cmpInfo_NotEq]
  dsimp only
  refine wpAny_bind (I.type.here (wpAny_bind (hb.here ?_)))
  split
  · rename_i q
    have e : PySem.W.subIn K tb (.ref C) = some false := by
      rcases Bool.or_eq_true_iff.mp hn with e | e
      · rw [beq_iff_eq.mp e] at q; simp at q
      · exact beq_iff_eq.mp e
    refine wpAny_bind ((PySem.W.looks_subIn X e).here ?_)
    simp only [Bool.false_eq_true, if_false]
    refine wpAny_bind (wpAny_mono one (fun r s' z => ?_) fun _ _ e => e)
    obtain ⟨v, rfl, hq⟩ := z
    exact wpAny_pure hq
  · refine wpAny_bind (wpAny_pure ?_)
    simp only [Bool.false_eq_true, if_false]
    refine wpAny_bind (wpAny_mono one (fun r s' z => ?_) fun _ _ e => e)
    obtain ⟨v, rfl, hq⟩ := z
    exact wpAny_pure hq
end

section
variable {X : Cx} {P : Prg} {C : Cl} {L : Lk} {W : WX} {F : FT} {k : Nat} {a b : Expr} {m1 m2 : LSt → LH → Res LV} {pos : Pos}
/-- an own def that raises nothing, called somewhere -/
theorem runA {A : Around} {E : Value → Shared → Prop} {f : Nat} {fi : FnI} {pins : List (Addr × Obj)} {σ : St} {H : Hp} {s : Shared} {Q : VK} {vs : List V} {us : List Value} {φ : Nat → Addr} {h : LH} {as : List LV} (g : Gx P C L X.K) (FO : FnsOk P C L X.prog X.w X.K X.mg X.base k F) (hr : Room k A) (hA : A.frames = X.A.frames)
    (ef : P.fns[f]? = some fi) (hk : fi.kwo = false) (hl : as.length = fi.ps.length) (I : Inv X pins σ H s) (r : Vals vs us) (S : Sim C X.K φ h H) (rs : VRs X.K φ h.length H as vs) (R : RSg C X.K (RV X.K) (fun _ _ _ => False) φ h H (F f as h) Q) :
    wpAny (model X.prog X.w) A (call (.ref (L.fA f)) us) (EP X pins σ Q) E s := by
  obtain ⟨ds, dvs, hb, hd, rd⟩ := (g.fn f fi ef).bd hk fi.dv.length (Nat.le_refl _)
  have hdl := (rd φ h.length H).length
  rw [List.drop_length] at hdl
  obtain rfl : dvs = [] := List.length_eq_zero_iff.mp hdl.symm
  obtain rfl : ds = [] := List.length_eq_zero_iff.mp hd.length.symm
  have hsp : spF C X.K fi.ps.length (F f) vs H Q (fun _ _ _ => False) := ⟨φ, h, as, S, rs, hl, R⟩
  have hlu : us.length = fi.ps.length := by rw [← r.length, ← rs.length, hl]
  have e0 : Env0 X.prog X.w X.K X.mg X.base A X.stack s H := by
    have e := I.env0
    exact ⟨by rw [hA]; exact e.frames, e.mod, e.bs, e.bsz, e.funs, e.frf, e.hok, e.bare⟩
  refine wpAny_call (codeAny_mono ((FO f fi ef).run A X.stack s H ⟨us, []⟩ us vs Q _ hr e0 (by
    have := hb s us I.kIn (by simpa using hlu)
    simpa using this) r hsp) fun r s' hq => ?_)
  cases r with
  | error e =>
    obtain ⟨_, _, _, _, _, _, _, _, _, _, _, _, z⟩ := hq
    exact z.elim
  | ok fl =>
    cases fl with
    | ret u => exact I.after hq
    | next => exact False.elim hq
    | brk => exact False.elim hq
    | cont => exact False.elim hq
theorem nx_bN {α β : Type} {r : Res α} {kk : α → LH → Res β} (n : ∀ v h, NoX (kk v h)) : NoX (r.bindN kk) := by
  cases r with
  | ok v h1 => exact n v h1
  | exc c p h1 => exact nx_bad
  | bad => exact nx_bad
theorem nx_eqoM (P : Prg) (F : FT) (ng : Bool) (x y : LV) (h : LH) : NoX (eqoM P F ng x y h) := by
  unfold eqoM
  split
  · split
    · split
      · split
        · refine nx_bN fun v h1 => ?_
          split
          · exact nx_ok
          · exact nx_bad
        · exact nx_bad
      · exact nx_bad
    · exact nx_bad
  · exact nx_bad
theorem insC_at {φ : Nat → Addr} {h : LH} {H : Hp} {a : LV} {x : V} {c : Nat} (S : Sim C X.K φ h H) (ra : VR X.K φ h.length H a x) (e : insC h a = some c) : ∃ p dx fs, x = .ref p ∧ H p = some (.ins (C.cA c) dx fs) := by
  unfold insC at e
  split at e
  · split at e
    · rename_i i _ d fs ei
      cases e
      obtain ⟨hl, dx, ys, e1, rs⟩ := ins_at S ei
      unfold VR at ra
      obtain ⟨_, rfl⟩ := ra
      exact ⟨_, dx, _, rfl, e1⟩
    · cases e
  · cases e
theorem othB_at {φ : Nat → Addr} {h : LH} {H : Hp} {pins : List (Addr × Obj)} {σ : St} {s : Shared} {b : LV} {y : V} {u : Value} {c : Nat} {f : Addr} (I : Inv X pins σ H s) (S : Sim C X.K φ h H) (rb : VR X.K φ h.length H b y) (ry : RelV y u) (e : othB h c b = true) (q : EqK X.K (C.cA c) f) :
    ∃ tb, PySem.W.Looks (model X.prog X.w) s.heap (typeOf u) tb ∧ PySem.W.notFirst X.K (C.cA c) tb = true := by
  unfold othB at e
  split at e
  · split at e
    · rename_i j _ d fs ei
      cases of_decide_eq_true e
      obtain ⟨hl, dx, ys, e1, rs⟩ := ins_at S ei
      unfold VR at rb
      obtain ⟨_, rfl⟩ := rb
      cases ry
      obtain ⟨mB, J', _⟩ := ins_get I.hok e1
      obtain ⟨od', J', _⟩ := J'.look
      exact ⟨_, J'.type, by simp [PySem.W.notFirst]⟩
    · rename_i j _ xs ei
      obtain ⟨ys, e1, rs⟩ := lst_at S ei
      unfold VR at rb
      obtain ⟨_, rfl⟩ := rb
      cases ry
      obtain ⟨its, n, _, e2, _⟩ := I.lst e1
      refine ⟨.type "list", (PySem.W.Looks.ld e2).andThen .now, ?_⟩
      simp [PySem.W.notFirst, q.sub]
    · cases e
  · cases e
theorem o_eqo {ng : Bool} {op : CmpOp} (hop : op = (if ng then .NotEq else .Eq)) (g : Gx P C L X.K) (FO : FnsOk P C L X.prog X.w X.K X.mg X.base k F) (hr : Room (k + 1) X.A) : OpR X (compareOp op) (r2 C X.K (eqoM P F ng)) := by
  intro pins s σ H x y v u Q I rx ry q
  obtain ⟨φ, h, a, b, S, ra, rb, R⟩ := q
  unfold eqoM at R
  split at R
  · rename_i c ec
    split at R
    · rename_i ci eci
      split at R
      · rename_i fi efi
        split at R
        · rename_i hc
          obtain ⟨h1, h2, h3⟩ := hc
          have kc := g.cl c ci eci
          have eqk := kc.eq fi efi
          obtain ⟨tb, hb, hn⟩ := othB_at I S rb ry h3 eqk
          obtain ⟨p, dx, fs, rfl, e1⟩ := insC_at S ra ec
          cases rx
          obtain ⟨mA, J, _⟩ := ins_get I.hok e1
          obtain ⟨od, J, _⟩ := J.look
          obtain ⟨m, hF⟩ := I.fr
          have r2 : Vals [V.ref p, y] [Value.ref p, u] := .cons rfl (.cons ry .nil)
          have rs : VRs X.K φ h.length H [a, b] [V.ref p, y] := VRs.cons ra (VRs.cons rb VRs.nil)
          have R2 : RSg C X.K (RV X.K) (fun _ _ _ => False) φ h H (F ci.eqf [a, b] h) fun z H1 => ∃ t, z = .bl t ∧ Q (.bl (t != ng)) H1 := by
            cases er : F ci.eqf [a, b] h with
            | ok v1 hh1 =>
              rw [er] at R
              intro φ' H' z st rz
              dsimp only [Res.bindN] at R
              cases v1 <;> first | exact R.elim | skip
              rename_i t
              exact ⟨t, rz.bl, R φ' H' _ st vr_bl⟩
            | exc c' p' h' => rw [er] at R; exact R.elim
            | bad => rw [er] at R; exact R.elim
          cases ng with
          | false =>
            subst hop
            show wpAny (model X.prog X.w) X.A (richCompare .Eq (.ref p) u) (EP X pins σ Q) X.xe s
            refine PySem.W.cmp_K (op := .Eq) (hr.mono (Nat.le_succ k)).units0 hF I.ok.mod.kin J hb hn eqk.at_ eqk.fn ?_
            refine wpAny_mono (runA (as := [a, b]) g FO (hr.mono (Nat.le_succ k)) rfl efi h1 h2.symm I r2 S rs R2) (fun z s' hz => ?_) fun _ _ e => e
            obtain ⟨z', H', I', rz, t, rfl, hq⟩ := hz
            cases rz
            refine ⟨.bl t, H', I', rfl, ?_⟩
            cases t <;> exact hq
          | true =>
            subst hop
            show wpAny (model X.prog X.w) X.A (richCompare .NotEq (.ref p) u) (EP X pins σ Q) X.xe s
            refine cmpNe_K (by have := hr.un; omega) I.kIn J hb hn eqk ?_
            refine wpAny_mono (runA (A := X.A.in1) (as := [a, b]) g FO hr.in1 rfl efi h1 h2.symm I r2 S rs R2) (fun z s' hz => ?_) fun _ _ e => e
            obtain ⟨z', H', I', rz, t, rfl, hq⟩ := hz
            cases rz
            refine ⟨t, rfl, .bl (!t), H', I', rfl, ?_⟩
            cases t <;> exact hq
        · exact R.elim
      · exact R.elim
    · exact R.elim
  · exact R.elim
end
end LD
end
section
set_option Elab.async false
set_option linter.all false
set_option maxRecDepth 100000
set_option autoImplicit false
/-! LDN: builtins; targets; what is walked -/
namespace LD
open PySem L2

/-! ### built-in functions -/
def bfNm : Bf → String
  | .len => "len"
  | .abs => "abs"
  | .sum => "sum"
  | .list => "list"
  | .tuple => "tuple"
  | .dict => "dict"
  | .max2 => "max"
  | .min2 => "min"
def bfTy : Bf → Bool
  | .list => true
  | .tuple => true
  | .dict => true
  | _ => false
def bfV (b : Bf) : Value := if bfTy b then .type (bfNm b) else .builtin (bfNm b)
theorem bf_boot (b : Bf) : bootBuiltins (bfNm b : Str) = some (bfV b) := by cases b <;> rfl
theorem bf_nm (b : Bf) : (bfNm b : Str) ≠ ("__name__" : Str) ∧ ((bfNm b : Str) == ("__debug__" : Str)) = false := by cases b <;> decide
theorem bf_ok {X : Cx} {C : Cl} (hc : X.calm = true) (b : Bf) : CallR X (bfV b) (rN C X.K (pB b)) := by
  cases b
  · exact b_len
  · exact b_abs
  · exact b_sum hc
  · exact b_list hc
  · exact b_tuple
  · exact b_dict hc
  · exact b_max2 hc
  · exact b_min2 hc
section
variable {X : Cx} {C : Cl} {W : WX} {e o : Expr} {es : List Expr} {m : LSt → LH → Res LV} {ma : LSt → LH → Res (List LV)} {pos apos p : Pos} {x : Str}
theorem k_bif (b : Bf) (hc : X.calm = true) (hg : Gl X (bfNm b : Str)) (hm : X.mg (bfNm b : Str) = none) (hn : (e :: es).all nst = true) (ha : PA X (e :: es) (liftA C X.K W ma)) :
    PE X (.Call (.Name (bfNm b : Str) p) (e :: es) [] pos) (liftE C X.K W fun ls h => (ma ls h).bind fun vs h1 => pB b vs h1) := by
  have hn' := hn
  rw [List.all_cons, Bool.and_eq_true] at hn'
  have hb := bf_boot b
  have hk := bf_ok (C := C) hc b
  unfold bfV at hb hk
  cases hty : bfTy b with
  | true =>
    rw [hty] at hb hk
    exact (pe_callTy hk hg hm hb ha (bf_nm b).1 (bf_nm b).2 (star_cons hn'.1) (star_any hn'.2)).weak fun _ _ _ x => w_cb (nx_pB b) x
  | false =>
    rw [hty] at hb hk
    exact (pe_callB hk hg hm hb ha (bf_nm b).1 (bf_nm b).2 (star_cons hn'.1) (star_any hn'.2)).weak fun _ _ _ x => w_cb (nx_pB b) x

/-! ### methods of lists and dicts -/
def bmNm : Bm → Str
  | .append => "append"
  | .popAt => "pop"
  | .get2 => "get"
  | .dpop => "pop"
def bmTy : Bm → String
  | .append => "list"
  | .popAt => "list"
  | .get2 => "dict"
  | .dpop => "dict"
theorem lst_tyV {K : PySem.W.Frag} {φ : Nat → Addr} {h : LH} {H : Hp} (S : Sim C K φ h H) {v : LV} {y : V} (rv : VR K φ h.length H v y) (e : (lstOf h v).isSome = true) : tyV K "list" y H := by
  obtain ⟨xs, e⟩ := Option.isSome_iff_exists.mp e
  obtain ⟨p, ys, rfl, q, _⟩ := lstOf_sq S rv e
  exact .inl ⟨rfl, ys, q⟩
theorem dic_tyV {K : PySem.W.Frag} {φ : Nat → Addr} {h : LH} {H : Hp} (S : Sim C K φ h H) {v : LV} {y : V} (rv : VR K φ h.length H v y) (e : isDic h v = true) : tyV K "dict" y H := by
  unfold isDic at e
  split at e
  · rename_i i
    unfold VR at rv
    obtain ⟨_, rfl⟩ := rv
    split at e
    · rename_i kvs ei
      obtain ⟨ys, q, _⟩ := S.obj i _ ei
      exact .inr (.inr (.inl ⟨rfl, .inl ⟨ys, q⟩⟩))
    · rename_i kvs ei
      obtain ⟨ys, q, _⟩ := S.obj i _ ei
      exact .inr (.inr (.inl ⟨rfl, .inr ⟨ys, q⟩⟩))
    · cases e
  · cases e
theorem bm_tyV {K : PySem.W.Frag} {φ : Nat → Addr} {h : LH} {H : Hp} (S : Sim C K φ h H) {v : LV} {y : V} (rv : VR K φ h.length H v y) (b : Bm) (e : bmT b v h = true) : tyV K (bmTy b) y H := by
  cases b
  · exact lst_tyV S rv e
  · exact lst_tyV S rv e
  · exact dic_tyV S rv e
  · exact dic_tyV S rv e
theorem w_bm {K : PySem.W.Frag} {σ : St} {H : Hp} {Q : VK} (b : Bm) (x : liftE C K W (fun ls h => (m ls h).bind fun x h1 => if bmT b x h1 then (ma ls h1).bind fun vs h2 => pM b x vs h2 else .bad) σ H Q) :
    tBM K (bmTy b) (rM C K (pM b)) (liftE C K W m) (liftA C K W ma) σ H Q :=
  lift_mono (lift_bind (R := RV K) (R' := RV K) (k := fun ls x h1 => if bmT b x h1 then (ma ls h1).bind fun vs h2 => pM b x vs h2 else .bad) x) fun y H1 ⟨φ, ls, h, v, S, Lc, rv, R⟩ => by
    split at R
    · rename_i hb
      refine ⟨bm_tyV S rv b hb, φ, ls, h, S, Lc, RSg.mono (RSg.bind (R := RVs K) S R) fun zs H2 ⟨φ2, h2, as, st, ras, R2⟩ => ?_⟩
      exact ⟨φ2, h2, v, as, st.sim, VR.carry (st.carry S) rv, ras, R2.noX (nx_pM _ _ _ _)⟩
    · exact R.elim
theorem few_all {pos : Pos} {args : List Expr} (hn : args.all nst = true) (hl : args.length < 29) : ((backTo pos (starEach args X.env)).all (fun x => !x.1) && (backToKw pos (keywordEach [] X.env)).all (fun x => x.1.isSome)
      && decide (args.length + ([] : List Keyword).length + (if ([] : List Keyword).isEmpty then 0 else 1) < 30)) = true := few_form hn hl
theorem k_bme (b : Bm) (hu : X.A.units + 64 < cLine) (ho : PE X o (liftE C X.K W m)) (hb : nsup o = true) (hn : (e :: es).all nst = true) (hl : (e :: es).length < 29) (hline : (apos.endLine == pos.line) = true) (ha : PA X (e :: es) (liftA C X.K W ma)) :
    PE X (.Call (.Attribute o (bmNm b) apos) (e :: es) [] pos) (liftE C X.K W fun ls h => (m ls h).bind fun x h1 => if bmT b x h1 then (ma ls h1).bind fun vs h2 => pM b x vs h2 else .bad) := by
  have hn' := hn
  rw [List.all_cons, Bool.and_eq_true] at hn'
  cases b
  · exact (pe_bm PySem.F.plainAttrs_list PySem.F.slot_list_append PySem.F.type_list_append m_append ho ha (base_of hb _) (few_all hn hl) hline (star_cons hn'.1) (star_any hn'.2)).weak fun _ _ _ x => w_bm .append x
  · exact (pe_bm PySem.F.plainAttrs_list PySem.F.slot_list_pop PySem.F.type_list_pop m_popAt ho ha (base_of hb _) (few_all hn hl) hline (star_cons hn'.1) (star_any hn'.2)).weak fun _ _ _ x => w_bm .popAt x
  · exact (pe_bm PySem.F.plainAttrs_dict PySem.F.slot_dict_get PySem.F.type_dict_get (m_get2 hu) ho ha (base_of hb _) (few_all hn hl) hline (star_cons hn'.1) (star_any hn'.2)).weak fun _ _ _ x => w_bm .get2 x
  · exact (pe_bm PySem.F.plainAttrs_dict PySem.F.slot_dict_pop PySem.F.type_dict_pop m_dpop ho ha (base_of hb _) (few_all hn hl) hline (star_cons hn'.1) (star_any hn'.2)).weak fun _ _ _ x => w_bm .dpop x

/-! ### isinstance -/
theorem w_isi1 {K : PySem.W.Frag} {σ : St} {H : Hp} {Q : VK} {n : Nat} (q : Tq) (x : liftE C K W (fun ls h => (m ls h).bind fun x h1 => pIsi n [q] x h1) σ H Q) :
    tCB (fun xs H Q => ∃ x, xs = [x, tqX C q] ∧ r1 C K (pIsi n [q]) x H Q) (tCons (liftE C K W m) (tCons (tC (tqX C q)) tNil)) σ H Q :=
  lift_mono (lift_bind (R := RV K) (R' := RV K) (k := fun _ a h1 => pIsi n [q] a h1) x) fun y H1 ⟨φ, _, h, a, S, _, ra, R⟩ => ⟨y, rfl, φ, h, a, S, ra, R.noX (nx_pIsi _ _ _ _)⟩
theorem w_isiT {K : PySem.W.Frag} {σ : St} {H : Hp} {Q : VK} {n : Nat} (ts : List Tq) (hl : ts.length ≤ 100) (x : liftE C K W (fun ls h => (m ls h).bind fun x h1 => pIsi n ts x h1) σ H Q) :
    tCB (fun xs H Q => ∃ x tp, xs = [x, .ref tp] ∧ H tp = some (.tup (ts.map (tqX C))) ∧ r1 C K (pIsi n ts) x H Q) (tCons (liftE C K W m) (tCons (tTup (fun _ H Q => Q (ts.map (tqX C)) H)) tNil)) σ H Q :=
  lift_mono (lift_bind (R := RV K) (R' := RV K) (k := fun _ a h1 => pIsi n ts a h1) x) fun y H1 ⟨φ, _, h, a, S, _, ra, R⟩ =>
    ⟨line_of (by simp; omega), fun p hp => by
      have st := Step.extra (o := .tup (ts.map (tqX C))) S hp
      refine ⟨y, p, rfl, upd_same, φ, h, a, st.sim, VR.carry (st.carry S) ra, ?_⟩
      exact RSg.noX (nx_pIsi _ _ _ _) (RSg.shift S st R)⟩
end

/-! ### targets -/
/-- but for the slots at vs the two are alike -/
def Off (vs : List Nat) (σ τ : St) : Prop := τ.length = σ.length ∧ ∀ i, i ∉ vs → τ[i]? = σ[i]?
theorem Off.refl (vs : List Nat) (σ : St) : Off vs σ σ := ⟨rfl, fun _ _ => rfl⟩
theorem Off.trans {vs : List Nat} {a b c : St} (x : Off vs a b) (y : Off vs b c) : Off vs a c := ⟨y.1.trans x.1, fun i hi => (y.2 i hi).trans (x.2 i hi)⟩
theorem Off.sub {vs ws : List Nat} {a b : St} (h : ∀ i ∈ vs, i ∈ ws) (x : Off vs a b) : Off ws a b := ⟨x.1, fun i hi => x.2 i fun z => hi (h i z)⟩
theorem Off.set {vs : List Nat} {i : Nat} (σ : St) (v : Option V) (h : i ∈ vs) : Off vs σ (σ.set i v) := ⟨List.length_set, fun j hj => List.getElem?_set_ne (fun e : i = j => hj (e ▸ h))⟩
theorem wipe_get (σ : St) (i : Nat) : ∀ vs : List Nat, (wipe σ vs)[i]? = if i ∈ vs then (σ[i]?).map (fun _ => none) else σ[i]?
  | [] => by simp [wipe]
  | v :: vs => by
    unfold wipe
    rw [List.getElem?_set]
    by_cases e : v = i
    · subst e
      rw [if_pos rfl, wipe_length]
      by_cases hl : v < σ.length
      · simp [hl]
      · have : σ[v]? = none := List.getElem?_eq_none_iff.mpr (by omega)
        simp [hl]
    · rw [if_neg e, wipe_get σ i vs]
      by_cases h : i ∈ vs
      · rw [if_pos h, if_pos (List.mem_cons_of_mem _ h)]
      · have : ¬ i ∈ v :: vs := fun z => (List.mem_cons.mp z).elim (fun q => e q.symm) h
        rw [if_neg h, if_neg this]
theorem Off.wipe {vs : List Nat} {σ τ : St} (x : Off vs σ τ) : L2.wipe τ vs = L2.wipe σ vs := by
  refine List.ext_getElem? fun i => ?_
  rw [wipe_get, wipe_get]
  by_cases h : i ∈ vs
  · rw [if_pos h, if_pos h]
    by_cases hl : i < σ.length
    · rw [List.getElem?_eq_getElem hl, List.getElem?_eq_getElem (by rw [x.1]; exact hl)]; rfl
    · have h1 := x.1
      rw [List.getElem?_eq_none_iff.mpr (by omega : τ.length ≤ i), List.getElem?_eq_none_iff.mpr (by omega : σ.length ≤ i)]
  · rw [if_neg h, if_neg h]; exact x.2 i h
/-- the slots behind a target -/
def RLo (K : PySem.W.Frag) (vs : List Nat) (σ : St) : RL LSt St := fun φ n H ls τ => Loc K φ n H ls τ ∧ Off vs σ τ
theorem Res.bindN_noX {α β : Type} {m : Res α} {k : α → LH → Res β} (h : ∀ a h, NoX (k a h)) : NoX (m.bindN k) := by
  cases m with
  | ok a h1 => exact h a h1
  | exc c p h1 => exact nx_bad
  | bad => exact nx_bad
/-- a target: v is given to it -/
def liftG (C : Cl) (K : PySem.W.Frag) (vs : List Nat) (t : LV → LSt → LH → Res LSt) : TG := fun v σ H Q => ∃ φ ls h x, Sim C K φ h H ∧ Loc K φ h.length H ls σ ∧ VR K φ h.length H x v ∧ RSg C K (RLo K vs σ) (fun _ _ _ => False) φ h H (t x ls h) Q
def liftGs (C : Cl) (K : PySem.W.Frag) (vs : List Nat) (t : List LV → LSt → LH → Res LSt) : TGs := fun v σ H Q => ∃ φ ls h x, Sim C K φ h H ∧ Loc K φ h.length H ls σ ∧ VRs K φ h.length H x v ∧ RSg C K (RLo K vs σ) (fun _ _ _ => False) φ h H (t x ls h) Q
theorem _root_.L2.PG.weak {X : Cx} {e : Expr} {t t' : TG} (h : PG X e t) (w : ∀ v σ H Q, t' v σ H Q → t v σ H Q) : PG X e t' := ⟨fun pins s σ H v u Q I r q => h.run pins s σ H v u Q I r (w v σ H Q q)⟩
theorem _root_.L2.PGs.weak {X : Cx} {e : List Expr} {t t' : TGs} (h : PGs X e t) (w : ∀ v σ H Q, t' v σ H Q → t v σ H Q) : PGs X e t' := ⟨fun pins s σ H v u Q I r q => h.run pins s σ H v u Q I r (w v σ H Q q)⟩
theorem RSg.bindN {C : Cl} {K : PySem.W.Frag} {α β γ δ : Type} {R : RL α β} {R' : RL γ δ} {E E' : XK} {φ : Nat → Addr} {h : LH} {H : Hp} {m : Res α} {k : α → LH → Res γ} {Q : δ → Hp → Prop} (S : Sim C K φ h H) (x : RSg C K R' E φ h H (m.bindN k) Q) :
    RSg C K R E' φ h H m fun b H1 => ∃ φ1 h1 a, Step C K φ h H φ1 h1 H1 ∧ R φ1 h1.length H1 a b ∧ RSg C K R' E φ1 h1 H1 (k a h1) Q := by
  cases m with
  | ok a h2 => exact fun φ2 H2 b s t => ⟨φ2, h2, a, s, t, RSg.shift S s x⟩
  | exc c p h2 => exact x.elim
  | bad => exact x
/-- .. with the start kept -/
theorem RSg.turn {C : Cl} {K : PySem.W.Frag} {α β γ δ : Type} {R : RL α β} {R' : RL γ δ} {E E' : XK} {φ φ0 : Nat → Addr} {h h0 : LH} {H H0 : Hp} {m : Res α} {k : α → LH → Res γ} {Q : δ → Hp → Prop} (x : RSg C K R' E φ0 h0 H0 (m.bindN k) Q) :
    RSg C K R E' φ h H m fun b H1 => ∃ φ1 h1 a, Step C K φ h H φ1 h1 H1 ∧ R φ1 h1.length H1 a b ∧ RSg C K R' E φ0 h0 H0 (k a h1) Q := by
  cases m with
  | ok a h2 => exact fun φ2 H2 b s t => ⟨φ2, h2, a, s, t, x⟩
  | exc c p h2 => exact x.elim
  | bad => exact x
section
variable {X : Cx} {C : Cl} {W : WX}
theorem g_name {i : Nat} {x : Str} {pos : Pos} (hN : X.N.Nodup) (hi : X.N[i]? = some x) (hx : L2.Loc X.env.scope x) (hf : X.fn x = true ∨ X.env.scope.names.lookup x = some .local) : PG X (.Name x pos) (liftG C X.K [i] fun v ls h => .ok (ls.set i (some v)) h) :=
  (pg_name hN hi hx hf).weak fun v σ H Q ⟨φ, ls, h, x, S, L, r, R⟩ => R.here S ⟨L.set r i, Off.set σ _ (by simp)⟩
theorem g_nil : PGs X [] (liftGs C X.K [] fun vs ls h => match vs with
  | [] => .ok ls h
  | _ => .bad) :=
  pgs_nil.weak fun vs σ H Q ⟨φ, ls, h, xs, S, L, r, R⟩ => by
    cases xs with
    | nil => unfold VRs at r; exact ⟨r, R.here S ⟨L, Off.refl _ _⟩⟩
    | cons a as => exact R.elim
theorem asg_cons {e : Expr} {es : List Expr} {env : Env} (h : nst e = true) : (assignEach (e :: es) env).map (·.2) = assign e env :: (assignEach es env).map (·.2) := by
  cases e <;> first | rfl | cases h
theorem g_cons {e : Expr} {es : List Expr} {vs ws : List Nat} {t : LV → LSt → LH → Res LSt} {u : List LV → LSt → LH → Res LSt} (hn : nst e = true) (h1 : PG X e (liftG C X.K vs t)) (h2 : PGs X es (liftGs C X.K ws u)) :
    PGs X (e :: es) (liftGs C X.K (vs ++ ws) fun xs ls h => match xs with
      | x :: xs => (t x ls h).bindN fun ls1 h1 => u xs ls1 h1
      | [] => .bad) :=
  (pgs_cons h1 h2 (asg_cons hn)).weak fun zs σ H Q ⟨φ, ls, h, xs, S, L, r, R⟩ => by
    cases xs with
    | nil => exact R.elim
    | cons a as =>
      unfold VRs at r
      obtain ⟨y, ys, rfl, r1, r2⟩ := r
      refine ⟨y, ys, rfl, φ, ls, h, a, S, L, r1, ?_⟩
      refine RSg.mono (RSg.bindN (R := RLo X.K vs σ) S R) fun τ H1 ⟨φ1, h1, ls1, st, ⟨L1, o1⟩, R1⟩ => ?_
      refine ⟨φ1, ls1, h1, as, st.sim, L1, VRs.carry (st.carry S) r2, ?_⟩
      revert R1
      cases u as ls1 h1 with
      | ok ls2 h2 => exact fun R1 φ2 H2 τ2 s2 ⟨L2, o2⟩ => R1 φ2 H2 τ2 s2 ⟨L2, (o1.sub fun i hi => List.mem_append_left _ hi).trans (o2.sub fun i hi => List.mem_append_right _ hi)⟩
      | exc c p h2 => exact fun R1 => R1
      | bad => exact fun R1 => R1
theorem asg_len {env : Env} : ∀ es : List Expr, (assignEach es env).length = es.length
  | [] => rfl
  | e :: es => by cases e <;> exact congrArg Nat.succ (asg_len es)
theorem asg_nost {env : Env} : ∀ {es : List Expr}, es.all nst = true → (assignEach es env).findIdx? (·.1) = none
  | [], _ => rfl
  | e :: es, h => by
    rw [List.all_cons, Bool.and_eq_true] at h
    have ih := asg_nost (env := env) h.2
    have : ∀ b, assignEach (e :: es) env = (false, b) :: assignEach es env → (assignEach (e :: es) env).findIdx? (·.1) = none := fun b q => by
      rw [q, List.findIdx?_cons, ih]; rfl
    cases e <;> first | exact this _ rfl | cases h.1
theorem g_tup {es : List Expr} {k : Nat} {pos : Pos} {vs : List Nat} {u : List LV → LSt → LH → Res LSt} (hc : X.calm = true) (hn : es.all nst = true) (h : PGs X es (liftGs C X.K vs u)) :
    PG X (.Tuple es k pos) (liftG C X.K vs fun v ls h => match tupOf v with
      | some xs => if xs.length = es.length then u xs ls h else .bad
      | none => .bad) :=
  (pg_tup hc h (asg_len es) (asg_nost hn)).weak fun v σ H Q ⟨φ, ls, h, x, S, L, r, R⟩ => by
    dsimp only at R
    split at R
    · rename_i xs e
      split at R
      · rename_i hl
        obtain ⟨p, ys, rfl, q, rs⟩ := tupOf_sq r e
        exact ⟨p, ys, rfl, q, by rw [← rs.length]; exact hl, φ, ls, h, xs, S, L, rs, R⟩
      · exact R.elim
    · exact R.elim
theorem g_sub {o i : Expr} {pos : Pos} {m1 m2 : LSt → LH → Res LV} (hu : X.A.units + 64 < cLine) (hs : PlainIx i) (ho : PE X o (liftE C X.K (fun _ _ _ _ => False) m1)) (hi : PE X i (liftE C X.K (fun _ _ _ _ => False) m2))
    (ha : ∀ v, assign (.Subscript o i pos) X.env v = (do
      let ov ← holding [v] (eval o X.env)
      let iv ← holding [v, ov] (eval i X.env)
      standAt pos
      holding [v, ov, iv] (setItem ov iv v)
      release [v, ov, iv] [])) :
    PG X (.Subscript o i pos) (liftG C X.K [] fun v ls h => (m1 ls h).bindN fun x h1 => (m2 ls h1).bindN fun y h2 => (pSet x y v h2).bindN fun _ h3 => .ok ls h3) :=
  (pg_sub ho hi (o_set (C := C) hu) ha).weak fun v σ H Q ⟨φ, ls, h, w, S, L, rw', R⟩ => by
    refine ⟨φ, ls, h, S, L, RSg.mono (RSg.bindN (R := RV X.K) S R) fun x H1 ⟨φ1, h1, a, st1, ra, R1⟩ => ?_⟩
    have L1 := L.carry (st1.carry S)
    refine ⟨φ1, ls, h1, st1.sim, L1, RSg.mono (RSg.bindN (R := RV X.K) st1.sim R1) fun y H2 ⟨φ2, h2, b, st2, rb, R2⟩ => ?_⟩
    have L2 := L1.carry (st2.carry st1.sim)
    refine ⟨φ2, h2, a, b, w, st2.sim, VR.carry (st2.carry st1.sim) ra, rb, VR.carry (st2.carry st1.sim) (VR.carry (st1.carry S) rw'), ?_⟩
    exact RSg.mono (RSg.bindN (R := RV X.K) st2.sim R2) fun z H3 ⟨φ3, h3, c, st3, rc, R3⟩ => R3.here st3.sim ⟨L2.carry (st3.carry st2.sim), Off.refl _ _⟩
end
end LD
end
section
set_option Elab.async false
set_option linter.all false
set_option maxRecDepth 100000
set_option autoImplicit false
/-! LDO: walks; comprehensions -/
namespace LD
open PySem L2

theorem Res.bind_assoc {α β γ : Type} (m : Res α) (f : α → LH → Res β) (g : β → LH → Res γ) : (m.bind f).bind g = m.bind fun a h => (f a h).bind g := by
  cases m <;> rfl
theorem wipe_wipe (σ : St) (vs : List Nat) : wipe (wipe σ vs) vs = wipe σ vs := by
  refine List.ext_getElem? fun i => ?_
  rw [wipe_get, wipe_get]
  by_cases h : i ∈ vs
  · rw [if_pos h, if_pos h]; cases σ[i]? <;> rfl
  · rw [if_neg h, if_neg h]

/-- an iterator that walks w -/
structure LIt (C : Cl) (K : PySem.W.Frag) (φ0 : Nat → Addr) (n0 : Nat) (H0 : Hp) (w : Wk) (J : It) : Prop where
  go : ∀ φ h H i x, Grow φ0 n0 H0 φ h.length H → Sim C K φ h H → nxW w i h = some (some x) → J.go i H ∧ ∀ v H', J.yld i H v H' → Step C K φ h H φ h H' ∧ VR K φ h.length H' x v ∧ ∀ p o, H p = some o → H' p = some o
  stop : ∀ φ h H i, Grow φ0 n0 H0 φ h.length H → Sim C K φ h H → nxW w i h = some none → J.stop i H
def RJ (C : Cl) (K : PySem.W.Frag) : RL Wk It := fun φ n H w J => LIt C K φ n H w J
def liftI (C : Cl) (K : PySem.W.Frag) (W : WX) (m : LSt → LH → Res Wk) : TI := lift C K (RJ C K) W m

section
variable {C : Cl} {K : PySem.W.Frag} {φ0 : Nat → Addr} {h0 : LH} {H0 : Hp} {xs : List LV}
theorem lit_tup {a : LV} {p : Addr} (S0 : Sim C K φ0 h0 H0) (r : VR K φ0 h0.length H0 a (.ref p)) (e : tupOf a = some xs) : LIt C K φ0 h0.length H0 (.told xs) (Itt K p) := by
  have at_ : ∀ (φ : Nat → Addr) (h : LH) (H : Hp), Grow φ0 h0.length H0 φ h.length H → ∃ ys, SqT K H p ys ∧ VRs K φ h.length H xs ys := fun φ h H g => by
    obtain ⟨q, ys, eq, sq, rs⟩ := tupOf_sq (VR.carry (g.carry fun _ hi => S0.at_ hi) r) e
    cases eq
    exact ⟨ys, sq, rs⟩
  refine ⟨fun φ h H i x g S ex => ?_, fun φ h H i g S ex => ?_⟩
  · obtain ⟨ys, sq, rs⟩ := at_ φ h H g
    obtain ⟨y, ey, ry⟩ := rs.get (Option.some.inj ex)
    refine ⟨⟨ys, y, sq, ey⟩, fun v H' ⟨e1, e2⟩ => ?_⟩
    subst e1
    have : some y = some v := ey.symm.trans (e2 ys sq)
    cases this
    exact ⟨Step.refl S, ry, fun _ _ e => e⟩
  · obtain ⟨ys, sq, rs⟩ := at_ φ h H g
    refine ⟨ys, sq, ?_⟩
    rw [← rs.length]
    exact List.getElem?_eq_none_iff.mp (Option.some.inj ex)
theorem lit_frl {p : Addr} (S0 : Sim C K φ0 h0 H0) (r : VR K φ0 h0.length H0 (.frl xs) (.ref p)) : LIt C K φ0 h0.length H0 (.told xs) (Itl K p) := by
  have at_ : ∀ (φ : Nat → Addr) (h : LH) (H : Hp), Grow φ0 h0.length H0 φ h.length H → ∃ ys, SqL K H p ys ∧ VRs K φ h.length H xs ys := fun φ h H g => by
    have r' := VR.carry (g.carry fun _ hi => S0.at_ hi) r
    unfold VR at r'
    obtain ⟨q, ys, eq, sq, rs⟩ := r'
    cases eq
    rcases sq with ⟨o, sq⟩ | sq
    · exact ⟨ys, .inl (.inr ⟨o, sq⟩), rs⟩
    · exact ⟨ys, .inr sq, rs⟩
  refine ⟨fun φ h H i x g S ex => ?_, fun φ h H i g S ex => ?_⟩
  · obtain ⟨ys, sq, rs⟩ := at_ φ h H g
    obtain ⟨y, ey, ry⟩ := rs.get (Option.some.inj ex)
    refine ⟨⟨ys, y, sq, ey⟩, fun v H' ⟨e1, e2⟩ => ?_⟩
    subst e1
    have : some y = some v := ey.symm.trans (e2 ys sq)
    cases this
    exact ⟨Step.refl S, ry, fun _ _ e => e⟩
  · obtain ⟨ys, sq, rs⟩ := at_ φ h H g
    refine ⟨ys, sq, ?_⟩
    rw [← rs.length]
    exact List.getElem?_eq_none_iff.mp (Option.some.inj ex)
theorem lit_lst {m n : Nat} (hm : m < h0.length) : LIt C K φ0 h0.length H0 (.at_ m n) (Itl K (φ0 m)) := by
  refine ⟨fun φ h H i x g S ex => ?_, fun φ h H i g S ex => ?_⟩
  · dsimp only [nxW] at ex
    split at ex
    · rename_i xs e
      obtain ⟨ys, e1, rs⟩ := lst_at S e
      rw [g.same m hm] at e1
      obtain ⟨y, ey, ry⟩ := rs.get (Option.some.inj ex)
      refine ⟨⟨ys, y, SqL.of e1, ey⟩, fun v H' ⟨e2, e3⟩ => ?_⟩
      subst e2
      have : some y = some v := ey.symm.trans (e3 ys (SqL.of e1))
      cases this
      exact ⟨Step.refl S, ry, fun _ _ e => e⟩
    · cases ex
  · dsimp only [nxW] at ex
    split at ex
    · rename_i xs e
      obtain ⟨ys, e1, rs⟩ := lst_at S e
      rw [g.same m hm] at e1
      refine ⟨ys, SqL.of e1, ?_⟩
      rw [← rs.length]
      exact List.getElem?_eq_none_iff.mp (Option.some.inj ex)
    · cases ex
theorem lit_rng {n : Nat} : LIt C K φ0 h0.length H0 (.told ((List.range n).map fun (i : Nat) => LV.int i)) (Itr 0 n) := by
  refine ⟨fun φ h H i x g S ex => ?_, fun φ h H i g S ex => ?_⟩
  · have ex := Option.some.inj ex
    rw [List.getElem?_map] at ex
    obtain ⟨j, hj, ej⟩ := Option.map_eq_some_iff.mp ex
    obtain ⟨hl, e2⟩ := List.getElem?_eq_some_iff.mp hj
    simp at hl e2
    subst e2
    refine ⟨hl, fun v H' ⟨e1, e2⟩ => ?_⟩
    subst e1 e2 ej
    refine ⟨Step.refl S, ?_, fun _ _ e => e⟩
    rw [Int.zero_add]
    exact vr_int
  · have ex := Option.some.inj ex
    have := List.getElem?_eq_none_iff.mp ex
    exact (by simpa using this : n ≤ i)
theorem lit_str {z : List Nat} : LIt C K φ0 h0.length H0 (.told (z.map fun c => .str [c])) (Its (sOf z)) := by
  refine ⟨fun φ h H i x g S ex => ?_, fun φ h H i g S ex => ?_⟩
  · have ex := Option.some.inj ex
    rw [List.getElem?_map] at ex
    obtain ⟨j, hj, ej⟩ := Option.map_eq_some_iff.mp ex
    obtain ⟨hl, e2⟩ := List.getElem?_eq_some_iff.mp hj
    refine ⟨show i < z.toArray.size by simpa using hl, fun v H' ⟨e1, c, ec, ev⟩ => ?_⟩
    have : z.toArray[i]? = some c := ec
    rw [List.getElem?_toArray, hj] at this
    cases this
    subst e1 ev ej
    exact ⟨Step.refl S, vr_str, fun _ _ e => e⟩
  · have ex := Option.some.inj ex
    have := List.getElem?_eq_none_iff.mp ex
    show z.toArray.size ≤ i
    simpa using this
end

section
variable {X : Cx} {C : Cl} {W : WX} {tg e : Expr} {m : LSt → LH → Res LV} {pos p : Pos}
/-- a value is walked -/
theorem i_val (he : PE X e (liftE C X.K W m)) : PI X tg e (liftI C X.K W fun ls h => (m ls h).bind fun v h1 => walkV v h1) := by
  refine ⟨fun pins s σ H R I ⟨φ, ls, h, S, L, x⟩ => ?_⟩
  have x' := RSg.bind (R := RV X.K) S x
  dsimp only at x x'
  revert x x'
  cases hm : m ls h with
  | bad => exact fun x _ => x.elim
  | exc c q h1 => exact fun x _ => (pi_list he).run pins s σ H R I ⟨φ, ls, h, S, L, by rw [hm]; exact x⟩
  | ok v h1 =>
    intro x x'
    have go : ∀ Q' : VK, (∀ φ' H' b, Step C X.K φ h H φ' h1 H' → VR X.K φ' h1.length H' v b → Q' b H') → liftE C X.K W m σ H Q' := fun Q' q => ⟨φ, ls, h, S, L, by rw [hm]; exact q⟩
    have rest : ∀ φ' H' b, Step C X.K φ h H φ' h1 H' → VR X.K φ' h1.length H' v b → RSg C X.K (RJ C X.K) (fun c d H' => W c d σ H') φ' h1 H' (walkV v h1) R := fun φ' H' b st rb => RSg.shift S st x
    clear x x'
    have tupc : ∀ xs, tupOf v = some xs → walkV v h1 = .ok (.told xs) h1 → wpAny (model X.prog X.w) X.A (eval e X.env) (fun v s1 => wpAny (model X.prog X.w) X.A (pyIter v) (PIE X pins σ tg R) X.xe s1) X.xe s := fun xs e1 e2 =>
      (pi_tup he).run pins s σ H R I (go _ fun φ' H' b st rb => by
        have y := rest φ' H' b st rb
        rw [e2] at y
        obtain ⟨q, ys, rfl, sq, rs⟩ := tupOf_sq rb e1
        exact ⟨q, rfl, ⟨ys, sq⟩, y.here st.sim (lit_tup st.sim rb e1)⟩)
    cases v with
    | tup xs => exact tupc xs rfl rfl
    | ktu xs => exact tupc xs rfl rfl
    | frl xs => exact (pi_list he).run pins s σ H R I (go _ fun φ' H' b st rb => by
        have y := rest φ' H' b st rb
        have rb' := rb
        unfold VR at rb'
        obtain ⟨q, ys, rfl, sq, rs⟩ := rb'
        refine ⟨q, rfl, ⟨ys, ?_⟩, RSg.here (b := Itl X.K q) st.sim y (lit_frl st.sim rb)⟩
        rcases sq with ⟨o, sq⟩ | sq
        · exact .inl (.inr ⟨o, sq⟩)
        · exact .inr sq)
    | str z => exact (pi_str he).run pins s σ H R I (go _ fun φ' H' b st rb => by
        have y := rest φ' H' b st rb
        cases rb.str
        exact ⟨sOf z, rfl, RSg.here (b := Its (sOf z)) st.sim y lit_str⟩)
    | ref i =>
      refine (pi_list he).run pins s σ H R I (go _ fun φ' H' b st rb => ?_)
      have y := rest φ' H' b st rb
      unfold walkV at y
      dsimp only at y
      split at y
      · rename_i xs ei
        obtain ⟨ys, e1, rs⟩ := lst_at st.sim ei
        unfold VR at rb
        obtain ⟨hi, rfl⟩ := rb
        exact ⟨φ' i, rfl, ⟨ys, SqL.of e1⟩, RSg.here (b := Itl X.K (φ' i)) st.sim y (lit_lst hi)⟩
      · exact y.elim
    | non => exact (pi_list he).run pins s σ H R I (go _ fun φ' H' b st rb => (rest φ' H' b st rb).elim)
    | bl b => exact (pi_list he).run pins s σ H R I (go _ fun φ' H' b st rb => (rest φ' H' b st rb).elim)
    | int b => exact (pi_list he).run pins s σ H R I (go _ fun φ' H' b st rb => (rest φ' H' b st rb).elim)
/-- range(e) -/
theorem i_rng (hg : Gl X "range") (hm : X.mg "range" = none) (hn : nst e = true) (he : PE X e (liftE C X.K W m)) : PI X tg (.Call (.Name "range" p) [e] [] pos) (liftI C X.K W fun ls h => (m ls h).bind fun v h1 => walkR v h1) := by
  have hi := pi_range1 (tg := tg) (p := p) (pos := pos) hg hm (pa_cons he pa_nil (star_cons hn)) (star_cons hn)
  refine ⟨fun pins s σ H R I x => hi.run pins s σ H R I ?_⟩
  refine lift_mono (lift_bind (R := RV X.K) (R' := RJ C X.K) (k := fun _ v h1 => walkR v h1) x) fun y H1 ⟨φ, ls, h, v, S, L, rv, R'⟩ => ?_
  show ∃ j : Int, [y] = [.int j] ∧ _
  cases v <;> first | exact R'.elim | skip
  rename_i n
  unfold walkR at R'
  dsimp only at R'
  split at R'
  · rename_i hn
    cases rv.int
    exact ⟨n, rfl, hn.1, hn.2, RSg.here (b := Itr 0 n.toNat) S R' lit_rng⟩
  · exact R'.elim
end
end LD
end
section
set_option Elab.async false
set_option linter.all false
set_option maxRecDepth 100000
set_option autoImplicit false
/-! LDP: comprehensions -/
namespace LD
open PySem L2

/-- a list that was made and that the logical heap does not tell -/
def RD (K : PySem.W.Frag) (H0 : Hp) : RL (List LV) V := fun φ n H xs v => ∃ D ys, v = .ref D ∧ H D = some (.lst ys) ∧ VRs K φ n H xs ys ∧ (∀ i, i < n → φ i ≠ D) ∧ H0 D = none
def liftD (C : Cl) (K : PySem.W.Frag) (W : WX) (m : LSt → LH → Res (List LV)) : TE := fun σ H Q =>
  ∃ φ ls h, Sim C K φ h H ∧ Loc K φ h.length H ls σ ∧ RSg C K (RD K H) (fun c d H' => W c d σ H') φ h H (m ls h) Q
/-- what was none at the end was none at the start -/
theorem Step.none_of {C : Cl} {K : PySem.W.Frag} {φ φ' : Nat → Addr} {h h' : LH} {H H' : Hp} (S : Sim C K φ h H) (st : Step C K φ h H φ' h' H') {D : Addr} (e : H' D = none) : H D = none := by
  cases eo : H D with
  | none => rfl
  | some o =>
    by_cases hx : ∃ j, j < h.length ∧ φ j = D
    · obtain ⟨j, hj, ej⟩ := hx
      obtain ⟨o2, e2⟩ := (st.sim.at_ (Nat.lt_of_lt_of_le hj st.grow.le)).some
      rw [st.grow.same j hj, ej, e] at e2; cases e2
    · have := st.grow.keep _ o eo fun j hj z => hx ⟨j, hj, z⟩
      rw [e] at this; cases this
theorem Sim.notin {C : Cl} {K : PySem.W.Frag} {φ : Nat → Addr} {h : LH} {H : Hp} (S : Sim C K φ h H) {D : Addr} (e : H D = none) : ∀ i, i < h.length → φ i ≠ D := fun i hi z => by
  obtain ⟨o, eo⟩ := (S.at_ hi).some
  rw [z, e] at eo; cases eo
/-- the raw list is carried along -/
theorem Step.raw {C : Cl} {K : PySem.W.Frag} {φ φ' : Nat → Addr} {h h' : LH} {H H' : Hp} (st : Step C K φ h H φ' h' H') {D : Addr} {o : HO} (e : H D = some o) (hn : ∀ i, i < h.length → φ i ≠ D) : H' D = some o ∧ ∀ i, i < h'.length → φ' i ≠ D := by
  refine ⟨st.grow.keep D o e hn, fun i hi z => ?_⟩
  by_cases hl : i < h.length
  · rw [st.grow.same i hl] at z; exact hn i hl z
  · have := st.grow.new i (Nat.le_of_not_lt hl) hi
    rw [z, e] at this; cases this
/-- the raw list is changed -/
theorem Step.put {C : Cl} {K : PySem.W.Frag} {φ0 φ : Nat → Addr} {h0 h : LH} {H0 H : Hp} (st : Step C K φ0 h0 H0 φ h H) {D : Addr} {ys zs : List V} (e0 : H0 D = none) (e : H D = some (.lst ys)) (hn : ∀ i, i < h.length → φ i ≠ D) :
    Step C K φ0 h0 H0 φ h (upd H D (.lst zs)) ∧ Carry φ h.length H φ h.length (upd H D (.lst zs)) := by
  obtain ⟨S, c⟩ := Step.touch (o := .lst zs) st.sim e ⟨(fun _ z => nomatch z), (fun _ _ z => nomatch z)⟩ hn
  refine ⟨⟨⟨st.grow.le, st.grow.same, fun p o ep hp => ?_, st.grow.new, fun p o u ep => ?_⟩, S⟩, c⟩
  · rw [upd_ne (ne_of_none ep e0)]; exact st.grow.keep p o ep hp
  · rw [upd_ne (ne_of_none ep e0)]; exact st.grow.frz p o u ep

section
variable {X : Cx} {C : Cl} {K : PySem.W.Frag} {W : WX} {mi : LSt → LH → Res Wk} {t : LV → LSt → LH → Res LSt} {q : LSt → LH → Res Bool} {e : LSt → LH → Res LV} {own vs : List Nat}
abbrev noW : WX := fun _ _ _ _ => False
theorem lc_read {σ : St} {H : Hp} {Q : VK} (hv : ∀ i ∈ vs, i ∈ own) (x : liftD C K W (fun ls h => (mi ls h).bind fun w h1 => compOf t q e own w ls h1) σ H Q) :
    tLc (liftI C K W mi) (liftG C K vs t) (liftT C K noW q) (liftE C K noW e) own σ H Q := by
  obtain ⟨φ, ls, h, S, L, x⟩ := x
  refine ⟨φ, ls, h, S, L, RSg.mono (RSg.bind (R := RJ C K) S x) fun J H1 ⟨φ1, h1, w, st1, lit, R1⟩ D hD => ?_⟩
  have S1 := st1.sim
  have hD0 := Step.none_of S st1 hD
  refine ⟨fun i m H' => ∃ φ' h' accL acc, Step C K φ1 h1 H1 φ' h' H' ∧ (∀ j, j < h'.length → φ' j ≠ D) ∧ H' D = some (.lst acc) ∧ VRs K φ' h'.length H' accL acc ∧ RSg C K (RD K H) (fun c d H' => W c d σ H') φ1 h1 H1 (compG w t q e (lwipe ls own) m i accL h') Q, ?_, ?_⟩
  · exact ⟨fuelW w, φ1, h1, [], [], Step.extra S1 hD, S1.notin hD, upd_same, VRs.nil, R1⟩
  · rintro i m H2 ⟨φ2, h2, accL, acc, st2, hn2, eD2, racc, R2⟩
    have S2 := st2.sim
    have L2 : Loc K φ2 h2.length H2 (lwipe ls own) (wipe σ own) := (L.carry (Step.carry S (Step.trans S st1 st2))).wipe own
    cases en : nxW w i h2 with
    | none =>
      cases m <;> (unfold compG at R2; rw [en] at R2; exact R2.elim)
    | some on =>
      cases on with
      | none =>
        refine .inl ⟨lit.stop φ2 h2 H2 i st2.grow S2 en, ?_⟩
        have R3 : RSg C K (RD K H) (fun c d H' => W c d σ H') φ1 h1 H1 (.ok accL h2) Q := by
          cases m <;> (unfold compG at R2; rw [en] at R2; exact R2)
        exact R3 φ2 H2 _ st2 ⟨D, acc, rfl, eD2, racc, hn2, hD0⟩
      | some a =>
        cases m with
        | zero => unfold compG at R2; rw [en] at R2; exact R2.elim
        | succ m =>
          unfold compG at R2; rw [en] at R2
          dsimp only at R2
          obtain ⟨g1, g2⟩ := lit.go φ2 h2 H2 i a st2.grow S2 en
          refine .inr ⟨g1, fun H' => ∃ φ' h' accL acc, Step C K φ1 h1 H1 φ' h' H' ∧ (∀ j, j < h'.length → φ' j ≠ D) ∧ H' D = some (.lst acc) ∧ VRs K φ' h'.length H' accL acc ∧ RSg C K (RD K H) (fun c d H' => W c d σ H') φ1 h1 H1 (compG w t q e (lwipe ls own) m (i + 1) accL h') Q, fun H' z => ⟨m, Nat.lt_succ_self m, z⟩, fun v H3 yl => ?_⟩
          obtain ⟨st3, rv, kp⟩ := g2 v H3 yl
          have S3 := st3.sim
          have c3 := st3.carry S2
          refine ⟨φ2, lwipe ls own, h2, a, S3, L2.carry c3, rv, RSg.mono (RSg.turn (R := RLo K vs (wipe σ own)) R2) fun τ H4 ⟨φ4, h4, ls4, st4, ⟨L4, o4⟩, R4⟩ => ⟨?_, ?_⟩⟩
          · rw [(o4.sub hv).wipe, wipe_wipe]
          · have S4 := st4.sim
            refine ⟨φ4, ls4, h4, S4, L4, RSg.mono (RSg.turn (R := RB) R4) fun b H5 ⟨φ5, h5, b', st5, rb, R5⟩ => ?_⟩
            cases rb
            have st25 := Step.trans S2 st3 (Step.trans S3 st4 st5)
            have S5 := st5.sim
            obtain ⟨eD5, hn5⟩ := st25.raw eD2 hn2
            have racc5 := VRs.carry (st25.carry S2) racc
            have st15 := Step.trans S1 st2 st25
            cases b with
            | false => exact ⟨φ5, h5, accL, acc, st15, hn5, eD5, racc5, R5⟩
            | true =>
              refine ⟨φ5, ls4, h5, S5, L4.carry (st5.carry S4), RSg.mono (RSg.turn (R := RV K) R5) fun y H6 ⟨φ6, h6, lv, st6, ry, R6⟩ => ?_⟩
              obtain ⟨eD6, hn6⟩ := st6.raw eD5 hn5
              have racc6 := VRs.carry (st6.carry S5) racc5
              have st16 := Step.trans S1 st15 st6
              split at R6
              · rename_i hl
                refine ⟨acc, eD6, by rw [← racc6.length, sizeLine_eq]; exact hl, ?_⟩
                obtain ⟨st17, c7⟩ := Step.put (zs := acc ++ [y]) st16 hD eD6 hn6
                exact ⟨φ6, h6, accL ++ [lv], acc ++ [y], st17, hn6, upd_same, (VRs.append racc6 (VRs.cons ry VRs.nil)).carry c7, R6⟩
              · exact R6.elim
/-- the list is kept -/
theorem w_keep {σ : St} {H : Hp} {Q : VK} {m : LSt → LH → Res (List LV)} (x : liftE C K W (fun ls h => (m ls h).bind fun xs h1 => newL xs h1) σ H Q) : liftD C K W m σ H Q := by
  obtain ⟨φ, ls, h, S, L, x⟩ := x
  refine ⟨φ, ls, h, S, L, ?_⟩
  dsimp only at x
  revert x
  cases m ls h with
  | bad => exact fun x => x
  | exc c p h1 => exact fun x => x
  | ok xs h1 =>
    intro x φ' H' b st r
    obtain ⟨D, ys, rfl, eD, rs, hn, h0⟩ := r
    have x' : RSg C K (RV K) (fun c d H' => W c d σ H') φ h H (newL xs h1) Q := x
    unfold newL at x'
    split at x'
    · refine x' (ext φ' h1.length D) H' (.ref D) ?_ ?_
      · have en : ext φ' h1.length D h1.length = D := by unfold ext; rw [if_pos rfl]
        have eo : ∀ i, i < h1.length → ext φ' h1.length D i = φ' i := fun i hi => by unfold ext; rw [if_neg (Nat.ne_of_lt hi)]
        have c : Carry φ' h1.length H' (ext φ' h1.length D) (h1.length + 1) H' := ⟨Nat.le_succ _, eo, fun _ _ e => e, fun _ _ _ e => e⟩
        have hl : (h1 ++ [LO.lst xs]).length = h1.length + 1 := by simp
        refine ⟨⟨by rw [hl]; exact Nat.le_succ_of_le st.grow.le, fun i hi => ?_, fun p o ep hp => st.grow.keep p o ep hp, fun i h2 h3 => ?_, st.grow.frz⟩, ⟨fun i j hi hj e => ?_, fun i u e => ?_⟩⟩
        · rw [eo i (Nat.lt_of_lt_of_le hi st.grow.le), st.grow.same i hi]
        · by_cases hi : i < h1.length
          · rw [eo i hi]; exact st.grow.new i h2 hi
          · have : i = h1.length := by rw [hl] at h3; omega
            subst this; rw [en]; exact h0
        · rw [hl] at hi hj
          by_cases h2 : i = h1.length
          · by_cases h3 : j = h1.length
            · rw [h2, h3]
            · rw [h2, en, eo j (by omega)] at e
              exact absurd e.symm (hn j (by omega))
          · by_cases h3 : j = h1.length
            · rw [h3, en, eo i (by omega)] at e
              exact absurd e (hn i (by omega))
            · rw [eo i (by omega), eo j (by omega)] at e
              exact st.sim.inj i j (by omega) (by omega) e
        · rw [hl]
          by_cases h2 : i < h1.length
          · rw [List.getElem?_append_left h2] at e
            rw [eo i h2]
            exact (st.sim.obj i u e).carry c fun o q => q
          · have h3 : i = h1.length := by
              have := (List.getElem?_eq_some_iff.mp e).1
              rw [hl] at this; omega
            subst h3
            rw [List.getElem?_append_right (Nat.le_refl _)] at e
            simp at e
            subst e
            rw [en]
            exact ⟨ys, eD, VRs.carry c rs⟩
      · unfold VR
        refine ⟨by simp, ?_⟩
        unfold ext; rw [if_pos rfl]
    · exact x'.elim
/-- the list is handed to all, any, sum -/
def ckNm : Ck → String
  | .all => "all"
  | .any => "any"
  | _ => "sum"
def ckR (K : PySem.W.Frag) : Ck → List V → Hp → VK → Prop
  | .all => rAll K
  | .any => rAny K
  | _ => rSum K
theorem ck_ok (hc : X.calm = true) (k : Ck) : CallR X (.builtin (ckNm k)) (ckR X.K k) := by
  cases k
  · exact cr_sum hc
  · exact cr_all hc
  · exact cr_any hc
  · exact cr_sum hc
theorem ck_boot (k : Ck) : bootBuiltins (ckNm k : Str) = some (.builtin (ckNm k)) := by cases k <;> rfl
theorem ck_nm (b : Ck) : (ckNm b : Str) ≠ ("__name__" : Str) ∧ ((ckNm b : Str) == ("__debug__" : Str)) = false := by cases b <;> decide
theorem w_ck {σ : St} {H : Hp} {Q : VK} {m : LSt → LH → Res (List LV)} (k : Ck) (hk : k ≠ .keep) (x : liftE C K W (fun ls h => (m ls h).bind fun xs h1 => pC k xs h1) σ H Q) : liftD C K W m σ H fun v H1 => ckR K k [v] H1 Q := by
  obtain ⟨φ, ls, h, S, L, x⟩ := x
  refine ⟨φ, ls, h, S, L, ?_⟩
  dsimp only at x
  revert x
  cases m ls h with
  | bad => exact fun x => x
  | exc c p h1 => exact fun x => x
  | ok xs h1 =>
    intro x φ' H' b st r
    obtain ⟨D, ys, rfl, eD, rs, hn, h0⟩ := r
    have x' : RSg C K (RV K) (fun c d H' => W c d σ H') φ h H (pC k xs h1) Q := x
    unfold pC at x'
    cases k with
    | keep => exact absurd rfl hk
    | all =>
      dsimp only at x'
      split at x'
      · rename_i bs eb
        refine ⟨D, bs, rfl, SqL.of ?_, x' φ' H' _ st vr_bl⟩
        rw [eD, bls_V rs eb]
      · exact x'.elim
    | any =>
      dsimp only at x'
      split at x'
      · rename_i bs eb
        refine ⟨D, bs, rfl, SqL.of ?_, x' φ' H' _ st vr_bl⟩
        rw [eD, bls_V rs eb]
      · exact x'.elim
    | sum =>
      dsimp only at x'
      split at x'
      · rename_i bs eb
        refine ⟨D, bs, rfl, SqL.of ?_, x' φ' H' _ st vr_int⟩
        rw [eD, ints_V rs eb]
      · exact x'.elim
end

section
variable {X : Cx} {C : Cl} {W : WX} {tg elt iter : Expr} {ifs : List Expr} {scope : Scope} {own : List (Str × Nat)} {vs : List Nat} {pos : Pos} {mi : LSt → LH → Res Wk} {t : LV → LSt → LH → Res LSt} {q : LSt → LH → Res Bool} {e : LSt → LH → Res LV}
theorem _root_.L2.PTs.weak {X : Cx} {e : List Expr} {t t' : TT} (h : PTs X e t) (w : ∀ σ H Q, t' σ H Q → t σ H Q) : PTs X e t' := ⟨fun pins s σ H Q I q => h.run pins s σ H Q I (w σ H Q q)⟩
def nset : Expr → Bool
  | .Set _ _ _ => false
  | _ => true
theorem fold_of {e : Expr} {env : Env} (h : nset e = true) : ∀ x, foldedSetIterable e env x = pure x := fun x => by
  cases e <;> first | rfl | cases h
/-- a comprehension -/
theorem k_lc (hc : X.calm = true) (hN : X.N.Nodup) (hs : nset iter = true) (hi : PI X tg iter (liftI C X.K W mi)) (ok : BlkOk X.N X.env.scope scope own) (hv : ∀ i ∈ vs, i ∈ own.map (·.2))
    (hg : ∀ (s : Shared) (H : Hp) (A : Addr) (cl : List (Str × Addr)) (fp : List Addr), PG (X.blk s H scope (compEnvC scope cl A X.env) fp) tg (liftG C X.K vs t))
    (ht : ∀ (s : Shared) (H : Hp) (A : Addr) (cl : List (Str × Addr)) (fp : List Addr), PTs (X.blk s H scope (compEnvC scope cl A X.env) fp) ifs (liftT C X.K noW q))
    (he : ∀ (s : Shared) (H : Hp) (A : Addr) (cl : List (Str × Addr)) (fp : List Addr), PE (X.blk s H scope (compEnvC scope cl A X.env) fp) elt (liftE C X.K noW e)) :
    PE X (.ListComp elt [⟨tg, iter, ifs, 0⟩] scope pos) (liftD C X.K W fun ls h => (mi ls h).bind fun w h1 => compOf t q e (own.map (·.2)) w ls h1) :=
  (pe_lc hc hN hi ok hg ht he (fold_of hs)).weak fun σ H Q x => lc_read hv x
theorem k_keep {m : LSt → LH → Res (List LV)} {a : Expr} (h : PE X a (liftD C X.K W m)) : PE X a (liftE C X.K W fun ls h => (m ls h).bind fun xs h1 => pC .keep xs h1) := h.weak fun σ H Q x => w_keep x
theorem k_ck {m : LSt → LH → Res (List LV)} {a : Expr} {p : Pos} (k : Ck) (hk : k ≠ .keep) (hc : X.calm = true) (hg : Gl X (ckNm k : Str)) (hm : X.mg (ckNm k : Str) = none) (hn : nst a = true) (h : PE X a (liftD C X.K W m)) :
    PE X (.Call (.Name (ckNm k : Str) p) [a] [] pos) (liftE C X.K W fun ls h => (m ls h).bind fun xs h1 => pC k xs h1) :=
  (pe_callB (ck_ok hc k) hg hm (ck_boot k) (pa_cons h pa_nil (star_cons hn)) (ck_nm k).1 (ck_nm k).2 (star_cons hn) rfl).weak fun σ H Q x => by
    obtain ⟨φ, ls, h', S, L, y⟩ := w_ck k hk x
    exact ⟨φ, ls, h', S, L, y⟩
end
end LD
end
section
set_option Elab.async false
set_option linter.all false
set_option maxRecDepth 100000
set_option autoImplicit false
/-! LDQ: dicts walked (locked while they are) -/
namespace LD
open PySem L2

theorem KRs.at_ {κ : Type} {ko : LV → Option κ} {K : PySem.W.Frag} {φ : Nat → Addr} {n : Nat} {H : Hp} : ∀ {kvs : List (LV × LV)} {ys : List (κ × V)} {i : Nat} {kv : LV × LV}, KRs ko K φ n H kvs ys → kvs[i]? = some kv → ∃ k v, ys[i]? = some (k, v) ∧ ko kv.1 = some k ∧ VR K φ n H kv.2 v
  | [], _, _, _, _, e => by simp at e
  | (k, x) :: kvs, ys, 0, kv, r, e => by
    unfold KRs at r
    obtain ⟨k', y, zs, rfl, r1, r2, r3⟩ := r
    simp at e; subst e
    exact ⟨k', y, by simp, r1, r2⟩
  | (k, x) :: kvs, ys, i + 1, kv, r, e => by
    unfold KRs at r
    obtain ⟨k', y, zs, rfl, r1, r2, r3⟩ := r
    simp at e
    obtain ⟨k2, v2, e1, e2, e3⟩ := KRs.at_ r3 e
    exact ⟨k2, v2, by simpa using e1, e2, e3⟩

section
variable {C : Cl} {K : PySem.W.Frag} {φ0 : Nat → Addr} {h0 : LH} {H0 : Hp} {kvs : List (LV × LV)} {d : Addr} {o : Obj} {ys : List (Key × V)}
theorem lit_items (S0 : Sim C K φ0 h0 H0) (e : H0 d = some (.frz o (.dK ys))) (r : KRs keyOf K φ0 h0.length H0 kvs ys) : LIt C K φ0 h0.length H0 (.told (kvs.map fun kv => .tup [kv.1, kv.2])) (Iti d o ys) := by
  refine ⟨fun φ h H i x g S ex => ?_, fun φ h H i g S ex => ?_⟩
  · have ex := Option.some.inj ex
    rw [List.getElem?_map] at ex
    obtain ⟨kv, hj, rfl⟩ := Option.map_eq_some_iff.mp ex
    have r' := KRs.carry (g.carry fun _ hi => S0.at_ hi) r
    obtain ⟨k, v, e1, e2, e3⟩ := r'.at_ hj
    refine ⟨⟨g.frz _ _ _ e, (List.getElem?_eq_some_iff.mp e1).1⟩, fun u H' ⟨T, k2, v2, ek, eu, hT, eH⟩ => ?_⟩
    rw [e1] at ek; cases ek
    subst eu eH
    have st := Step.extra (o := .tup [kV k, v]) S hT
    refine ⟨st, vr_tup upd_same (VRs.cons (vr_key _ _ e2) (VRs.cons (VR.carry (st.carry S) e3) VRs.nil)), fun p o ep => by rw [upd_ne (ne_of_none ep hT)]; exact ep⟩
  · have ex := List.getElem?_eq_none_iff.mp (Option.some.inj ex)
    refine ⟨g.frz _ _ _ e, ?_⟩
    rw [← r.length]
    simpa using ex
theorem lit_vals (S0 : Sim C K φ0 h0 H0) (e : H0 d = some (.frz o (.dK ys))) (r : KRs keyOf K φ0 h0.length H0 kvs ys) : LIt C K φ0 h0.length H0 (.told (kvs.map (·.2))) (Itd d o ys) := by
  refine ⟨fun φ h H i x g S ex => ?_, fun φ h H i g S ex => ?_⟩
  · have ex := Option.some.inj ex
    rw [List.getElem?_map] at ex
    obtain ⟨kv, hj, rfl⟩ := Option.map_eq_some_iff.mp ex
    have r' := KRs.carry (g.carry fun _ hi => S0.at_ hi) r
    obtain ⟨k, v, e1, e2, e3⟩ := r'.at_ hj
    refine ⟨⟨g.frz _ _ _ e, (List.getElem?_eq_some_iff.mp e1).1⟩, fun u H' ⟨eH, k2, ek⟩ => ?_⟩
    rw [e1] at ek; cases ek
    subst eH
    exact ⟨Step.refl S, e3, fun _ _ e => e⟩
  · have ex := List.getElem?_eq_none_iff.mp (Option.some.inj ex)
    refine ⟨g.frz _ _ _ e, ?_⟩
    rw [← r.length]
    simpa using ex
theorem lit_keys (S0 : Sim C K φ0 h0 H0) (e : H0 d = some (.frz o (.dK ys))) (r : KRs keyOf K φ0 h0.length H0 kvs ys) : LIt C K φ0 h0.length H0 (.told (kvs.map (·.1))) (Itk d o ys) := by
  refine ⟨fun φ h H i x g S ex => ?_, fun φ h H i g S ex => ?_⟩
  · have ex := Option.some.inj ex
    rw [List.getElem?_map] at ex
    obtain ⟨kv, hj, rfl⟩ := Option.map_eq_some_iff.mp ex
    have r' := KRs.carry (g.carry fun _ hi => S0.at_ hi) r
    obtain ⟨k, v, e1, e2, e3⟩ := r'.at_ hj
    refine ⟨⟨g.frz _ _ _ e, (List.getElem?_eq_some_iff.mp e1).1⟩, fun u H' ⟨eH, k2, v2, ek, eu⟩ => ?_⟩
    rw [e1] at ek; cases ek
    subst eH eu
    exact ⟨Step.refl S, vr_key _ _ e2, fun _ _ e => e⟩
  · have ex := List.getElem?_eq_none_iff.mp (Option.some.inj ex)
    refine ⟨g.frz _ _ _ e, ?_⟩
    rw [← r.length]
    simpa using ex
/-- a locked dict, by its value -/
theorem walkD_at {φ : Nat → Addr} {h : LH} {H : Hp} {k m : Nat} {v : LV} {x : V} {E : XK} {Q : It → Hp → Prop} (S : Sim C K φ h H) (rv : VR K φ h.length H v x) (R : RSg C K (RJ C K) E φ h H (walkD k m v h) Q) :
    ∃ d o ys kvs, x = .ref d ∧ H d = some (.frz o (.dK ys)) ∧ KRs keyOf K φ h.length H kvs ys ∧ ∀ J, LIt C K φ h.length H (.told (match k with
      | 0 => kvs.map (·.1)
      | 1 => kvs.map (·.2)
      | _ => kvs.map fun kv => .tup [kv.1, kv.2])) J → Q J H := by
  unfold walkD at R
  split at R
  · rename_i i
    split at R
    · rename_i hi
      split at R
      · rename_i kvs e
        obtain ⟨o, ys, e1, r⟩ := S.obj i _ e
        unfold VR at rv
        obtain ⟨_, rfl⟩ := rv
        exact ⟨φ i, o, ys, kvs, rfl, e1, r, fun J l => R.here S l⟩
      · exact R.elim
    · exact R.elim
  · exact R.elim
end
section
variable {X : Cx} {C : Cl} {W : WX} {tg e : Expr} {m : LSt → LH → Res LV} {pos p apos : Pos} {elts : List Expr} {kk : Nat} {tpos : Pos}
theorem i_items {d : Nat} (hb : nsup e = true) (hl : (apos.endLine == pos.line) = true) (he : PE X e (liftE C X.K W m)) : PI X (.Tuple elts kk tpos) (.Call (.Attribute e "items" apos) [] [] pos) (liftI C X.K W fun ls h => (m ls h).bind fun v h1 => walkD 2 d v h1) := by
  have hi := pi_items (elts := elts) (kk := kk) (tpos := tpos) (cpos := pos) he (base_of hb _) hl
  refine ⟨fun pins s σ H R I x => hi.run pins s σ H R I (lift_mono (lift_bind (R := RV X.K) (R' := RJ C X.K) (k := fun _ v h1 => walkD 2 d v h1) x) fun y H1 ⟨φ, ls, h, v, S, L, rv, R'⟩ => ?_)⟩
  obtain ⟨d, o, ys, kvs, rfl, e1, r, q⟩ := walkD_at S rv R'
  exact ⟨d, o, ys, rfl, e1, q _ (lit_items S e1 r)⟩
theorem i_vals {d : Nat} (hb : nsup e = true) (hl : (apos.endLine == pos.line) = true) (he : PE X e (liftE C X.K W m)) : PI X tg (.Call (.Attribute e "values" apos) [] [] pos) (liftI C X.K W fun ls h => (m ls h).bind fun v h1 => walkD 1 d v h1) := by
  have hi := pi_values (tg := tg) (cpos := pos) he (base_of hb _) hl
  refine ⟨fun pins s σ H R I x => hi.run pins s σ H R I (lift_mono (lift_bind (R := RV X.K) (R' := RJ C X.K) (k := fun _ v h1 => walkD 1 d v h1) x) fun y H1 ⟨φ, ls, h, v, S, L, rv, R'⟩ => ?_)⟩
  obtain ⟨d, o, ys, kvs, rfl, e1, r, q⟩ := walkD_at S rv R'
  exact ⟨d, o, ys, rfl, e1, q _ (lit_vals S e1 r)⟩
theorem i_keys {d : Nat} (he : PE X e (liftE C X.K W m)) : PI X tg e (liftI C X.K W fun ls h => (m ls h).bind fun v h1 => walkD 0 d v h1) := by
  have hi := pi_keys (tg := tg) he
  refine ⟨fun pins s σ H R I x => hi.run pins s σ H R I (lift_mono (lift_bind (R := RV X.K) (R' := RJ C X.K) (k := fun _ v h1 => walkD 0 d v h1) x) fun y H1 ⟨φ, ls, h, v, S, L, rv, R'⟩ => ?_)⟩
  obtain ⟨d, o, ys, kvs, rfl, e1, r, q⟩ := walkD_at S rv R'
  exact ⟨d, o, rfl, .inl ⟨ys, e1, q _ (lit_keys S e1 r)⟩⟩
end

/-! ### the lock -/
section
variable {C : Cl} {K : PySem.W.Frag} {φ φ' : Nat → Addr} {h h1 : LH} {H H' : Hp} {m : Nat}
theorem lock_at (S : Sim C K φ h H) {r : Res LV} {h0 : LH} (e : lockAt r h = some (m, h0)) : m < h.length ∧ ∃ u, H (φ m) = some u ∧ Mut (some u) ∧ (∀ ob w, u ≠ .frz ob w) ∧ ((∃ ys, u = .dK ys) ∨ ∃ ys, u = .dT ys) ∧
    ∀ od, Step C K φ h H φ h0 (upd H (φ m) (.frz od u)) := by
  unfold lockAt at e
  split at e
  · rename_i i h'
    split at e
    · rename_i kvs ei
      cases e
      obtain ⟨ys, e1, r1⟩ := S.obj _ _ ei
      have hi : m < h.length := (List.getElem?_eq_some_iff.mp ei).1
      exact ⟨hi, _, e1, trivial, (fun _ _ z => nomatch z), .inl ⟨ys, rfl⟩, fun od => Step.write S hi (fun _ _ z => by rw [e1] at z; cases z) fun H2 c e2 => ⟨od, ys, e2, r1.carry c⟩⟩
    · rename_i kvs ei
      cases e
      obtain ⟨ys, e1, r1⟩ := S.obj _ _ ei
      have hi : m < h.length := (List.getElem?_eq_some_iff.mp ei).1
      exact ⟨hi, _, e1, trivial, (fun _ _ z => nomatch z), .inr ⟨ys, rfl⟩, fun od => Step.write S hi (fun _ _ z => by rw [e1] at z; cases z) fun H2 c e2 => ⟨od, ys, e2, r1.carry c⟩⟩
    · cases e
  · cases e
/-- the lock is taken away -/
theorem unlock_step {u : HO} {od : Obj} {h0 h2 : LH} (S : Sim C K φ h H) (hm : m < h.length) (e : H (φ m) = some u) (hz : ∀ ob w, u ≠ .frz ob w) (hu : (∃ ys, u = .dK ys) ∨ ∃ ys, u = .dT ys) (hl : h0.length = h.length)
    (st : Step C K φ h0 (upd H (φ m) (.frz od u)) φ' h1 H') (eu : unlockL m h1 = some h2) :
    H' (φ m) = some (.frz od u) ∧ Step C K φ h H φ' h2 (upd H' (φ m) u) ∧ Carry φ' h1.length H' φ' h2.length (upd H' (φ m) u) ∧ h2.length = h1.length := by
  have ef : H' (φ m) = some (.frz od u) := st.grow.frz _ _ _ upd_same
  have hsm : φ' m = φ m := st.grow.same m (by rw [hl]; exact hm)
  have hm1 : m < h1.length := Nat.lt_of_lt_of_le (by rw [hl]; exact hm) st.grow.le
  have hlen : h2.length = h1.length ∧ ∃ lo, h2 = h1.set m lo ∧ ∀ H2, Carry φ' h1.length H' φ' h1.length H2 → H2 (φ m) = some u → OR C K φ' h1.length H2 (φ m) lo := by
    unfold unlockL at eu
    split at eu
    · rename_i kvs ei
      cases eu
      obtain ⟨o, ys, e1, r⟩ := st.sim.obj m _ ei
      rw [hsm, ef] at e1
      cases e1
      exact ⟨by simp, _, rfl, fun H2 c e2 => ⟨ys, e2, r.carry c⟩⟩
    · rename_i kvs ei
      cases eu
      obtain ⟨o, ys, e1, r⟩ := st.sim.obj m _ ei
      rw [hsm, ef] at e1
      cases e1
      exact ⟨by simp, _, rfl, fun H2 c e2 => ⟨ys, e2, r.carry c⟩⟩
    · cases eu
  obtain ⟨hl2, lo, rfl, hlo⟩ := hlen
  have c : Carry φ' h1.length H' φ' h1.length (upd H' (φ m) u) := by
    refine ⟨Nat.le_refl _, fun _ _ => rfl, fun q xs eq => ?_, fun q ob xs eq => ?_⟩
    · rw [upd_ne (fun z => by rw [z, ef] at eq; cases eq)]; exact eq
    · rw [upd_ne (fun z => by
        rw [z, ef] at eq
        rcases hu with ⟨ys, rfl⟩ | ⟨ys, rfl⟩ <;> cases eq)]
      exact eq
  refine ⟨ef, ⟨⟨?_, fun i hi => ?_, fun p o ep hp => ?_, fun i i1 i2 => ?_, fun p o w ep => ?_⟩, ⟨fun i j hi hj eij => ?_, fun j lo' ej => ?_⟩⟩, by rw [hl2]; exact c, hl2⟩
  · rw [hl2, ← hl]; exact st.grow.le
  · exact st.grow.same i (by rw [hl]; exact hi)
  · have hne : p ≠ φ m := fun z => hp m hm z.symm
    rw [upd_ne hne]
    exact st.grow.keep p o (by rw [upd_ne hne]; exact ep) fun i hi => hp i (by rw [← hl]; exact hi)
  · have := st.grow.new i (by rw [hl]; exact i1) (by rw [← hl2]; exact i2)
    by_cases hne : φ' i = φ m
    · rw [hne, upd_same] at this; cases this
    · rw [upd_ne hne] at this; exact this
  · have hne : p ≠ φ m := fun z => by rw [z, e] at ep; exact hz _ _ (Option.some.inj ep)
    rw [upd_ne hne]
    exact st.grow.frz p o w (by rw [upd_ne hne]; exact ep)
  · exact st.sim.inj i j (by rw [← hl2]; exact hi) (by rw [← hl2]; exact hj) eij
  · rw [hl2]
    by_cases hjm : j = m
    · subst hjm
      rw [List.getElem?_set_self hm1] at ej
      cases ej
      rw [hsm]
      exact hlo _ c upd_same
    · rw [List.getElem?_set_ne (Ne.symm hjm)] at ej
      refine (st.sim.obj j lo' ej).carry c fun o q => ?_
      have hj : j < h1.length := (List.getElem?_eq_some_iff.mp ej).1
      rw [upd_ne (fun z => hjm (st.sim.inj j m hj hm1 (by rw [hsm]; exact z)))]
      exact q
/-- locked, run, unlocked -/
def lockM {α : Type} (me : LSt → LH → Res LV) (mr : Nat → LSt → LH → Res α) : LSt → LH → Res α := fun ls h => match lockAt (me ls h) h with
  | some (m, h0) => unlockR m (mr m ls h0)
  | none => .bad
theorem lockAt_len {r : Res LV} {h h0 : LH} {m : Nat} (e : lockAt r h = some (m, h0)) : h0.length = h.length := by
  unfold lockAt at e
  split at e
  · split at e <;> cases e <;> simp
  · cases e
theorem w_lockD {W : WX} {σ : St} {H : Hp} {Q : VK} {me : LSt → LH → Res LV} {mr : Nat → LSt → LH → Res (List LV)} (x : liftD C K W (lockM me mr) σ H Q) : tLockE (fun σ H Q => ∃ m, liftD C K noW (mr m) σ H Q) σ H Q := by
  obtain ⟨φ, ls, h, S, L, x⟩ := x
  unfold lockM at x
  split at x
  · rename_i m h0 el
    obtain ⟨hm, u, e1, mu, hz, hu, stp⟩ := lock_at S el
    refine ⟨φ m, u, e1, mu, fun od => ⟨m, φ, ls, h0, (stp od).sim, L.carry ((stp od).carry S), ?_⟩⟩
    revert x
    cases mr m ls h0 with
    | bad => exact fun x => x
    | exc c p h1 => exact fun x => x.elim
    | ok xs h1 =>
      intro x φ' H' b st r
      have x' : RSg C K (RD K H) (fun c d H' => W c d σ H') φ h H (match unlockL m h1 with
        | some h' => .ok xs h'
        | none => .bad) Q := x
      split at x'
      · rename_i h2 eu
        obtain ⟨ef, st2, ca, hl2⟩ := unlock_step S hm e1 hz hu (lockAt_len el) st eu
        obtain ⟨D, ys, rfl, eD, rs, hn, hD0⟩ := r
        have hne : D ≠ φ m := fun z => by rw [z, ef] at eD; cases eD
        refine ⟨ef, x' φ' _ _ st2 ⟨D, ys, rfl, by rw [upd_ne hne]; exact eD, VRs.carry ca rs, by rw [hl2]; exact hn, by rw [upd_ne hne] at hD0; exact hD0⟩⟩
      · exact x'.elim
  · exact x.elim
end
theorem k_lockD {X : Cx} {C : Cl} {W : WX} {a : Expr} {me : LSt → LH → Res LV} {mr : Nat → LSt → LH → Res (List LV)} (h : ∀ m, PE X a (liftD C X.K noW (mr m))) : PE X a (liftD C X.K W (lockM me mr)) :=
  (pe_lock (t := fun σ H Q => ∃ m, liftD C X.K noW (mr m) σ H Q) ⟨fun pins s σ H Q I ⟨m, q⟩ => (h m).run pins s σ H Q I q⟩).weak fun σ H Q x => w_lockD x
end LD
end
section
set_option Elab.async false
set_option linter.all false
set_option maxRecDepth 100000
set_option autoImplicit false
/-! LDR: statements -/
namespace LD
open PySem L2

theorem Paired_rev {xs : List V} {us : List Value} (r : Vals xs us) : Vals xs.reverse us.reverse := by
  induction r with
  | nil => exact .nil
  | cons p _ ih => simp only [List.reverse_cons]; exact Vals.append ih (.cons p .nil)

/-- what is wanted behind a run of statements -/
def SSg (C : Cl) (K : PySem.W.Frag) (W : WX) (φ : Nat → Addr) (h : LH) (H : Hp) (r : SR) (D : Ends) : Prop :=
  match r with
  | .nx ls h' => ∀ φ' H' σ', Step C K φ h H φ' h' H' → Loc K φ' h'.length H' ls σ' → D.nx σ' H'
  | .rt v h' => ∀ φ' H' v', Step C K φ h H φ' h' H' → VR K φ' h'.length H' v v' → D.rt v' H'
  | .ct ls h' => ∀ φ' H' σ', Step C K φ h H φ' h' H' → Loc K φ' h'.length H' ls σ' → D.ct σ' H'
  | .exc c p ls h' => ∀ φ' H' d σ', Step C K φ h H φ' h' H' → ExR K φ' h'.length H' p d → Loc K φ' h'.length H' ls σ' → W (.ref (C.xA c)) d σ' H'
  | .bad => False
def liftS (C : Cl) (K : PySem.W.Frag) (W : WX) (m : LSt → LH → SR) : TS := fun D σ H => ∃ φ ls h, Sim C K φ h H ∧ Loc K φ h.length H ls σ ∧ SSg C K W φ h H (m ls h) D

section
variable {C : Cl} {K : PySem.W.Frag} {W : WX} {φ φ0 : Nat → Addr} {h h0 : LH} {H H0 : Hp} {ls : LSt} {σ : St} {D : Ends}
theorem SSg.shift {φ' : Nat → Addr} {h' : LH} {H' : Hp} {r : SR} (S : Sim C K φ h H) (st : Step C K φ h H φ' h' H') (x : SSg C K W φ h H r D) : SSg C K W φ' h' H' r D := by
  cases r with
  | nx ls h2 => exact fun a b c s t => x a b c (Step.trans S st s) t
  | rt v h2 => exact fun a b c s t => x a b c (Step.trans S st s) t
  | ct ls h2 => exact fun a b c s t => x a b c (Step.trans S st s) t
  | exc c p ls h2 => exact fun a b c d s t u => x a b c d (Step.trans S st s) t u
  | bad => exact x
theorem SSg.toS {α β : Type} {R : RL α β} {m : Res α} {k : α → LH → SR} (S : Sim C K φ h H) (L : Loc K φ h.length H ls σ) (x : SSg C K W φ h H (m.toS ls k) D) :
    RSg C K R (fun c d H' => W c d σ H') φ h H m fun b H1 => ∃ φ1 h1 a, Step C K φ h H φ1 h1 H1 ∧ R φ1 h1.length H1 a b ∧ SSg C K W φ1 h1 H1 (k a h1) D := by
  cases m with
  | ok a h2 => exact fun φ2 H2 b s t => ⟨φ2, h2, a, s, t, SSg.shift S s x⟩
  | exc c p h2 => exact fun φ2 H2 d s t => x φ2 H2 d σ s t (L.carry (s.carry S))
  | bad => exact x
theorem SSg.nx_here {ls' : LSt} {σ' : St} (S : Sim C K φ h H) (L : Loc K φ h.length H ls' σ') (x : SSg C K W φ h H (.nx ls' h) D) : D.nx σ' H := x φ H σ' (Step.refl S) L
end

section
variable {X : Cx} {C : Cl} {W : WX} {e c : Expr} {m mc : LSt → LH → Res LV} {pos : Pos} {st : Stmt} {sts a b : List Stmt} {ms ms' : LSt → LH → SR} {K : PySem.W.Frag}
/-- the value, then the rest -/
theorem ts_val {k : LSt → LV → LH → SR} {D : Ends} {σ : St} {H : Hp} (x : liftS C K W (fun ls h => (m ls h).toS ls (k ls)) D σ H) :
    liftE C K W m σ H fun v H1 => ∃ φ1 ls h1 a, Sim C K φ1 h1 H1 ∧ Loc K φ1 h1.length H1 ls σ ∧ VR K φ1 h1.length H1 a v ∧ SSg C K W φ1 h1 H1 (k ls a h1) D := by
  obtain ⟨φ, ls, h, S, L, x⟩ := x
  exact ⟨φ, ls, h, S, L, RSg.mono (SSg.toS (R := RV K) S L x) fun b H1 ⟨φ1, h1, a, st, r, y⟩ => ⟨φ1, ls, h1, a, st.sim, L.carry (st.carry S), r, y⟩⟩
def ncomp : Expr → Bool
  | .ListComp _ _ _ _ => false
  | .SetComp _ _ _ _ => false
  | .DictComp _ _ _ _ _ => false
  | _ => true
theorem sw_no {v : Expr} {t : Option Expr} {l : Nat} {env : Env} (h : ncomp v = true) : swapsWith v t l env = pure false := by
  cases v <;> first | rfl | cases h
theorem s_ex (he : PE X e (liftE C X.K W m)) (hn : ncomp e = true) : PS X (.Expr e pos) (liftS C X.K W fun ls h => (m ls h).toS ls fun _ h1 => .nx ls h1) :=
  (ps_expr he (sw_no hn)).weak fun D σ H x => lift_mono (ts_val (k := fun ls _ h1 => .nx ls h1) x) fun v H1 ⟨φ, ls, h, a, S, L, r, y⟩ => y.nx_here S L
theorem s_doc {x : Str} {j : Nat} {p' : Pos} : PS X (.Expr (.Constant (.str x) j p') pos) (liftS C X.K W fun ls h => .nx ls h) :=
  ps_doc.weak fun D σ H ⟨φ, ls, h, S, L, y⟩ => SSg.nx_here S L y
theorem s_ret (he : PE X e (liftE C X.K W m)) : PS X (.Return (some e) pos) (liftS C X.K W fun ls h => (m ls h).toS ls fun v h1 => .rt v h1) :=
  (ps_ret he).weak fun D σ H x => lift_mono (ts_val (k := fun ls v h1 => .rt v h1) x) fun v H1 ⟨φ, ls, h, a, S, L, r, y⟩ => y φ H1 v (Step.refl S) r
theorem s_retN : PS X (.Return none pos) (liftS C X.K W fun ls h => .rt .non h) :=
  ps_retN.weak fun D σ H ⟨φ, ls, h, S, L, y⟩ => y φ H _ (Step.refl S) vr_non
theorem s_pass : PS X (.Pass pos) (liftS C X.K W fun ls h => .nx ls h) := ps_pass.weak fun D σ H ⟨φ, ls, h, S, L, y⟩ => SSg.nx_here S L y
theorem s_cont : PS X (.Continue pos) (liftS C X.K W fun ls h => .ct ls h) := ps_continue.weak fun D σ H ⟨φ, ls, h, S, L, y⟩ => y φ H σ (Step.refl S) L
theorem s_never : PS X st (liftS C X.K W fun _ _ => .bad) := ps_never.weak fun D σ H ⟨φ, ls, h, S, L, y⟩ => y
theorem ss_nil : PSs X [] (liftS C X.K W fun ls h => .nx ls h) := pss_nil.weak fun D σ H ⟨φ, ls, h, S, L, y⟩ => SSg.nx_here S L y
theorem ss_cons (h1 : PS X st (liftS C X.K W ms)) (h2 : PSs X sts (liftS C X.K W ms')) : PSs X (st :: sts) (liftS C X.K W fun ls h => (ms ls h).thn fun ls1 h1 => ms' ls1 h1) :=
  (pss_cons h1 h2).weak fun D σ H ⟨φ, ls, h, S, L, y⟩ => by
    refine ⟨φ, ls, h, S, L, ?_⟩
    dsimp only at y
    revert y
    cases ms ls h with
    | nx ls1 h1 => exact fun y φ' H' σ' s l => ⟨φ', ls1, h1, s.sim, l, SSg.shift S s y⟩
    | rt v h1 => exact fun y => y
    | ct ls1 h1 => exact fun y => y
    | exc c p ls1 h1 => exact fun y => y
    | bad => exact fun y => y
theorem s_if (hc : PT X c (liftT C X.K W (tstM mc))) (ha : PSs X a (liftS C X.K W ms)) (hb : PSs X b (liftS C X.K W ms')) :
    PS X (.If c a b pos) (liftS C X.K W fun ls h => (mc ls h).toS ls fun x h1 => (asB x h1).toS ls fun k h2 => if k then ms ls h2 else ms' ls h2) :=
  (ps_if hc ha hb).weak fun D σ H ⟨φ, ls, h, S, L, y⟩ => by
    have y' : SSg C X.K W φ h H ((tstM mc ls h).toS ls fun k h2 => if k then ms ls h2 else ms' ls h2) D := by
      dsimp only [tstM] at y ⊢
      revert y
      cases mc ls h with
      | ok v h1 => exact fun y => y
      | exc c p h1 => exact fun y => y
      | bad => exact fun y => y
    refine ⟨φ, ls, h, S, L, RSg.mono (SSg.toS (R := RB) S L y') fun k H1 ⟨φ1, h1, k', st, rk, y1⟩ => ?_⟩
    cases rk
    cases k
    · exact ⟨φ1, ls, h1, st.sim, L.carry (st.carry S), y1⟩
    · exact ⟨φ1, ls, h1, st.sim, L.carry (st.carry S), y1⟩

/-! ### assignments -/
def swNm (kf : Str → Option NameKind) (ts : List Expr) : List Str := ts.filterMap fun
    | .Name id pos => if kf id == some .local && pos.line == (ts.head?.map (·.pos.line)).getD 0 then some id else none
    | _ => none
/-- the stores that CPython swaps: `some none` if it swaps none -/
def swN (kf : Str → Option NameKind) (ts vs : List Expr) : Option (Option (List Str)) :=
  if !(ts.length == 2 || ts.length == 3) || vs.length != ts.length then some none
  else if (vs.any fun | .Starred .. => true | _ => false) then some none
  else if (swNm kf ts).length != ts.length || (swNm kf ts).eraseDups.length != (swNm kf ts).length then some none
  else if vs.all (foldedForSure 8) then some none
  else if vs.all (constantsAlone 8) then none
  else some (some (swNm kf ts))
theorem swN_ok {env : Env} {ts vs : List Expr} {k1 k2 : Nat} {p1 p2' : Pos} {r : Option (List Str)} (hk : env.scope.kind = .function) (h : swN env.kindOf ts vs = some r) :
    swappedStores [.Tuple ts k1 p1] (.Tuple vs k2 p2') env = pure r := by
  have hb : env.blockKind = .function := by unfold Env.blockKind; rw [hk]; rfl
  unfold swN at h
  unfold swappedStores
  dsimp only
  rw [hb]
  split at h
  · rename_i hc
    cases h
    exact if_pos (by rw [hc]; rfl)
  · rename_i hc
    refine (if_neg (by rw [Bool.or_eq_true]; exact fun z => z.elim hc (fun z => by cases z))).trans ?_
    split at h
    · rename_i hc2
      cases h
      exact if_pos hc2
    · rename_i hc2
      refine (if_neg hc2).trans ?_
      split at h
      · rename_i hc3
        cases h
        exact if_pos hc3
      · rename_i hc3
        refine (if_neg hc3).trans ?_
        split at h
        · rename_i hc4
          cases h
          exact if_pos hc4
        · rename_i hc4
          refine (if_neg hc4).trans ?_
          split at h
          · cases h
          · rename_i hc5
            cases h
            exact if_neg hc5
/-- what CPython does with a comprehension that is stored -/
def swW (kf : Str → Option NameKind) (v tg : Expr) : Bool := match v with
  | .ListComp _ _ s _ => (match tg with
    | .Name t pos => kf t == some .local && pos.line == v.pos.line && !(s.names.any fun (n, k) => n == t && (k == .local || k == .cell))
    | _ => false)
  | .SetComp _ _ s _ => (match tg with
    | .Name t pos => kf t == some .local && pos.line == v.pos.line && !(s.names.any fun (n, k) => n == t && (k == .local || k == .cell))
    | _ => false)
  | .DictComp _ _ _ s _ => (match tg with
    | .Name t pos => kf t == some .local && pos.line == v.pos.line && !(s.names.any fun (n, k) => n == t && (k == .local || k == .cell))
    | _ => false)
  | _ => false
theorem swW_ok {env : Env} {v tg : Expr} {l : Nat} (hk : env.scope.kind = .function) : swapsWith v (some tg) l env = pure (swW env.kindOf v tg) := by
  have hb : env.blockKind = .function := by unfold Env.blockKind; rw [hk]; rfl
  cases v <;> first | rfl | skip
  all_goals
    cases tg <;> first | rfl | skip
    unfold swapsWith
    dsimp only
    rw [hb]
    rfl
/-- whether an assignment's stores are plain -/
def asgOk (kf : Str → Option NameKind) (tg v : Expr) : Bool := !swW kf v tg && (match tg, v with
  | .Tuple ts _ _, .Tuple vs _ _ => (match swN kf ts vs with
    | some none => true
    | _ => false)
  | .List _ _, _ => false
  | _, _ => true)
theorem asg_ok {env : Env} {tg v : Expr} {l : Nat} (hk : env.scope.kind = .function) (h : asgOk env.kindOf tg v = true) : swapsWithSole [tg] v l env = pure false ∧ swappedStores [tg] v env = pure none := by
  unfold asgOk at h
  rw [Bool.and_eq_true, Bool.not_eq_true'] at h
  obtain ⟨h1, h2⟩ := h
  refine ⟨by show swapsWith v (some tg) l env = _; rw [swW_ok hk, h1], ?_⟩
  split at h2
  · split at h2
    · rename_i e
      exact swN_ok hk e
    · cases h2
  · cases h2
  · rename_i q1 q2
    unfold swappedStores
    cases tg <;> first | rfl | skip
    · exact (q1 _ _ rfl).elim
    · cases v <;> first | rfl | exact (q2 _ _ _ _ _ _ rfl rfl).elim
/-- tg = e -/
theorem s_set {tg : Expr} {vs : List Nat} {t : LV → LSt → LH → Res LSt} (hk : X.env.scope.kind = .function) (ho : asgOk X.env.kindOf tg e = true) (he : PE X e (liftE C X.K W m)) (hg : PG X tg (liftG C X.K vs t)) (hns : nst tg = true) (hn : ∀ v ls h, NoX (t v ls h)) :
    PS X (.Assign [tg] e pos) (liftS C X.K W fun ls h => (m ls h).toS ls fun v h1 => (t v ls h1).toS ls fun ls1 h2 => .nx ls1 h2) :=
  (ps_asg he hg (asg_ok hk ho).1 (asg_ok (l := 0) hk ho).2 (asg_cons (es := []) hns)).weak fun D σ H x => lift_mono (ts_val (k := fun ls v h1 => (t v ls h1).toS ls fun ls1 h2 => .nx ls1 h2) x) fun v H1 ⟨φ, ls, h, a, S, L, r, y⟩ => by
    refine ⟨φ, ls, h, a, S, L, r, ?_⟩
    have hx := hn a ls h
    revert y hx
    cases t a ls h with
    | ok ls1 h1 => exact fun y _ φ' H' τ s ⟨l, _⟩ => y φ' H' τ s l
    | exc c p h1 => exact fun y hx => absurd rfl (hx c p h1)
    | bad => exact fun y _ => y
/-- name = [..], on one line -/
theorem s_setD {i : Nat} {y : Str} {py : Pos} {elt tg iter : Expr} {ifs : List Expr} {scope : Scope} {own : List (Str × Nat)} {vs : List Nat} {spos : Pos} {mi : LSt → LH → Res Wk} {t : LV → LSt → LH → Res LSt} {q : LSt → LH → Res Bool} {me : LSt → LH → Res LV}
    (hk : X.env.scope.kind = .function) (hw : swW X.env.kindOf (.ListComp elt [⟨tg, iter, ifs, 0⟩] scope pos) (.Name y py) = true) (hy : X.N[i]? = some y) (hyl : X.env.scope.names.lookup y = some .local)
    (hc : X.calm = true) (hN : X.N.Nodup) (hs : nset iter = true) (hi : PI X tg iter (liftI C X.K W mi)) (ok : BlkOk X.N X.env.scope scope own) (hv : ∀ i ∈ vs, i ∈ own.map (·.2))
    (hg : ∀ (s : Shared) (H : Hp) (A : Addr) (cl : List (Str × Addr)) (fp : List Addr), PG (X.blk s H scope (compEnvC scope cl A X.env) fp) tg (liftG C X.K vs t))
    (ht : ∀ (s : Shared) (H : Hp) (A : Addr) (cl : List (Str × Addr)) (fp : List Addr), PTs (X.blk s H scope (compEnvC scope cl A X.env) fp) ifs (liftT C X.K noW q))
    (he : ∀ (s : Shared) (H : Hp) (A : Addr) (cl : List (Str × Addr)) (fp : List Addr), PE (X.blk s H scope (compEnvC scope cl A X.env) fp) elt (liftE C X.K noW me)) :
    PS X (.Assign [.Name y py] (.ListComp elt [⟨tg, iter, ifs, 0⟩] scope pos) spos) (fun D σ H => liftD C X.K W (fun ls h => (mi ls h).bind fun w h1 => compOf t q me (own.map (·.2)) w ls h1) σ H fun v H1 => D.nx (σ.set i (some v)) H1) :=
  (ps_setLc hc hN hy hyl (by rw [swW_ok hk, hw]) hi ok hg ht he (fold_of hs)).weak fun D σ H x => lc_read hv x
theorem s_slc {i : Nat} {mD : LSt → LH → Res (List LV)} (h : PS X st (fun D σ H => liftD C X.K W mD σ H fun v H1 => D.nx (σ.set i (some v)) H1)) :
    PS X st (liftS C X.K W fun ls h => (mD ls h).toS ls fun xs h1 => (newL xs h1).toS ls fun v h2 => .nx (ls.set i (some v)) h2) :=
  h.weak fun D σ H ⟨φ, ls, h, S, L, y⟩ => by
    refine w_keep ⟨φ, ls, h, S, L, ?_⟩
    dsimp only at y ⊢
    revert y
    cases mD ls h with
    | bad => exact fun y => y
    | exc c p h1 => exact fun y φ' H' d s t => y φ' H' d σ s t (L.carry (s.carry S))
    | ok xs h1 =>
      intro y
      show RSg C X.K (RV X.K) (fun c d H' => W c d σ H') φ h H (newL xs h1) fun v H1 => D.nx (σ.set i (some v)) H1
      have y' : SSg C X.K W φ h H ((newL xs h1).toS ls fun v h2 => .nx (ls.set i (some v)) h2) D := y
      revert y'
      unfold newL
      split
      · exact fun y' φ' H' b s r => y' φ' H' _ s ((L.carry (s.carry S)).set r i)
      · exact fun y' => y'
/-- x, y = a, b by swapped stores -/
theorem stores {pins : List (Addr × Obj)} {H : Hp} {Q : Unit → Shared → Prop} {E : Value → Shared → Prop} (hN : X.N.Nodup) : ∀ {ns : List Str} {is : List Nat} {vs : List V} {us : List Value} {as : List LV} {σ : St} {s : Shared} {φ : Nat → Addr} {h : LH} {ls ls' : LSt}, Inv X pins σ H s → Vals vs us →
    ns.map some = is.map (fun i => X.N[i]?) → (∀ x ∈ ns, X.env.scope.names.lookup x = some .local) → Loc X.K φ h.length H ls σ → VRs X.K φ h.length H as vs → parSet is as ls = some ls' →
    (∀ σ' s', Inv X pins σ' H s' → Loc X.K φ h.length H ls' σ' → Q () s') → wpAny (model X.prog X.w) X.A (assignInOrder (ns.map fun n => bindName X.env n) us) Q E s
  | [], is, vs, us, as, σ, s, φ, h, ls, ls', I, r, e, _, L, rs, ep, q => by
    cases is <;> first | cases e | skip
    cases as <;> first | cases ep | skip
    unfold VRs at rs; subst rs
    cases r
    exact PyProof.Rows.assignInOrder_nil (q σ s I L)
  | n :: ns, is, vs, us, as, σ, s, φ, h, ls, ls', I, r, e, hl, L, rs, ep, q => by
    cases is with
    | nil => cases e
    | cons i is =>
      cases as with
      | nil => cases ep
      | cons a as =>
        unfold VRs at rs
        obtain ⟨y, zs, rfl, r1, r2⟩ := rs
        cases r with
        | cons p1 p2 =>
          simp only [List.map_cons, List.cons.injEq] at e
          refine PyProof.Rows.assignInOrder_cons (wpAny_bindName (store_ok I hN e.1.symm (.inl (hl n (by simp))) p1 (fun s2 I2 => ?_) (.inr (hl n (by simp)))))
          exact stores hN I2 p2 e.2 (fun x hx => hl x (List.mem_cons_of_mem _ hx)) (L.set r1 i) r2 ep q
theorem s_par {ts es : List Expr} {is : List Nat} {names : List Str} {ma : LSt → LH → Res (List LV)} {kt k2 : Nat} {pt pt2 : Pos} (hk : X.env.scope.kind = .function) (hc : X.calm = true) (hN : X.N.Nodup) (hsw : swN X.env.kindOf ts es = some (some names))
    (hns : names.map some = is.map fun i => X.N[i]?) (hl : ∀ x ∈ names, X.env.scope.names.lookup x = some .local) (hlen : es.length = names.length) (ha : PA X es (liftA C X.K W ma)) (hal : ∀ ls h vs h', ma ls h = .ok vs h' → vs.length = es.length) :
    PS X (.Assign [.Tuple ts kt pt] (.Tuple es k2 pt2) pos) (liftS C X.K W fun ls h => (ma ls h).toS ls fun vs h1 => (match parSet is.reverse vs.reverse ls with
      | some ls1 => .nx ls1 h1
      | none => .bad)) := by
  refine ⟨fun pins s σ H D I x => ?_⟩
  rw [exec_Assign_arm]
  refine wpAny_bind (wpAny_standAt ?_)
  rw [show swapsWithSole [.Tuple ts kt pt] (.Tuple es k2 pt2) pos.line X.env = pure false from rfl]
  refine wpAny_bind (wpAny_pure ?_)
  rw [if_neg (by decide)]
  obtain ⟨φ, ls, h, S, L, y⟩ := x
  have y1 := SSg.toS (R := RVs X.K) S L y
  have hal' := hal ls h
  have y2 : liftA C X.K W ma σ H fun vs H1 => vs.length = es.length ∧ ∃ φ1 h1 as, Step C X.K φ h H φ1 h1 H1 ∧ VRs X.K φ1 h1.length H1 as vs ∧ SSg C X.K W φ1 h1 H1 (match parSet is.reverse as.reverse ls with
      | some ls1 => .nx ls1 h1
      | none => .bad) D := by
    refine ⟨φ, ls, h, S, L, ?_⟩
    revert y1 hal'
    cases ma ls h with
    | ok vs h1 => exact fun y1 hal' φ' H' b st r => ⟨by rw [← VRs.length r]; exact hal' _ _ rfl, y1 φ' H' b st r⟩
    | exc c p h1 => exact fun y1 _ => y1
    | bad => exact fun y1 _ => y1
  refine wpAny_bind (PyProof.Rows.Tuple_ (thn (ha.run _ pins s σ H _ I y2) fun us s1 ⟨vs, H1, I1, r1, hvl, φ1, h1, as, st1, ras, y3⟩ => ?_))
  have hul : us.length = names.length := by rw [← r1.length, hvl, hlen]
  have few : es.length ≤ 3 := by
    unfold swN at hsw
    split at hsw
    · cases hsw
    · rename_i hc
      simp at hc
      omega
  refine wpAny_newObj_type ?_ (by show us.toArray.size ≤ sizeLine; rw [sizeLine_eq]; simp; omega)
  have I2 : Inv X pins σ H1 { s1 with heap := s1.heap.push { cls := .type "tuple", data := .seq us.toArray } } := I1.kept (t' := s1.toks) fun b o e => Heap.get?_push_of_some _ e
  rw [swN_ok hk hsw]
  refine wpAny_bind (wpAny_pure ?_)
  show wpAny (model X.prog X.w) X.A (do rule "assign.swapped-stores"; let items ← unpackItems (.ref s1.heap.objs.size) names.length none; assignInOrder (names.reverse.map fun n => bindName X.env n) items.reverse; pure Flow.next) _ _ _
  have hsz : us.toArray.size = names.length := by simpa using hul
  rw [← hsz]
  refine wpAny_bind (wpAny_rule (wpAny_bind (PyProof.Rows.unpackItems_tuple (items := us.toArray) (I.ok.hd hc) (PyProof.Rows.IsTup.new s1.heap _) fun h' hx' => ?_)))
  have I3 := I2.kept (h' := h') (t' := s1.toks) fun b o e => hx' b o (Nat.ne_of_lt (Heap.lt_size e)) e
  split at y3
  · rename_i ls1 ep
    refine wpAny_bind (stores (ns := names.reverse) (is := is.reverse) (vs := vs.reverse) (us := us.reverse) (as := as.reverse) hN I3 (Paired_rev r1) (by rw [List.map_reverse, hns, List.map_reverse]) (fun x hx => hl x (by simpa using hx)) (L.carry (st1.carry S)) ras.reverse ep fun σ' s' I' L' => ?_)
    exact wpAny_pure ⟨σ', H1, I', y3 φ1 H1 σ' (Step.refl st1.sim) L'⟩
  · exact y3.elim

/-! ### fields, augmented -/
variable {P : Prg} {L : Lk} {o : Expr} {mo : LSt → LH → Res LV} {tpos : Pos}
theorem sw_attr {v : Expr} {f : Str} {p : Pos} {l : Nat} {env : Env} : swapsWith v (some (.Attribute o f p)) l env = pure false := by cases v <;> rfl
theorem nx_pFst {a w : LV} {f : Nat} {h : LH} : NoX (pFst P a f w h) := by
  unfold pFst
  repeat' split
  all_goals first | exact nx_ok | exact nx_bad
theorem s_fst {f : Nat} (g : Gx P C L X.K) (ho : PE X o (liftE C X.K W mo)) (he : PE X e (liftE C X.K W m)) :
    PS X (.Assign [.Attribute o (P.fname f) tpos] e pos) (liftS C X.K W fun ls h => (m ls h).toS ls fun v h1 => (mo ls h1).toS ls fun x h2 => (pFst P x f v h2).toS ls fun _ h3 => .nx ls h3) :=
  (ps_fld ho he sw_attr).weak fun D σ H x => lift_mono (ts_val (k := fun ls v h1 => (mo ls h1).toS ls fun x h2 => (pFst P x f v h2).toS ls fun _ h3 => .nx ls h3) x) fun v H1 ⟨φ, ls, h, a, S, Lc, r, y⟩ => by
    refine ⟨φ, ls, h, S, Lc, RSg.mono (SSg.toS (R := RV X.K) S Lc y) fun z H2 ⟨φ2, h2, b, st, rb, y2⟩ => ?_⟩
    have L2 := Lc.carry (st.carry S)
    have y3 := SSg.toS (R := RV X.K) st.sim L2 y2
    obtain ⟨ad, c, dx, fs, _, e1, e2, e3, e4, e5, _, h4, _, st4, _, y4⟩ := fst_ok (σ := σ) g st.sim rb (VR.carry (st.carry S) r) (RSg.noX (E' := fun _ _ _ => False) nx_pFst y3)
    exact ⟨ad, _, dx, fs, e1, e2, e3, e4, e5, y4.nx_here (by exact st4.sim) (L2.carry (st4.carry st.sim))⟩
theorem ag_ok {f : Int → Int → Int} (sub : Bool) (hf : f = if sub then (fun i j => i - j) else fun i j => i + j) {φ : Nat → Addr} {h : LH} {H : Hp} {a b : LV} {x y : V} {E : XK} {Q : VK} (S : Sim C K φ h H) (ra : VR K φ h.length H a x) (rb : VR K φ h.length H b y) (R : RSg C K (RV K) E φ h H (agO sub a b h) Q) :
    ∃ i j, x = .int i ∧ y = .int j ∧ Q (.int (f i j)) H := by
  unfold agO at R
  split at R
  · rename_i i j
    refine ⟨i, j, ra.int, rb.int, ?_⟩
    have := RSg.here (b := V.int (if sub then i - j else i + j)) S R vr_int
    subst hf
    cases sub <;> exact this
  · exact R.elim
theorem s_agN {i : Nat} {x : Str} {p' : Pos} (sub : Bool) (hN : X.N.Nodup) (hi : X.N[i]? = some x) (hx : L2.Loc X.env.scope x) (hf : X.fn x = true ∨ X.env.scope.names.lookup x = some .local) (he : PE X e (liftE C X.K W m)) :
    PS X (.AugAssign (.Name x p') (if sub then .Sub else .Add) e pos) (liftS C X.K W fun ls h => (slotE ls i h).toS ls fun x h0 => (m ls h0).toS ls fun y h1 => (agO sub x y h1).toS ls fun z h2 => .nx (ls.set i (some z)) h2) := by
  have ho : PIp X (if sub then .Sub else .Add) (ipI (if sub then (fun i j => i - j) else fun i j => i + j)) := by
    cases sub
    · exact ip_add
    · exact ip_sub
  refine (ps_aug hN hi hx he ho hf).weak fun D σ H ⟨φ, ls, h, S, Lc, y⟩ => ?_
  dsimp only [slotE] at y
  split at y
  · rename_i v ev
    obtain ⟨w, e1, rw'⟩ := Lc.get ev
    have y' : SSg C X.K W φ h H ((m ls h).toS ls fun y h1 => (agO sub v y h1).toS ls fun z h2 => .nx (ls.set i (some z)) h2) D := y
    refine ⟨w, e1, φ, ls, h, S, Lc, RSg.mono (SSg.toS (R := RV X.K) S Lc y') fun z H2 ⟨φ2, h2, b, st, rb, y2⟩ => ?_⟩
    have L2 := Lc.carry (st.carry S)
    obtain ⟨i1, j1, e2, e3, φ3, h3, z3, st3, r3, y3⟩ := ag_ok sub rfl st.sim (VR.carry (st.carry S) rw') rb (SSg.toS (R := RV X.K) st.sim L2 y2)
    exact ⟨i1, j1, e2, e3, y3.nx_here st3.sim ((L2.carry (st3.carry st.sim)).set r3 i)⟩
  · exact y.elim
end
end LD
end
section
set_option Elab.async false
set_option linter.all false
set_option maxRecDepth 100000
set_option autoImplicit false
/-! LDS: augmented fields and items, loops, raise -/
namespace LD
open PySem L2

section
variable {X : Cx} {C : Cl} {W : WX} {e o i : Expr} {m mo mx : LSt → LH → Res LV} {pos tpos : Pos} {P : Prg} {L : Lk} {K : PySem.W.Frag}
theorem nx_agO {sub : Bool} {a b : LV} {h : LH} : NoX (agO sub a b h) := by
  unfold agO; split
  · exact nx_ok
  · exact nx_bad
theorem nx_pFld {a : LV} {f : Nat} {h : LH} : NoX (pFld P a f h) := by
  unfold pFld
  repeat' split
  all_goals first | exact nx_got _ _ | exact nx_bad
theorem slot_ok {a b z : LV} {h : LH} : NoX (pSet a b z h) := nx_pSet _ _ _ _
/-- o[i] += e -/
theorem s_agS (sub : Bool) (hu : X.A.units + 64 < cLine) (hg : PGet X (r2 C X.K pIdx)) (ho : PE X o (liftE C X.K W mo)) (hi : PE X i (liftE C X.K W mx)) (he : PE X e (liftE C X.K W m))
    (ha : ∀ ov iv new, augStore i ov iv new = (do holding [new, ov, iv] (setItem ov iv new); release [new, ov, iv] []; pure .next)) :
    PS X (.AugAssign (.Subscript o i tpos) (if sub then .Sub else .Add) e pos) (liftS C X.K W fun ls h => (mo ls h).toS ls fun a h1 => (mx ls h1).toS ls fun b h2 => (pIdx a b h2).toS ls fun x h3 => (m ls h3).toS ls fun y h4 => (agO sub x y h4).toS ls fun z h5 => (pSet a b z h5).toS ls fun _ h6 => .nx ls h6) := by
  have hop : PIp X (if sub then .Sub else .Add) (ipI (if sub then (fun i j => i - j) else fun i j => i + j)) := by
    cases sub
    · exact ip_add
    · exact ip_sub
  refine (ps_augS ho hi hg he hop (o_set (C := C) hu) ha).weak fun D σ H x => ?_
  refine lift_mono (ts_val (k := fun ls a h1 => (mx ls h1).toS ls fun b h2 => (pIdx a b h2).toS ls fun x h3 => (m ls h3).toS ls fun y h4 => (agO sub x y h4).toS ls fun z h5 => (pSet a b z h5).toS ls fun _ h6 => .nx ls h6) x) fun v H1 ⟨φ, ls, h, a, S, Lc, ra, y⟩ => ?_
  refine ⟨φ, ls, h, S, Lc, RSg.mono (SSg.toS (R := RV X.K) S Lc y) fun w H2 ⟨φ2, h2, b, st2, rb, y2⟩ => ?_⟩
  have S2 := st2.sim
  have c2 := st2.carry S
  have L2 := Lc.carry c2
  have ra2 := VR.carry c2 ra
  refine ⟨φ2, h2, a, b, S2, ra2, rb, ?_⟩
  refine RSg.noX (nx_p2 .idx _ _ _) (RSg.mono (SSg.toS (R := RV X.K) S2 L2 y2) fun x3 H3 ⟨φ3, h3, vx, st3, rx, y3⟩ => ?_)
  have S3 := st3.sim
  have c3 := st3.carry S2
  have L3 := L2.carry c3
  refine ⟨φ3, ls, h3, S3, L3, RSg.mono (SSg.toS (R := RV X.K) S3 L3 y3) fun y4 H4 ⟨φ4, h4, vy, st4, ry, y4'⟩ => ?_⟩
  have S4 := st4.sim
  have c4 := st4.carry S3
  have L4 := L3.carry c4
  obtain ⟨i1, j1, e2, e3, φ5, h5, z5, st5, r5, y5⟩ := ag_ok sub rfl S4 (VR.carry c4 rx) ry (SSg.toS (R := RV X.K) S4 L4 y4')
  have c5 := st5.carry S4
  refine ⟨i1, j1, e2, e3, φ5, h5, a, b, z5, st5.sim, VR.carry c5 (VR.carry c4 (VR.carry c3 ra2)), VR.carry c5 (VR.carry c4 (VR.carry c3 rb)), r5, ?_⟩
  have L5 := L4.carry c5
  exact RSg.noX (nx_pSet _ _ _ _) (RSg.mono (SSg.toS (R := RV X.K) st5.sim L5 y5) fun _ H6 ⟨φ6, h6, _, st6, _, y6⟩ => y6.nx_here st6.sim (L5.carry (st6.carry st5.sim)))
/-- o.f += e -/
theorem s_agF {f : Nat} (sub : Bool) (g : Gx P C L X.K) (ho : PE X o (liftE C X.K W mo)) (he : PE X e (liftE C X.K W m)) :
    PS X (.AugAssign (.Attribute o (P.fname f) tpos) (if sub then .Sub else .Add) e pos) (liftS C X.K W fun ls h => (mo ls h).toS ls fun a h1 => (pFld P a f h1).toS ls fun x h2 => (m ls h2).toS ls fun y h3 => (agO sub x y h3).toS ls fun z h4 => if insC h4 a = insC h1 a then (pFst P a f z h4).toS ls fun _ h5 => .nx ls h5 else .bad) := by
  have hop : InOp X (if sub then .Sub else .Add) (ipI (if sub then (fun i j => i - j) else fun i j => i + j)) := by
    cases sub
    · exact in_add
    · exact in_sub
  refine (ps_fldaug ho he hop).weak fun D σ H x => ?_
  refine lift_mono (ts_val (k := fun ls a h1 => (pFld P a f h1).toS ls fun x h2 => (m ls h2).toS ls fun y h3 => (agO sub x y h3).toS ls fun z h4 => if insC h4 a = insC h1 a then (pFst P a f z h4).toS ls fun _ h5 => .nx ls h5 else .bad) x) fun v H1 ⟨φ, ls, h, a, S, Lc, ra, y⟩ => ?_
  have y1 := SSg.toS (R := RV X.K) S Lc y
  unfold pFld at y1
  split at y1
  · rename_i i
    split at y1
    · rename_i c fs ei
      split at y1
      · rename_i ci ec
        have kc := g.cl c ci ec
        obtain ⟨hl, dx, ys, e1, rs⟩ := ins_at S ei
        have hi : i < h.length := (List.getElem?_eq_some_iff.mp ei).1
        have ra0 := ra
        unfold VR at ra
        obtain ⟨_, rfl⟩ := ra
        cases eg : fs[ci.fs.idxOf f]? with
        | none => rw [eg] at y1; exact y1.elim
        | some z =>
          rw [eg] at y1
          obtain ⟨u, eu, ru⟩ := rs.get eg
          have hlt := (List.getElem?_eq_some_iff.mp eg).1
          have hf : f ∈ ci.fs := by
            rw [kc.fs, List.length_map] at hl
            exact List.idxOf_lt_length_iff.mp (Nat.lt_of_lt_of_le hlt hl)
          have lk : (((C.cF c).take fs.length).zip ys).lookup (P.fname f) = some u := lookup_zip (List.Nodup.sublist (List.take_sublist _ _) kc.nd) (k := ci.fs.idxOf f) (by rw [List.getElem?_take_of_lt hlt]; exact name_at kc hf) eu
          obtain ⟨φ2, h2, w2, st2, rw2, y2⟩ := RSg.here (b := u) S y1 ru
          have S2 := st2.sim
          have L2 := Lc.carry (st2.carry S)
          refine ⟨φ i, C.cA c, dx, _, u, rfl, e1, kc.cl, kc.na f hf, lk, φ2, ls, h2, S2, L2, RSg.mono (SSg.toS (R := RV X.K) S2 L2 y2) fun y3 H3 ⟨φ3, h3, vy, st3, ry, y3'⟩ => ?_⟩
          have S3 := st3.sim
          have c3 := st3.carry S2
          have L3 := L2.carry c3
          obtain ⟨i1, j1, e2, e3, φ4, h4, z4, st4, r4, y4⟩ := ag_ok sub rfl S3 (VR.carry c3 rw2) ry (SSg.toS (R := RV X.K) S3 L3 y3')
          have L4 := L3.carry (st4.carry S3)
          have ra4 := VR.carry (st4.carry S3) (VR.carry c3 (VR.carry (st2.carry S) ra0))
          split at y4
          · rename_i hins
            obtain ⟨ad, c', dx', fs', e10, e5, e6, e7, e8, e9, _, h6, _, st6, _, y6⟩ := fst_ok (σ := σ) g st4.sim ra4 r4 (RSg.noX (E' := fun _ _ _ => False) nx_pFst (SSg.toS (R := RV X.K) st4.sim L4 y4))
            cases e5
            have : c' = c := by
              rw [e10] at hins
              simpa [insC, ei] using hins
            subst this
            exact ⟨i1, j1, e2, e3, dx', fs', e6, e9, y6.nx_here st6.sim (L4.carry (st6.carry st4.sim))⟩
          · exact y4.elim
      · exact y1.elim
    · exact y1.elim
  · exact y1.elim

/-! ### loops -/
variable {φ φ0 : Nat → Addr} {h h0 : LH} {H H0 : Hp} {D : Ends}
theorem SSg.turn {r : SR} {k : LSt → LH → SR} (S0 : Sim C K φ0 h0 H0) (st0 : Step C K φ0 h0 H0 φ h H) (x : SSg C K W φ0 h0 H0 (r.turn k) D) {N : St → Hp → Prop}
    (hN : ∀ σ' H' φ1 ls1 h1, Step C K φ h H φ1 h1 H' → Loc K φ1 h1.length H' ls1 σ' → SSg C K W φ0 h0 H0 (k ls1 h1) D → N σ' H') : SSg C K W φ h H r { D with nx := N, ct := N, bk := D.nx } := by
  cases r with
  | nx ls h2 => exact fun φ' H' σ' s l => hN σ' H' φ' ls h2 s l x
  | ct ls h2 => exact fun φ' H' σ' s l => hN σ' H' φ' ls h2 s l x
  | rt v h2 => exact fun φ' H' v' s r => x φ' H' v' (Step.trans S0 st0 s) r
  | exc c p ls h2 => exact fun φ' H' d σ' s r l => x φ' H' d σ' (Step.trans S0 st0 s) r l
  | bad => exact x
theorem SSg.toG {m : Res LSt} {ls : LSt} {k : LSt → LH → SR} {vs : List Nat} {σ : St} {E : XK} (n : NoX m) (x : SSg C K W φ0 h0 H0 (m.toS ls k) D) :
    RSg C K (RLo K vs σ) E φ h H m fun τ H1 => ∃ φ1 h1 ls1, Step C K φ h H φ1 h1 H1 ∧ Loc K φ1 h1.length H1 ls1 τ ∧ SSg C K W φ0 h0 H0 (k ls1 h1) D := by
  cases m with
  | ok ls1 h1 => exact fun φ' H' τ s r => ⟨φ', h1, ls1, s, r.1, x⟩
  | exc c p h1 => exact absurd rfl (n c p h1)
  | bad => exact x
variable {tg iter : Expr} {mi : LSt → LH → Res Wk} {t : LV → LSt → LH → Res LSt} {mb : LSt → LH → SR} {vs : List Nat} {body : List Stmt}
theorem w_for {σ : St} (hn : ∀ v ls h, NoX (t v ls h)) (x : liftS C K W (fun ls h => (mi ls h).toS ls fun w h1 => loopOf t mb w ls h1) D σ H) : tFor (liftI C K W mi) (liftG C K vs t) (liftS C K W mb) D σ H := by
  obtain ⟨φ, ls, h, S, Lc, x⟩ := x
  refine ⟨φ, ls, h, S, Lc, RSg.mono (SSg.toS (R := RJ C K) S Lc x) fun J H1 ⟨φ1, h1, w, st1, lit, R1⟩ => ?_⟩
  have S1 := st1.sim
  refine ⟨fun i m σ' H' => ∃ φ' ls' h', Step C K φ1 h1 H1 φ' h' H' ∧ Loc K φ' h'.length H' ls' σ' ∧ SSg C K W φ1 h1 H1 (loopG w t mb m i ls' h') D, ⟨fuelW w, φ1, ls, h1, Step.refl S1, Lc.carry (st1.carry S), R1⟩, ?_⟩
  rintro i m σ2 H2 ⟨φ2, ls2, h2, st2, L2, R2⟩
  have S2 := st2.sim
  cases en : nxW w i h2 with
  | none => cases m <;> (unfold loopG at R2; rw [en] at R2; exact R2.elim)
  | some on =>
    cases on with
    | none =>
      refine .inl ⟨lit.stop φ2 h2 H2 i st2.grow S2 en, ?_⟩
      have R3 : SSg C K W φ1 h1 H1 (.nx ls2 h2) D := by
        cases m <;> (unfold loopG at R2; rw [en] at R2; exact R2)
      exact R3 φ2 H2 σ2 st2 L2
    | some a =>
      cases m with
      | zero => unfold loopG at R2; rw [en] at R2; exact R2.elim
      | succ m =>
        unfold loopG at R2; rw [en] at R2
        dsimp only at R2
        obtain ⟨g1, g2⟩ := lit.go φ2 h2 H2 i a st2.grow S2 en
        refine .inr ⟨g1, fun σ' H' => ∃ φ' ls' h', Step C K φ1 h1 H1 φ' h' H' ∧ Loc K φ' h'.length H' ls' σ' ∧ SSg C K W φ1 h1 H1 (loopG w t mb m (i + 1) ls' h') D, fun σ' H' z => ⟨m, Nat.lt_succ_self m, z⟩, fun v H3 yl => ?_⟩
        obtain ⟨st3, rv, kp⟩ := g2 v H3 yl
        have S3 := st3.sim
        refine ⟨φ2, ls2, h2, a, S3, L2.carry (st3.carry S2), rv, RSg.mono (SSg.toG (hn a ls2 h2) R2) fun τ H4 ⟨φ4, h4, ls4, st4, L4, R4⟩ => ?_⟩
        have st14 := Step.trans S1 st2 (Step.trans S2 st3 st4)
        exact ⟨φ4, ls4, h4, st4.sim, L4, SSg.turn S1 st14 R4 fun σ' H' φ5 ls5 h5 st5 L5 R5 => ⟨φ5, ls5, h5, Step.trans S1 st14 st5, L5, R5⟩⟩
theorem s_for (hp : PassesOwn (model X.prog X.w) X.A X.env X.xe) (hc : X.calm = true) (hs : nset iter = true) (hn : ∀ v ls h, NoX (t v ls h)) (hi : PI X tg iter (liftI C X.K W mi)) (hg : PG X tg (liftG C X.K vs t)) (hb : PSs X body (liftS C X.K W mb)) :
    PS X (.For tg iter body [] pos) (liftS C X.K W fun ls h => (mi ls h).toS ls fun w h1 => loopOf t mb w ls h1) :=
  (ps_for hp hc hi hg hb (fold_of hs)).weak fun D σ H x => w_for hn x
variable {c : Expr} {mc : LSt → LH → Res LV}
theorem s_while {n : Nat} (hp : PassesOwn (model X.prog X.w) X.A X.env X.xe) (hc : PT X c (liftT C X.K W (tstM mc))) (hb : PSs X body (liftS C X.K W mb)) :
    PS X (.While c body [] pos) (liftS C X.K W fun ls h => loopW (tstM mc) mb n ls h) :=
  (ps_while hp hc hb).weak fun D σ H ⟨φ, ls, h, S, Lc, x⟩ => by
    refine ⟨fun m σ' H' => ∃ φ' ls' h', Sim C X.K φ' h' H' ∧ Loc X.K φ' h'.length H' ls' σ' ∧ SSg C X.K W φ' h' H' (loopW (tstM mc) mb m ls' h') D, ⟨n, φ, ls, h, S, Lc, x⟩, ?_⟩
    rintro m σ2 H2 ⟨φ2, ls2, h2, S2, L2, R2⟩
    cases m with
    | zero => exact R2.elim
    | succ m =>
      unfold loopW at R2
      refine ⟨φ2, ls2, h2, S2, L2, RSg.mono (SSg.toS (R := RB) S2 L2 R2) fun k H3 ⟨φ3, h3, k', st3, rk, R3⟩ => ?_⟩
      cases rk
      have L3 := L2.carry (st3.carry S2)
      cases k with
      | false => exact R3.nx_here st3.sim L3
      | true =>
        refine ⟨fun σ' H' => ∃ φ' ls' h', Sim C X.K φ' h' H' ∧ Loc X.K φ' h'.length H' ls' σ' ∧ SSg C X.K W φ' h' H' (loopW (tstM mc) mb m ls' h') D, fun σ' H' z => ⟨m, Nat.lt_succ_self m, z⟩, ?_⟩
        exact ⟨φ3, ls2, h3, st3.sim, L3, SSg.turn st3.sim (Step.refl st3.sim) R3 fun σ' H' φ5 ls5 h5 st5 L5 R5 => ⟨φ5, ls5, h5, st5.sim, L5, SSg.shift st3.sim st5 R5⟩⟩
/-- a for over a dict: it is locked while it is walked -/
def lockS (me : LSt → LH → Res LV) (mr : Nat → LSt → LH → SR) : LSt → LH → SR := fun ls h => match lockAt (me ls h) h with
  | some (m, h0) => unlockS m (mr m ls h0)
  | none => .bad
theorem w_lockS {σ : St} {me : LSt → LH → Res LV} {mr : Nat → LSt → LH → SR} (x : liftS C K W (lockS me mr) D σ H) : tLock (fun D σ H => ∃ m, liftS C K noW (mr m) D σ H) D σ H := by
  obtain ⟨φ, ls, h, S, Lc, x⟩ := x
  unfold lockS at x
  split at x
  · rename_i m h0 el
    obtain ⟨hm, u, e1, mu, hz, hu, stp⟩ := lock_at S el
    refine ⟨φ m, u, e1, mu, fun od => ⟨m, φ, ls, h0, (stp od).sim, Lc.carry ((stp od).carry S), ?_⟩⟩
    revert x
    cases mr m ls h0 with
    | bad => exact fun x => x
    | exc c p ls1 h1 => exact fun x => x.elim
    | nx ls1 h1 =>
      intro x φ' H' σ' st l
      have x' : SSg C K W φ h H (match unlockL m h1 with
        | some h' => .nx ls1 h'
        | none => .bad) D := x
      split at x'
      · rename_i h2 eu
        obtain ⟨ef, st2, ca, hl2⟩ := unlock_step S hm e1 hz hu (lockAt_len el) st eu
        exact ⟨ef, x' φ' _ σ' st2 (l.carry ca)⟩
      · exact x'.elim
    | ct ls1 h1 =>
      intro x φ' H' σ' st l
      have x' : SSg C K W φ h H (match unlockL m h1 with
        | some h' => .ct ls1 h'
        | none => .bad) D := x
      split at x'
      · rename_i h2 eu
        obtain ⟨ef, st2, ca, hl2⟩ := unlock_step S hm e1 hz hu (lockAt_len el) st eu
        exact ⟨ef, x' φ' _ σ' st2 (l.carry ca)⟩
      · exact x'.elim
    | rt v h1 =>
      intro x φ' H' v' st r
      have x' : SSg C K W φ h H (match unlockL m h1 with
        | some h' => .rt v h'
        | none => .bad) D := x
      split at x'
      · rename_i h2 eu
        obtain ⟨ef, st2, ca, hl2⟩ := unlock_step S hm e1 hz hu (lockAt_len el) st eu
        exact ⟨ef, x' φ' _ v' st2 (VR.carry ca r)⟩
      · exact x'.elim
  · exact x.elim
theorem s_lockS {st : Stmt} {me : LSt → LH → Res LV} {mr : Nat → LSt → LH → SR} (h : ∀ m, PS X st (liftS C X.K noW (mr m))) : PS X st (liftS C X.K W (lockS me mr)) :=
  (ps_lock (t := fun D σ H => ∃ m, liftS C X.K noW (mr m) D σ H) ⟨fun pins s σ H D I ⟨m, q⟩ => (h m).run pins s σ H D I q⟩).weak fun D σ H x => w_lockS x

/-! ### raise -/
abbrev bmV : List Value := [.type "ValueError", .type "Exception", .type "BaseException", .type "object"]
structure ExK (K : PySem.W.Frag) (A : Addr) : Prop where
  q : PySem.W.excIn K A bmV "ValueError.__new__" = true
  kp : PySem.W.keepIn K (.ref A) = true
  sb : PySem.W.subIn K (.ref A) (.type "BaseException") = some true
  ty : PySem.W.typeIn K (.ref A) = some (.type "type")
theorem s_rse {n : Nat} {x msg : Str} {j : Nat} {p p2' p3 : Pos} (hc : X.calm = true) (tk : Takes X W) (k : ExK X.K (C.xA n)) (gC : X.mg x = some (.ref (C.xA n))) (hg : Gl X x) (hdb : (x == ("__debug__" : Str)) = false) :
    PS X (.Raise (some (.Call (.Name x p) [.Constant (.str msg) j p2'] [] p3)) none pos) (liftS C X.K W fun ls h => .exc n none ls h) :=
  (ps_raise hc tk (pmk_own PySem.F.excBase_ValueError k.q gC k.kp (raises_own k.sb k.ty) hg hdb)).weak fun D σ H ⟨φ, ls, h, S, Lc, x⟩ => x φ H none σ (Step.refl S) rfl Lc
end
end LD
end
section
set_option Elab.async false
set_option linter.all false
set_option maxRecDepth 100000
set_option autoImplicit false
/-! LSA: sets of texts: told by the list of the members -/
namespace LS
open PySem PySem.Spec PyProof.Rows L2

def keyS (e : Int × Value) : Str := match e.2 with
  | .str x _ => x
  | _ => Str.empty
def GoodS (w : World) (e : Int × Value) : Prop := ∃ x tk, e.2 = Value.str x tk ∧ e.1 = hashStr w x
def SetX (w : World) (h : Heap) (a : Addr) (l : List Str) : Prop :=
  ∃ o es ep t, h.get? a = some o ∧ o.ExactSet ∧ o.data = .set es ep t ∧ (∀ e ∈ es.toList, GoodS w e) ∧ (es.toList.map keyS).Perm l ∧ l.Nodup ∧ es.size < scanBound ∧ t.fits es.size = true ∧ Ris t.place.toList ∧
    (w.params.followText "set-order" = true ∨ t.led = true)
section
variable {P : Program} {w : World} {h h' : Heap} {a : Addr} {l : List Str}
theorem SetX.at (R : SetX w h a l) (k : ∀ o, h.get? a = some o → h'.get? a = some o) : SetX w h' a l := by
  obtain ⟨o, es, ep, t, ho, rest⟩ := R
  exact ⟨o, es, ep, t, k o ho, rest⟩
theorem SetX.lt (R : SetX w h a l) : a < h.objs.size := by
  obtain ⟨o, es, ep, t, ho, rest⟩ := R
  exact Heap.lt_size ho
theorem goodS_is {e : Int × Value} (g : GoodS w e) (k : Str) : (PySem.strKind P w).is k e.2 = true ↔ keyS e = k := by
  obtain ⟨hh, v⟩ := e
  obtain ⟨x, tk, e2, _⟩ := g
  dsimp only at e2
  subst e2
  exact beq_iff_eq
theorem goodS_elems {l : List (Int × Value)} (g : ∀ e ∈ l, GoodS w e) : ElemsOf (PySem.strKind P w) l := fun e he => by
  obtain ⟨x, tk, e2, e1⟩ := g e he
  rw [e2]
  exact ⟨⟨x, strKind_is P w x tk, e1⟩, rfl⟩
theorem SetX.setOf (R : SetX w h a l) : h.SetOf (PySem.strKind P w) a (fun k => decide (k ∈ l)) l.length := by
  obtain ⟨o, es, ep, t, ho, hex, hd, g, pm, nd, hb, hf, hr, hl⟩ := R
  refine ⟨o, es, ep, t, ho, hex, hd, goodS_elems g, fun k => ?_, hb, hf, ?_⟩
  · rw [decide_eq_true_eq, ← pm.mem_iff, List.mem_map]
    exact ⟨fun ⟨e, he, q⟩ => ⟨e, he, (goodS_is (g e he) k).2 q⟩, fun ⟨e, he, q⟩ => ⟨e, he, (goodS_is (g e he) k).1 q⟩⟩
  · have := pm.length_eq
    simpa using this
theorem SetX.size {o : Obj} {es : Array (Int × Value)} {ep : Nat} {t : SetTable} (pm : (es.toList.map keyS).Perm l) : es.size = l.length := by
  have := pm.length_eq
  simpa using this
end
/-- a member more -/
def addL (x : Str) (l : List Str) : List Str := if x ∈ l then l else x :: l
section
variable {P : Program} {w : World} {A : Around} {E : Value → Shared → Prop} {s : Shared} {a : Addr} {l : List Str}
theorem put_at {h : Heap} {o : Obj} {es es' : Array (Int × Value)} {ep : Nat} {t t' : SetTable} (ho : h.get? a = some o) (hd : o.data = .set es ep t) :
    (h.update a (Obj.putSet es' t')).get? a = some { o with data := .set es' (ep + 1) t' } := PpSet.storeB_at ho hd
theorem addX_tail {g : Bool → Sem Unit} (hg : ∀ (b : Bool) (s₁ : Shared) (Q' : Unit → Shared → Prop), Q' () s₁ → wpAny (model P w) A (g b) Q' E s₁) {o : Obj} {es : Array (Int × Value)} {ep : Nat} {t : SetTable} (ho : s.heap.get? a = some o) (hex : o.ExactSet) (hd : o.data = .set es ep t)
    {es1 : Array (Int × Value)} {t2 : SetTable} {l' : List Str} (g1 : ∀ e ∈ es1.toList, GoodS w e) (pm1 : (es1.toList.map keyS).Perm l') (nd1 : l'.Nodup) (hb1 : es1.size < scanBound) (hf2 : t2.fits es1.size = true) (hr : Ris t2.place.toList)
    (hl : w.params.followText "set-order" = true ∨ t2.led = true) {wasDummy : Bool} {R : Option Bool → Shared → Prop} (hR : ∀ h', Heap.SameBut a s.heap h' → SetX w h' a l' → R (some true) { s with heap := h' }) :
    wpAny (model P w) A (do
        storeSet a es1 t2
        if (!wasDummy && t2.tooFull) = true then do
            g (relayAll t2 es1 (SetTable.grown es1.size)).2.2
            storeSet a (relayAll t2 es1 (SetTable.grown es1.size)).1 (relayAll t2 es1 (SetTable.grown es1.size)).2.1
            pure (some true)
          else pure (some true)) R E s := by
  refine wpAny_bind (wpAny_storeSet_of ho hd ?_ (fits_of_scanBound hb1))
  have ho1 := put_at (es' := es1) (t' := t2) ho hd
  have sb1 := Heap.SameBut.update s.heap a (Obj.putSet es1 t2)
  split
  · have pm := relayAll_perm t2 es1 (SetTable.grown es1.size)
    have hf3 := relayAll_fits t2 es1 (SetTable.grown es1.size)
    have hr3 := relayAll_ris t2 es1 (SetTable.grown es1.size)
    have hl3 := relayAll_led t2 es1 (SetTable.grown es1.size)
    generalize relayAll t2 es1 (SetTable.grown es1.size) = Z at pm hf3 hr3 hl3 ⊢
    obtain ⟨es2, t3, gave⟩ := Z
    dsimp only at pm hf3 hr3 hl3 ⊢
    have hsz : es2.size = es1.size := by simpa using pm.length_eq
    refine wpAny_bind (hg _ _ _ (wpAny_bind (wpAny_storeSet_of ho1 rfl ?_ (fits_of_scanBound (by rw [hsz]; exact hb1)))))
    have ho2 := put_at (es' := es2) (t' := t3) ho1 rfl
    exact wpAny_pure (hR _ (sb1.trans (Heap.SameBut.update _ a _)) ⟨_, es2, _, t3, ho2, hex, rfl, fun e he => g1 e (pm.mem_iff.mp he), (pm.map keyS).trans pm1, nd1, by rw [hsz]; exact hb1, hf3, hr3, hl.imp id fun z => by rw [hl3]; exact z⟩)
  · exact wpAny_pure (hR _ sb1 ⟨_, es1, _, t2, ho1, hex, rfl, g1, pm1, nd1, hb1, hf2, hr, hl⟩)
theorem addX {x : Str} {tk : Tok} {Q : Bool → Shared → Prop} (R : SetX w s.heap a l) (room : l.length + 1 < scanBound) (hQ : ∀ h', Heap.SameBut a s.heap h' → SetX w h' a (addL x l) → Q (!decide (x ∈ l)) { s with heap := h' }) :
    wpAny (model P w) A (setAddHashed a (.str x tk) ((PySem.strKind P w).hash x)) Q E s := by
  obtain ⟨o, es, ep, t, ho, hex, hd, g, pm, nd, hb, hf, hr, hl⟩ := R
  have hkey : (PySem.strKind P w).is x (.str x tk) = true := strKind_is P w x tk
  have hsc : (Value.str x tk).scannable = true := rfl
  have hel : ElemsOf (PySem.strKind P w) es.toList := goodS_elems g
  have hmem : x ∈ l ↔ ∃ e ∈ es.toList, (PySem.strKind P w).is x e.2 = true := by
    rw [← pm.mem_iff, List.mem_map]
    exact ⟨fun ⟨e, he, q⟩ => ⟨e, he, (goodS_is (g e he) x).2 q⟩, fun ⟨e, he, q⟩ => ⟨e, he, (goodS_is (g e he) x).1 q⟩⟩
  unfold setAddHashed setAddHashedIn
  refine wpAny_holding (wpAny_bind (wpAny_setState_of ho hd hf ?_))
  dsimp only
  rw [byScan_of hsc hb hel]
  simp only [↓reduceIte]
  unfold setAddByScan
  refine wpAny_bind (wpAny_bind (wpAny_rule (wpAny_bind (wpAny_setScan_of hkey ho hd hf hel ?_))))
  cases hfi : List.findIdx? (fun e => (PySem.strKind P w).is x e.2) es.toList with
  | some j =>
    dsimp only
    obtain ⟨hj, pj, _⟩ := List.findIdx?_eq_some_iff_getElem.mp hfi
    have hx : x ∈ l := hmem.2 ⟨es.toList[j], List.getElem_mem hj, pj⟩
    have q := hQ s.heap (Heap.SameBut.refl a s.heap) (by unfold addL; rw [if_pos hx]; exact ⟨o, es, ep, t, ho, hex, hd, g, pm, nd, hb, hf, hr, hl⟩)
    rw [decide_eq_true hx] at q
    exact wpAny_pure (wpAny_pure q)
  | none =>
    dsimp only
    have hx : x ∉ l := fun z => by
      obtain ⟨e, he, q⟩ := hmem.1 z
      have c := List.findIdx?_eq_none_iff.mp hfi e he
      rw [q] at c
      cases c
    have hgw : ∀ (b : Bool) {s₁ : Shared} {Q' : Unit → Shared → Prop}, Q' () s₁ → wpAny (model P w) A (match b with | true => rule "set.scan.the-table-gave-way" | false => pure ()) Q' E s₁ :=
      fun b s₁ Q' q => by cases b <;> first | exact wpAny_pure q | exact wpAny_rule q
    have pl := layNew_perm t es ((PySem.strKind P w).hash x) (.str x tk)
    have hf1 := layNew_fits t es ((PySem.strKind P w).hash x) (.str x tk)
    have hr1 := layNew_ris t es ((PySem.strKind P w).hash x) (.str x tk) hr
    have hl1 := layNew_led t es ((PySem.strKind P w).hash x) (.str x tk)
    generalize layNew t es ((PySem.strKind P w).hash x) (.str x tk) = Z at pl hf1 hr1 hl1 ⊢
    obtain ⟨es1, t1, wasDummy, gave⟩ := Z
    dsimp only at pl hf1 hr1 hl1 ⊢
    rw [Array.toList_push] at pl
    have pc : es1.toList.Perm (((PySem.strKind P w).hash x, Value.str x tk) :: es.toList) := pl.trans (List.perm_append_singleton _ _)
    have pk : (es1.toList.map keyS).Perm (x :: l) := (pc.map keyS).trans (List.Perm.cons x pm)
    have g1 : ∀ e ∈ es1.toList, GoodS w e := fun e he => by
      rcases List.mem_cons.mp (pc.mem_iff.mp he) with z | z
      · rw [z]; exact ⟨x, tk, rfl, rfl⟩
      · exact g e z
    have nd1 : (x :: l).Nodup := List.nodup_cons.mpr ⟨hx, nd⟩
    have hsz : es1.size = l.length + 1 := by simpa using pk.length_eq
    have hb1 : es1.size < scanBound := by rw [hsz]; exact room
    have hled : w.params.followText "set-order" = true ∨ t1.led = true := hl.imp id fun z => by rw [hl1]; exact z
    have fin : ∀ h', Heap.SameBut a s.heap h' → SetX w h' a (x :: l) → Q true { s with heap := h' } := fun h' sb r => by
      have q := hQ h' sb
      rw [decide_eq_false hx] at q
      exact q (by unfold addL; rw [if_neg hx]; exact r)
    refine wpAny_bind (hgw _ ?_)
    split
    · refine wpAny_bind ?_
      rw [hashByValue_scannable 8 hsc]
      refine wpAny_pure ?_
      refine addX_tail ?_ ho hex hd g1 pk nd1 hb1 ?_ ?_ ?_ ?_
      · intro b s₁ Q' q; cases b <;> first | exact wpAny_pure q | exact wpAny_rule q
      · first | (split <;> first | exact hf1 | exact SetTable.fits_plain_off hf1) | exact hf1
      · first | (split <;> exact hr1) | exact hr1
      · first | (split <;> exact hled) | exact hled
      · intro h' sb r; dsimp only; exact wpAny_pure (fin h' sb r)
    · refine wpAny_bind (wpAny_pure ?_)
      simp only [↓reduceIte]
      refine addX_tail ?_ ho hex hd g1 pk nd1 hb1 hf1 hr1 hled ?_
      · intro b s₁ Q' q; cases b <;> first | exact wpAny_pure q | exact wpAny_rule q
      · intro h' sb r; dsimp only; exact wpAny_pure (fin h' sb r)
theorem freshX {h : Heap} (ho : h.get? a = some { cls := .type "set", dict := none, data := .set #[] 0 (.fresh 0 0 (!w.params.followText "set-order")) }) : SetX w h a [] :=
  ⟨_, #[], 0, _, ho, ⟨rfl, rfl, rfl⟩, rfl, (fun e he => by simp at he), (List.Perm.refl _), List.nodup_nil, (by decide), (by rfl), List.Pairwise.nil, by
    show _ ∨ (!w.params.followText "set-order") = true
    cases w.params.followText "set-order"
    · exact .inr rfl
    · exact .inl rfl⟩
end
end LS
end
section
set_option Elab.async false
set_option linter.all false
set_option maxRecDepth 100000
set_option autoImplicit false
/-! LSB: sets of texts as tracked things: comprehension, len -/
namespace LS
open PySem PySem.Spec PyProof.Rows L2

def SetXO (w : World) (a : Addr) (l : List Str) : HO := .ext fun h => SetX w h a l
theorem setXO_new {w : World} {P : Program} {H : Hp} {h : Heap} {a : Addr} {l : List Str} (R : SetX w h a l) : ObjOk P w H h a (SetXO w a l) := by
  have ⟨o, _, _, _, ho, _⟩ := R
  exact ⟨R, ⟨o, ho⟩, fun _ _ p k => SetX.at p k⟩
section
variable {X : Cx} {pins : List (Addr × Obj)} {σ : L2.St} {H : Hp} {s : Shared}
theorem setXO_get {a : Addr} {l : List Str} (I : Inv X pins σ H s) (ha : H a = some (SetXO X.w a l)) : SetX X.w s.heap a l := (I.hok a _ ha).1
theorem add_call {A : Around} {E : Value → Shared → Prop} {a : Addr} {l : List Str} {x : Str} {tk : Tok} {Q : Value → Shared → Prop} {P : Program} {w : World} (R : SetX w s.heap a l) (room : l.length + 1 < scanBound)
    (hQ : ∀ h', Heap.SameBut a s.heap h' → SetX w h' a (addL x l) → Q .none { s with heap := h', toks := s.toks + 1 }) : wpAny (model P w) A (call (.builtin "set.add") [.ref a, .str x tk]) Q E s := by
  have hS := R.setOf (P := P)
  refine wpAny_call_entry F.slot_set_add hS.typeIs F.entry_set_add ?_ (F.args_set_add_2 _ _)
  unfold Builtin.«set.add» Builtin.Frozenset.oneOther
  simp only [List.isEmpty_nil, bind_assoc]
  unfold Builtin.Frozenset.addrOf setAdd
  refine wpAny_bind (wpAny_pure ?_)
  try dsimp only
  refine wpAny_bind (wpAny_pure ?_)
  try dsimp only
  refine wpAny_bind (wpAny_holding (wpAny_bind ((PySem.strKind P w).pyHash (strKind_is P w x tk) ?_)))
  refine addX (s := { s with toks := s.toks + 1 }) R room fun h' sb r => ?_
  show wpAny _ _ (ret Value.none) _ _ _
  exact wpAny_pure ⟨_, rfl, hQ h' sb r⟩
theorem add_ok {E : Value → Shared → Prop} {D : Addr} {l : List Str} {x : Str} {tk : Tok} {Q : Value → Shared → Prop} (I : Inv X pins σ H s) (hD : H D = some (SetXO X.w D l)) (room : l.length + 1 < scanBound)
    (h : ∀ s', Inv X pins σ (upd H D (SetXO X.w D (addL x l))) s' → Q .none s') : wpAny (model X.prog X.w) X.A (call (.builtin "set.add") [.ref D, .str x tk]) Q E s := by
  refine add_call (setXO_get I hD) room fun h' sb new => ?_
  have he : ∃ u, h'.get? D = some u := by
    have ⟨o, _, _, _, ho, _⟩ := new
    exact ⟨o, ho⟩
  exact h _ (I.write (e := D) (t' := s.toks + 1) (by rw [hD]; trivial) (.inl rfl) (fun b u hb hu => (sb.2 b hb).trans hu) he (setXO_new new))
/-- {elt for target in iter if ..}, elt a text -/
def tSx (w : World) (wi : TI) (g : TG) (tt : TT) (te : TE) (vs : List Nat) : TE := fun σ H Q => wi σ H fun J H1 => ∀ D, H1 D = none → ∃ W : Nat → Nat → Hp → Prop, (∃ m, W 0 m (upd H1 D (SetXO w D []))) ∧ ∀ i m H, W i m H →
  (J.stop i H ∧ Q (.ref D) H) ∨ (J.go i H ∧ ∃ Nx : Hp → Prop, (∀ H', Nx H' → ∃ m', m' < m ∧ W (i + 1) m' H') ∧ ∀ x H', J.yld i H x H' → g x (wipe σ vs) H' fun σ2 H2 => wipe σ2 vs = wipe σ vs ∧ tt σ2 H2 fun b H3 =>
    if b = true then te σ2 H3 fun y H4 => ∃ (c : Str) (l : List Str), y = .str c ∧ H4 D = some (SetXO w D l) ∧ l.length + 1 < scanBound ∧ Nx (upd H4 D (SetXO w D (addL c l))) else Nx H3)
abbrev setObj (w : World) : Obj := { cls := .type "set", dict := none, data := .set #[] 0 (.fresh 0 0 (!w.params.followText "set-order")) }
theorem sx_core {Q : VK} {elt tg iter : Expr} {ifs : List Expr} {scope : Scope} {own : List (PySem.Str × Nat)} {pos pos' : Pos} {wi : TI} {g : TG} {tt : TT} {te : TE} {Qf : Value → Shared → Prop} (hc : X.calm = true) (hN : X.N.Nodup) (I : Inv X pins σ H s) (hi : PI X tg iter wi) (ok : BlkOk X.N X.env.scope scope own)
    (hg : ∀ (s : Shared) (H : Hp) (C : Addr) (cl : List (PySem.Str × Addr)) (fp : List Addr), PG (X.blk s H scope (compEnvC scope cl C X.env) fp) tg g) (ht : ∀ (s : Shared) (H : Hp) (C : Addr) (cl : List (PySem.Str × Addr)) (fp : List Addr), PTs (X.blk s H scope (compEnvC scope cl C X.env) fp) ifs tt)
    (he : ∀ (s : Shared) (H : Hp) (C : Addr) (cl : List (PySem.Str × Addr)) (fp : List Addr), PE (X.blk s H scope (compEnvC scope cl C X.env) fp) elt te) (hs : ∀ x, foldedSetIterable iter X.env x = pure x) (h : tSx X.w wi g tt te (own.map (·.2)) σ H Q)
    (hRR : ∀ D C s' m H', Inv X pins σ H' s' → Q (.ref D) H' → s'.heap.Ns C m → FpOk X pins H' C → compPost (model X.prog X.w) X.A X.xe none Qf (.ref D) C (.ok .next) s') :
    wpAny (model X.prog X.w) X.A (comprehension (.SetComp elt [⟨tg, iter, ifs, 0⟩] scope pos) scope X.env pos' (newSet (.type "set")) false (eval iter X.env) none) Qf X.xe s := by
  have hfree : ∀ y ∈ scope.names, y.2 = .free → ∃ c, X.env.cells.lookup y.1 = some c := fun y hy e => (ok.free y hy e).elim (fun k => I.ok.has _ (.inl k)) (fun k => I.ok.has _ (.inr k))
  refine wpAny_comprehension_free (use := none) rfl hs (closure_ok hfree) ok.kind (fun y hy e => by rw [ok.uniq y hy, e]) (thn (hi.run pins s σ H _ I h) fun xv s1 hx => thn hx fun itv s2 h2 => ?_)
  obtain ⟨it, fp, tn, J, H2, e, I2, T, st2, f2, q⟩ := h2
  subst e
  refine PpSet.newSet_ok (newEnv_comp ?_)
  generalize hD : s2.heap.objs.size = D
  have hDn : H2 D = none := I2.hok.fresh (Nat.le_of_eq hD)
  obtain ⟨W, ⟨m0, w0⟩, turn⟩ := q D hDn
  generalize hs3 : ({ s2 with heap := s2.heap.push (setObj X.w) } : Shared) = s3
  have h3 : s3.heap = s2.heap.push (setObj X.w) := by rw [← hs3]
  have I3 : Inv X pins σ (upd H2 D (SetXO X.w D [])) s3 := by
    rw [← hs3]
    refine I2.laid (t' := s2.toks) (fun b o e => Heap.get?_push_of_some _ e) (Nat.le_of_eq hD) ?_
    rw [← hD]
    exact setXO_new (freshX (Heap.get?_push_size _ rfl))
  have f3 : ∀ b ∈ fp, FpOk X pins (upd H2 D (SetXO X.w D [])) b ∧ b < s3.heap.objs.size := fun b hb => by
    obtain ⟨o, e, _⟩ := T.obj _ _ st2 b hb
    have hlt := Heap.lt_size e
    refine ⟨⟨?_, (f2 b hb).2⟩, by rw [h3, Heap.size_push]; exact Nat.lt_succ_of_lt hlt⟩
    rw [upd_ne (by rw [← hD]; exact Nat.ne_of_lt hlt)]
    exact (f2 b hb).1
  have st3 : tn 0 s3.heap := T.keep _ _ _ st2 fun b _ o e => by rw [h3]; exact Heap.get?_push_of_some _ e
  have I4 := block_start I3 ok hN f3
  generalize hH3 : upd H2 D (SetXO X.w D []) = H3 at I3 I4 w0 f3
  have pg := hg s3 H3 s3.heap.objs.size (cellsFrom (s3.heap.objs.size + 1) scope.names (cloFrom X.env.cells scope.names [])) fp
  have pt := ht s3 H3 s3.heap.objs.size (cellsFrom (s3.heap.objs.size + 1) scope.names (cloFrom X.env.cells scope.names [])) fp
  have pe := he s3 H3 s3.heap.objs.size (cellsFrom (s3.heap.objs.size + 1) scope.names (cloFrom X.env.cells scope.names [])) fp
  show codeAny _ _ (.compStart (.SetComp elt [⟨tg, iter, ifs, 0⟩] scope pos) 0 (.ref it) (.ref D) (compEnvC scope (cellsFrom (s3.heap.objs.size + 1) scope.names (cloFrom X.env.cells scope.names [])) s3.heap.objs.size X.env)) (compPost (model X.prog X.w) X.A X.xe none Qf (.ref D) s3.heap.objs.size) { s3 with heap := pushCells (s3.heap.push { cls := .type "dict", data := .dict #[] }) scope.names }
  have nfp : ∀ b ∈ fp, H3 b = none := fun b hb => (f3 b hb).1.1
  generalize hce : compEnvC scope (cellsFrom (s3.heap.objs.size + 1) scope.names (cloFrom X.env.cells scope.names [])) s3.heap.objs.size X.env = ce at I4 pg pt pe ⊢
  have cL : ce.locals = s3.heap.objs.size := by subst hce; rfl
  generalize hs4 : ({ s3 with heap := pushCells (s3.heap.push { cls := .type "dict", data := .dict #[] }) scope.names } : Shared) = s4 at I4 ⊢
  have st4 : tn 0 s4.heap := T.keep _ _ _ st3 fun b _ o e => by rw [← hs4]; exact pushCells_keeps _ _ _ _ (Heap.get?_push_of_some _ e)
  have stat : ∀ {σ' : L2.St} {H' : Hp} {s' : Shared}, Inv (X.blk s3 H3 scope ce fp) [] σ' H' s' → (∀ b ∈ fp, H' b = none) → ∀ b ∈ fp, FpOk (X.blk s3 H3 scope ce fp) [] H' b := fun {σ' H' s'} I' hn b hb =>
    ⟨hn b hb, (I'.ok.exf b hb).1, I'.ok.exfs b hb, .inl hb, fun x c e => (I'.ok.exf b hb).2 x c e, fun p hp => absurd (show p ∈ ([] : List (Addr × Obj)) ++ [] from hp) (by simp)⟩
  have loop : codeAny (model X.prog X.w) X.A (.compLoop (.SetComp elt [⟨tg, iter, ifs, 0⟩] scope pos) 0 (.ref it) (.ref D) ce) (compPost (model X.prog X.w) X.A X.xe none Qf (.ref D) s3.heap.objs.size) s4 := by
    refine PpSet.compLoopS_any (fun n s' => ∃ i H', Inv (X.blk s3 H3 scope ce fp) [] (wipe σ (own.map (·.2))) H' s' ∧ tn i s'.heap ∧ (∀ b ∈ fp, H' b = none) ∧ W i n H') ?_ m0 ⟨0, H3, I4, st4, nfp, w0⟩
    rintro n s5 ⟨i, H5, I5, st5, n5, w5⟩
    rcases turn i n H5 w5 with ⟨stop, qq⟩ | ⟨go, Nx, hNx, step⟩
    · refine thnF (T.done (X.blk s3 H3 scope ce fp) rfl rfl rfl hc i [] s5 _ H5 (fun _ _ => False) I5 (stat I5 n5) st5 stop) fun r s6 ⟨hr, I6⟩ => ?_
      subst hr
      have I7 : Inv X pins σ H5 s6 := I3.call' (ch := fp) I6.os I6.base I6.hok I6.bare fun b hb => ⟨(f3 b hb).1.2.2.2.1, (f3 b hb).1.2.1, (f3 b hb).1.2.2.2.2.1, (f3 b hb).1.2.2.2.2.2⟩
      have nC : H5 s3.heap.objs.size = none := cL ▸ (show H5 ce.locals = none from I6.free)
      obtain ⟨m, hn, _⟩ := I6.loc
      exact hRR D s3.heap.objs.size s6 m H5 I7 qq (cL ▸ (show s6.heap.Ns ce.locals m from hn)) (I3.fpOk (Nat.le_refl _) nC)
    · refine thnF (T.item (X.blk s3 H3 scope ce fp) rfl rfl rfl hc i [] s5 _ H5 (fun _ _ => False) I5 (stat I5 n5) st5 go) fun r s6 ⟨u, hr, h6⟩ => ?_
      subst hr
      refine thnF h6 fun _ s7 ⟨x, H7, I7, r7, y7, st7, n7⟩ => ?_
      refine thnF (pg.run _ s7 _ H7 x u _ (I7.pinned (stat I7 n7) (T.obj _ _ st7)) r7 (step x H7 y7)) fun _ s8 ⟨σ8, H8, I8, hw8, q8⟩ => ?_
      refine thnF (pt.run _ s8 σ8 H8 _ I8 q8) fun b s9 ⟨H9, I9, q9⟩ => ?_
      have fin : ∀ {s' : Shared} {H' : Hp}, Inv (X.blk s3 H3 scope ce fp) ([] ++ pinsAt fp s7.heap) σ8 H' s' → Nx H' → ∃ m, m < n ∧ ∃ i H', Inv (X.blk s3 H3 scope ce fp) [] (wipe σ (own.map (·.2))) H' s' ∧ tn i s'.heap ∧ (∀ b ∈ fp, H' b = none) ∧ W i m H' := fun {s' H'} I' nx => by
        obtain ⟨m', hm, w'⟩ := hNx H' nx
        have pin' : ∀ b ∈ fp, ∀ o, s7.heap.get? b = some o → s'.heap.get? b = some o ∧ H' b = none := fun b hb o e =>
          let z := I'.pin (b, o) (List.mem_append_right _ (List.mem_append_right _ (mem_pinsAt hb e)))
          ⟨z.1, z.2.1⟩
        have hl : (wipe σ (own.map (·.2))).length = σ8.length := by rw [← hw8, wipe_length]
        refine ⟨m', hm, i + 1, H', (I'.unpinned (pins := [])).weak hl (fun j v e => ?_), T.keep _ _ _ st7 fun b hb o e => (pin' b hb o e).1, fun b hb => ?_, w'⟩
        · rw [← hw8] at e
          exact (wipe_some e).1
        · obtain ⟨o, e, _⟩ := T.obj _ _ st7 b hb
          exact (pin' b hb o e).2
      cases b with
      | false => exact fin I9 q9
      | true =>
        refine thnF (pe.run _ s9 σ8 H9 _ I9 q9) fun z s10 ⟨yv, H10, I10, r10, cb, l0, ey, hD10, hz10, nx⟩ => ?_
        subst ey
        obtain ⟨tk, rfl⟩ := (show ∃ t, z = Value.str cb t from r10)
        exact add_ok (X := X.blk s3 H3 scope ce fp) I10 hD10 hz10 fun s11 I11 => fin I11 nx
  exact PpSet.codeAny_compStart_set loop (T.self X.A 0 _ _ _ st4 loop)
theorem pe_sx {elt tg iter : Expr} {ifs : List Expr} {scope : Scope} {own : List (PySem.Str × Nat)} {pos : Pos} {wi : TI} {g : TG} {tt : TT} {te : TE} (hc : X.calm = true) (hN : X.N.Nodup) (hi : PI X tg iter wi) (ok : BlkOk X.N X.env.scope scope own)
    (hg : ∀ (s : Shared) (H : Hp) (C : Addr) (cl : List (PySem.Str × Addr)) (fp : List Addr), PG (X.blk s H scope (compEnvC scope cl C X.env) fp) tg g) (ht : ∀ (s : Shared) (H : Hp) (C : Addr) (cl : List (PySem.Str × Addr)) (fp : List Addr), PTs (X.blk s H scope (compEnvC scope cl C X.env) fp) ifs tt)
    (he : ∀ (s : Shared) (H : Hp) (C : Addr) (cl : List (PySem.Str × Addr)) (fp : List Addr), PE (X.blk s H scope (compEnvC scope cl C X.env) fp) elt te) (hs : ∀ x, foldedSetIterable iter X.env x = pure x) :
    PE X (.SetComp elt [⟨tg, iter, ifs, 0⟩] scope pos) (tSx X.w wi g tt te (own.map (·.2))) := by
  refine ⟨fun pins s σ H Q I h => ?_⟩
  rw [PpSet.eval_SetComp]
  refine sx_core hc hN I hi ok hg ht he hs h fun D C s' m H' I' q hn f => ⟨m, hn, fun h'' sb => ?_⟩
  obtain ⟨f0, f1, f2, f3, f4, f5⟩ := f
  exact ⟨.ref D, H', I'.turned (t' := s'.toks) (fun b o hb e => (sb.2 b hb).trans e) f0 f1 f3 f4 f5, rfl, q⟩
/-- len of a set of texts -/
theorem len_set : CallR X (.builtin "len") (fun xs H Q => ∃ a l, xs = [.ref a] ∧ H a = some (SetXO X.w a l) ∧ Q (.int l.length) H) := by
  intro pins s σ H xs us Q I r q
  obtain ⟨a, l, rfl, ha, q⟩ := q
  rw [Vals.ref1 r]
  obtain ⟨o, es, ep, t, ho, hex, hd, g, pm, nd, hb, hf, hr, hl⟩ := setXO_get I ha
  have hsz : es.size = l.length := by simpa using pm.length_eq
  refine PySem.call_len_set ho hex hd hf (by have : scanBound = 4096 := rfl; omega) ?_
  exact ⟨.int l.length, H, I.tok _, ⟨_, by rw [hsz]⟩, q⟩
end
end LS
end
section
set_option Elab.async false
set_option linter.all false
set_option maxRecDepth 100000
set_option autoImplicit false
/-! LSC: set(list of texts), sorted(set) -/
namespace LS
open PySem PySem.Spec PyProof.Rows L2

def addAll : List Str → List Str → List Str
  | [], l => l
  | x :: xs, l => addAll xs (addL x l)
theorem addL_len (x : Str) (l : List Str) : (addL x l).length ≤ l.length + 1 := by
  unfold addL; split <;> simp
section
variable {P : Program} {w : World} {A : Around} {E : Value → Shared → Prop} {s : Shared}
theorem upd_loop {I : Addr} {fp wr : List Addr} {G : Array GenState → Array GenState → Prop} {n : Nat} {Pv : Nat → Value → Prop} {St : Nat → Shared → Prop} {R : Result → Shared → Prop} (W : WalksS P w A.in1 I fp wr G n Pv St) (S : Addr) (hSf : S ∉ fp) (xs : List Str) (hn : n = xs.length)
    (hval : ∀ i v, Pv i v → ∃ x t, xs[i]? = some x ∧ v = .str x t) : ∀ (k i : Nat) (s : Shared) (l : List Str), n - i = k → i ≤ n → St i s → SetX w s.heap S l → l.length + k < scanBound →
      (∀ s', Moved (S :: wr) G s s' → SetX w s'.heap S (addAll (xs.drop i) l) → R (.ok (.ret .none)) s') → codeAny (model P w) A (.builtin "set.update.loop" ⟨[.ref S, .ref I], []⟩) R s := by
  have hSw : S ∉ wr := fun h => hSf (W.sub _ h)
  have hsub : ∀ b ∈ wr, b ∈ S :: wr := fun b hb => List.mem_cons_of_mem _ hb
  intro k
  induction k with
  | zero =>
    intro i s l hk hi hst hS hb hR
    have hin : i = n := by omega
    subst hin
    refine codeAny_builtin F.entry_set_update_loop ?_
    rw [Around.under_plainId F.plain_set_update_loop _]
    show wpAny _ A.in1 (pyNext (.ref I) >>= _) _ _ s
    refine wpAny_bind (W.done s _ _ hst fun s' hm => ?_)
    show wpAny _ A.in1 (ret Value.none) _ _ s'
    have e : xs.drop i = [] := List.drop_of_length_le (by omega)
    rw [e] at hR
    exact wpAny_pure (hR s' (hm.mono hsub) (hS.at fun o e => hm.heap S o hSw e))
  | succ k ih =>
    intro i s l hk hi hst hS hb hR
    have hlt : i < n := by omega
    refine codeAny_builtin F.entry_set_update_loop ?_
    rw [Around.under_plainId F.plain_set_update_loop _]
    show wpAny _ A.in1 (pyNext (.ref I) >>= _) _ _ s
    refine wpAny_bind (W.item i s _ _ hlt hst fun v s' hP hst' hm => ?_)
    obtain ⟨z, t, hz, rfl⟩ := hval i v hP
    have hS' : SetX w s'.heap S l := hS.at fun o e => hm.heap S o hSw e
    show wpAny _ A.in1 (holding [Value.str z t] (setAdd S (.str z t)) >>= _) _ _ s'
    refine wpAny_bind (wpAny_holding ?_)
    unfold setAdd
    refine wpAny_holding (wpAny_bind ((PySem.strKind P w).pyHash (k := z) (strKind_is _ _ _ _) ?_))
    refine addX (s := { s' with toks := s'.toks + 1 }) hS' (by omega) fun h' hsb hS2 => ?_
    have ed : xs.drop i = z :: xs.drop (i + 1) := by
      obtain ⟨hl, e⟩ := List.getElem?_eq_some_iff.mp hz
      rw [List.drop_eq_getElem_cons hl, e]
    have hl2 := addL_len z l
    refine wpAny_pure ⟨plainId_quiet F.plain_set_update_loop _, ih (i + 1) _ (addL z l) (by omega) hlt (W.frame _ s' _ _ hst' (Nat.le_succ _) fun b hb o e => ?_) hS2 (by omega) fun s'' hm'' hS'' => ?_⟩
    · rw [hsb.2 b (fun h : b = S => hSf (by rw [← h]; exact hb))]; exact e
    · refine hR s'' (Moved.trans W.gtrans ((hm.mono hsub).then_heap (Nat.le_succ _) fun b o hb e => ?_) hm'') (by rw [ed]; exact hS'')
      rw [hsb.2 b (fun h : b = S => hb (by rw [h]; exact List.mem_cons_self))]; exact e
theorem strs_get : ∀ {us : List Value} {xs : List Str}, StrsAre us xs → ∀ (i : Nat) (v : Value), us[i]? = some v → ∃ x t, xs[i]? = some x ∧ v = .str x t
  | _, _, .nil, i, v, h => by simp at h
  | _, _, .cons n t hr, 0, v, h => by simp at h; exact ⟨n, t, rfl, h.symm⟩
  | _, _, .cons n t hr, i + 1, v, h => by
    simp only [List.getElem?_cons_succ] at h ⊢
    exact strs_get hr i v h
set_option maxHeartbeats 3200000 in
theorem set_list {l : Addr} {items : Array Value} {xs : List Str} {Q : Value → Shared → Prop} (hh : A.handled = none) (hl : s.heap.IsList l items) (hit : StrsAre items.toList xs) (hb : xs.length < 64)
    (h : ∀ (h' : Heap) (tk : Nat), SetX w h' s.heap.objs.size (addAll xs []) → (∀ b o, s.heap.get? b = some o → h'.get? b = some o) → Q (.ref s.heap.objs.size) { s with heap := h', toks := tk }) :
    wpAny (model P w) A (call (.type "set") [.ref l]) Q E s := by
  have hisz : items.size = xs.length := by simpa using StrsAre.length hit
  obtain ⟨c, tl, hmro⟩ := PySem.F.called_set.mro
  have hmade := PySem.F.called_set.made
  have hsub := PySem.F.called_set.sub
  refine wpAny_call (codeAny_of_tree ?_)
  show wpAny _ _ (callAny (.type "set") _) _ _ _
  refine wpAny_pure ⟨Code.quiet_builtin _ (by decide +kernel), codeAny_builtin PySem.F.entry_type_call ?_⟩
  rw [Around.under_plain (weight_type_call_type "set" [.ref l] []) rfl]
  have h1 := PySem.F.called_set.notType
  have h2 := PySem.F.called_set.canCreate
  have hct := PySem.F.typeCall_set_1 (.ref l)
  repeat (any_goals (first | assumption | wp_step))
  refine codeAny_mono (code_set_led1 (.ref l) (E := E) (Q₁ := fun obj s₁ => obj = .ref s.heap.objs.size ∧ s₁ = { s with heap := s.heap.push (setObj w) }) ⟨rfl, rfl⟩) fun r s₁ hr => ?_
  cases r with
  | error e => exact hr
  | ok fl =>
    cases fl with
    | ret obj =>
      obtain ⟨rfl, rfl⟩ := hr
      have hS : (s.heap.push (setObj w)).get? s.heap.objs.size = some (setObj w) := Heap.get?_push_size _ rfl
      have hT : Shared.TypeIs { s with heap := s.heap.push (setObj w) } (.ref s.heap.objs.size) "set" := ⟨_, hS, rfl⟩
      have hli := PySem.F.called_set.init.lookup
      have hbi := PySem.F.called_set.init.bind (.ref s.heap.objs.size)
      repeat (any_goals (first | assumption | wp_step))
      refine codeAny_mono (codeAny_call_builtin (R := wants (fun r s₂ => r = .none ∧ ∃ h' tk, s₂ = { s with heap := h', toks := tk } ∧ SetX w h' s.heap.objs.size (addAll xs []) ∧ (∀ b o, s.heap.get? b = some o → h'.get? b = some o)) E) PySem.F.called_set.init.plain PySem.F.entry_set_init (check_set_init_1 hT ?_)) fun r₂ s₂ hr₂ => ?_
      · obtain ⟨ol, hol, hcl, nl, hdl⟩ := hl
        obtain ⟨ocls, odict, odata, oslots⟩ := ol
        simp only at hcl hdl
        subst hcl; subst hdl
        have hol' : (s.heap.push (setObj w)).get? l = some { cls := .type "list", dict := odict, data := .seq items nl, slots := oslots } := Heap.get?_push_of_some _ hol
        have hsls := PySem.F.sub_list_set
        have hslf := PySem.F.sub_list_frozenset
        have hne : (Value.type "list" == Value.type "dict") = false := by decide
        have hl1 : (s.heap.push (setObj w)).IsList l items := ⟨_, hol', rfl, nl, rfl⟩
        unfold Builtin.«set.__init__» noKeywords Builtin.Frozenset.updateFrom
        generalize hPI : pyIter = PI
        wp_walk
        subst hPI
        refine wpAny_pyIter_list hl1 ?_
        refine wpAny_bind (wpAny_runValue ?_)
        have hlS : l < s.heap.objs.size := Heap.lt_size hol
        have hh3 : A.in1.in1.in1.handled = none := by simp [hh]
        have hneI : l ≠ (s.heap.push (setObj w)).objs.size := by
          rw [Heap.size_push]; exact Nat.ne_of_lt (Nat.lt_succ_of_lt hlS)
        have hSf : s.heap.objs.size ∉ [(s.heap.push (setObj w)).objs.size, l] := by
          rw [Heap.size_push]
          simp only [List.mem_cons, List.mem_singleton, List.not_mem_nil, or_false, not_or]
          exact ⟨Nat.ne_of_lt (Nat.lt_succ_self _), Nat.ne_of_gt hlS⟩
        refine upd_loop ((Walks.list hh3 _ l hneI items).toS) s.heap.objs.size hSf xs hisz (fun i v hv => strs_get hit i v (by rw [Array.getElem?_toList]; exact hv)) (items.size - 0) 0 _ [] (by omega) (Nat.zero_le _)
          ⟨⟨_, Heap.get?_push_size _ rfl, rfl, rfl⟩, (hl1.push _)⟩ (freshX (Heap.get?_push_of_some _ hS)) (by have : scanBound = 4096 := rfl; simp; omega) fun s' hm hS' => ?_
        obtain ⟨h', g2, d', tk', os'⟩ := s'
        have eg : g2 = s.gens := hm.gens
        have ed : d' = s.drawn := hm.drawn
        have eo : os' = s.os := hm.os
        subst eg; subst ed; subst eo
        show wpAny _ _ _ _ _ _
        refine wpAny_pure ?_
        show wpAny _ _ (ret Value.none) _ _ _
        refine wpAny_pure ⟨rfl, h', tk', rfl, hS', fun b o e => ?_⟩
        have hb0 : b < s.heap.objs.size := Heap.lt_size e
        have hb2 : b ≠ (s.heap.push (setObj w)).objs.size := by
          rw [Heap.size_push]; exact Nat.ne_of_lt (Nat.lt_succ_of_lt hb0)
        refine hm.heap b o ?_ (Heap.get?_push_of_some _ (Heap.get?_push_of_some _ e))
        simp only [List.mem_cons, List.mem_singleton, List.not_mem_nil, or_false, not_or]
        exact ⟨Nat.ne_of_lt hb0, hb2⟩
      · cases r₂ with
        | error e => exact hr₂
        | ok fl₂ =>
          cases fl₂ with
          | ret r =>
            obtain ⟨rfl, h', tk, rfl, hS', hk'⟩ := hr₂
            repeat (any_goals (first | assumption | wp_step))
            exact h _ _ hS' hk'
          | _ => exact hr₂.elim
    | _ => exact hr.elim
theorem strs_of : ∀ (l : List Value), (∀ v ∈ l, ∃ x tk, v = Value.str x tk) → StrsAre l (l.map fun v => keyS (0, v))
  | [], _ => .nil
  | v :: l, h => by
    obtain ⟨k, tk, rfl⟩ := h v List.mem_cons_self
    exact .cons k tk (strs_of l fun u hu => h u (List.mem_cons_of_mem _ hu))
theorem sorted_set {a : Addr} {l : List Str} {Q : Value → Shared → Prop} (R : SetX w s.heap a l) (hh : A.handled = none) (h64 : l.length < 64)
    (hQ : ∀ s' p (out : Array Value) (c : Nat) (ys : List Str), (∀ b o, s.heap.get? b = some o → s'.heap.get? b = some o) → s'.gens = s.gens → s'.os = s.os → s.heap.objs.size ≤ p → s'.heap.get? p = some (seqObj "list" out c) → StrsAre out.toList ys → ys.Perm l → sortedS ys = true → Q (.ref p) s') :
    wpAny (model P w) A (call (.builtin "sorted") [.ref a]) Q E s := by
  obtain ⟨o, es, ep, t, ho, hex, hd, g, pm, nd, hb, hf, hr, hl⟩ := R
  have hsz : es.size = l.length := by simpa using pm.length_eq
  refine Calls.call_function_entry kind_sorted plain_sorted entry_sorted (args_sorted1 _) ?_
  unfold Builtin.«sorted»
  refine wpAny_bind (m := checkCount "sorted" 1 1 _) (wpAny_pure ?_)
  refine wpAny_bind (collect_set (A := A.in1) hh ⟨o, ho, hex.1, hd⟩ hf hb hr hl fun s1 vs k1 hz g1 o1 pv => ?_)
  have hvl : vs.length = l.length := by rw [pv.length_eq, List.length_map, Array.length_toList]; exact hsz
  have hI : StrsAre vs (vs.map fun v => keyS (0, v)) := strs_of vs fun v hv => by
    obtain ⟨e, he, q⟩ := List.mem_map.mp (pv.mem_iff.mp hv)
    obtain ⟨k, tk, e1, _⟩ := g e he
    exact ⟨k, tk, by rw [← q]; exact e1⟩
  have pk : (vs.map fun v => keyS (0, v)).Perm l := by
    have q := pv.map fun v => keyS (0, v)
    rw [List.map_map] at q
    exact q.trans pm
  refine wpAny_bind (wpAny_newList ?_ (by rw [hvl, sizeLine_eq]; omega))
  have hoL : (s1.heap.push (seqObj "list" vs.toArray 0)).get? s1.heap.objs.size = some (seqObj "list" vs.toArray 0) := Heap.get?_push_size _ rfl
  refine wpAny_bind (wpAny_holding (wpAny_call_entry slot_list_sort ⟨_, hoL, rfl⟩ entry_list_sort (list_sort_treeK strKind_oneLt hoL hI.keysOf (fun v₁ v₂ rest e => keyKind_strs (by rw [← e]; exact hI)) (by rw [hvl]; exact h64) fun st' hp hs => ⟨_, rfl, ?_⟩) (args_list_sort _)))
  obtain ⟨ys, q1, q2, q3⟩ := sorted_out_str hI hp hs
  obtain ⟨c, hc⟩ := sortedHeap_at (vs := vs) (out := (arrOf st').map (·.2)) hoL
  refine wpAny_pure ⟨_, rfl, hQ _ s1.heap.objs.size _ c ys (fun b u e => ?_) g1 o1 hz hc q1 (q2.trans pk) q3⟩
  have q := k1 b u e
  have hlt := Heap.lt_size q
  show (sortedHeap (s1.heap.push (seqObj "list" vs.toArray 0)) s1.heap.objs.size vs _).get? b = some u
  rw [sortedHeap_old (Nat.ne_of_lt hlt) (by rw [size_push']; exact Nat.lt_succ_of_lt hlt)]
  exact Heap.get?_push_of_some _ q
end
section
variable {X : Cx}
theorem c_set (hc : X.calm = true) : CallR X (.type "set") (fun vs H Q => ∃ l xs, vs = [.ref l] ∧ SqL X.K H l (xs.map V.str) ∧ xs.length < 64 ∧ ∀ p, H p = none → Q (.ref p) (upd H p (SetXO X.w p (addAll xs [])))) := by
  intro pins s σ H vs us Q I r q
  obtain ⟨l, xs, rfl, hl, hf, q⟩ := q
  rw [Vals.ref1 r]
  obtain ⟨its, rv, pl, hz⟩ := I.list hl
  have hn : H s.heap.objs.size = none := I.hok.fresh (Nat.le_refl _)
  refine set_list (P := X.prog) (w := X.w) (I.ok.hd hc) pl.isList (by simpa using rv.strs) hf fun h' tk R k => ?_
  exact ⟨.ref s.heap.objs.size, _, I.laid (t' := tk) k (Nat.le_refl _) (setXO_new R), rfl, q _ hn⟩
theorem c_sorted (hc : X.calm = true) : CallR X (.builtin "sorted") (fun vs H Q => ∃ a l, vs = [.ref a] ∧ H a = some (SetXO X.w a l) ∧ l.length < 64 ∧ ∀ ys p, ys.Perm l → sortedS ys = true → H p = none → Q (.ref p) (upd H p (.lst (ys.map V.str)))) := by
  intro pins s σ H vs us Q I r q
  obtain ⟨a, l, rfl, ha, hf, q⟩ := q
  rw [Vals.ref1 r]
  refine sorted_set (P := X.prog) (setXO_get I ha) (I.ok.hd hc) hf fun s' p out c ys k g o hp hg hs pm so => ?_
  have hlen : (ys.map V.str).length ≤ sizeLine := by rw [List.length_map, pm.length_eq, sizeLine_eq]; omega
  have hn : H p = none := I.hok.fresh hp
  have J : Inv X pins σ (upd H p (.lst (ys.map V.str))) { s with heap := s'.heap, gens := s'.gens, drawn := s'.drawn, toks := s'.toks } :=
    I.call (ch := []) (Un.laid k hp hn) (I.hok.laid k hp ⟨hlen, out.toList, c, vals_of_strs hs, hg⟩) (by rw [g]; exact I.bare) (fun _ z => nomatch z)
  have e : s' = { s with heap := s'.heap, gens := s'.gens, drawn := s'.drawn, toks := s'.toks } := by
    cases s'
    cases s
    cases o
    rfl
  rw [e]
  exact ⟨.ref p, _, J, rfl, q ys p pm so hn⟩
end
end LS
end
section
set_option Elab.async false
set_option linter.all false
set_option maxRecDepth 100000
set_option autoImplicit false
/-! LDY: sets of texts, dict displays, list(d.values()) -/
namespace LD
open PySem L2

theorem ddL_map : ∀ (xs l : List (List Nat)), LS.addAll (xs.map sOf) (l.map sOf) = (ddL xs l).map sOf
  | [], l => rfl
  | x :: xs, l => by
    have e : LS.addL (sOf x) (l.map sOf) = (if x ∈ l then l else x :: l).map sOf := by
      unfold LS.addL
      have : sOf x ∈ l.map sOf ↔ x ∈ l := by
        rw [List.mem_map]
        exact ⟨fun ⟨a, ha, q⟩ => sOf_inj q ▸ ha, fun h => ⟨x, h, rfl⟩⟩
      by_cases hx : x ∈ l
      · rw [if_pos hx, if_pos (this.2 hx)]
      · rw [if_neg hx, if_neg (fun z => hx (this.1 z))]; rfl
    show LS.addAll (xs.map sOf) (LS.addL (sOf x) (l.map sOf)) = _
    rw [e, ddL_map xs]
    rfl
theorem insS_perm (x : List Nat) : ∀ l : List (List Nat), (insS x l).Perm (x :: l)
  | [] => .refl _
  | y :: ys => by
    unfold insS
    split
    · exact .refl _
    · exact (List.Perm.cons y (insS_perm x ys)).trans (List.Perm.swap x y ys)
theorem sortL_perm : ∀ l : List (List Nat), (sortL l).Perm l
  | [] => .refl _
  | x :: xs => (insS_perm x (sortL xs)).trans (List.Perm.cons x (sortL_perm xs))
theorem insS_pw (x : List Nat) : ∀ l : List (List Nat), l.Pairwise (· ≤ ·) → (insS x l).Pairwise (· ≤ ·)
  | [], _ => List.pairwise_singleton _ _
  | y :: ys, h => by
    unfold insS
    obtain ⟨h1, h2⟩ := List.pairwise_cons.mp h
    split
    · rename_i hxy
      refine List.pairwise_cons.mpr ⟨fun z hz => ?_, h⟩
      rcases List.mem_cons.mp hz with rfl | hz
      · exact hxy
      · exact List.le_trans hxy (h1 z hz)
    · rename_i hxy
      refine List.pairwise_cons.mpr ⟨fun z hz => ?_, insS_pw x ys h2⟩
      rcases List.mem_cons.mp ((insS_perm x ys).mem_iff.mp hz) with rfl | hz
      · exact (List.le_total y z).resolve_right hxy
      · exact h1 z hz
theorem sortL_pw : ∀ l : List (List Nat), (sortL l).Pairwise (· ≤ ·)
  | [] => List.Pairwise.nil
  | x :: xs => insS_pw x _ (sortL_pw xs)
theorem rising_pw : ∀ (l : List Str) (p : Str), PyProof.Rows.risingS p l = true → (∀ x ∈ l, p.cps.toList ≤ x.cps.toList) ∧ l.Pairwise (fun a b => a.cps.toList ≤ b.cps.toList)
  | [], p, _ => ⟨(fun x hx => nomatch hx), List.Pairwise.nil⟩
  | x :: r, p, h => by
    unfold PyProof.Rows.risingS at h
    rw [Bool.and_eq_true, Bool.not_eq_true'] at h
    obtain ⟨h1, h2⟩ := h
    rw [PyProof.Rows.ltCps_eq, decide_eq_false_iff_not] at h1
    have hp : p.cps.toList ≤ x.cps.toList := List.not_lt.mp h1
    obtain ⟨h3, h4⟩ := rising_pw r x h2
    refine ⟨fun y hy => ?_, List.pairwise_cons.mpr ⟨h3, h4⟩⟩
    rcases List.mem_cons.mp hy with rfl | hy
    · exact hp
    · exact List.le_trans hp (h3 y hy)
theorem sorted_pw {l : List Str} (h : PyProof.Rows.sortedS l = true) : l.Pairwise (fun a b => a.cps.toList ≤ b.cps.toList) := by
  cases l with
  | nil => exact List.Pairwise.nil
  | cons x r =>
    obtain ⟨h1, h2⟩ := rising_pw r x h
    exact List.pairwise_cons.mpr ⟨h1, h2⟩
/-- sorted texts are told by their members -/
theorem sorted_is {ys : List Str} {l : List (List Nat)} (h : PyProof.Rows.sortedS ys = true) (p : ys.Perm (l.map sOf)) : ys = (sortL l).map sOf := by
  refine List.Perm.eq_of_pairwise (le := fun a b : Str => a.cps.toList ≤ b.cps.toList) (fun a b _ _ h1 h2 => ?_) (sorted_pw h) ?_ (p.trans ((sortL_perm l).map sOf).symm)
  · have := List.le_antisymm h1 h2
    cases a; cases b
    congr
    exact Array.toList_inj.mp this
  · rw [List.pairwise_map]
    exact (sortL_pw l).imp fun {a b} q => by simpa [sOf] using q
section
variable {X : Cx} {C : Cl} {W : WX} {a : Expr} {m : LSt → LH → Res LV} {pos p p' pos' : Pos}
/-- sorted(set(e)) -/
theorem k_sst (hc : X.calm = true) (g1 : Gl X "sorted") (m1 : X.mg "sorted" = none) (g2 : Gl X "set") (m2 : X.mg "set" = none) (hn : nst a = true) (ha : PE X a (liftE C X.K W m)) :
    PE X (.Call (.Name "sorted" p) [.Call (.Name "set" p') [a] [] pos'] [] pos) (liftE C X.K W fun ls h => (m ls h).bind fun x h1 => pSst x h1) := by
  have h2 := pe_callTy (pos := pos') (p := p') (LS.c_set hc) g2 m2 rfl (pa_cons ha pa_nil (star_cons hn)) (by decide) (by decide) (star_cons hn) rfl
  have h1 := pe_callB (pos := pos) (p := p) (LS.c_sorted hc) g1 m1 rfl (pa_cons h2 pa_nil (star_cons rfl)) (by decide) (by decide) (star_cons rfl) rfl
  refine h1.weak fun σ H Q x => lift_mono (lift_bind (R := RV X.K) (R' := RV X.K) (k := fun _ v h1 => pSst v h1) x) fun y H1 ⟨φ, ls, h, v, S, L, rv, R⟩ => ?_
  unfold pSst at R
  split at R
  · rename_i xs e1
    split at R
    · rename_i ss e2
      split at R
      · rename_i hl
        obtain ⟨q, ys, rfl, sq, rs⟩ := lstOf_sq S rv e1
        have hys := strs_V rs e2
        refine ⟨q, ss.map sOf, rfl, by rw [List.map_map]; rw [hys] at sq; exact sq, by simpa using hl, fun d hd => ?_⟩
        have dd := ddL_map ss []
        refine ⟨d, _, rfl, upd_same, ?_, fun zs r pm so hr => ?_⟩
        · rw [show ([] : List Str) = ([] : List (List Nat)).map sOf from rfl, dd, List.length_map]
          have : ∀ (xs l : List (List Nat)), (ddL xs l).length ≤ xs.length + l.length := by
            intro xs
            induction xs with
            | nil => intro l; simp [ddL]
            | cons x xs ih =>
              intro l
              have := ih (if x ∈ l then l else x :: l)
              unfold ddL
              split at this
              · rename_i hx; rw [if_pos hx]; simp; omega
              · rename_i hx; rw [if_neg hx]; simp at this ⊢; omega
          have := this ss []
          simp at this
          omega
        · rw [show ([] : List Str) = ([] : List (List Nat)).map sOf from rfl, dd] at pm
          have ez := sorted_is so pm
          subst ez
          have st1 := Step.extra (o := LS.SetXO X.w d (LS.addAll (ss.map sOf) [])) S hd
          have R1 := RSg.shift S st1 R
          refine RSg.nL st1.sim R1 ?_ hr
          have : ∀ l : List (List Nat), VRs X.K φ h.length (upd H1 d (LS.SetXO X.w d (LS.addAll (ss.map sOf) []))) (l.map LV.str) ((l.map sOf).map V.str) := by
            intro l
            induction l with
            | nil => exact VRs.nil
            | cons x l ih => exact VRs.cons vr_str ih
          exact this _
      · exact R.elim
    · exact R.elim
  · exact R.elim
end
/-! ### len({.. for ..}) -/
theorem Step.putG {C : Cl} {K : PySem.W.Frag} {φ0 φ : Nat → Addr} {h0 h : LH} {H0 H : Hp} (st : Step C K φ0 h0 H0 φ h H) {D : Addr} {u o : HO} (e0 : H0 D = none) (e : H D = some u) (hu : (∀ xs, u ≠ .tup xs) ∧ ∀ ob x, u ≠ .frz ob x) (hn : ∀ i, i < h.length → φ i ≠ D) :
    Step C K φ0 h0 H0 φ h (upd H D o) ∧ Carry φ h.length H φ h.length (upd H D o) := by
  obtain ⟨S, c⟩ := Step.touch (o := o) st.sim e hu hn
  refine ⟨⟨⟨st.grow.le, st.grow.same, fun p o ep hp => ?_, st.grow.new, fun p o u ep => ?_⟩, S⟩, c⟩
  · rw [upd_ne (ne_of_none ep e0)]; exact st.grow.keep p o ep hp
  · rw [upd_ne (ne_of_none ep e0)]; exact st.grow.frz p o u ep
theorem compG_pre {w : Wk} {t : LV → LSt → LH → Res LSt} {q : LSt → LH → Res Bool} {e : LSt → LH → Res LV} {ls : LSt} : ∀ (k i : Nat) (acc : List LV) (h : LH), (∀ c p h', compG w t q e ls k i acc h ≠ .exc c p h') ∧ ∀ xs h', compG w t q e ls k i acc h = .ok xs h' → ∃ r, xs = acc ++ r
  | 0, i, acc, h => by
    unfold compG
    split
    · exact ⟨(fun _ _ _ z => nomatch z), fun xs h' z => by cases z; exact ⟨[], by simp⟩⟩
    · exact ⟨(fun _ _ _ z => nomatch z), (fun _ _ z => nomatch z)⟩
  | k + 1, i, acc, h => by
    unfold compG
    split
    · exact ⟨(fun _ _ _ z => nomatch z), fun xs h' z => by cases z; exact ⟨[], by simp⟩⟩
    · cases t _ ls h with
      | ok ls1 h1 =>
        dsimp only [Res.bindN]
        cases q ls1 h1 with
        | ok b h2 =>
          dsimp only
          split
          · cases e ls1 h2 with
            | ok v h3 =>
              dsimp only
              split
              · obtain ⟨a1, a2⟩ := compG_pre (w := w) (t := t) (q := q) (e := e) (ls := ls) k (i + 1) (acc ++ [v]) h3
                refine ⟨a1, fun xs h' z => ?_⟩
                obtain ⟨r, er⟩ := a2 xs h' z
                exact ⟨v :: r, by rw [er]; simp⟩
              · exact ⟨(fun _ _ _ z => nomatch z), (fun _ _ z => nomatch z)⟩
            | exc _ _ _ => exact ⟨(fun _ _ _ z => nomatch z), (fun _ _ z => nomatch z)⟩
            | bad => exact ⟨(fun _ _ _ z => nomatch z), (fun _ _ z => nomatch z)⟩
          · exact compG_pre (w := w) (t := t) (q := q) (e := e) (ls := ls) k (i + 1) acc h2
        | exc _ _ _ => exact ⟨(fun _ _ _ z => nomatch z), (fun _ _ z => nomatch z)⟩
        | bad => exact ⟨(fun _ _ _ z => nomatch z), (fun _ _ z => nomatch z)⟩
      | exc _ _ _ => exact ⟨(fun _ _ _ z => nomatch z), (fun _ _ z => nomatch z)⟩
      | bad => exact ⟨(fun _ _ _ z => nomatch z), (fun _ _ z => nomatch z)⟩
    · exact ⟨(fun _ _ _ z => nomatch z), (fun _ _ z => nomatch z)⟩
theorem strsOf_pre : ∀ {xs ys : List LV} {ss : List (List Nat)}, strsOf (xs ++ ys) = some ss → ∃ s1, strsOf xs = some s1 ∧ s1.length ≤ ss.length ∧ s1.length = xs.length
  | [], ys, ss, h => ⟨[], rfl, Nat.zero_le _, rfl⟩
  | x :: xs, ys, ss, h => by
    cases x with
    | str z =>
      cases e : strsOf (xs ++ ys) with
      | none => simp [strsOf, e] at h
      | some s2 =>
        have h' : ss = z :: s2 := by simpa [strsOf, e] using h.symm
        obtain ⟨s1, e1, e2, e3⟩ := strsOf_pre e
        exact ⟨z :: s1, by simp [strsOf, e1], by rw [h']; simpa using e2, by simpa using e3⟩
    | _ => simp [strsOf] at h
theorem strsOf_snoc : ∀ {xs : List LV} {v : LV} {ss : List (List Nat)}, strsOf (xs ++ [v]) = some ss → ∃ s1 z, strsOf xs = some s1 ∧ v = .str z ∧ ss = s1 ++ [z]
  | [], v, ss, h => by
    cases v with
    | str z => exact ⟨[], z, rfl, rfl, by simpa [strsOf] using h.symm⟩
    | _ => simp [strsOf] at h
  | x :: xs, v, ss, h => by
    cases x with
    | str z =>
      cases e : strsOf (xs ++ [v]) with
      | none => simp [strsOf, e] at h
      | some s2 =>
        have h' : ss = z :: s2 := by simpa [strsOf, e] using h.symm
        obtain ⟨s1, y, e1, e2, e3⟩ := strsOf_snoc e
        exact ⟨z :: s1, y, by simp [strsOf, e1], e2, by rw [h', e3]; rfl⟩
    | _ => simp [strsOf] at h
theorem ddL_snoc (z : List Nat) : ∀ (xs l : List (List Nat)), ddL (xs ++ [z]) l = if z ∈ ddL xs l then ddL xs l else z :: ddL xs l
  | [], l => rfl
  | x :: xs, l => ddL_snoc z xs _
theorem ddL_len : ∀ (xs l : List (List Nat)), (ddL xs l).length ≤ xs.length + l.length := by
  intro xs
  induction xs with
  | nil => intro l; simp [ddL]
  | cons x xs ih =>
    intro l
    have := ih (if x ∈ l then l else x :: l)
    unfold ddL
    split at this
    · rename_i hx; rw [if_pos hx]; simp; omega
    · rename_i hx; rw [if_neg hx]; simp at this ⊢; omega
theorem addL_dd (z : List Nat) (ss : List (List Nat)) : LS.addL (sOf z) ((ddL ss []).map sOf) = (ddL (ss ++ [z]) []).map sOf := by
  rw [ddL_snoc]
  unfold LS.addL
  have : sOf z ∈ (ddL ss []).map sOf ↔ z ∈ ddL ss [] := by
    rw [List.mem_map]
    exact ⟨fun ⟨a, ha, q⟩ => sOf_inj q ▸ ha, fun h => ⟨z, h, rfl⟩⟩
  by_cases hx : z ∈ ddL ss []
  · rw [if_pos hx, if_pos (this.2 hx)]
  · rw [if_neg hx, if_neg (fun q => hx (this.1 q))]; rfl
section
variable {C : Cl} {K : PySem.W.Frag} {W : WX} {mi : LSt → LH → Res Wk} {t : LV → LSt → LH → Res LSt} {q : LSt → LH → Res Bool} {e : LSt → LH → Res LV} {own vs : List Nat} {wd : World}
/-- the texts gathered so far -/
theorem pls_pre {φ : Nat → Addr} {h : LH} {H : Hp} {E : XK} {Q : VK} {w : Wk} {ls : LSt} {k i : Nat} {acc : List LV} {h' : LH} (R : RSg C K (RV K) E φ h H ((compG w t q e ls k i acc h').bind fun xs h1 => pLs xs h1) Q) : ∃ ss, strsOf acc = some ss ∧ ss.length < 4000 := by
  obtain ⟨a1, a2⟩ := compG_pre (w := w) (t := t) (q := q) (e := e) (ls := ls) k i acc h'
  revert R a1 a2
  cases compG w t q e ls k i acc h' with
  | bad => exact fun R _ _ => R.elim
  | exc c p h1 => exact fun R a1 _ => absurd rfl (a1 c p h1)
  | ok xs h1 =>
    intro R _ a2
    obtain ⟨r, er⟩ := a2 xs h1 rfl
    have R' : RSg C K (RV K) E φ h H (pLs xs h1) Q := R
    unfold pLs at R'
    split at R'
    · rename_i ss es
      split at R'
      · rename_i hl
        rw [er] at es
        obtain ⟨s1, e1, e2, _⟩ := strsOf_pre es
        exact ⟨s1, e1, by omega⟩
      · exact R'.elim
    · exact R'.elim
theorem sx_read {σ : St} {H : Hp} {Q : VK} (hv : ∀ i ∈ vs, i ∈ own) (x : liftE C K W (fun ls h => ((mi ls h).bind fun w h1 => compOf t q e own w ls h1).bind fun xs h1 => pLs xs h1) σ H Q) :
    LS.tSx wd (liftI C K W mi) (liftG C K vs t) (liftT C K noW q) (liftE C K noW e) own σ H fun v H1 => ∃ D l, v = .ref D ∧ H1 D = some (LS.SetXO wd D l) ∧ Q (.int l.length) H1 := by
  obtain ⟨φ, ls, h, S, L, x⟩ := x
  dsimp only at x
  rw [Res.bind_assoc] at x
  refine ⟨φ, ls, h, S, L, RSg.mono (RSg.bind (R := RJ C K) S x) fun J H1 ⟨φ1, h1, w, st1, lit, R1⟩ D hD => ?_⟩
  have S1 := st1.sim
  refine ⟨fun i m H' => ∃ φ' h' accL ss, Step C K φ1 h1 H1 φ' h' H' ∧ (∀ j, j < h'.length → φ' j ≠ D) ∧ strsOf accL = some ss ∧ H' D = some (LS.SetXO wd D ((ddL ss []).map sOf)) ∧ RSg C K (RV K) (fun c d H' => W c d σ H') φ1 h1 H1 ((compG w t q e (lwipe ls own) m i accL h').bind fun xs h1 => pLs xs h1) Q, ?_, ?_⟩
  · exact ⟨fuelW w, φ1, h1, [], [], Step.extra S1 hD, S1.notin hD, rfl, upd_same, R1⟩
  · rintro i m H2 ⟨φ2, h2, accL, ss, st2, hn2, es2, eD2, R2⟩
    have S2 := st2.sim
    have L2 : Loc K φ2 h2.length H2 (lwipe ls own) (wipe σ own) := (L.carry (Step.carry S (Step.trans S st1 st2))).wipe own
    cases en : nxW w i h2 with
    | none => cases m <;> (unfold compG at R2; rw [en] at R2; exact R2.elim)
    | some on =>
      cases on with
      | none =>
        refine .inl ⟨lit.stop φ2 h2 H2 i st2.grow S2 en, D, _, rfl, eD2, ?_⟩
        have R3 : RSg C K (RV K) (fun c d H' => W c d σ H') φ1 h1 H1 (pLs accL h2) Q := by
          cases m <;> (unfold compG at R2; rw [en] at R2; exact R2)
        unfold pLs at R3
        rw [es2] at R3
        dsimp only at R3
        split at R3
        · rw [List.length_map]
          exact R3 φ2 H2 _ st2 vr_int
        · exact R3.elim
      | some a =>
        cases m with
        | zero => unfold compG at R2; rw [en] at R2; exact R2.elim
        | succ m =>
          unfold compG at R2; rw [en] at R2
          dsimp only at R2
          obtain ⟨g1, g2⟩ := lit.go φ2 h2 H2 i a st2.grow S2 en
          refine .inr ⟨g1, fun H' => ∃ φ' h' accL ss, Step C K φ1 h1 H1 φ' h' H' ∧ (∀ j, j < h'.length → φ' j ≠ D) ∧ strsOf accL = some ss ∧ H' D = some (LS.SetXO wd D ((ddL ss []).map sOf)) ∧ RSg C K (RV K) (fun c d H' => W c d σ H') φ1 h1 H1 ((compG w t q e (lwipe ls own) m (i + 1) accL h').bind fun xs h1 => pLs xs h1) Q, fun H' z => ⟨m, Nat.lt_succ_self m, z⟩, fun v H3 yl => ?_⟩
          obtain ⟨st3, rv, kp⟩ := g2 v H3 yl
          have S3 := st3.sim
          have c3 := st3.carry S2
          have toN : ∀ {α : Type} (m : Res α) (k : α → LH → Res (List LV)), (m.bindN k).bind (fun xs h1 => pLs xs h1) = m.bindN fun a h => (k a h).bind fun xs h1 => pLs xs h1 := fun m k => by cases m <;> rfl
          rw [toN] at R2
          refine ⟨φ2, lwipe ls own, h2, a, S3, L2.carry c3, rv, RSg.mono (RSg.turn (R := RLo K vs (wipe σ own)) R2) fun τ H4 ⟨φ4, h4, ls4, st4, ⟨L4, o4⟩, R4⟩ => ⟨?_, ?_⟩⟩
          · rw [(o4.sub hv).wipe, wipe_wipe]
          · have S4 := st4.sim
            rw [toN] at R4
            refine ⟨φ4, ls4, h4, S4, L4, RSg.mono (RSg.turn (R := RB) R4) fun b H5 ⟨φ5, h5, b', st5, rb, R5⟩ => ?_⟩
            cases rb
            have st25 := Step.trans S2 st3 (Step.trans S3 st4 st5)
            have S5 := st5.sim
            obtain ⟨eD5, hn5⟩ := st25.raw eD2 hn2
            have st15 := Step.trans S1 st2 st25
            cases b with
            | false => exact ⟨φ5, h5, accL, ss, st15, hn5, es2, eD5, R5⟩
            | true =>
              rw [if_pos rfl, toN] at R5
              refine ⟨φ5, ls4, h5, S5, L4.carry (st5.carry S4), RSg.mono (RSg.turn (R := RV K) R5) fun y H6 ⟨φ6, h6, lv, st6, ry, R6⟩ => ?_⟩
              obtain ⟨eD6, hn6⟩ := st6.raw eD5 hn5
              have st16 := Step.trans S1 st15 st6
              split at R6
              · obtain ⟨ss', e1, e2⟩ := pls_pre R6
                obtain ⟨s1, z, e3, rfl, e4⟩ := strsOf_snoc e1
                rw [es2] at e3
                cases e3
                refine ⟨sOf z, _, ry.str, eD6, ?_, ?_⟩
                · have := ddL_len ss []
                  have hs : PySem.scanBound = 4096 := rfl
                  rw [e4] at e2
                  simp at this e2
                  simp
                  omega
                · rw [addL_dd]
                  obtain ⟨st17, c7⟩ := Step.putG (o := LS.SetXO wd D ((ddL (ss ++ [z]) []).map sOf)) st16 hD eD6 ⟨(fun _ z => nomatch z), (fun _ _ z => nomatch z)⟩ hn6
                  exact ⟨φ6, h6, accL ++ [.str z], ss ++ [z], st17, hn6, by rw [e1, e4], upd_same, R6⟩
              · exact R6.elim
end
section
variable {X : Cx} {C : Cl} {W : WX} {tg elt iter : Expr} {ifs : List Expr} {scope : Scope} {own : List (Str × Nat)} {vs : List Nat} {pos p pos' : Pos} {mi : LSt → LH → Res Wk} {t : LV → LSt → LH → Res LSt} {q : LSt → LH → Res Bool} {e : LSt → LH → Res LV}
theorem k_lsc (hc : X.calm = true) (hN : X.N.Nodup) (g1 : Gl X "len") (m1 : X.mg "len" = none) (hs : nset iter = true) (hi : PI X tg iter (liftI C X.K W mi)) (ok : BlkOk X.N X.env.scope scope own) (hv : ∀ i ∈ vs, i ∈ own.map (·.2))
    (hg : ∀ (s : Shared) (H : Hp) (A : Addr) (cl : List (Str × Addr)) (fp : List Addr), PG (X.blk s H scope (compEnvC scope cl A X.env) fp) tg (liftG C X.K vs t))
    (ht : ∀ (s : Shared) (H : Hp) (A : Addr) (cl : List (Str × Addr)) (fp : List Addr), PTs (X.blk s H scope (compEnvC scope cl A X.env) fp) ifs (liftT C X.K noW q))
    (he : ∀ (s : Shared) (H : Hp) (A : Addr) (cl : List (Str × Addr)) (fp : List Addr), PE (X.blk s H scope (compEnvC scope cl A X.env) fp) elt (liftE C X.K noW e)) :
    PE X (.Call (.Name "len" p) [.SetComp elt [⟨tg, iter, ifs, 0⟩] scope pos'] [] pos) (liftE C X.K W fun ls h => ((mi ls h).bind fun w h1 => compOf t q e (own.map (·.2)) w ls h1).bind fun xs h1 => pLs xs h1) :=
  (pe_callB LS.len_set g1 m1 rfl (pa_cons (LS.pe_sx (pos := pos') hc hN hi ok hg ht he (fold_of hs)) pa_nil (star_cons rfl)) (by decide) (by decide) (star_cons rfl) rfl).weak fun σ H Q x => by
    have y := sx_read (wd := X.w) hv x
    revert y
    unfold tCB tCons tNil LS.tSx
    intro y
    obtain ⟨φ, ls, h, S, L, y⟩ := y
    refine ⟨φ, ls, h, S, L, y.mono fun J H1 z D hD => ?_⟩
    obtain ⟨Wi, w0, tu⟩ := z D hD
    refine ⟨Wi, w0, fun i m H2 wh => (tu i m H2 wh).imp (fun ⟨a, D', l, e1, e2, e3⟩ => ⟨a, D', l, by rw [e1], e2, e3⟩) id⟩
end
end LD
end
section
set_option Elab.async false
set_option linter.all false
set_option maxRecDepth 100000
set_option autoImplicit false
/-! LDZ: list(d.values()), dict displays -/
namespace LD
open PySem L2

/-- the view d.values() at p -/
def valsO (p d : Addr) : HO := .ext fun h => h.IsValuesView p d
theorem valsO_ok {P : Program} {w : World} {H : Hp} {h : Heap} {p d : Addr} (e : h.get? p = some { cls := .type "dict_values", data := .fields #[.ref d] }) : ObjOk P w H h p (valsO p d) :=
  ⟨⟨_, e, rfl, rfl⟩, ⟨_, e⟩, fun h1 h2 x k => let ⟨o, ho, r⟩ := x; ⟨o, k o ho, r⟩⟩
section
variable {X : Cx} {C : Cl} {W : WX}
theorem mt_vals : MtR X "dict.values" (fun x xs H Q => ∃ a kvs, x = .ref a ∧ xs = [] ∧ H a = some (.dK kvs) ∧ ∀ p, H p = none → Q (.ref p) (upd H p (valsO p a))) := by
  intro pins s σ H x xs v us Q I rx rxs h
  obtain ⟨a, kvs, rfl, rfl, ha, q⟩ := h
  cases rx
  cases rxs
  obtain ⟨z, hd, vs, rel, hm⟩ := dk_of I.hok ha
  have hf : H s.heap.objs.size = none := I.hok.fresh (Nat.le_refl _)
  refine call_meetsIn PySem.F.slot_dict_values hm.typeIs PySem.F.entry_dict_values (PySem.F.args_dict_values_1 _) (meets_dict_values (mixKind X.prog X.w) a hd) ⟨⟨vs, hm⟩, ?_⟩
  exact ⟨.ref s.heap.objs.size, upd H s.heap.objs.size (valsO s.heap.objs.size a), I.laid (t' := s.toks) (fun b u e => Heap.get?_push_of_some _ e) (Nat.le_refl _) (valsO_ok (Heap.get?_push_size _ rfl)), rfl, q _ hf⟩
theorem vals_items : ∀ {kvs : List (Key × V)} {vs : List (Key × Value)} {us : List Value}, KV kvs vs → us.length = vs.length → (∀ (j : Nat) (v : Value), us[j]? = some v → ∃ k, vs[j]? = some (k, v)) → Vals (kvs.map (·.2)) us
  | [], _, us, .nil, hl, _ => by
    cases us with
    | nil => exact .nil
    | cons _ _ => simp at hl
  | kv :: kvs, _, us, .cons (b := b) r t, hl, h => by
    cases us with
    | nil => simp at hl
    | cons u us =>
      obtain ⟨k, e⟩ := h 0 u rfl
      simp at e
      refine .cons ?_ (vals_items t (by simpa using hl) fun j v e => ?_)
      · have := r.2
        rw [e] at this
        exact this
      · obtain ⟨k, e'⟩ := h (j + 1) v (by simpa using e)
        exact ⟨k, by simpa using e'⟩
theorem cr_listVals (hc : X.calm = true) : CallR X (.type "list") (fun xs H Q => ∃ r a kvs, xs = [.ref r] ∧ H r = some (valsO r a) ∧ H a = some (.dK kvs) ∧ ∀ p, H p = none → Q (.ref p) (upd H p (.lst (kvs.map (·.2))))) := by
  intro pins s σ H xs us Q I rs h
  obtain ⟨r, a, kvs, rfl, hr, ha, q⟩ := h
  rw [Vals.ref1 rs]
  obtain ⟨z, hd, vs, rel, o, es, ep, ho, hx, hdat, hk, hp, hn⟩ := dk_of I.hok ha
  have hv : s.heap.IsValuesView r a := (I.hok r _ hr).1
  have hl : kvs.length = vs.length := Paired.length rel
  refine PySem.W.kdl_call (PySem.W.kdl_values (knd := mixKind X.prog X.w) (kvs := vs) (ep := ep)) (I.ok.hd hc) ⟨hv, o, es, ho, hx, hdat, hk, hp, hn⟩ (by rw [← hl]; exact z) fun h' tk acc c k hL hit => ?_
  have hf : H s.heap.objs.size = none := I.hok.fresh (Nat.le_refl _)
  have hvv : Vals (kvs.map (·.2)) acc.toList := vals_items rel (by rw [Array.length_toList]; exact hit.1) fun j v e => hit.2 j v (by rw [← Array.getElem?_toList]; exact e)
  exact ⟨.ref s.heap.objs.size, upd H s.heap.objs.size (.lst (kvs.map (·.2))), I.laid (t' := tk) k (Nat.le_refl _) ⟨by rw [List.length_map]; exact z, acc.toList, c, hvv, hL⟩, rfl, q _ hf⟩
variable {a : Expr} {m : LSt → LH → Res LV} {pos p apos mpos : Pos}
theorem k_lvl (hc : X.calm = true) (g1 : Gl X "list") (m1 : X.mg "list" = none) (hb : nsup a = true) (hl : (apos.endLine == mpos.line) = true) (ha : PE X a (liftE C X.K W m)) :
    PE X (.Call (.Name "list" p) [.Call (.Attribute a "values" apos) [] [] mpos] [] pos) (liftE C X.K W fun ls h => (m ls h).bind fun x h1 => pLvl x h1) := by
  have h2 := pe_bm0 (apos := apos) (cpos := mpos) PySem.F.plainAttrs_dict PySem.F.slot_dict_values PySem.F.type_dict_values mt_vals ha (base_of hb _) hl
  have h1 := pe_callTy (pos := pos) (p := p) (cr_listVals hc) g1 m1 rfl (pa_cons h2 pa_nil (star_cons rfl)) (by decide) (by decide) (star_cons rfl) rfl
  refine h1.weak fun σ H Q x => lift_mono (lift_bind (R := RV X.K) (R' := RV X.K) (k := fun _ v h1 => pLvl v h1) x) fun y H1 ⟨φ, ls, h, v, S, L, rv, R⟩ => ?_
  unfold pLvl at R
  split at R
  · rename_i i
    split at R
    · rename_i kvs e
      obtain ⟨ys, e1, r⟩ := dk_at S e
      unfold VR at rv
      obtain ⟨hi, rfl⟩ := rv
      refine ⟨.inr (.inr (.inl ⟨rfl, .inl ⟨ys, e1⟩⟩)), φ i, ys, rfl, rfl, e1, fun d hd => ⟨d, φ i, ys, rfl, upd_same, by rw [upd_ne (ne_of_none e1 hd)]; exact e1, fun r' hr' => ?_⟩⟩
      have st1 := Step.extra (o := valsO d (φ i)) S hd
      exact RSg.nL st1.sim (RSg.shift S st1 R) (VRs.carry (st1.carry S) r.vals) hr'
    · exact R.elim
  · exact R.elim
end
/-! ### {k: v, ..} -/
/-- a raw thing becomes the logical heap's -/
theorem Step.adopt {C : Cl} {K : PySem.W.Frag} {φ φ' : Nat → Addr} {h h1 : LH} {H H' : Hp} (st : Step C K φ h H φ' h1 H') {D : Addr} {lo : LO} (h0 : H D = none) (hn : ∀ i, i < h1.length → φ' i ≠ D) (ho : ∀ φ2, Carry φ' h1.length H' φ2 (h1.length + 1) H' → OR C K φ2 (h1.length + 1) H' D lo) :
    Step C K φ h H (ext φ' h1.length D) (h1 ++ [lo]) H' ∧ ext φ' h1.length D h1.length = D := by
  have en : ext φ' h1.length D h1.length = D := by unfold ext; rw [if_pos rfl]
  have eo : ∀ i, i < h1.length → ext φ' h1.length D i = φ' i := fun i hi => by unfold ext; rw [if_neg (Nat.ne_of_lt hi)]
  have c : Carry φ' h1.length H' (ext φ' h1.length D) (h1.length + 1) H' := ⟨Nat.le_succ _, eo, fun _ _ e => e, fun _ _ _ e => e⟩
  have hl : (h1 ++ [lo]).length = h1.length + 1 := by simp
  refine ⟨⟨⟨by rw [hl]; exact Nat.le_succ_of_le st.grow.le, fun i hi => ?_, fun p o ep hp => st.grow.keep p o ep hp, fun i h2 h3 => ?_, st.grow.frz⟩, ⟨fun i j hi hj e => ?_, fun i u e => ?_⟩⟩, en⟩
  · rw [eo i (Nat.lt_of_lt_of_le hi st.grow.le), st.grow.same i hi]
  · by_cases hi : i < h1.length
    · rw [eo i hi]; exact st.grow.new i h2 hi
    · have : i = h1.length := by rw [hl] at h3; omega
      subst this; rw [en]; exact h0
  · rw [hl] at hi hj
    by_cases h2 : i = h1.length
    · by_cases h3 : j = h1.length
      · rw [h2, h3]
      · rw [h2, en, eo j (by omega)] at e
        exact absurd e.symm (hn j (by omega))
    · by_cases h3 : j = h1.length
      · rw [h3, en, eo i (by omega)] at e
        exact absurd e (hn i (by omega))
      · rw [eo i (by omega), eo j (by omega)] at e
        exact st.sim.inj i j (by omega) (by omega) e
  · rw [hl]
    by_cases h2 : i < h1.length
    · rw [List.getElem?_append_left h2] at e
      rw [eo i h2]
      exact (st.sim.obj i u e).carry c fun o q => q
    · have h3 : i = h1.length := by
        have := (List.getElem?_eq_some_iff.mp e).1
        rw [hl] at this; omega
      subst h3
      rw [List.getElem?_append_right (Nat.le_refl _)] at e
      simp at e
      subst e
      rw [en]
      exact ho _ c
section
variable {P : Prg} {C : Cl} {F : FT} {K : PySem.W.Frag}
def trsOf (C : Cl) (K : PySem.W.Frag) (P : Prg) (F : FT) : List Key → Exs → List (TE × TE)
  | k :: ks, .cons e es => (tC (kV k), liftE C K noW (evE P F e)) :: trsOf C K P F ks es
  | _, _ => []
def exsLen : Exs → Nat
  | .nil => 0
  | .cons _ es => exsLen es + 1
theorem evEs_bindN {α : Type} (e : Ex) (es : Exs) (ls : LSt) (h : LH) (k : List LV → LH → Res α) : (evEs P F (.cons e es) ls h).bindN k = (evE P F e ls h).bindN fun v h1 => (evEs P F es ls h1).bindN fun vs h2 => k (v :: vs) h2 := by
  rw [evEs]
  cases evE P F e ls h with
  | ok v h1 => dsimp only [Res.bind, Res.bindN]; cases evEs P F es ls h1 <;> rfl
  | exc _ _ _ => rfl
  | bad => rfl
theorem dsp_read {α β : Type} {R : RL α β} {E : XK} {φ : Nat → Addr} {h : LH} {H : Hp} {p : Addr} {Q : β → Hp → Prop} {σ : St} {ls : LSt} (S : Sim C K φ h H) : ∀ (es : Exs) (ks : List Key) (G : List LV → LH → Res α) (φ' : Nat → Addr) (h' : LH) (H' : Hp), ks.length = exsLen es →
    Step C K φ h H φ' h' H' → H' p = some (.dK []) → (∀ i, i < h'.length → φ' i ≠ p) → Loc K φ' h'.length H' ls σ → RSg C K R E φ h H ((evEs P F es ls h').bindN G) Q →
    tPairs (trsOf C K P F ks es) σ H' fun ps H2 => ∃ φ2 h2 ws vs, Step C K φ' h' H' φ2 h2 H2 ∧ H2 p = some (.dK []) ∧ (∀ i, i < h2.length → φ2 i ≠ p) ∧ VRs K φ2 h2.length H2 ws vs ∧ ps = (ks.zip vs).map (fun kv => (kV kv.1, kv.2)) ∧ vs.length = ks.length ∧ RSg C K R E φ h H (G ws h2) Q
  | .nil, ks, G, φ', h', H', hl, st, ep, hn, L, x => by
    cases ks with
    | nil =>
      rw [evEs] at x
      exact ⟨φ', h', [], [], Step.refl st.sim, ep, hn, VRs.nil, rfl, rfl, x⟩
    | cons _ _ => simp [exsLen] at hl
  | .cons e es, ks, G, φ', h', H', hl, st, ep, hn, L, x => by
    cases ks with
    | nil => simp [exsLen] at hl
    | cons k ks =>
      rw [evEs_bindN] at x
      refine ⟨φ', ls, h', st.sim, L, RSg.mono (RSg.turn (R := RV K) x) fun y H1 ⟨φ1, h1, a, st1, ra, R1⟩ => ?_⟩
      obtain ⟨ep1, hn1⟩ := st1.raw ep hn
      have c1 := st1.carry st.sim
      have rc := dsp_read (R := R) (E := E) (Q := Q) S es ks (fun vs h2 => G (a :: vs) h2) φ1 h1 H1 (by simpa [exsLen] using hl) (Step.trans S st st1) ep1 hn1 (L.carry c1) R1
      have mono : ∀ (trs : List (TE × TE)), (∀ t ∈ trs, (∀ (σ : St) (H : Hp) (Q Q' : VK), (∀ v H, Q v H → Q' v H) → t.1 σ H Q → t.1 σ H Q') ∧ ∀ (σ : St) (H : Hp) (Q Q' : VK), (∀ v H, Q v H → Q' v H) → t.2 σ H Q → t.2 σ H Q') → ∀ (σ : St) (H : Hp) (Q Q' : List (V × V) → Hp → Prop), (∀ v H, Q v H → Q' v H) → tPairs trs σ H Q → tPairs trs σ H Q' := by
        intro trs
        induction trs with
        | nil => intro _ σ H Q Q' q z; exact q _ _ z
        | cons t trs ih =>
          intro ht σ H Q Q' q z
          obtain ⟨t1, t2⟩ := t
          obtain ⟨a1, a2⟩ := ht (t1, t2) List.mem_cons_self
          exact a1 σ H _ _ (fun v H z => a2 σ H _ _ (fun v H z => ih (fun t h => ht t (List.mem_cons_of_mem _ h)) σ H _ _ (fun ps H z => q _ _ z) z) z) z
      have mt : ∀ (ks : List Key) (es : Exs), ∀ t ∈ trsOf C K P F ks es, (∀ (σ : St) (H : Hp) (Q Q' : VK), (∀ v H, Q v H → Q' v H) → t.1 σ H Q → t.1 σ H Q') ∧ ∀ (σ : St) (H : Hp) (Q Q' : VK), (∀ v H, Q v H → Q' v H) → t.2 σ H Q → t.2 σ H Q' := by
        intro ks
        induction ks with
        | nil => intro es t ht; cases es <;> simp [trsOf] at ht
        | cons k ks ih =>
          intro es t ht
          cases es with
          | nil => simp [trsOf] at ht
          | cons e es =>
            rcases List.mem_cons.mp ht with rfl | ht
            · exact ⟨fun σ H Q Q' q z => q _ _ z, fun σ H Q Q' q z => lift_mono z q⟩
            · exact ih es t ht
      refine mono _ (mt ks es) σ H1 _ _ (fun ps H3 z => ?_) rc
      obtain ⟨φ2, h2, ws, vs, s2, e2, n2, r2, eps, hvl, R2⟩ := z
      exact ⟨φ2, h2, a :: ws, y :: vs, Step.trans st.sim st1 s2, e2, n2, VRs.cons (VR.carry (s2.carry st1.sim) ra) r2, by rw [eps]; rfl, by simp [hvl], R2⟩
theorem keys_of : ∀ {ks : List LV}, (ks.all fun k => (keyOf k).isSome) = true → ∃ kk : List Key, ks.map keyOf = kk.map some
  | [], _ => ⟨[], rfl⟩
  | k :: ks, h => by
    rw [List.all_cons, Bool.and_eq_true] at h
    obtain ⟨x, ex⟩ := Option.isSome_iff_exists.mp h.1
    obtain ⟨kk, ek⟩ := keys_of h.2
    exact ⟨x :: kk, by simp [ex, ek]⟩
theorem KRs.zip {φ : Nat → Addr} {n : Nat} {H : Hp} : ∀ {ks : List LV} {kk : List Key} {ws : List LV} {vs : List V}, ks.map keyOf = kk.map some → VRs K φ n H ws vs → ks.length = ws.length → KRs keyOf K φ n H (ks.zip ws) (kk.zip vs)
  | [], kk, ws, vs, e, r, hl => by
    cases kk <;> first | cases e | skip
    cases ws <;> first | simp at hl | skip
    exact rfl
  | k :: ks, kk, ws, vs, e, r, hl => by
    cases kk with
    | nil => cases e
    | cons x kk =>
      cases ws with
      | nil => simp at hl
      | cons w ws =>
        unfold VRs at r
        obtain ⟨y, zs, rfl, r1, r2⟩ := r
        simp only [List.map_cons, List.cons.injEq] at e
        exact ⟨x, y, kk.zip zs, rfl, e.1, r1, KRs.zip e.2 r2 (by simpa using hl)⟩
/-- the display, over its values -/
theorem w_dsp {W : WX} {σ : St} {H : Hp} {Q : VK} {ks : List LV} {kk : List Key} {es : Exs} (hk : ks.map keyOf = kk.map some) (hl : kk.length = exsLen es) (h15 : kk.length ≤ 15) (x : liftE C K W (fun ls h => (evEs P F es ls h).bindN fun ws h1 => pDsp ks ws h1) σ H Q) : tDisp (trsOf C K P F kk es) σ H Q := by
  obtain ⟨φ, ls, h, S, L, x⟩ := x
  intro p hp
  have st0 := Step.extra (o := .dK []) S hp
  have r := dsp_read (R := RV K) (P := P) (F := F) (p := p) S es kk (fun ws h1 => pDsp ks ws h1) φ h _ hl st0 upd_same (S.notin hp) (L.carry (st0.carry S)) x
  have mono : ∀ (trs : List (TE × TE)), (∀ t ∈ trs, (∀ (σ : St) (H : Hp) (Q Q' : VK), (∀ v H, Q v H → Q' v H) → t.1 σ H Q → t.1 σ H Q') ∧ ∀ (σ : St) (H : Hp) (Q Q' : VK), (∀ v H, Q v H → Q' v H) → t.2 σ H Q → t.2 σ H Q') → ∀ (σ : St) (H : Hp) (Q Q' : List (V × V) → Hp → Prop), (∀ v H, Q v H → Q' v H) → tPairs trs σ H Q → tPairs trs σ H Q' := by
    intro trs
    induction trs with
    | nil => intro _ σ H Q Q' q z; exact q _ _ z
    | cons t trs ih =>
      intro ht σ H Q Q' q z
      obtain ⟨t1, t2⟩ := t
      obtain ⟨a1, a2⟩ := ht (t1, t2) List.mem_cons_self
      exact a1 σ H _ _ (fun v H z => a2 σ H _ _ (fun v H z => ih (fun t h => ht t (List.mem_cons_of_mem _ h)) σ H _ _ (fun ps H z => q _ _ z) z) z) z
  have mt : ∀ (ks : List Key) (es : Exs), ∀ t ∈ trsOf C K P F ks es, (∀ (σ : St) (H : Hp) (Q Q' : VK), (∀ v H, Q v H → Q' v H) → t.1 σ H Q → t.1 σ H Q') ∧ ∀ (σ : St) (H : Hp) (Q Q' : VK), (∀ v H, Q v H → Q' v H) → t.2 σ H Q → t.2 σ H Q' := by
    intro ks
    induction ks with
    | nil => intro es t ht; cases es <;> simp [trsOf] at ht
    | cons k ks ih =>
      intro es t ht
      cases es with
      | nil => simp [trsOf] at ht
      | cons e es =>
        rcases List.mem_cons.mp ht with rfl | ht
        · exact ⟨fun σ H Q Q' q z => q _ _ z, fun σ H Q Q' q z => lift_mono z q⟩
        · exact ih es t ht
  refine mono _ (mt kk es) σ _ _ _ (fun ps H2 z => ?_) r
  obtain ⟨φ2, h2, ws, vs, st, ep, hn, rs, eps, hvl, R⟩ := z
  refine ⟨ep, kk.zip vs, eps, by rw [List.length_zip, hvl]; omega, ?_⟩
  unfold pDsp at R
  split at R
  · rename_i hc
    have st02 := Step.trans S st0 st
    obtain ⟨st3, c3⟩ := Step.putG (o := .dK (mergeK [] (kk.zip vs))) st02 hp ep ⟨(fun _ z => nomatch z), (fun _ _ z => nomatch z)⟩ hn
    have kz : KRs keyOf K φ2 h2.length (upd H2 p (.dK (mergeK [] (kk.zip vs)))) (dmerge [] (ks.zip ws)) (mergeK [] (kk.zip vs)) := KRs.merge (KRs.zip hk (VRs.carry c3 rs) hc.1) rfl
    obtain ⟨st4, en⟩ := Step.adopt (lo := .dK (dmerge [] (ks.zip ws))) st3 hp hn fun φ3 c => ⟨_, upd_same, kz.carry c⟩
    refine R _ _ _ st4 ?_
    unfold VR
    exact ⟨by simp, by rw [en]⟩
  · exact R.elim
end
end LD
end
section
set_option Elab.async false
set_option linter.all false
set_option maxRecDepth 100000
set_option autoImplicit false
/-! LDT: the matcher: that a PySem text is an own text -/
namespace LD
open PySem L2

/-- what is known of a block: slots' names, its scope's names, those that may be stored -/
structure Sc where
  N : List Str
  nm : List (Str × NameKind)
  raw : List (Str × NameKind)
def Sc.vis (c : Sc) (x : Str) : Bool := match c.nm.lookup x with
  | some .local => true
  | some .cell => true
  | some .free => true
  | _ => false
def Sc.glo (c : Sc) (x : Str) : Bool := match c.nm.lookup x with
  | some .globalImplicit => true
  | _ => false
def Sc.st (c : Sc) (x : Str) : Bool := match c.raw.lookup x with
  | some .local => true
  | some .cell => true
  | _ => false
def Sc.loc (c : Sc) (x : Str) : Bool := match c.nm.lookup x with
  | some .local => true
  | _ => false
def dbg (x : Str) : Bool := x == ("__debug__" : Str) || x == ("__classdict__" : Str)
def Sc.var (c : Sc) (i : Nat) (x : Str) : Bool := decide (c.N[i]? = some x) && c.vis x && !dbg x
def Sc.slot (c : Sc) (i : Nat) (x : Str) : Bool := decide (c.N[i]? = some x) && c.st x
/-- the scope of a comprehension's block -/
def Sc.blk (c : Sc) (scope : Scope) : Sc where
  N := c.N
  nm := scope.names.map fun (n, k) => if (k == .free && c.nm.lookup n == some .cell) then (n, .cell) else (n, k)
  raw := scope.names
def Sc.own (c : Sc) (own : List Nat) : List (Str × Nat) := own.map fun i => (c.N.getD i Str.empty, i)
def Sc.kf (c : Sc) : Str → Option NameKind := fun x => c.nm.lookup x
/-- built-in names that the texts use -/
def bltNames : List Str := ["len", "abs", "sum", "list", "tuple", "dict", "max", "min", "all", "any", "range", "isinstance", "str", "int", "bool", "set", "sorted"]
def binOf : O2 → Option Operator
  | .add => some .Add
  | .sub => some .Sub
  | .mul => some .Mult
  | .fdiv => some .FloorDiv
  | .mod => some .Mod
  | .pow => some .Pow
  | _ => none
def cmpOf : O2 → Option CmpOp
  | .eq => some .Eq
  | .ne => some .NotEq
  | .lt => some .Lt
  | .le => some .LtE
  | .gt => some .Gt
  | .ge => some .GtE
  | .isin => some .In
  | .notin => some .NotIn
  | .eqd => some .Eq
  | _ => none
def nsl : Expr → Bool
  | .Slice _ _ _ _ => false
  | _ => true
def tyOk (P : Prg) (c : Sc) (q : Tq) : Expr → Bool
  | .Name x _ => c.glo x && !dbg x && (match q with
    | .ty t => decide (t < 6) && decide (x = (tyNm t : Str))
    | .cls n => (match P.cls[n]? with
      | some ci => decide (x = ci.nm)
      | none => false))
  | _ => false
def tysOk (P : Prg) (c : Sc) : List Tq → List Expr → Bool
  | [], [] => true
  | q :: qs, e :: es => tyOk P c q e && tysOk P c qs es
  | _, _ => false
def conOk : LV → Const → Bool
  | .int k, .int j => decide (k = j)
  | .bl k, .bool j => decide (k = j)
  | .non, .none => true
  | .str k, .str j => decide (j = sOf k)
  | _, _ => false
def exsNil : Exs → Bool
  | .nil => true
  | .cons _ _ => false
def fnOk (P : Prg) (f : Nat) (x : Str) : Bool := match P.fns[f]? with
  | some fi => fi.top && decide (x = fi.nm)
  | none => false
def isiOk (P : Prg) (c : Sc) (ts : List Tq) (tp : Bool) (q : Expr) : Bool := if tp then (match q with
  | .Tuple qs _ _ => decide (ts.length ≤ 100) && tysOk P c ts qs
  | _ => false) else nst q && tysOk P c ts [q]
def kwNames (fi : FnI) (ks : List Nat) : List (Option Str) := ks.map fun j => some (fi.ps.getD j Str.empty)
def clOk (P : Prg) (n : Nat) (x : Str) (ks : List Nat) (as : List (Option Str)) : Bool := match P.cls[n]? with
  | some ci => decide (x = ci.nm) && (match P.fns[ci.ini]? with
    | some fi => decide (as = kwNames fi ks)
    | none => false)
  | none => false
mutual
def tgS : Tg → List Nat
  | .nm i => [i]
  | .tp ts => tgsS ts
  | .sb _ _ => []
def tgsS : Tgs → List Nat
  | .nil => []
  | .cons t ts => tgS t ++ tgsS ts
end
def cmpOk (c : Sc) (own : List Nat) (tg : Tg) (a : Int) (iter : Expr) (scope : Scope) : Bool :=
  decide (a = 0) && nset iter && blkC c.N { scope with names := c.nm } scope (c.own own) && (tgS tg).all (fun i => own.contains i)
def dspOk : List LV → List (Option Expr) → Bool
  | [], [] => true
  | k :: ks, e :: es => (keyOf k).isSome && (match e with
    | some (.Constant c _ _) => conOk k c
    | _ => false) && dspOk ks es
  | _, _ => false
def srPlain : Sr → Bool
  | .exp _ => true
  | .rng _ => true
  | _ => false
section
variable (P : Prg)
mutual
/-- t: as a test -/
def mE (t : Bool) (c : Sc) : Ex → Expr → Bool
  | .var i, pe => (match pe with
    | .Name x _ => c.var i x
    | _ => false)
  | .con v, pe => (match pe with
    | .Constant k _ _ => conOk v k
    | _ => false)
  | .glo g, pe => (match pe with
    | .Name x _ => c.glo x && !dbg x && (match P.glo[g]? with
      | some y => decide (y.1 = x)
      | none => false)
    | _ => false)
  | .op2 o a b, pe => (match pe with
    | .BinOp a' op b' _ => decide (binOf o = some op) && mE false c a a' && mE false c b b'
    | .Compare a' [op] [b'] _ => decide (cmpOf o = some op) && !behindInMarks op b' && mE false c a a' && mE false c b b'
    | .Subscript a' b' _ => decide (o = .idx) && nsl b' && mE false c a a' && mE false c b b'
    | _ => false)
  | .neg a, pe => (match pe with
    | .UnaryOp .USub a' _ => mE false c a a'
    | _ => false)
  | .isN ng a, pe => (match pe with
    | .Compare a' [op] [.Constant .none _ _] _ => decide (op = if ng then .IsNot else .Is) && mE false c a a'
    | _ => false)
  | .bop k xs, pe => (match pe with
    | .BoolOp op es _ => decide (op = if k then .And else .Or) && mBs t c xs es
    | _ => false)
  | .nt a, pe => (match pe with
    | .UnaryOp .Not a' _ => mE t c a a'
    | _ => false)
  | .chn a b d, pe => (match pe with
    | .Compare a' [.LtE, .LtE] [b', d'] _ => !lastMarks [.LtE, .LtE] [b', d'] && mE false c a a' && mE false c b b' && mE false c d d'
    | _ => false)
  | .ite x a b, pe => (match pe with
    | .IfExp x' a' b' _ => !t && mE true c x x' && mE false c a a' && mE false c b b'
    | _ => false)
  | .tup xs, pe => (match pe with
    | .Tuple es _ _ => mEs c xs es
    | _ => false)
  | .lst xs, pe => (match pe with
    | .List es _ => mEs c xs es
    | _ => false)
  | .dnw _, pe => (match pe with
    | .Dict [] [] _ => true
    | _ => false)
  | .slc a lo hi, pe => (match pe with
    | .Subscript a' (.Slice lo' hi' none _) _ => mE false c a a' && mOx c lo lo' && mOx c hi hi'
    | _ => false)
  | .fld a f, pe => (match pe with
    | .Attribute a' x _ => decide (x = P.fname f) && nsup a' && mE false c a a'
    | _ => false)
  | .cal f xs, pe => (match pe with
    | .Call (.Name x _) es [] _ => c.glo x && !dbg x && fnOk P f x && mEs c xs es
    | _ => false)
  | .met o m xs, pe => (match pe with
    | .Call (.Attribute o' x apos) es [] pos => decide (x = P.mname m) && nsup o' && (apos.endLine == pos.line) && decide (es.length < 29) && mE false c o o' && mEs c xs es
    | _ => false)
  | .mke n xs ks kws, pe => (match pe with
    | .Call (.Name x _) es kws' _ => c.glo x && !dbg x && clOk P n x ks (kws'.map fun q => q.arg) && !es.isEmpty && mEs c xs es && mKs c kws kws'
    | _ => false)
  | .bif b xs, pe => (match pe with
    | .Call (.Name x _) es [] _ => decide (x = (bfNm b : Str)) && c.glo x && !es.isEmpty && mEs c xs es
    | _ => false)
  | .bme m o xs, pe => (match pe with
    | .Call (.Attribute o' x apos) es [] pos => decide (x = bmNm m) && nsup o' && (apos.endLine == pos.line) && decide (es.length < 29) && !es.isEmpty && mE false c o o' && mEs c xs es
    | _ => false)
  | .isi a ts tp, pe => (match pe with
    | .Call (.Name x _) [a', q'] [] _ => decide (x = ("isinstance" : Str)) && c.glo x && nst a' && mE false c a a' && isiOk P c ts tp q'
    | _ => false)
  | .cmp k elt own tg src tst, pe => (match pe with
    | .ListComp elt' [⟨tg', iter', ifs', a⟩] scope _ => decide (k = .keep) && cmpOk c own tg a iter' scope && mSr c src tg' iter' && mTg (c.blk scope) tg tg' && mIf (c.blk scope) tst ifs' && mE false (c.blk scope) elt elt'
    | .Call (.Name x _) [.ListComp elt' [⟨tg', iter', ifs', a⟩] scope _] [] _ => decide (k ≠ .keep) && decide (x = (ckNm k : Str)) && c.glo x && cmpOk c own tg a iter' scope && mSr c src tg' iter' && mTg (c.blk scope) tg tg' && mIf (c.blk scope) tst ifs' && mE false (c.blk scope) elt elt'
    | _ => false)
  | .dsp ks vs, pe => (match pe with
    | .Dict keys values _ => dspOk ks keys && decide (ks.length = exsLen vs) && decide (ks.length ≤ 15) && !keys.isEmpty && decide (keys.length = values.length) && mEs c vs values
    | _ => false)
  | .lvl e, pe => (match pe with
    | .Call (.Name x _) [.Call (.Attribute a y apos) [] [] mpos] [] _ => decide (x = ("list" : Str)) && decide (y = ("values" : Str)) && c.glo x && nsup a && (apos.endLine == mpos.line) && mE false c e a
    | _ => false)
  | .sst e, pe => (match pe with
    | .Call (.Name x _) [.Call (.Name y _) [a] [] _] [] _ => decide (x = ("sorted" : Str)) && decide (y = ("set" : Str)) && c.glo x && c.glo y && nst a && mE false c e a
    | _ => false)
  | .lsc elt own tg src tst, pe => (match pe with
    | .Call (.Name x _) [.SetComp elt' [⟨tg', iter', ifs', a⟩] scope _] [] _ => decide (x = ("len" : Str)) && c.glo x && srPlain src && cmpOk c own tg a iter' scope && mSr c src tg' iter' && mTg (c.blk scope) tg tg' && mIf (c.blk scope) tst ifs' && mE false (c.blk scope) elt elt'
    | _ => false)
  | .eqo ng a b, pe => (match pe with
    | .Compare a' [op] [b'] _ => decide (op = if ng then .NotEq else .Eq) && !behindInMarks op b' && mE false c a a' && mE false c b b'
    | _ => false)
def mEs (c : Sc) : Exs → List Expr → Bool
  | .nil, ps => ps.isEmpty
  | .cons e es, ps => (match ps with
    | p :: ps => nst p && mE false c e p && mEs c es ps
    | [] => false)
def mBs (t : Bool) (c : Sc) : Exs → List Expr → Bool
  | .nil, _ => false
  | .cons e es, ps => (match ps with
    | p :: ps => mE t c e p && (exsNil es && ps.isEmpty || !exsNil es && !ps.isEmpty && mBs t c es ps)
    | [] => false)
def mKs (c : Sc) : Exs → List Keyword → Bool
  | .nil, ps => ps.isEmpty
  | .cons e es, ps => (match ps with
    | p :: ps => mE false c e p.value && mKs c es ps
    | [] => false)
def mOx (c : Sc) : Ox → Option Expr → Bool
  | .none, p => p.isNone
  | .some e, p => (match p with
    | some p => mE false c e p
    | none => false)
def mIf (c : Sc) : Ox → List Expr → Bool
  | .none, p => p.isEmpty
  | .some e, p => (match p with
    | [p] => mE true c e p
    | _ => false)
def mSr (c : Sc) : Sr → Expr → Expr → Bool
  | .exp e, _, p => mE false c e p
  | .rng e, _, p => (match p with
    | .Call (.Name x _) [p] [] _ => decide (x = ("range" : Str)) && c.glo x && nst p && mE false c e p
    | _ => false)
  | .kys e, _, p => mE false c e p
  | .vls e, _, p => (match p with
    | .Call (.Attribute p x apos) [] [] pos => decide (x = ("values" : Str)) && nsup p && (apos.endLine == pos.line) && mE false c e p
    | _ => false)
  | .its e, tg, p => (match tg with
    | .Tuple _ _ _ => (match p with
      | .Call (.Attribute p x apos) [] [] pos => decide (x = ("items" : Str)) && nsup p && (apos.endLine == pos.line) && mE false c e p
      | _ => false)
    | _ => false)
def mTg (c : Sc) : Tg → Expr → Bool
  | .nm i, pe => (match pe with
    | .Name x _ => c.slot i x
    | _ => false)
  | .tp ts, pe => (match pe with
    | .Tuple es _ _ => mTgs c ts es
    | _ => false)
  | .sb o i, pe => (match pe with
    | .Subscript o' i' _ => nsl i' && mE false c o o' && mE false c i i'
    | _ => false)
def mTgs (c : Sc) : Tgs → List Expr → Bool
  | .nil, ps => ps.isEmpty
  | .cons t ts, ps => (match ps with
    | p :: ps => nst p && mTg c t p && mTgs c ts ps
    | [] => false)
end
end
end LD
end
section
set_option Elab.async false
set_option linter.all false
set_option maxRecDepth 100000
set_option autoImplicit false
/-! LDU: what the matcher tells: expressions -/
namespace LD
open PySem L2

structure MgK (P : Prg) (C : Cl) (L : Lk) (K : PySem.W.Frag) (mg : Str → Option Value) : Prop where
  fn : ∀ i fi, P.fns[i]? = some fi → fi.top = true → mg fi.nm = some (.ref (L.fA i))
  cl : ∀ c ci, P.cls[c]? = some ci → mg ci.nm = some (.ref (C.cA c))
  gl : ∀ (g : Nat) (y : Str × LV), P.glo[g]? = some y → ∃ u v, mg y.1 = some u ∧ RelV v u ∧ ∀ φ n H, VR K φ n H y.2 v
  bl : ∀ x ∈ bltNames, mg x = none
  ex : ∀ e x, P.xnm[e]? = some x → mg x = some (.ref (C.xA e)) ∧ ExK K (C.xA e)
/-- what is known of the whole -/
structure Wh (P : Prg) (C : Cl) (L : Lk) (F : FT) (prog : Program) (w : World) (K : PySem.W.Frag) (mg : Str → Option Value) (base : Heap) (k : Nat) : Prop where
  gx : Gx P C L K
  gm : MgK P C L K mg
  fo : FnsOk P C L prog w K mg base k F
  isi : IsiAll C K P.cls.length
/-- what is known of a frame or a block -/
structure Ct (X : Cx) (W : WX) (c : Sc) (k : Nat) : Prop where
  N : X.N = c.N
  nd : X.N.Nodup
  nm : X.env.scope.names = c.nm
  kd : X.env.scope.kind = .function
  st : ∀ x, c.st x = true → L2.Loc X.env.scope x ∧ (X.fn x = true ∨ X.env.scope.names.lookup x = some .local)
  calm : X.calm = true
  room : Room (k + 1) X.A
  tk : Takes X W

section
variable {X : Cx} {W : WX} {c : Sc} {k : Nat} {x : Str}
theorem takes_noW (X : Cx) : Takes X noW := fun u s' ⟨_, _, _, _, _, _, _, _, _, _, _, _, _, _, _, _, f⟩ => f.elim
theorem Ct.no (h : Ct X W c k) : Ct X noW c k := ⟨h.N, h.nd, h.nm, h.kd, h.st, h.calm, h.room, takes_noW X⟩
theorem Ct.units (h : Ct X W c k) : X.A.units + 64 < cLine := h.room.units
theorem Ct.vis (h : Ct X W c k) (e : c.vis x = true) : Vis X.env.scope x := by
  unfold Sc.vis at e
  unfold Vis
  rw [h.nm]
  split at e
  · rename_i q; exact .inl q
  · rename_i q; exact .inr (.inl q)
  · rename_i q; exact .inr (.inr q)
  · cases e
theorem Ct.glo (h : Ct X W c k) (e : c.glo x = true) : Gl X x := by
  unfold Sc.glo at e
  unfold Gl Env.kindOf
  rw [h.nm]
  split at e
  · assumption
  · cases e
theorem Ct.kf (h : Ct X W c k) : X.env.kindOf = c.kf := by
  funext y
  unfold Env.kindOf Sc.kf
  rw [h.nm]
theorem dbg_no (e : (!dbg x) = true) : (x == ("__debug__" : Str)) = false ∧ (x == ("__classdict__" : Str)) = false := by
  unfold dbg at e
  simpa using e
theorem Ct.slot {i : Nat} (h : Ct X W c k) (e : c.slot i x = true) : X.N[i]? = some x ∧ L2.Loc X.env.scope x ∧ (X.fn x = true ∨ X.env.scope.names.lookup x = some .local) := by
  unfold Sc.slot at e
  rw [Bool.and_eq_true, decide_eq_true_eq] at e
  exact ⟨by rw [h.N]; exact e.1, h.st x e.2⟩
theorem own_map (c : Sc) (own : List Nat) : (c.own own).map (·.2) = own := by
  unfold Sc.own
  induction own with
  | nil => rfl
  | cons a l ih => simp only [List.map_cons, ih]
theorem Ct.blkOk (h : Ct X W c k) {scope : Scope} {own : List (Str × Nat)} (e : blkC c.N { scope with names := c.nm } scope own = true) : BlkOk X.N X.env.scope scope own := by
  have b := blkOk_by e
  exact ⟨b.kind, b.uniq, by rw [h.N]; exact b.ix, fun y hy hf => by rw [h.nm]; exact b.free y hy hf, by rw [h.N]; exact b.own⟩
theorem Ct.blk (h : Ct X W c k) {scope : Scope} (hk : scope.kind = .function) (s : Shared) (H : Hp) (A : Addr) (cl : List (Str × Addr)) (fp : List Addr) : Ct (X.blk s H scope (compEnvC scope cl A X.env) fp) noW (c.blk scope) k := by
  have hnm : (relabel scope X.env).names = (c.blk scope).nm := by
    unfold relabel Sc.blk
    dsimp only
    congr 1
    funext ⟨n, q⟩
    dsimp only
    unfold Env.kindOf
    rw [h.kd, h.nm]
    cases q <;> simp
  refine ⟨h.N, h.nd, hnm, hk, fun x hx => ?_, h.calm, h.room, takes_noW _⟩
  unfold Sc.st at hx
  have keep : ∀ q : NameKind, q ≠ .free → scope.names.lookup x = some q → (relabel scope X.env).names.lookup x = some q := fun q hq e => by
    have := lookup_relS_keep (sc := X.env.scope) hq e
    exact this
  split at hx
  · rename_i q
    have q' := keep .local (by decide) q
    exact ⟨.inl q', .inr q'⟩
  · rename_i q
    have q' := keep .cell (by decide) q
    exact ⟨.inr q', .inl (by show (scope.names.lookup x == some NameKind.cell) = true; have q2 : scope.names.lookup x = some .cell := q; rw [q2]; decide)⟩
  · cases hx
end
/-- an expression, or a test -/
def PEt (t : Bool) (C : Cl) (X : Cx) (W : WX) (e : Expr) (m : LSt → LH → Res LV) : Prop :=
  if t = true then PT X e (liftT C X.K W (tstM m)) else PE X e (liftE C X.K W m)
section
variable {C : Cl} {X : Cx} {W : WX} {e : Expr} {m : LSt → LH → Res LV}
theorem PEt.of (t : Bool) (h : PE X e (liftE C X.K W m)) (he : ∀ whole, isTrue e X.env whole = (do let v ← whole; standAt e.pos; holding [v] (truthy v))) : PEt t C X W e m := by
  cases t
  · exact h
  · exact (pt_val h he).weak fun _ _ _ x => w_tst x
theorem PEt.both {t : Bool} (h : PE X e (liftE C X.K W m)) (h' : PT X e (liftT C X.K W (tstM m))) : PEt t C X W e m := by
  cases t
  · exact h
  · exact h'
end
theorem plainIx_of {b : Expr} (h : nsl b = true) : PlainIx b := fun o i => by cases b <;> first | rfl | cases h
theorem o_bin {X : Cx} {C : Cl} {o : O2} {op : Operator} (h : binOf o = some op) : OpR X (binaryOp op) (r2 C X.K (p2 o)) := by
  cases o <;> cases h
  · exact o_add
  · exact o_sub
  · exact o_mul
  · exact o_fdiv
  · exact o_mod
  · exact o_pow
theorem o_cmps {X : Cx} {C : Cl} {o : O2} {op : CmpOp} (hu : X.A.units + 64 < cLine) (h : cmpOf o = some op) : OpR X (compareOp op) (r2 C X.K (p2 o)) := by
  cases o <;> cases h
  · exact o_eq hu
  · exact o_ne hu
  · exact o_cmp op_lt
  · exact o_cmp op_le
  · exact o_cmp op_gt
  · exact o_cmp op_ge
  · exact o_in hu
  · exact o_notin hu
  · exact o_eqd hu
end LD
end
section
set_option Elab.async false
set_option linter.all false
set_option maxRecDepth 100000
set_option autoImplicit false
/-! LDV: what the matcher tells -/
namespace LD
open PySem L2

section
variable {P : Prg} {C : Cl} {L : Lk} {F : FT}
theorem con_ok {X : Cx} {v : LV} {k : Const} {j : Nat} {pos : Pos} (h : conOk v k = true) : ∃ y, PE X (.Constant k j pos) (tC y) ∧ ∀ φ n H, VR X.K φ n H v y := by
  unfold conOk at h
  split at h
  · cases of_decide_eq_true h; exact ⟨_, pe_int, fun _ _ _ => vr_int⟩
  · cases of_decide_eq_true h; exact ⟨_, pe_bl, fun _ _ _ => vr_bl⟩
  · exact ⟨_, pe_non, fun _ _ _ => vr_non⟩
  · cases of_decide_eq_true h; exact ⟨_, pe_str, fun _ _ _ => vr_str⟩
  · cases h
theorem fn_ok {f : Nat} {x : Str} (h : fnOk P f x = true) : ∃ fi, P.fns[f]? = some fi ∧ fi.top = true ∧ x = fi.nm := by
  unfold fnOk at h
  split at h
  · rename_i fi e
    rw [Bool.and_eq_true] at h
    exact ⟨fi, e, h.1, of_decide_eq_true h.2⟩
  · cases h
theorem cl_ok {n : Nat} {x : Str} {ks : List Nat} {as : List (Option Str)} (h : clOk P n x ks as = true) : ∃ ci fi, P.cls[n]? = some ci ∧ P.fns[ci.ini]? = some fi ∧ x = ci.nm ∧ as = kwNames fi ks := by
  unfold clOk at h
  split at h
  · rename_i ci e
    rw [Bool.and_eq_true] at h
    obtain ⟨h1, h2⟩ := h
    split at h2
    · rename_i fi e2
      exact ⟨ci, fi, e, e2, of_decide_eq_true h1, of_decide_eq_true h2⟩
    · cases h2
  · cases h
theorem ty_ok {X : Cx} {W : WX} {c : Sc} {k : Nat} {q : Tq} {e : Expr} (h : tyOk P c q e = true) (w : Wh P C L F X.prog X.w X.K X.mg X.base k) (ct : Ct X W c k) : PE X e (tC (tqX C q)) ∧ nst e = true := by
  unfold tyOk at h
  split at h
  · rename_i x pos
    rw [Bool.and_eq_true, Bool.and_eq_true] at h
    obtain ⟨⟨h1, h2⟩, h3⟩ := h
    refine ⟨?_, rfl⟩
    split at h3
    · rename_i t
      rw [Bool.and_eq_true] at h3
      have hx := of_decide_eq_true h3.2
      have ht := of_decide_eq_true h3.1
      subst hx
      have hb : bootBuiltins (tyNm t : Str) = some (.type (tyNm t)) ∧ (tyNm t : Str) ∈ bltNames ∧ (tyNm t : Str) ≠ ("__name__" : Str) := by
        have : t = 0 ∨ t = 1 ∨ t = 2 ∨ t = 3 ∨ t = 4 ∨ t = 5 := by omega
        rcases this with rfl | rfl | rfl | rfl | rfl | rfl <;> exact ⟨rfl, by decide, by decide⟩
      exact pe_bltn (ct.glo h1) (w.gm.bl _ hb.2.1) hb.1 rfl hb.2.2 (dbg_no h2).1
    · rename_i n
      split at h3
      · rename_i ci e
        have hx := of_decide_eq_true h3
        subst hx
        exact pe_glob (ct.glo h1) (w.gm.cl n ci e) rfl (dbg_no h2).1
      · cases h3
  · cases h
theorem tys_ok {X : Cx} {W : WX} {c : Sc} {k : Nat} (w : Wh P C L F X.prog X.w X.K X.mg X.base k) (ct : Ct X W c k) : ∀ {qs : List Tq} {es : List Expr}, tysOk P c qs es = true → PA X es (fun _ H Q => Q (qs.map (tqX C)) H)
  | [], [], _ => pa_nil
  | q :: qs, e :: es, h => by
    unfold tysOk at h
    rw [Bool.and_eq_true] at h
    obtain ⟨h1, h2⟩ := ty_ok h.1 w ct
    exact pa_cons h1 (tys_ok w ct h.2) (star_cons h2)
  | [], _ :: _, h => by cases h
  | _ :: _, [], h => by cases h
theorem blt_in {X : Cx} {W : WX} {c : Sc} {k : Nat} (w : Wh P C L F X.prog X.w X.K X.mg X.base k) {x : Str} (h : x ∈ bltNames) : X.mg x = none := w.gm.bl x h
/-- the list of a comprehension, over its source -/
def cmpM (P : Prg) (F : FT) (elt : Ex) (own : List Nat) (tg : Tg) (tst : Ox) (w : Wk) (ls : LSt) (h : LH) : Res (List LV) :=
  compOf (fun v ls h => asg P F tg v ls h) (fun ls h => evQ P F tst ls h) (fun ls h => evE P F elt ls h) own w ls h
theorem evCs_exp (e : Ex) (kk : Wk → LSt → LH → Res (List LV)) (ls : LSt) (h : LH) : evCs P F kk (.exp e) ls h = ((evE P F e ls h).bind fun v h1 => walkV v h1).bind fun w h1 => kk w ls h1 := by
  rw [evCs, Res.bind_assoc]
theorem evCs_rng (e : Ex) (kk : Wk → LSt → LH → Res (List LV)) (ls : LSt) (h : LH) : evCs P F kk (.rng e) ls h = ((evE P F e ls h).bind fun v h1 => walkR v h1).bind fun w h1 => kk w ls h1 := by
  rw [evCs, Res.bind_assoc]
theorem evCs_kys (e : Ex) (kk : Wk → LSt → LH → Res (List LV)) : evCs P F kk (.kys e) = lockM (evE P F e) fun m ls h => ((evE P F e ls h).bind fun v h1 => walkD 0 m v h1).bind fun w h1 => kk w ls h1 := by
  funext ls h
  rw [evCs]; unfold lockM; simp only [Res.bind_assoc]; try rfl
theorem evCs_vls (e : Ex) (kk : Wk → LSt → LH → Res (List LV)) : evCs P F kk (.vls e) = lockM (evE P F e) fun m ls h => ((evE P F e ls h).bind fun v h1 => walkD 1 m v h1).bind fun w h1 => kk w ls h1 := by
  funext ls h
  rw [evCs]; unfold lockM; simp only [Res.bind_assoc]; try rfl
theorem evCs_its (e : Ex) (kk : Wk → LSt → LH → Res (List LV)) : evCs P F kk (.its e) = lockM (evE P F e) fun m ls h => ((evE P F e ls h).bind fun v h1 => walkD 2 m v h1).bind fun w h1 => kk w ls h1 := by
  funext ls h
  rw [evCs]; unfold lockM; simp only [Res.bind_assoc]; try rfl
mutual
theorem nx_asg : ∀ (t : Tg) (v : LV) (ls : LSt) (h : LH), NoX (asg P F t v ls h)
  | .nm i, v, ls, h => by rw [asg]; exact nx_ok
  | .tp ts, v, ls, h => by
    rw [asg]
    split
    · split
      · exact nx_asgs ts _ ls h
      · exact nx_bad
    · exact nx_bad
  | .sb o i, v, ls, h => by
    rw [asg]
    exact Res.bindN_noX fun _ _ => Res.bindN_noX fun _ _ => Res.bindN_noX fun _ _ => nx_ok
theorem nx_asgs : ∀ (t : Tgs) (v : List LV) (ls : LSt) (h : LH), NoX (asgs P F t v ls h)
  | .nil, v, ls, h => by
    cases v
    · rw [asgs]; exact nx_ok
    · rw [asgs]
      · exact nx_bad
      all_goals intros; simp_all
  | .cons t ts, v, ls, h => by
    cases v
    · rw [asgs]
      · exact nx_bad
      all_goals intros; simp_all
    · rw [asgs]; exact Res.bindN_noX fun _ _ => nx_asgs ts _ _ _
end
/-- what a source promises: the comprehension's list over it -/
def SrOk (C : Cl) (P : Prg) (F : FT) (src : Sr) (tg iter : Expr) (X : Cx) (W : WX) : Prop :=
  match src with
  | .exp e => PI X tg iter (liftI C X.K W fun ls h => (evE P F e ls h).bind fun v h1 => walkV v h1)
  | .rng e => PI X tg iter (liftI C X.K W fun ls h => (evE P F e ls h).bind fun v h1 => walkR v h1)
  | .kys e => ∀ m, PI X tg iter (liftI C X.K W fun ls h => (evE P F e ls h).bind fun v h1 => walkD 0 m v h1)
  | .vls e => ∀ m, PI X tg iter (liftI C X.K W fun ls h => (evE P F e ls h).bind fun v h1 => walkD 1 m v h1)
  | .its e => ∀ m, PI X tg iter (liftI C X.K W fun ls h => (evE P F e ls h).bind fun v h1 => walkD 2 m v h1)
theorem dsp_len : ∀ {ks : List LV} {keys : List (Option Expr)}, dspOk ks keys = true → keys.length = ks.length
  | [], [], _ => rfl
  | k :: ks, e :: es, h => by
    unfold dspOk at h
    rw [Bool.and_eq_true] at h
    simp [dsp_len h.2]
  | [], _ :: _, h => by cases h
  | _ :: _, [], h => by cases h
theorem cmp_ok {c : Sc} {own : List Nat} {tg : Tg} {a : Int} {iter : Expr} {scope : Scope} (h : cmpOk c own tg a iter scope = true) : a = 0 ∧ nset iter = true ∧ blkC c.N { scope with names := c.nm } scope (c.own own) = true ∧ ∀ i ∈ tgS tg, i ∈ (c.own own).map (·.2) := by
  unfold cmpOk at h
  rw [Bool.and_eq_true, Bool.and_eq_true, Bool.and_eq_true, decide_eq_true_eq] at h
  obtain ⟨⟨⟨h1, h2⟩, h3⟩, h4⟩ := h
  refine ⟨h1, h2, h3, fun i hi => ?_⟩
  rw [own_map]
  have := List.all_eq_true.mp h4 i hi
  simpa using this
/-- a comprehension over any source -/
theorem lc_of {src : Sr} {tg' iter elt' : Expr} {ifs : List Expr} {scope : Scope} {pos : Pos} {own : List Nat} {tg : Tg} {tst : Ox} {elt : Ex} {X : Cx} {W : WX} {c : Sc} {k : Nat} (ct : Ct X W c k) (ok : cmpOk c own tg 0 iter scope = true)
    (hs : SrOk C P F src tg' iter X W) (hs0 : SrOk C P F src tg' iter X noW)
    (hg : ∀ (s : Shared) (H : Hp) (A : Addr) (cl : List (Str × Addr)) (fp : List Addr), PG (X.blk s H scope (compEnvC scope cl A X.env) fp) tg' (liftG C X.K (tgS tg) (asg P F tg)))
    (ht : ∀ (s : Shared) (H : Hp) (A : Addr) (cl : List (Str × Addr)) (fp : List Addr), PTs (X.blk s H scope (compEnvC scope cl A X.env) fp) ifs (liftT C X.K noW (evQ P F tst)))
    (he : ∀ (s : Shared) (H : Hp) (A : Addr) (cl : List (Str × Addr)) (fp : List Addr), PE (X.blk s H scope (compEnvC scope cl A X.env) fp) elt' (liftE C X.K noW (evE P F elt))) :
    PE X (.ListComp elt' [⟨tg', iter, ifs, 0⟩] scope pos) (liftD C X.K W (evCs P F (cmpM P F elt own tg tst) src)) := by
  obtain ⟨_, h2, h3, h4⟩ := cmp_ok ok
  have ob := ct.blkOk h3
  have eo : (c.own own).map (·.2) = own := own_map c own
  have one : ∀ (W' : WX) (mi : LSt → LH → Res Wk), PI X tg' iter (liftI C X.K W' mi) → PE X (.ListComp elt' [⟨tg', iter, ifs, 0⟩] scope pos) (liftD C X.K W' fun ls h => (mi ls h).bind fun w h1 => cmpM P F elt own tg tst w ls h1) := fun W' mi hi => by
    have := k_lc (C := C) (pos := pos) (t := asg P F tg) (q := evQ P F tst) (e := evE P F elt) ct.calm ct.nd h2 hi ob h4 hg ht he
    rw [eo] at this
    exact this
  cases src with
  | exp e =>
    have : evCs P F (cmpM P F elt own tg tst) (.exp e) = fun ls h => ((evE P F e ls h).bind fun v h1 => walkV v h1).bind fun w h1 => cmpM P F elt own tg tst w ls h1 := by
      funext ls h; exact evCs_exp e _ ls h
    rw [this]; exact one W _ hs
  | rng e =>
    have : evCs P F (cmpM P F elt own tg tst) (.rng e) = fun ls h => ((evE P F e ls h).bind fun v h1 => walkR v h1).bind fun w h1 => cmpM P F elt own tg tst w ls h1 := by
      funext ls h; exact evCs_rng e _ ls h
    rw [this]; exact one W _ hs
  | kys e => rw [evCs_kys]; exact k_lockD fun m => one noW _ (hs0 m)
  | vls e => rw [evCs_vls]; exact k_lockD fun m => one noW _ (hs0 m)
  | its e => rw [evCs_its]; exact k_lockD fun m => one noW _ (hs0 m)
theorem pe_eq {X : Cx} {e : Expr} {W : WX} {m m' : LSt → LH → Res LV} (h : PE X e (liftE C X.K W m)) (q : ∀ ls h, m' ls h = m ls h) : PE X e (liftE C X.K W m') := by
  have : m' = m := by funext ls h; exact q ls h
  rw [this]; exact h
theorem pt_eq {X : Cx} {e : Expr} {W : WX} {m m' : LSt → LH → Res LV} (h : PT X e (liftT C X.K W (tstM m))) (q : ∀ ls h, m' ls h = m ls h) : PT X e (liftT C X.K W (tstM m')) := by
  have : m' = m := by funext ls h; exact q ls h
  rw [this]; exact h
theorem pw_eq {X : Cx} {e : Expr} {W : WX} {m m' : LSt → LH → Res LV} (h : PW X e (liftT C X.K W (tstM m))) (q : ∀ ls h, m' ls h = m ls h) : PW X e (liftT C X.K W (tstM m')) := by
  have : m' = m := by funext ls h; exact q ls h
  rw [this]; exact h
theorem PE.nst_cmp {e : Expr} {gs : List Comprehension} {scope : Scope} {pos : Pos} : nst (.ListComp e gs scope pos) = true := rfl
mutual
theorem sE : ∀ (e : Ex) (t : Bool) (c : Sc) (pe : Expr), mE P t c e pe = true → ∀ (X : Cx) (W : WX) (k : Nat), Wh P C L F X.prog X.w X.K X.mg X.base k → Ct X W c k → PEt t C X W pe (evE P F e)
  | .var i, t, c, pe, h, X, W, k, w, ct => by
    rw [mE.eq_def] at h
    dsimp only at h
    split at h
    · rename_i x pos
      unfold Sc.var at h
      rw [Bool.and_eq_true, Bool.and_eq_true, decide_eq_true_eq] at h
      obtain ⟨⟨h1, h2⟩, h3⟩ := h
      exact PEt.of t (pe_eq (k_var (by rw [ct.N]; exact h1) (ct.vis h2) (dbg_no h3).1 (dbg_no h3).2) fun ls h => by rw [evE]) fun _ => rfl
    · cases h
  | .con v, t, c, pe, h, X, W, k, w, ct => by
    rw [mE.eq_def] at h
    dsimp only at h
    split at h
    · obtain ⟨y, h1, h2⟩ := con_ok (X := X) h
      exact PEt.of t (pe_eq (k_con h1 h2) fun ls h => by rw [evE]) fun _ => rfl
    · cases h
  | .glo g, t, c, pe, h, X, W, k, w, ct => by
    rw [mE.eq_def] at h
    dsimp only at h
    split at h
    · rename_i x pos
      rw [Bool.and_eq_true, Bool.and_eq_true] at h
      obtain ⟨⟨h1, h2⟩, h3⟩ := h
      split at h3
      · rename_i y ey
        have hx := of_decide_eq_true h3
        subst hx
        obtain ⟨u, v, e1, e2, e3⟩ := w.gm.gl g y ey
        exact PEt.of t (pe_eq (k_con (a := y.2) (pe_glob (ct.glo h1) e1 e2 (dbg_no h2).1) e3) fun ls h => by rw [evE, ey]) fun _ => rfl
      · cases h3
    · cases h
  | .op2 o a b, t, c, pe, h, X, W, k, w, ct => by
    rw [mE.eq_def] at h
    dsimp only at h
    split at h
    · rename_i a' op b' pos
      rw [Bool.and_eq_true, Bool.and_eq_true, decide_eq_true_eq] at h
      obtain ⟨⟨h1, h2⟩, h3⟩ := h
      exact PEt.of t (pe_eq (k_op (o_bin h1) (nx_p2 o) (sE a false c a' h2 X W k w ct) (sE b false c b' h3 X W k w ct)) fun ls h => by rw [evE]) fun _ => rfl
    · rename_i a' op b' pos
      rw [Bool.and_eq_true, Bool.and_eq_true, Bool.and_eq_true, decide_eq_true_eq, Bool.not_eq_true'] at h
      obtain ⟨⟨⟨h1, h2⟩, h3⟩, h4⟩ := h
      have ha := sE a false c a' h3 X W k w ct
      have hb := sE b false c b' h4 X W k w ct
      exact PEt.both (pe_eq (k_cmp (o_cmps ct.units h1) (nx_p2 o) ha hb h2) fun ls h => by rw [evE]) (pt_eq (k_cmpT (o_cmps ct.units h1) (nx_p2 o) ha hb h2) fun ls h => by rw [evE])
    · rename_i a' b' pos
      rw [Bool.and_eq_true, Bool.and_eq_true, Bool.and_eq_true, decide_eq_true_eq] at h
      obtain ⟨⟨⟨h1, h2⟩, h3⟩, h4⟩ := h
      subst h1
      exact PEt.of t (pe_eq (k_ix (o_idx ct.units) (nx_p2 .idx) (sE a false c a' h3 X W k w ct) (sE b false c b' h4 X W k w ct) (plainIx_of h2)) fun ls h => by rw [evE]; rfl) fun _ => rfl
    · cases h
  | .neg a, t, c, pe, h, X, W, k, w, ct => by
    rw [mE.eq_def] at h
    dsimp only at h
    split at h
    · rename_i a' pos
      exact PEt.of t (pe_eq (k_un o_neg nx_pNeg (sE a false c a' h X W k w ct)) fun ls h => by rw [evE]) fun _ => rfl
    · cases h
  | .isN ng a, t, c, pe, h, X, W, k, w, ct => by
    rw [mE.eq_def] at h
    dsimp only at h
    split at h
    · rename_i a' op _ _ pos
      rw [Bool.and_eq_true, decide_eq_true_eq] at h
      obtain ⟨h1, h2⟩ := h
      subst h1
      have ha := sE a false c a' h2 X W k w ct
      cases ng
      · exact PEt.both (pe_eq (k_isN ha) fun ls h => by rw [evE]) (pt_eq (k_isNT ha) fun ls h => by rw [evE])
      · exact PEt.both (pe_eq (k_notN ha) fun ls h => by rw [evE]) (pt_eq (k_notNT ha) fun ls h => by rw [evE])
    · cases h
  | .bop kb xs, t, c, pe, h, X, W, k, w, ct => by
    rw [mE.eq_def] at h
    dsimp only at h
    split at h
    · rename_i op es pos
      rw [Bool.and_eq_true, decide_eq_true_eq] at h
      obtain ⟨h1, h2⟩ := h
      subst h1
      have hb := sBs xs kb t c es h2 X W k w ct pos
      cases t
      · exact pe_eq hb fun ls h => by rw [evE]
      · exact pt_eq (PW.pt hb) fun ls h => by rw [evE]
    · cases h
  | .nt a, t, c, pe, h, X, W, k, w, ct => by
    rw [mE.eq_def] at h
    dsimp only at h
    split at h
    · rename_i a' pos
      have ha := sE a t c a' h X W k w ct
      cases t
      · exact pe_eq (k_notV ha) fun ls h => by rw [evE]
      · exact pt_eq (k_not ha) fun ls h => by rw [evE]
    · cases h
  | .chn a b d, t, c, pe, h, X, W, k, w, ct => by
    rw [mE.eq_def] at h
    dsimp only at h
    split at h
    · rename_i a' b' d' pos
      rw [Bool.and_eq_true, Bool.and_eq_true, Bool.and_eq_true, Bool.not_eq_true'] at h
      obtain ⟨⟨⟨h1, h2⟩, h3⟩, h4⟩ := h
      have ha := sE a false c a' h2 X W k w ct
      have hb := sE b false c b' h3 X W k w ct
      have hd := sE d false c d' h4 X W k w ct
      have ho : OpR X (compareOp .LtE) (r2 C X.K (pCmp fun i j => decide (i ≤ j))) := o_cmp op_le
      have hr := k_chain (C := C) (W := W) ho ho (nx_p2 .le) (nx_p2 .le) ha hb hd h1
      have q : ∀ ls h, evE P F (.chn a b d) ls h = (evE P F a ls h).bind fun x h1 => (evE P F b ls h1).bind fun y h2 => (pCmp (fun i j => decide (i ≤ j)) x y h2).bind fun k h3 => match k with
        | .bl true => (evE P F d ls h3).bind fun z h4 => pCmp (fun i j => decide (i ≤ j)) y z h4
        | .bl false => .ok (.bl false) h3
        | _ => .bad := fun ls h => by rw [evE]; try rfl
      exact PEt.both (pe_eq ((pe_chain ho ho ha hb hd h1).weak hr) q) (pt_eq ((pt_chain ho ho ha hb hd h1).weak fun _ _ _ x => hr _ _ _ (w_tst x)) q)
    · cases h
  | .ite x a b, t, c, pe, h, X, W, k, w, ct => by
    rw [mE.eq_def] at h
    dsimp only at h
    split at h
    · rename_i x' a' b' pos
      rw [Bool.and_eq_true, Bool.and_eq_true, Bool.and_eq_true, Bool.not_eq_true'] at h
      obtain ⟨⟨⟨h1, h2⟩, h3⟩, h4⟩ := h
      subst h1
      exact pe_eq (k_ite (sE x true c x' h2 X W k w ct) (sE a false c a' h3 X W k w ct) (sE b false c b' h4 X W k w ct)) fun ls h => by rw [evE]
    · cases h
  | .tup xs, t, c, pe, h, X, W, k, w, ct => by
    rw [mE.eq_def] at h
    dsimp only at h
    split at h
    · exact PEt.of t (pe_eq ((pe_tup (sEs xs c _ h X W k w ct).1).weak fun _ _ _ x => w_tup x) fun ls h => by rw [evE]) fun _ => rfl
    · cases h
  | .lst xs, t, c, pe, h, X, W, k, w, ct => by
    rw [mE.eq_def] at h
    dsimp only at h
    split at h
    · exact PEt.of t (pe_eq ((pe_lst (sEs xs c _ h X W k w ct).1).weak fun _ _ _ x => w_lst x) fun ls h => by rw [evE]) fun _ => rfl
    · cases h
  | .dnw tt, t, c, pe, h, X, W, k, w, ct => by
    rw [mE.eq_def] at h
    dsimp only at h
    split at h
    · have q : ∀ ls h, evE P F (.dnw tt) ls h = .ok (.ref h.length) (h ++ [if tt then .dT [] else .dK []]) := fun ls h => by rw [evE]
      cases tt
      · exact PEt.of t (pe_eq (pe_dnewK.weak fun σ H Q ⟨φ, ls, h, S, Lc, R⟩ p hp => RSg.nO S R hp fun φ' H' ca eo ep => ⟨[], eo, rfl⟩) q) fun _ => rfl
      · exact PEt.of t (pe_eq (pe_dnewT.weak fun σ H Q ⟨φ, ls, h, S, Lc, R⟩ p hp => RSg.nO S R hp fun φ' H' ca eo ep => ⟨[], eo, rfl⟩) q) fun _ => rfl
    · cases h
  | .slc a lo hi, t, c, pe, h, X, W, k, w, ct => by
    rw [mE.eq_def] at h
    dsimp only at h
    split at h
    · rw [Bool.and_eq_true, Bool.and_eq_true] at h
      obtain ⟨⟨h1, h2⟩, h3⟩ := h
      exact PEt.of t (pe_eq (k_slice (sE a false c _ h1 X W k w ct) (sOx lo c _ h2 X W k w ct) (sOx hi c _ h3 X W k w ct)) fun ls h => by rw [evE]) fun _ => rfl
    · cases h
  | .fld a f, t, c, pe, h, X, W, k, w, ct => by
    rw [mE.eq_def] at h
    dsimp only at h
    split at h
    · rw [Bool.and_eq_true, Bool.and_eq_true, decide_eq_true_eq] at h
      obtain ⟨⟨h1, h2⟩, h3⟩ := h
      subst h1
      exact PEt.of t (pe_eq (k_fld w.gx (sE a false c _ h3 X W k w ct) h2) fun ls h => by rw [evE]) fun _ => rfl
    · cases h
  | .cal f xs, t, c, pe, h, X, W, k, w, ct => by
    rw [mE.eq_def] at h
    dsimp only at h
    split at h
    · rename_i x p es pos
      rw [Bool.and_eq_true, Bool.and_eq_true, Bool.and_eq_true] at h
      obtain ⟨⟨⟨h1, h2⟩, h3⟩, h4⟩ := h
      obtain ⟨fi, e1, e2, rfl⟩ := fn_ok h3
      obtain ⟨r1, r2⟩ := sEs xs c es h4 X W k w ct
      have hm := w.gm.fn f fi e1 e2
      have hr := ct.room.mono (Nat.le_succ k)
      cases es with
      | nil =>
        cases xs with
        | nil => exact PEt.of t (pe_eq (k_call0 w.gx w.fo hr ct.tk e1 (ct.glo h1) hm (dbg_no h2).1) fun ls h => by rw [evE, evEs]) fun _ => rfl
        | cons _ _ => rw [mEs.eq_def] at h4; cases h4
      | cons e es => exact PEt.of t (pe_eq (k_call w.gx w.fo hr ct.tk e1 (ct.glo h1) hm (dbg_no h2).1 r2 r1) fun ls h => by rw [evE]) fun _ => rfl
    · cases h
  | .met o m xs, t, c, pe, h, X, W, k, w, ct => by
    rw [mE.eq_def] at h
    dsimp only at h
    split at h
    · rename_i o' x apos es pos
      rw [Bool.and_eq_true, Bool.and_eq_true, Bool.and_eq_true, Bool.and_eq_true, Bool.and_eq_true, decide_eq_true_eq, decide_eq_true_eq] at h
      obtain ⟨⟨⟨⟨⟨h1, h2⟩, h3⟩, h4⟩, h5⟩, h6⟩ := h
      subst h1
      obtain ⟨r1, r2⟩ := sEs xs c es h6 X W k w ct
      have hr := ct.room.mono (Nat.le_succ k)
      have q : ∀ ls h, evE P F (.met o m xs) ls h = metM P F (evE P F o) m (evEs P F xs) ls h := fun ls h => by rw [evE]; try rfl
      cases es with
      | nil =>
        cases xs with
        | nil =>
          have : evEs P F .nil = fun _ h => .ok [] h := by funext ls h; rw [evEs]
          rw [this] at q
          exact PEt.of t (pe_eq (k_meth0 w.gx w.fo hr ct.tk (sE o false c o' h5 X W k w ct) h2 h3) q) fun _ => rfl
        | cons _ _ => rw [mEs.eq_def] at h6; cases h6
      | cons e es => exact PEt.of t (pe_eq (k_meth w.gx w.fo hr ct.tk (sE o false c o' h5 X W k w ct) h2 r2 h4 h3 r1) q) fun _ => rfl
    · cases h
  | .mke n xs ks kws, t, c, pe, h, X, W, k, w, ct => by
    rw [mE.eq_def] at h
    dsimp only at h
    split at h
    · rename_i x p es kws' pos
      rw [Bool.and_eq_true, Bool.and_eq_true, Bool.and_eq_true, Bool.and_eq_true, Bool.and_eq_true] at h
      obtain ⟨⟨⟨⟨⟨h1, h2⟩, h3⟩, h4⟩, h5⟩, h6⟩ := h
      obtain ⟨ci, fi, e1, e2, rfl, e3⟩ := cl_ok h3
      obtain ⟨r1, r2⟩ := sEs xs c es h5 X W k w ct
      cases es with
      | nil => cases h4
      | cons e es => exact PEt.of t (pe_eq (k_make w.gx w.fo ct.room ct.tk e1 e2 (ct.glo h1) (w.gm.cl n ci e1) (dbg_no h2).1 r2 e3 r1 (sKs kws c kws' h6 X W k w ct)) fun ls h => by rw [evE]) fun _ => rfl
    · cases h
  | .bif b xs, t, c, pe, h, X, W, k, w, ct => by
    rw [mE.eq_def] at h
    dsimp only at h
    split at h
    · rename_i x p es pos
      rw [Bool.and_eq_true, Bool.and_eq_true, Bool.and_eq_true, decide_eq_true_eq] at h
      obtain ⟨⟨⟨h1, h2⟩, h3⟩, h4⟩ := h
      subst h1
      obtain ⟨r1, r2⟩ := sEs xs c es h4 X W k w ct
      cases es with
      | nil => cases h3
      | cons e es => exact PEt.of t (pe_eq (k_bif b ct.calm (ct.glo h2) (w.gm.bl _ (by cases b <;> decide)) r2 r1) fun ls h => by rw [evE]) fun _ => rfl
    · cases h
  | .bme m o xs, t, c, pe, h, X, W, k, w, ct => by
    rw [mE.eq_def] at h
    dsimp only at h
    split at h
    · rename_i o' x apos es pos
      rw [Bool.and_eq_true, Bool.and_eq_true, Bool.and_eq_true, Bool.and_eq_true, Bool.and_eq_true, Bool.and_eq_true, decide_eq_true_eq, decide_eq_true_eq] at h
      obtain ⟨⟨⟨⟨⟨⟨h1, h2⟩, h3⟩, h4⟩, h5⟩, h6⟩, h7⟩ := h
      subst h1
      obtain ⟨r1, r2⟩ := sEs xs c es h7 X W k w ct
      cases es with
      | nil => cases h5
      | cons e es => exact PEt.of t (pe_eq (k_bme m ct.units (sE o false c o' h6 X W k w ct) h2 r2 h4 h3 r1) fun ls h => by rw [evE]) fun _ => rfl
    · cases h
  | .isi a ts tp, t, c, pe, h, X, W, k, w, ct => by
    rw [mE.eq_def] at h
    dsimp only at h
    split at h
    · rename_i x p a' q' pos
      rw [Bool.and_eq_true, Bool.and_eq_true, Bool.and_eq_true, Bool.and_eq_true, decide_eq_true_eq] at h
      obtain ⟨⟨⟨⟨h1, h2⟩, h3⟩, h4⟩, h5⟩ := h
      subst h1
      have ha := sE a false c a' h4 X W k w ct
      have hm := w.gm.bl "isinstance" (by decide)
      unfold isiOk at h5
      have q : ∀ ls h, evE P F (.isi a ts tp) ls h = (evE P F a ls h).bind fun x h1 => pIsi P.cls.length ts x h1 := fun ls h => by rw [evE]
      cases tp with
      | false =>
        rw [if_neg (by decide), Bool.and_eq_true] at h5
        cases ts with
        | nil => cases h5.2
        | cons q1 ts =>
          cases ts with
          | cons _ _ => obtain ⟨_, h5⟩ := h5; unfold tysOk tysOk at h5; simp at h5
          | nil =>
            obtain ⟨h5a, h5⟩ := h5
            unfold tysOk at h5
            rw [Bool.and_eq_true] at h5
            obtain ⟨k1, k2⟩ := ty_ok h5.1 w ct
            exact PEt.of t (pe_eq ((pe_callB (b_isi1 w.isi q1) (ct.glo h2) hm rfl (pa_cons ha (pa_cons k1 pa_nil (star_cons k2)) (star_cons h3)) (by decide) (by decide) (star_cons h3) (star_any (by simp [h5a]))).weak fun _ _ _ x => w_isi1 q1 x) q) fun _ => rfl
      | true =>
        rw [if_pos rfl] at h5
        split at h5
        · rename_i qs _ _
          rw [Bool.and_eq_true, decide_eq_true_eq] at h5
          exact PEt.of t (pe_eq ((pe_callB (b_isiT w.isi ts) (ct.glo h2) hm rfl (pa_cons ha (pa_cons (pe_tup (tys_ok w ct h5.2)) pa_nil (star_cons rfl)) (star_cons h3)) (by decide) (by decide) (star_cons h3) (star_any rfl)).weak fun _ _ _ x => w_isiT ts h5.1 x) q) fun _ => rfl
        · cases h5
    · cases h
  | .cmp kk elt own tg src tst, t, c, pe, h, X, W, k, w, ct => by
    rw [mE.eq_def] at h
    dsimp only at h
    split at h
    · rename_i elt' tg' iter' ifs' a scope pos
      rw [Bool.and_eq_true, Bool.and_eq_true, Bool.and_eq_true, Bool.and_eq_true, Bool.and_eq_true, decide_eq_true_eq] at h
      obtain ⟨⟨⟨⟨⟨h1, h2⟩, h3⟩, h4⟩, h5⟩, h6⟩ := h
      subst h1
      obtain ⟨rfl, _, hb, _⟩ := cmp_ok h2
      have hk := (blkOk_by hb).kind
      have hl := lc_of (pos := pos) ct h2 (sSr src c tg' iter' h3 X W k w ct) (sSr src c tg' iter' h3 X noW k w ct.no) (fun s H A cl fp => sTg tg (c.blk scope) tg' h4 _ noW k w (ct.blk hk s H A cl fp)) (fun s H A cl fp => sIf tst (c.blk scope) ifs' h5 _ noW k w (ct.blk hk s H A cl fp)) (fun s H A cl fp => sE elt false (c.blk scope) elt' h6 _ noW k w (ct.blk hk s H A cl fp))
      exact PEt.of t (pe_eq (k_keep hl) fun ls h => by rw [evE]; rfl) fun _ => rfl
    · rename_i x p elt' tg' iter' ifs' a scope lpos pos
      rw [Bool.and_eq_true, Bool.and_eq_true, Bool.and_eq_true, Bool.and_eq_true, Bool.and_eq_true, Bool.and_eq_true, Bool.and_eq_true, decide_eq_true_eq, decide_eq_true_eq] at h
      obtain ⟨⟨⟨⟨⟨⟨⟨h0, h1⟩, h1b⟩, h2⟩, h3⟩, h4⟩, h5⟩, h6⟩ := h
      subst h1
      obtain ⟨rfl, _, hb, _⟩ := cmp_ok h2
      have hk := (blkOk_by hb).kind
      have hl := lc_of (pos := lpos) ct h2 (sSr src c tg' iter' h3 X W k w ct) (sSr src c tg' iter' h3 X noW k w ct.no) (fun s H A cl fp => sTg tg (c.blk scope) tg' h4 _ noW k w (ct.blk hk s H A cl fp)) (fun s H A cl fp => sIf tst (c.blk scope) ifs' h5 _ noW k w (ct.blk hk s H A cl fp)) (fun s H A cl fp => sE elt false (c.blk scope) elt' h6 _ noW k w (ct.blk hk s H A cl fp))
      exact PEt.of t (pe_eq (k_ck kk h0 ct.calm (ct.glo h1b) (w.gm.bl _ (by cases kk <;> decide)) rfl hl) fun ls h => by rw [evE]; rfl) fun _ => rfl
    · cases h
  | .dsp ks vs, t, c, pe, h, X, W, k, w, ct => by
    rw [mE.eq_def] at h
    dsimp only at h
    split at h
    · rename_i keys values pos
      rw [Bool.and_eq_true, Bool.and_eq_true, Bool.and_eq_true, Bool.and_eq_true, Bool.and_eq_true, decide_eq_true_eq, decide_eq_true_eq, decide_eq_true_eq] at h
      obtain ⟨⟨⟨⟨⟨h1, h2⟩, h3⟩, h4⟩, h5⟩, h6⟩ := h
      obtain ⟨kk, hk, hall, pp⟩ := sPs vs c ks keys values h1 h6 h2 h5 X k w ct.no pos
      have hkl : kk.length = ks.length := by simpa using (congrArg List.length hk).symm
      refine PEt.of t (pe_eq ((pe_disp pp hall h5 (fun z => by rw [z] at h4; cases h4) ?_).weak fun σ H Q x => w_dsp hk (by omega) (by omega) x) fun ls h => by rw [evE]) fun _ => rfl
      have : keys.length = ks.length := dsp_len h1
      omega
    · cases h
  | .lvl e, t, c, pe, h, X, W, k, w, ct => by
    rw [mE.eq_def] at h
    dsimp only at h
    split at h
    · rw [Bool.and_eq_true, Bool.and_eq_true, Bool.and_eq_true, Bool.and_eq_true, Bool.and_eq_true, decide_eq_true_eq, decide_eq_true_eq] at h
      obtain ⟨⟨⟨⟨⟨h1, h2⟩, h3⟩, h4⟩, h5⟩, h6⟩ := h
      subst h1 h2
      exact PEt.of t (pe_eq (k_lvl ct.calm (ct.glo h3) (w.gm.bl _ (by decide)) h4 h5 (sE e false c _ h6 X W k w ct)) fun ls h => by rw [evE]) fun _ => rfl
    · cases h
  | .sst e, t, c, pe, h, X, W, k, w, ct => by
    rw [mE.eq_def] at h
    dsimp only at h
    split at h
    · rw [Bool.and_eq_true, Bool.and_eq_true, Bool.and_eq_true, Bool.and_eq_true, Bool.and_eq_true, decide_eq_true_eq, decide_eq_true_eq] at h
      obtain ⟨⟨⟨⟨⟨h1, h2⟩, h3⟩, h4⟩, h5⟩, h6⟩ := h
      subst h1 h2
      exact PEt.of t (pe_eq (k_sst ct.calm (ct.glo h3) (w.gm.bl _ (by decide)) (ct.glo h4) (w.gm.bl _ (by decide)) h5 (sE e false c _ h6 X W k w ct)) fun ls h => by rw [evE]) fun _ => rfl
    · cases h
  | .lsc elt own tg src tst, t, c, pe, h, X, W, k, w, ct => by
    rw [mE.eq_def] at h
    dsimp only at h
    split at h
    · rename_i x p elt' tg' iter' ifs' a scope lpos pos
      rw [Bool.and_eq_true, Bool.and_eq_true, Bool.and_eq_true, Bool.and_eq_true, Bool.and_eq_true, Bool.and_eq_true, Bool.and_eq_true, decide_eq_true_eq] at h
      obtain ⟨⟨⟨⟨⟨⟨⟨h0, h1⟩, h1b⟩, h2⟩, h3⟩, h4⟩, h5⟩, h6⟩ := h
      subst h0
      obtain ⟨rfl, hns, hb, hv⟩ := cmp_ok h2
      have hk := (blkOk_by hb).kind
      have hm := w.gm.bl "len" (by decide)
      have one : ∀ mi, PI X tg' iter' (liftI C X.K W mi) → PE X (.Call (.Name "len" p) [.SetComp elt' [⟨tg', iter', ifs', 0⟩] scope lpos] [] pos) (liftE C X.K W fun ls h => ((mi ls h).bind fun w h1 => cmpM P F elt own tg tst w ls h1).bind fun xs h1 => pLs xs h1) := fun mi hi => by
        have := k_lsc (C := C) (p := p) (pos := pos) (pos' := lpos) (t := asg P F tg) (q := evQ P F tst) (e := evE P F elt) ct.calm ct.nd (ct.glo h1) hm hns hi (ct.blkOk hb) hv (fun s H A cl fp => sTg tg (c.blk scope) tg' h4 _ noW k w (ct.blk hk s H A cl fp)) (fun s H A cl fp => sIf tst (c.blk scope) ifs' h5 _ noW k w (ct.blk hk s H A cl fp)) (fun s H A cl fp => sE elt false (c.blk scope) elt' h6 _ noW k w (ct.blk hk s H A cl fp))
        rw [own_map] at this
        exact this
      have hs := sSr src c tg' iter' h3 X W k w ct
      cases src with
      | exp e => exact PEt.of t (pe_eq (one _ hs) fun ls h => by rw [evE, evCs_exp]; rfl) fun _ => rfl
      | rng e => exact PEt.of t (pe_eq (one _ hs) fun ls h => by rw [evE, evCs_rng]; rfl) fun _ => rfl
      | kys e => cases h1b
      | vls e => cases h1b
      | its e => cases h1b
    · cases h
  | .eqo ng a b, t, c, pe, h, X, W, k, w, ct => by
    rw [mE.eq_def] at h
    dsimp only at h
    split at h
    · rename_i a' op b' pos
      rw [Bool.and_eq_true, Bool.and_eq_true, Bool.and_eq_true, decide_eq_true_eq, Bool.not_eq_true'] at h
      obtain ⟨⟨⟨h1, h2⟩, h3⟩, h4⟩ := h
      have ha := sE a false c a' h3 X W k w ct
      have hb := sE b false c b' h4 X W k w ct
      exact PEt.both (pe_eq (k_cmp (o_eqo h1 w.gx w.fo ct.room) (nx_eqoM P F ng) ha hb h2) fun ls h => by rw [evE]) (pt_eq (k_cmpT (o_eqo h1 w.gx w.fo ct.room) (nx_eqoM P F ng) ha hb h2) fun ls h => by rw [evE])
    · cases h
theorem sEs : ∀ (es : Exs) (c : Sc) (ps : List Expr), mEs P c es ps = true → ∀ (X : Cx) (W : WX) (k : Nat), Wh P C L F X.prog X.w X.K X.mg X.base k → Ct X W c k → PA X ps (liftA C X.K W (evEs P F es)) ∧ ps.all nst = true
  | .nil, c, ps, h, X, W, k, w, ct => by
    rw [mEs.eq_def] at h
    cases ps with
    | nil =>
      refine ⟨pa_nil.weak fun σ H Q x => ?_, rfl⟩
      have : evEs P F .nil = fun _ h => .ok [] h := by funext ls h; rw [evEs]
      rw [this] at x
      exact w_nil x
    | cons p ps => cases h
  | .cons e es, c, ps, h, X, W, k, w, ct => by
    rw [mEs.eq_def] at h
    cases ps with
    | nil => cases h
    | cons p ps =>
      dsimp only at h
      rw [Bool.and_eq_true, Bool.and_eq_true] at h
      obtain ⟨⟨h1, h2⟩, h3⟩ := h
      obtain ⟨r1, r2⟩ := sEs es c ps h3 X W k w ct
      refine ⟨(pa_cons (sE e false c p h2 X W k w ct) r1 (star_cons h1)).weak fun σ H Q x => ?_, by rw [List.all_cons, h1, r2]; rfl⟩
      have : evEs P F (.cons e es) = fun ls h => (evE P F e ls h).bind fun v h1 => (evEs P F es ls h1).bind fun vs h2 => .ok (v :: vs) h2 := by funext ls h; rw [evEs]
      rw [this] at x
      exact w_cons x
theorem sBs : ∀ (es : Exs) (kb t : Bool) (c : Sc) (ps : List Expr), mBs P t c es ps = true → ∀ (X : Cx) (W : WX) (k : Nat), Wh P C L F X.prog X.w X.K X.mg X.base k → Ct X W c k → ∀ pos,
    if t = true then PW X (.BoolOp (if kb then .And else .Or) ps pos) (liftT C X.K W (tstM (evB P F kb es))) else PE X (.BoolOp (if kb then .And else .Or) ps pos) (liftE C X.K W (evB P F kb es))
  | .nil, kb, t, c, ps, h, X, W, k, w, ct => by rw [mBs] at h; cases h
  | .cons e es, kb, t, c, ps, h, X, W, k, w, ct => by
    intro pos
    rw [mBs.eq_def] at h
    cases ps with
    | nil => cases h
    | cons p ps =>
      dsimp only at h
      rw [Bool.and_eq_true, Bool.or_eq_true, Bool.and_eq_true] at h
      obtain ⟨h1, h2⟩ := h
      have he := sE e t c p h1 X W k w ct
      rcases h2 with ⟨h2, h3⟩ | h2
      · cases es with
        | cons _ _ => cases h2
        | nil =>
          cases ps with
          | cons _ _ => cases h3
          | nil =>
            cases t
            · exact pe_eq (k_one he) fun ls h => by rw [evB]
            · exact pw_eq (k_oneT (by cases kb <;> simp) he) fun ls h => by rw [evB]
      · rw [Bool.and_eq_true, Bool.and_eq_true, Bool.not_eq_true', Bool.not_eq_true'] at h2
        obtain ⟨⟨h2, h3⟩, h4⟩ := h2
        have hb := sBs es kb t c ps h4 X W k w ct pos
        cases ps with
        | nil => cases h3
        | cons p2 ps =>
          cases es with
          | nil => cases h2
          | cons e2 es2 =>
            cases t
            · cases kb
              · exact pe_eq (k_or he hb) fun ls h => by rw [evB]
              · exact pe_eq (k_and he hb) fun ls h => by rw [evB]
            · cases kb
              · exact pw_eq (k_orT he hb) fun ls h => by rw [evB]
              · exact pw_eq (k_andT he hb) fun ls h => by rw [evB]
theorem sPs : ∀ (es : Exs) (c : Sc) (ks : List LV) (keys : List (Option Expr)) (ps : List Expr), dspOk ks keys = true → mEs P c es ps = true → ks.length = exsLen es → keys.length = ps.length → ∀ (X : Cx) (k : Nat), Wh P C L F X.prog X.w X.K X.mg X.base k → Ct X noW c k → ∀ pos : Pos,
    ∃ kk : List Key, ks.map keyOf = kk.map some ∧ keys.all (·.isSome) = true ∧ PPs X pos keys ps (trsOf C X.K P F kk es)
  | .nil, c, ks, keys, ps, h1, h2, h3, h4, X, k, w, ct, pos => by
    cases ks with
    | cons _ _ => simp [exsLen] at h3
    | nil =>
      cases keys with
      | cons _ _ => cases h1
      | nil =>
        cases ps with
        | cons _ _ => simp at h4
        | nil => exact ⟨[], rfl, rfl, pps_nil⟩
  | .cons e es, c, ks, keys, ps, h1, h2, h3, h4, X, k, w, ct, pos => by
    cases ks with
    | nil => simp [exsLen] at h3
    | cons kv ks =>
      cases keys with
      | nil => cases h1
      | cons ke keys =>
        rw [mEs.eq_def] at h2
        cases ps with
        | nil => cases h2
        | cons p ps =>
          dsimp only at h2
          rw [Bool.and_eq_true, Bool.and_eq_true] at h2
          unfold dspOk at h1
          rw [Bool.and_eq_true, Bool.and_eq_true] at h1
          obtain ⟨⟨k1, k2⟩, k3⟩ := h1
          obtain ⟨x, ex⟩ := Option.isSome_iff_exists.mp k1
          obtain ⟨kk, q1, q2, q3⟩ := sPs es c ks keys ps k3 h2.2 (by simpa [exsLen] using h3) (by simpa using h4) X k w ct pos
          have he := sE e false c p h2.1.2 X noW k w ct
          split at k2
          · obtain ⟨y, y1, y2⟩ := con_ok (X := X) k2
            have ey : y = kV x := key_V (y2 (fun _ => 0) 0 (fun _ => none)) ex
            subst ey
            exact ⟨x :: kk, by simp [ex, q1], by simp [q2], pps_cons y1 he q3⟩
          · cases k2
theorem sKs : ∀ (es : Exs) (c : Sc) (ps : List Keyword), mKs P c es ps = true → ∀ (X : Cx) (W : WX) (k : Nat), Wh P C L F X.prog X.w X.K X.mg X.base k → Ct X W c k → PK X ps (liftA C X.K W (evEs P F es))
  | .nil, c, ps, h, X, W, k, w, ct => by
    rw [mKs.eq_def] at h
    cases ps with
    | nil =>
      have : evEs P F .nil = fun _ h => .ok [] h := by funext ls h; rw [evEs]
      rw [this]
      exact ⟨fun pos pins s σ H Q I x => pk_nil.run pos pins s σ H Q I (w_nil x)⟩
    | cons p ps => cases h
  | .cons e es, c, ps, h, X, W, k, w, ct => by
    rw [mKs.eq_def] at h
    cases ps with
    | nil => cases h
    | cons p ps =>
      dsimp only at h
      rw [Bool.and_eq_true] at h
      obtain ⟨h1, h2⟩ := h
      have r1 := sKs es c ps h2 X W k w ct
      have r0 := sE e false c p.value h1 X W k w ct
      have : evEs P F (.cons e es) = fun ls h => (evE P F e ls h).bind fun v h1 => (evEs P F es ls h1).bind fun vs h2 => .ok (v :: vs) h2 := by funext ls h; rw [evEs]
      rw [this]
      obtain ⟨nm, v, kp⟩ := p
      exact ⟨fun pos pins s σ H Q I x => (pk_cons (nm := nm) (kpos := kp) r0 r1).run pos pins s σ H Q I (w_cons x)⟩
theorem sOx : ∀ (e : Ox) (c : Sc) (p : Option Expr), mOx P c e p = true → ∀ (X : Cx) (W : WX) (k : Nat), Wh P C L F X.prog X.w X.K X.mg X.base k → Ct X W c k → PO X p (liftO C X.K W (evO P F e))
  | .none, c, p, h, X, W, k, w, ct => by
    rw [mOx.eq_def] at h
    cases p with
    | none =>
      have : evO P F .none = fun _ h => .ok none h := by funext ls h; rw [evO]
      rw [this]; exact k_pnone
    | some p => cases h
  | .some e, c, p, h, X, W, k, w, ct => by
    rw [mOx.eq_def] at h
    cases p with
    | none => cases h
    | some p =>
      have : evO P F (.some e) = fun ls h => (evE P F e ls h).bind fun v h1 => asI v h1 := by funext ls h; rw [evO]
      rw [this]; exact k_psome (sE e false c p h X W k w ct)
theorem sIf : ∀ (e : Ox) (c : Sc) (p : List Expr), mIf P c e p = true → ∀ (X : Cx) (W : WX) (k : Nat), Wh P C L F X.prog X.w X.K X.mg X.base k → Ct X W c k → PTs X p (liftT C X.K W (evQ P F e))
  | .none, c, p, h, X, W, k, w, ct => by
    rw [mIf.eq_def] at h
    cases p with
    | nil =>
      have : evQ P F .none = fun _ h => .ok true h := by funext ls h; rw [evQ]
      rw [this]; exact pts_nil.weak fun σ H Q ⟨φ, ls, h, S, Lc, R⟩ => R.here S rfl
    | cons p ps => cases h
  | .some e, c, p, h, X, W, k, w, ct => by
    rw [mIf.eq_def] at h
    dsimp only at h
    split at h
    · have : evQ P F (.some e) = tstM (evE P F e) := by funext ls h; rw [evQ]
      rw [this]; exact pts_one (sE e true c _ h X W k w ct)
    · cases h
theorem sSr : ∀ (s : Sr) (c : Sc) (tg p : Expr), mSr P c s tg p = true → ∀ (X : Cx) (W : WX) (k : Nat), Wh P C L F X.prog X.w X.K X.mg X.base k → Ct X W c k → SrOk C P F s tg p X W
  | .exp e, c, tg, p, h, X, W, k, w, ct => by
    rw [mSr.eq_def] at h
    exact i_val (sE e false c p h X W k w ct)
  | .rng e, c, tg, p, h, X, W, k, w, ct => by
    rw [mSr.eq_def] at h
    dsimp only at h
    split at h
    · rw [Bool.and_eq_true, Bool.and_eq_true, Bool.and_eq_true, decide_eq_true_eq] at h
      obtain ⟨⟨⟨h1, h2⟩, h3⟩, h4⟩ := h
      subst h1
      exact i_rng (ct.glo h2) (w.gm.bl _ (by decide)) h3 (sE e false c _ h4 X W k w ct)
    · cases h
  | .kys e, c, tg, p, h, X, W, k, w, ct => by
    rw [mSr.eq_def] at h
    exact fun m => i_keys (sE e false c p h X W k w ct)
  | .vls e, c, tg, p, h, X, W, k, w, ct => by
    rw [mSr.eq_def] at h
    dsimp only at h
    split at h
    · rw [Bool.and_eq_true, Bool.and_eq_true, Bool.and_eq_true, decide_eq_true_eq] at h
      obtain ⟨⟨⟨h1, h2⟩, h3⟩, h4⟩ := h
      subst h1
      exact fun m => i_vals h2 h3 (sE e false c _ h4 X W k w ct)
    · cases h
  | .its e, c, tg, p, h, X, W, k, w, ct => by
    rw [mSr.eq_def] at h
    dsimp only at h
    split at h
    · split at h
      · rw [Bool.and_eq_true, Bool.and_eq_true, Bool.and_eq_true, decide_eq_true_eq] at h
        obtain ⟨⟨⟨h1, h2⟩, h3⟩, h4⟩ := h
        subst h1
        exact fun m => i_items h2 h3 (sE e false c _ h4 X W k w ct)
      · cases h
    · cases h
theorem sTg : ∀ (g : Tg) (c : Sc) (p : Expr), mTg P c g p = true → ∀ (X : Cx) (W : WX) (k : Nat), Wh P C L F X.prog X.w X.K X.mg X.base k → Ct X W c k → PG X p (liftG C X.K (tgS g) (asg P F g))
  | .nm i, c, p, h, X, W, k, w, ct => by
    rw [mTg.eq_def] at h
    dsimp only at h
    split at h
    · obtain ⟨h1, h2, h3⟩ := ct.slot h
      have : asg P F (.nm i) = fun v ls h => .ok (ls.set i (some v)) h := by funext v ls h; rw [asg]
      rw [this, tgS]; exact g_name ct.nd h1 h2 h3
    · cases h
  | .tp ts, c, p, h, X, W, k, w, ct => by
    rw [mTg.eq_def] at h
    dsimp only at h
    split at h
    · rename_i es _ _
      obtain ⟨r1, r2, r3⟩ := sTgs ts c es h X W k w ct
      have : asg P F (.tp ts) = fun v ls h => (match tupOf v with
        | some xs => if xs.length = es.length then asgs P F ts xs ls h else .bad
        | none => .bad) := by funext v ls h; rw [asg, r3]; try rfl
      rw [this, tgS]; exact g_tup ct.calm r2 r1
    · cases h
  | .sb o i, c, p, h, X, W, k, w, ct => by
    rw [mTg.eq_def] at h
    dsimp only at h
    split at h
    · rename_i o' i' pos
      rw [Bool.and_eq_true, Bool.and_eq_true] at h
      obtain ⟨⟨h1, h2⟩, h3⟩ := h
      have : asg P F (.sb o i) = fun v ls h => (evE P F o ls h).bindN fun x h1 => (evE P F i ls h1).bindN fun y h2 => (pSet x y v h2).bindN fun _ h3 => .ok ls h3 := by funext v ls h; rw [asg]
      rw [this, tgS]
      exact g_sub ct.units (plainIx_of h1) (sE o false c o' h2 X noW k w ct.no) (sE i false c i' h3 X noW k w ct.no) (fun v => by cases i' <;> first | rfl | cases h1)
    · cases h
theorem sTgs : ∀ (g : Tgs) (c : Sc) (p : List Expr), mTgs P c g p = true → ∀ (X : Cx) (W : WX) (k : Nat), Wh P C L F X.prog X.w X.K X.mg X.base k → Ct X W c k → PGs X p (liftGs C X.K (tgsS g) (asgs P F g)) ∧ p.all nst = true ∧ tgsLen g = p.length
  | .nil, c, p, h, X, W, k, w, ct => by
    rw [mTgs.eq_def] at h
    cases p with
    | nil =>
      have : asgs P F .nil = fun vs ls h => (match vs with
        | [] => .ok ls h
        | _ => .bad) := by
        funext v ls h
        rw [asgs.eq_def]
        cases v <;> rfl
      rw [this, tgsS]; exact ⟨g_nil, rfl, rfl⟩
    | cons p ps => cases h
  | .cons g gs, c, p, h, X, W, k, w, ct => by
    rw [mTgs.eq_def] at h
    cases p with
    | nil => cases h
    | cons p ps =>
      dsimp only at h
      rw [Bool.and_eq_true, Bool.and_eq_true] at h
      obtain ⟨⟨h1, h2⟩, h3⟩ := h
      obtain ⟨r1, r2, r3⟩ := sTgs gs c ps h3 X W k w ct
      have : asgs P F (.cons g gs) = fun xs ls h => (match xs with
        | x :: xs => (asg P F g x ls h).bindN fun ls1 h1 => asgs P F gs xs ls1 h1
        | [] => .bad) := by
        funext v ls h
        rw [asgs.eq_def]
        cases v <;> rfl
      rw [this, tgsS]
      exact ⟨g_cons h1 (sTg g c p h2 X W k w ct) r1, by rw [List.all_cons, h1, r2]; rfl, by show tgsLen gs + 1 = ps.length + 1; rw [r3]⟩
end
end
end LD
end
section
set_option Elab.async false
set_option linter.all false
set_option maxRecDepth 100000
set_option autoImplicit false
/-! LDW: statements matched; defs -/
namespace LD
open PySem L2

def parOk (c : Sc) (is : List Nat) (ts vs : List Expr) : Bool := match swN c.kf ts vs with
  | some (some names) => decide (names.map some = is.map fun i => c.N[i]?) && names.all c.loc && decide (vs.length = names.length)
  | _ => false
section
variable (P : Prg)
def rseOk (c : Sc) (n : Nat) (x : Str) : Bool := c.glo x && !dbg x && decide (P.xnm[n]? = some x)
mutual
def mS (c : Sc) : Sm → Stmt → Bool
  | .ex e, st => (match st with
    | .Expr v _ => ncomp v && mE P false c e v
    | _ => false)
  | .pass, st => (match st with
    | .Pass _ => true
    | .Expr (.Constant (.str _) _ _) _ => true
    | _ => false)
  | .set t e, st => (match st with
    | .Assign [tg] v _ => asgOk c.kf tg v && nst tg && mTg P c t tg && mE P false c e v
    | _ => false)
  | .par is es, st => (match st with
    | .Assign [.Tuple ts _ _] (.Tuple vs _ _) _ => parOk c is ts vs && mEs P c es vs
    | _ => false)
  | .slc i elt own tg src tst, st => (match st with
    | .Assign [.Name y py] (.ListComp elt' [⟨tg', iter', ifs', a⟩] scope lpos) _ => swW c.kf (.ListComp elt' [⟨tg', iter', ifs', a⟩] scope lpos) (.Name y py) && decide (c.N[i]? = some y) && c.loc y && cmpOk c own tg a iter' scope && mSr P c src tg' iter' && mTg P (c.blk scope) tg tg' && mIf P (c.blk scope) tst ifs' && mE P false (c.blk scope) elt elt'
    | _ => false)
  | .fst o f e, st => (match st with
    | .Assign [.Attribute o' x _] v _ => decide (x = P.fname f) && mE P false c o o' && mE P false c e v
    | _ => false)
  | .agN i sub e, st => (match st with
    | .AugAssign (.Name x _) op v _ => c.slot i x && decide (op = if sub then .Sub else .Add) && mE P false c e v
    | _ => false)
  | .agF o f sub e, st => (match st with
    | .AugAssign (.Attribute o' x _) op v _ => decide (x = P.fname f) && decide (op = if sub then .Sub else .Add) && mE P false c o o' && mE P false c e v
    | _ => false)
  | .agS _ _ _ _, _ => false
  | .iff x a b, st => (match st with
    | .If x' a' b' _ => mE P true c x x' && mSs c a a' && mSs c b b'
    | _ => false)
  | .for_ t src body, st => (match st with
    | .For tg iter body' [] _ => nset iter && mSr P c src tg iter && mTg P c t tg && mSs c body body'
    | _ => false)
  | .whl x body, st => (match st with
    | .While x' body' [] _ => mE P true c x x' && mSs c body body'
    | _ => false)
  | .ret e, st => (match st with
    | .Return (some v) _ => mE P false c e v
    | _ => false)
  | .retN, st => (match st with
    | .Return none _ => true
    | _ => false)
  | .rse n, st => (match st with
    | .Raise (some (.Call (.Name x _) [.Constant (.str _) _ _] [] _)) none _ => rseOk P c n x
    | _ => false)
  | .try_ _ _ _ _, _ => false
  | .cont, st => (match st with
    | .Continue _ => true
    | _ => false)
  | .never, _ => true
def mSs (c : Sc) : Sms → List Stmt → Bool
  | .nil, ps => ps.isEmpty
  | .cons s ss, ps => (match ps with
    | p :: ps => mS c s p && mSs c ss ps
    | [] => false)
end
end

section
variable {P : Prg} {C : Cl} {L : Lk} {F : FT}
theorem toS_bind {α β : Type} (m : Res α) (f : α → LH → Res β) (ls : LSt) (k : β → LH → SR) : (m.bind f).toS ls k = m.toS ls fun a h => (f a h).toS ls k := by
  cases m <;> rfl
theorem evFs_exp (e : Ex) (kk : Wk → LSt → LH → SR) (ls : LSt) (h : LH) : evFs P F kk (.exp e) ls h = ((evE P F e ls h).bind fun v h1 => walkV v h1).toS ls fun w h1 => kk w ls h1 := by
  rw [evFs, toS_bind]
theorem evFs_rng (e : Ex) (kk : Wk → LSt → LH → SR) (ls : LSt) (h : LH) : evFs P F kk (.rng e) ls h = ((evE P F e ls h).bind fun v h1 => walkR v h1).toS ls fun w h1 => kk w ls h1 := by
  rw [evFs, toS_bind]
theorem evFs_kys (e : Ex) (kk : Wk → LSt → LH → SR) : evFs P F kk (.kys e) = lockS (evE P F e) fun m ls h => ((evE P F e ls h).bind fun v h1 => walkD 0 m v h1).toS ls fun w h1 => kk w ls h1 := by
  funext ls h
  rw [evFs]; unfold lockS; simp only [toS_bind]; try rfl
theorem evFs_vls (e : Ex) (kk : Wk → LSt → LH → SR) : evFs P F kk (.vls e) = lockS (evE P F e) fun m ls h => ((evE P F e ls h).bind fun v h1 => walkD 1 m v h1).toS ls fun w h1 => kk w ls h1 := by
  funext ls h
  rw [evFs]; unfold lockS; simp only [toS_bind]; try rfl
theorem evFs_its (e : Ex) (kk : Wk → LSt → LH → SR) : evFs P F kk (.its e) = lockS (evE P F e) fun m ls h => ((evE P F e ls h).bind fun v h1 => walkD 2 m v h1).toS ls fun w h1 => kk w ls h1 := by
  funext ls h
  rw [evFs]; unfold lockS; simp only [toS_bind]; try rfl
theorem ps_eq {X : Cx} {s : Stmt} {W : WX} {m m' : LSt → LH → SR} (h : PS X s (liftS C X.K W m)) (q : ∀ ls h, m' ls h = m ls h) : PS X s (liftS C X.K W m') := by
  have : m' = m := by funext ls h; exact q ls h
  rw [this]; exact h
theorem pss_eq {X : Cx} {s : List Stmt} {W : WX} {m m' : LSt → LH → SR} (h : PSs X s (liftS C X.K W m)) (q : ∀ ls h, m' ls h = m ls h) : PSs X s (liftS C X.K W m') := by
  have : m' = m := by funext ls h; exact q ls h
  rw [this]; exact h
/-- the values of a row of expressions are as many as they -/
theorem evEs_len : ∀ (es : Exs) (c : Sc) (ps : List Expr), mEs P c es ps = true → ∀ ls h vs h', evEs P F es ls h = .ok vs h' → vs.length = ps.length
  | .nil, c, ps, h, ls, hh, vs, h', e => by
    rw [mEs.eq_def] at h
    rw [evEs] at e
    cases e
    cases ps with
    | nil => rfl
    | cons _ _ => cases h
  | .cons x es, c, ps, h, ls, hh, vs, h', e => by
    rw [mEs.eq_def] at h
    cases ps with
    | nil => cases h
    | cons p ps =>
      dsimp only at h
      rw [Bool.and_eq_true, Bool.and_eq_true] at h
      rw [evEs] at e
      cases e1 : evE P F x ls hh with
      | ok v h1 =>
        rw [e1] at e
        dsimp only [Res.bind] at e
        cases e2 : evEs P F es ls h1 with
        | ok vs2 h2 =>
          rw [e2] at e
          have := evEs_len es c ps h.2 ls h1 vs2 h2 e2
          cases e
          simp [this]
        | exc _ _ _ => rw [e2] at e; cases e
        | bad => rw [e2] at e; cases e
      | exc _ _ _ => rw [e1] at e; cases e
      | bad => rw [e1] at e; cases e
/-- name = [..] over any source -/
theorem slc_of {src : Sr} {tg' iter elt' : Expr} {ifs : List Expr} {scope : Scope} {pos py spos : Pos} {own : List Nat} {tg : Tg} {tst : Ox} {elt : Ex} {i : Nat} {y : Str} {X : Cx} {W : WX} {c : Sc} {k : Nat} (ct : Ct X W c k) (ok : cmpOk c own tg 0 iter scope = true)
    (hw : swW c.kf (.ListComp elt' [⟨tg', iter, ifs, 0⟩] scope pos) (.Name y py) = true) (hy : c.N[i]? = some y) (hyl : c.loc y = true)
    (hs : SrOk C P F src tg' iter X W) (hs0 : SrOk C P F src tg' iter X noW)
    (hg : ∀ (s : Shared) (H : Hp) (A : Addr) (cl : List (Str × Addr)) (fp : List Addr), PG (X.blk s H scope (compEnvC scope cl A X.env) fp) tg' (liftG C X.K (tgS tg) (asg P F tg)))
    (ht : ∀ (s : Shared) (H : Hp) (A : Addr) (cl : List (Str × Addr)) (fp : List Addr), PTs (X.blk s H scope (compEnvC scope cl A X.env) fp) ifs (liftT C X.K noW (evQ P F tst)))
    (he : ∀ (s : Shared) (H : Hp) (A : Addr) (cl : List (Str × Addr)) (fp : List Addr), PE (X.blk s H scope (compEnvC scope cl A X.env) fp) elt' (liftE C X.K noW (evE P F elt))) :
    PS X (.Assign [.Name y py] (.ListComp elt' [⟨tg', iter, ifs, 0⟩] scope pos) spos) (fun D σ H => liftD C X.K W (evCs P F (cmpM P F elt own tg tst) src) σ H fun v H1 => D.nx (σ.set i (some v)) H1) := by
  obtain ⟨_, h2, h3, h4⟩ := cmp_ok ok
  have ob := ct.blkOk h3
  have eo : (c.own own).map (·.2) = own := own_map c own
  have hl : X.env.scope.names.lookup y = some .local := by
    unfold Sc.loc at hyl
    rw [ct.nm]
    split at hyl
    · assumption
    · cases hyl
  have one : ∀ (W' : WX) (mi : LSt → LH → Res Wk), PI X tg' iter (liftI C X.K W' mi) → PS X (.Assign [.Name y py] (.ListComp elt' [⟨tg', iter, ifs, 0⟩] scope pos) spos) (fun D σ H => liftD C X.K W' (fun ls h => (mi ls h).bind fun w h1 => cmpM P F elt own tg tst w ls h1) σ H fun v H1 => D.nx (σ.set i (some v)) H1) := fun W' mi hi => by
    have := s_setD (C := C) (pos := pos) (py := py) (spos := spos) (t := asg P F tg) (q := evQ P F tst) (me := evE P F elt) ct.kd (by rw [ct.kf]; exact hw) (by rw [ct.N]; exact hy) hl ct.calm ct.nd h2 hi ob h4 hg ht he
    rw [eo] at this
    exact this
  have lk : ∀ (me : LSt → LH → Res LV) (mi : Nat → LSt → LH → Res Wk), (∀ m, PI X tg' iter (liftI C X.K noW (mi m))) → PS X (.Assign [.Name y py] (.ListComp elt' [⟨tg', iter, ifs, 0⟩] scope pos) spos) (fun D σ H => liftD C X.K W (lockM me fun m ls h => (mi m ls h).bind fun w h1 => cmpM P F elt own tg tst w ls h1) σ H fun v H1 => D.nx (σ.set i (some v)) H1) := fun me mi hi => by
    refine (ps_lock (t := fun D σ H => ∃ m, liftD C X.K noW (fun ls h => (mi m ls h).bind fun w h1 => cmpM P F elt own tg tst w ls h1) σ H fun v H1 => D.nx (σ.set i (some v)) H1) ⟨fun pins s σ H D I ⟨m, q⟩ => (one noW _ (hi m)).run pins s σ H D I q⟩).weak fun D σ H x => ?_
    exact w_lockD x
  cases src with
  | exp e =>
    have : evCs P F (cmpM P F elt own tg tst) (.exp e) = fun ls h => ((evE P F e ls h).bind fun v h1 => walkV v h1).bind fun w h1 => cmpM P F elt own tg tst w ls h1 := by
      funext ls h; exact evCs_exp e _ ls h
    rw [this]; exact one W _ hs
  | rng e =>
    have : evCs P F (cmpM P F elt own tg tst) (.rng e) = fun ls h => ((evE P F e ls h).bind fun v h1 => walkR v h1).bind fun w h1 => cmpM P F elt own tg tst w ls h1 := by
      funext ls h; exact evCs_rng e _ ls h
    rw [this]; exact one W _ hs
  | kys e => rw [evCs_kys]; exact lk _ _ hs0
  | vls e => rw [evCs_vls]; exact lk _ _ hs0
  | its e => rw [evCs_its]; exact lk _ _ hs0
/-- a frame that may walk and raise -/
structure Cs (X : Cx) (W : WX) (c : Sc) (k : Nat) : Prop where
  ct : Ct X W c k
  po : PassesOwn (model X.prog X.w) X.A X.env X.xe
theorem Cs.no {X : Cx} {W : WX} {c : Sc} {k : Nat} (h : Cs X W c k) : Cs X noW c k := ⟨h.ct.no, h.po⟩
mutual
theorem sS : ∀ (s : Sm) (c : Sc) (st : Stmt), mS P c s st = true → ∀ (X : Cx) (W : WX) (k : Nat), Wh P C L F X.prog X.w X.K X.mg X.base k → Cs X W c k → PS X st (liftS C X.K W (evS P F s))
  | .ex e, c, st, h, X, W, k, w, cs => by
    rw [mS.eq_def] at h
    dsimp only at h
    split at h
    · rw [Bool.and_eq_true] at h
      exact ps_eq (s_ex (sE e false c _ h.2 X W k w cs.ct) h.1) fun ls h => by rw [evS]
    · cases h
  | .pass, c, st, h, X, W, k, w, cs => by
    rw [mS.eq_def] at h
    dsimp only at h
    split at h
    · exact ps_eq s_pass fun ls h => by rw [evS]
    · exact ps_eq s_doc fun ls h => by rw [evS]
    · cases h
  | .set t e, c, st, h, X, W, k, w, cs => by
    rw [mS.eq_def] at h
    dsimp only at h
    split at h
    · rw [Bool.and_eq_true, Bool.and_eq_true, Bool.and_eq_true] at h
      obtain ⟨⟨⟨h1, h2⟩, h3⟩, h4⟩ := h
      exact ps_eq (s_set cs.ct.kd (by rw [cs.ct.kf]; exact h1) (sE e false c _ h4 X W k w cs.ct) (sTg t c _ h3 X W k w cs.ct) h2 (nx_asg t)) fun ls h => by rw [evS]
    · cases h
  | .par is es, c, st, h, X, W, k, w, cs => by
    rw [mS.eq_def] at h
    dsimp only at h
    split at h
    · rename_i ts _ _ vs _ _ _
      rw [Bool.and_eq_true] at h
      obtain ⟨h1, h2⟩ := h
      unfold parOk at h1
      split at h1
      · rename_i names en
        rw [Bool.and_eq_true, Bool.and_eq_true, decide_eq_true_eq, decide_eq_true_eq] at h1
        obtain ⟨⟨k1, k2⟩, k3⟩ := h1
        refine ps_eq (s_par (ma := evEs P F es) cs.ct.kd cs.ct.calm cs.ct.nd (by rw [cs.ct.kf]; exact en) (by rw [cs.ct.N]; exact k1) (fun x hx => ?_) k3 (sEs es c vs h2 X W k w cs.ct).1 (evEs_len es c vs h2)) fun ls h => by rw [evS]; try rfl
        have := List.all_eq_true.mp k2 x hx
        unfold Sc.loc at this
        rw [cs.ct.nm]
        split at this
        · assumption
        · cases this
      · cases h1
    · cases h
  | .slc i elt own tg src tst, c, st, h, X, W, k, w, cs => by
    rw [mS.eq_def] at h
    dsimp only at h
    split at h
    · rename_i y py elt' tg' iter' ifs' a scope lpos spos
      rw [Bool.and_eq_true, Bool.and_eq_true, Bool.and_eq_true, Bool.and_eq_true, Bool.and_eq_true, Bool.and_eq_true, Bool.and_eq_true, decide_eq_true_eq] at h
      obtain ⟨⟨⟨⟨⟨⟨⟨h0, h1⟩, h1b⟩, h2⟩, h3⟩, h4⟩, h5⟩, h6⟩ := h
      obtain ⟨rfl, _, hb, _⟩ := cmp_ok h2
      have hk := (blkOk_by hb).kind
      have ct := cs.ct
      have hl := slc_of (C := C) (P := P) (F := F) (spos := spos) ct h2 h0 h1 h1b (sSr src c tg' iter' h3 X W k w ct) (sSr src c tg' iter' h3 X noW k w ct.no) (fun s H A cl fp => sTg tg (c.blk scope) tg' h4 _ noW k w (ct.blk hk s H A cl fp)) (fun s H A cl fp => sIf tst (c.blk scope) ifs' h5 _ noW k w (ct.blk hk s H A cl fp)) (fun s H A cl fp => sE elt false (c.blk scope) elt' h6 _ noW k w (ct.blk hk s H A cl fp))
      exact ps_eq (s_slc hl) fun ls h => by rw [evS]; try rfl
    · cases h
  | .fst o f e, c, st, h, X, W, k, w, cs => by
    rw [mS.eq_def] at h
    dsimp only at h
    split at h
    · rw [Bool.and_eq_true, Bool.and_eq_true, decide_eq_true_eq] at h
      obtain ⟨⟨h1, h2⟩, h3⟩ := h
      subst h1
      exact ps_eq (s_fst w.gx (sE o false c _ h2 X W k w cs.ct) (sE e false c _ h3 X W k w cs.ct)) fun ls h => by rw [evS]
    · cases h
  | .agN i sub e, c, st, h, X, W, k, w, cs => by
    rw [mS.eq_def] at h
    dsimp only at h
    split at h
    · rw [Bool.and_eq_true, Bool.and_eq_true, decide_eq_true_eq] at h
      obtain ⟨⟨h1, h2⟩, h3⟩ := h
      subst h2
      obtain ⟨k1, k2, k3⟩ := cs.ct.slot h1
      exact ps_eq (s_agN sub cs.ct.nd k1 k2 k3 (sE e false c _ h3 X W k w cs.ct)) fun ls h => by rw [evS]
    · cases h
  | .agF o f sub e, c, st, h, X, W, k, w, cs => by
    rw [mS.eq_def] at h
    dsimp only at h
    split at h
    · rw [Bool.and_eq_true, Bool.and_eq_true, Bool.and_eq_true, decide_eq_true_eq, decide_eq_true_eq] at h
      obtain ⟨⟨⟨h1, h2⟩, h3⟩, h4⟩ := h
      subst h1 h2
      exact ps_eq (s_agF sub w.gx (sE o false c _ h3 X W k w cs.ct) (sE e false c _ h4 X W k w cs.ct)) fun ls h => by rw [evS]
    · cases h
  | .agS _ _ _ _, c, st, h, X, W, k, w, cs => by rw [mS.eq_def] at h; cases h
  | .iff x a b, c, st, h, X, W, k, w, cs => by
    rw [mS.eq_def] at h
    dsimp only at h
    split at h
    · rw [Bool.and_eq_true, Bool.and_eq_true] at h
      obtain ⟨⟨h1, h2⟩, h3⟩ := h
      exact ps_eq (s_if (sE x true c _ h1 X W k w cs.ct) (sSs a c _ h2 X W k w cs) (sSs b c _ h3 X W k w cs)) fun ls h => by rw [evS]
    · cases h
  | .for_ t src body, c, st, h, X, W, k, w, cs => by
    rw [mS.eq_def] at h
    dsimp only at h
    split at h
    · rename_i tg iter body' pos
      rw [Bool.and_eq_true, Bool.and_eq_true, Bool.and_eq_true] at h
      obtain ⟨⟨⟨h1, h2⟩, h3⟩, h4⟩ := h
      have hg := sTg t c tg h3 X W k w cs.ct
      have one : ∀ (W' : WX) (mi : LSt → LH → Res Wk), Cs X W' c k → PI X tg iter (liftI C X.K W' mi) → PS X (.For tg iter body' [] pos) (liftS C X.K W' fun ls h => (mi ls h).toS ls fun w h1 => loopOf (asg P F t) (evSs P F body) w ls h1) := fun W' mi cs' hi => s_for cs'.po cs'.ct.calm h1 (nx_asg t) hi hg (sSs body c body' h4 X W' k w cs')
      cases src with
      | exp e => exact ps_eq (one W _ cs (sSr (.exp e) c tg iter h2 X W k w cs.ct)) fun ls h => by rw [evS]; exact evFs_exp e _ ls h
      | rng e => exact ps_eq (one W _ cs (sSr (.rng e) c tg iter h2 X W k w cs.ct)) fun ls h => by rw [evS]; exact evFs_rng e _ ls h
      | kys e => exact ps_eq (s_lockS fun m => one noW _ cs.no (sSr (.kys e) c tg iter h2 X noW k w cs.ct.no m)) fun ls h => by rw [evS, evFs_kys]
      | vls e => exact ps_eq (s_lockS fun m => one noW _ cs.no (sSr (.vls e) c tg iter h2 X noW k w cs.ct.no m)) fun ls h => by rw [evS, evFs_vls]
      | its e => exact ps_eq (s_lockS fun m => one noW _ cs.no (sSr (.its e) c tg iter h2 X noW k w cs.ct.no m)) fun ls h => by rw [evS, evFs_its]
    · cases h
  | .whl x body, c, st, h, X, W, k, w, cs => by
    rw [mS.eq_def] at h
    dsimp only at h
    split at h
    · rw [Bool.and_eq_true] at h
      exact ps_eq (s_while (n := wfuel) cs.po (sE x true c _ h.1 X W k w cs.ct) (sSs body c _ h.2 X W k w cs)) fun ls h => by rw [evS]
    · cases h
  | .ret e, c, st, h, X, W, k, w, cs => by
    rw [mS.eq_def] at h
    dsimp only at h
    split at h
    · exact ps_eq (s_ret (sE e false c _ h X W k w cs.ct)) fun ls h => by rw [evS]
    · cases h
  | .retN, c, st, h, X, W, k, w, cs => by
    rw [mS.eq_def] at h
    dsimp only at h
    split at h
    · exact ps_eq s_retN fun ls h => by rw [evS]
    · cases h
  | .rse n, c, st, h, X, W, k, w, cs => by
    rw [mS.eq_def] at h
    dsimp only at h
    split at h
    · unfold rseOk at h
      rw [Bool.and_eq_true, Bool.and_eq_true, decide_eq_true_eq] at h
      obtain ⟨⟨h1, h2⟩, h3⟩ := h
      obtain ⟨k1, k2⟩ := w.gm.ex n _ h3
      exact ps_eq (s_rse cs.ct.calm cs.ct.tk k2 k1 (cs.ct.glo h1) (dbg_no h2).1) fun ls h => by rw [evS]
    · cases h
  | .try_ _ _ _ _, c, st, h, X, W, k, w, cs => by rw [mS.eq_def] at h; cases h
  | .cont, c, st, h, X, W, k, w, cs => by
    rw [mS.eq_def] at h
    dsimp only at h
    split at h
    · exact ps_eq s_cont fun ls h => by rw [evS]
    · cases h
  | .never, c, st, h, X, W, k, w, cs => ps_eq s_never fun ls h => by rw [evS]
theorem sSs : ∀ (s : Sms) (c : Sc) (st : List Stmt), mSs P c s st = true → ∀ (X : Cx) (W : WX) (k : Nat), Wh P C L F X.prog X.w X.K X.mg X.base k → Cs X W c k → PSs X st (liftS C X.K W (evSs P F s))
  | .nil, c, st, h, X, W, k, w, cs => by
    rw [mSs.eq_def] at h
    cases st with
    | nil => exact pss_eq ss_nil fun ls h => by rw [evSs]
    | cons _ _ => cases h
  | .cons s ss, c, st, h, X, W, k, w, cs => by
    rw [mSs.eq_def] at h
    cases st with
    | nil => cases h
    | cons p ps =>
      dsimp only at h
      rw [Bool.and_eq_true] at h
      exact pss_eq (ss_cons (sS s c p h.1 X W k w cs) (sSs ss c ps h.2 X W k w cs)) fun ls h => by rw [evSs]
end

/-! ### defs -/
/-- the facts of a def's text -/
structure FdK (K : PySem.W.Frag) (L : Lk) (P : Prg) (i : Nat) (fi : FnI) : Prop where
  ex : ∃ (x qual : Str) (params : Arguments) (body : List Stmt) (scope : Scope) (dvs : List V) (kws : List (Str × V)), FunD K x qual params body scope dvs kws (L.fA i) (L.fD i) ∧ FnScope fi.N fi.ps scope ∧
    mSs P { N := fi.N, nm := scope.names, raw := scope.names } fi.body body = true
theorem loc_start {K : PySem.W.Frag} {φ : Nat → Addr} {n : Nat} {H : Hp} {as : List LV} {vs : List V} {N : List Str} (r : VRs K φ n H as vs) : Loc K φ n H (as.map some ++ List.replicate (N.length - as.length) none) (L2.start N vs) := by
  unfold L2.start
  rw [r.length]
  exact Loc.start _ r
/-- a def keeps what the evaluator says -/
theorem fn_run {prog : Program} {wd : World} {K : PySem.W.Frag} {mg : Str → Option Value} {base : Heap} {k : Nat} {i : Nat} {fi : FnI} (w : Wh P C L F prog wd K mg base k) (fd : FdK K L P i fi) :
    FnOk prog wd K mg base (CX prog wd) (k + 2) (L.fA i) (L.fD i) fi.ps (spF C K fi.ps.length (evFn P F fi)) := by
  obtain ⟨x, qual, params, body, scope, dvs, kws, FD, S, m⟩ := fd.ex
  refine FD.ok S (fun vs H Q E ⟨φ, h, as, _, r, e, _⟩ => by rw [← r.length]; exact e) fun cdv A outer s H vs Q E hr sp => ?_
  obtain ⟨φ, h, as, Sm, r, el, R⟩ := sp
  have hst : ∀ y, Sc.st { N := fi.N, nm := scope.names, raw := scope.names } y = true → L2.Loc scope y := fun y hy => by
    unfold Sc.st at hy
    dsimp only at hy
    split at hy
    · rename_i q; exact .inl q
    · rename_i q; exact .inr q
    · cases hy
  have ct : Ct (cxOf (CX prog wd) prog wd K mg base fi.N qual scope (L.fA i) cdv A outer s H E) (fun cls d _ H => E cls d H) { N := fi.N, nm := scope.names, raw := scope.names } k :=
    ⟨rfl, S.nd, rfl, S.kind, fun y hy => ⟨hst y hy, .inl rfl⟩, rfl, hr, takes_of rfl rfl rfl rfl⟩
  refine ⟨_, sSs fi.body _ body m _ _ k w ⟨ct, passes_of rfl⟩, ?_⟩
  unfold evFn at R
  rw [if_pos el] at R
  refine ⟨φ, _, h, Sm, loc_start r, ?_⟩
  revert R
  cases evSs P F fi.body (as.map some ++ List.replicate (fi.N.length - as.length) none) h with
  | nx ls h1 => exact fun R φ' H' σ' st _ => R φ' H' _ st vr_non
  | rt v h1 => exact fun R φ' H' v' st r => R φ' H' v' st r
  | ct ls h1 => exact fun R => R.elim
  | exc c p ls h1 => exact fun R φ' H' d σ' st r _ => R φ' H' d st r
  | bad => exact fun R => R
/-- all defs, n calls deep -/
theorem all_run {prog : Program} {wd : World} {K : PySem.W.Frag} {mg : Str → Option Value} {base : Heap} (gx : Gx P C L K) (gm : MgK P C L K mg) (isi : IsiAll C K P.cls.length) (fd : ∀ i fi, P.fns[i]? = some fi → FdK K L P i fi) :
    ∀ n, FnsOk P C L prog wd K mg base (2 * n) (run P n)
  | 0, i, fi, e => by
    obtain ⟨x, qual, params, body, scope, dvs, kws, FD, S, m⟩ := (fd i fi e).ex
    have F0 : FnOk prog wd K mg base (CX prog wd) 2 (L.fA i) (L.fD i) fi.ps (spF C K fi.ps.length fun _ _ => .bad) := FD.ok (k := 1) S (fun vs H Q E ⟨φ, h, as, _, r, e, R⟩ => R.elim) fun cdv A outer s H vs Q E hr ⟨φ, h, as, _, r, e, R⟩ => R.elim
    exact ⟨fun vs H Q E ⟨φ, h, as, _, r, e, R⟩ => R.elim, fun A outer s H args us vs Q E _ _ _ _ ⟨φ, h, as, _, r, e, R⟩ => R.elim⟩
  | n + 1, i, fi, e => by
    have w : Wh P C L (run P n) prog wd K mg base (2 * n) := ⟨gx, gm, all_run gx gm isi fd n, isi⟩
    have := fn_run w (fd i fi e)
    have q : run P (n + 1) i = evFn P (run P n) fi := by
      funext as h
      show (match P.fns[i]? with
        | some fi => evFn P (run P n) fi as h
        | none => .bad) = _
      rw [e]
    rw [q]
    exact this
end
end LD
end
section
set_option Elab.async false
set_option linter.all false
set_option maxRecDepth 100000
set_option autoImplicit false
/-! LDX: the link, checked by a Bool over a part of the heap -/
namespace LD
open PySem L2

/-- a constant of the module -/
def vrS (K : PySem.W.Frag) : LV → Value → Bool
  | .non, u => (match u with
    | .none => true
    | _ => false)
  | .bl b, u => (match u with
    | .bool c => b == c
    | _ => false)
  | .int i, u => (match u with
    | .int j _ => decide (i = j)
    | _ => false)
  | .str x, u => (match u with
    | .str y _ => decide (y = sOf x)
    | _ => false)
  | _, _ => false
theorem vrS_ok {K : PySem.W.Frag} {a : LV} {u : Value} (h : vrS K a u = true) : ∃ v, RelV v u ∧ ∀ φ n H, VR K φ n H a v := by
  unfold vrS at h
  split at h
  · split at h
    · exact ⟨.non, rfl, fun _ _ _ => vr_non⟩
    · cases h
  · split at h
    · rename_i b _ c
      have : b = c := by simpa using h
      subst this
      exact ⟨.bl b, rfl, fun _ _ _ => vr_bl⟩
    · cases h
  · split at h
    · rename_i i _ j t
      cases of_decide_eq_true h
      exact ⟨.int i, ⟨t, rfl⟩, fun _ _ _ => vr_int⟩
    · cases h
  · split at h
    · rename_i x _ y t
      cases of_decide_eq_true h
      exact ⟨.str (sOf x), ⟨t, rfl⟩, fun _ _ _ => vr_str⟩
    · cases h
  · cases h
def vrAll (f : LV → Value → Bool) : List LV → List Value → Bool
  | [], [] => true
  | a :: as, u :: us => f a u && vrAll f as us
  | _, _ => false
theorem vrAll_ok {K : PySem.W.Frag} {f : LV → Value → Bool} (hf : ∀ a u, f a u = true → ∃ v, RelV v u ∧ ∀ φ n H, VR K φ n H a v) : ∀ {as : List LV} {us : List Value}, vrAll f as us = true → ∃ vs, Vals vs us ∧ ∀ φ n H, VRs K φ n H as vs
  | [], [], _ => ⟨[], .nil, fun _ _ _ => VRs.nil⟩
  | a :: as, u :: us, h => by
    unfold vrAll at h
    rw [Bool.and_eq_true] at h
    obtain ⟨v, r1, r2⟩ := hf a u h.1
    obtain ⟨vs, r3, r4⟩ := vrAll_ok hf h.2
    exact ⟨v :: vs, .cons r1 r3, fun φ n H => VRs.cons (r2 φ n H) (r4 φ n H)⟩
  | [], _ :: _, h => by cases h
  | _ :: _, [], h => by cases h
/-- a written tuple, n deep -/
def vrB (K : PySem.W.Frag) : Nat → LV → Value → Bool
  | 0, a, u => vrS K a u
  | n + 1, a, u => (match a with
    | .ktu xs => (match u with
      | .ref p => (match K.lookup p with
        | some ⟨.type c, _, .seq its _, _⟩ => decide (c = "tuple") && decide (its.size ≤ 16777216) && vrAll (vrB K n) xs its.toList
        | _ => false)
      | _ => false)
    | _ => vrS K a u)
theorem vrB_ok {K : PySem.W.Frag} : ∀ (n : Nat) (a : LV) (u : Value), vrB K n a u = true → ∃ v, RelV v u ∧ ∀ φ n H, VR K φ n H a v
  | 0, a, u, h => vrS_ok h
  | n + 1, a, u, h => by
    unfold vrB at h
    split at h
    · rename_i xs
      split at h
      · rename_i p
        split at h
        · rename_i c od its m sl e
          rw [Bool.and_eq_true, Bool.and_eq_true, decide_eq_true_eq, decide_eq_true_eq] at h
          obtain ⟨⟨h1, h2⟩, h3⟩ := h
          subst h1
          obtain ⟨vs, r1, r2⟩ := vrAll_ok (fun a u => vrB_ok n a u) h3
          refine ⟨.ref p, rfl, fun φ k H => ?_⟩
          unfold VR
          exact ⟨p, vs, rfl, ⟨_, its, m, e, rfl, rfl, line_of h2, r1⟩, r2 φ k H⟩
        · cases h
      · cases h
    · exact vrS_ok h

def clOf (P : Prg) (K : PySem.W.Frag) : Cl where
  cA := fun c => match P.cls[c]? with
    | some ci => He.ga K ci.nm
    | none => 0
  cF := fun c => match P.cls[c]? with
    | some ci => ci.fs.map P.fname
    | none => []
  xA := fun e => match P.xnm[e]? with
    | some x => He.ga K x
    | none => 0
def fAof (P : Prg) (K : PySem.W.Frag) (i : Nat) : Addr := match P.fns[i]? with
  | some fi => He.fAd K fi.at_
  | none => 0
/-- its own == -/
def eqB (P : Prg) (K : PySem.W.Frag) (ci : ClI) : Bool := match P.fns[ci.eqf]? with
  | some fi => He.eqO (PySem.W.findIn K (.ref (He.ga K ci.nm)) "__eq__") (some (some (.ref (He.fAd K fi.at_)))) && (PySem.W.isFn K (.ref (He.fAd K fi.at_)) && (He.eqO (PySem.W.findIn K (.ref (He.ga K ci.nm)) "__ne__") (some (some (.builtin "object.__ne__"))) &&
    decide (PySem.W.subIn K (.type "list") (.ref (He.ga K ci.nm)) = some false)))
  | none => true
/-- what the classes' instances must be -/
def clsB (P : Prg) (K : PySem.W.Frag) (ci : ClI) : Bool :=
  (He.Fa.glo ci.nm).ok K && ((He.Fa.cls ci.nm).ok K && ((ci.fs.all fun f => (He.Fa.noat ci.nm (P.fname f)).ok K) && ((ci.ms.all fun mf => (He.Fa.meth ci.nm (P.mname mf.1)).ok K && (decide ((P.fns[mf.2]?.map fun fi => fi.at_) = some (ci.nm, some (P.mname mf.1))) && decide (P.mname mf.1 ∉ ci.fs.map P.fname))) &&
    ((He.Fa.mkr ci.nm).ok K && (decide ((P.fns[ci.ini]?.map fun fi => fi.at_) = some (ci.nm, some ("__init__" : Str))) && (decide ((ci.fs.map P.fname).Nodup) && (decide (ci.fs.length < 1000) &&
    (He.eqO (PySem.W.findIn K (.ref (He.ga K ci.nm)) "__class__") (some (some (.builtin "object.__class__"))) && (He.eqO (PySem.W.specialIn K (.builtin "object.__class__") "__get__") (some (some (.builtin "getset_descriptor.__get__"))) &&
    (decide (PySem.W.takesIn K (.builtin "object.__class__") = some true) && (decide (PySem.W.mroIn K (He.ga K ci.nm) (.type "object") = some true) && eqB P K ci)))))))))))
def tqAll (n : Nat) : List Tq := (List.range 7).map Tq.ty ++ (List.range n).map Tq.cls
def linkB (P : Prg) (K : PySem.W.Frag) : Bool :=
  (bltNames.all fun x => (He.Fa.free x).ok K) && ((P.fns.all fun fi => !fi.top || (He.Fa.glo fi.nm).ok K) && ((P.cls.all fun ci => clsB P K ci) && ((P.glo.all fun y => match PySem.W.nsIn K mainGlobals y.1 with
    | some (some u) => vrB K 4 y.2 u
    | _ => false) && ((P.xnm.all fun x => (He.Fa.exc x).ok K && (He.Fa.glo x).ok K) &&
    ((tqAll P.cls.length).all fun t => (tqAll P.cls.length).all fun q => decide (PySem.W.kitOne K (tqV (clOf P K) t) (tqV (clOf P K) q) = some (isiQ t q)))))))
section
variable {P : Prg} {K : PySem.W.Frag} {L : Lk} {mg : Str → Option Value} {h : Heap}
theorem mem_tq {n : Nat} {t : Tq} (e : okTq n t = true) : t ∈ tqAll n := by
  unfold tqAll
  rw [List.mem_append]
  cases t with
  | ty t => exact .inl (List.mem_map.mpr ⟨t, List.mem_range.mpr (of_decide_eq_true e), rfl⟩)
  | cls c => exact .inr (List.mem_map.mpr ⟨c, List.mem_range.mpr (of_decide_eq_true e), rfl⟩)
theorem clsB_ok {c : Nat} {ci : ClI} (e : P.cls[c]? = some ci) (hL : ∀ i fi, P.fns[i]? = some fi → L.fA i = He.fAd K fi.at_) (b : clsB P K ci = true) (pt : ∀ p ∈ ci.pats, ∀ fi, P.fns[ci.ini]? = some fi → MkOk K (L.fD ci.ini) fi p.1 p.2) :
    ClK P (clOf P K) L K c ci ∧ ClsI K ((clOf P K).cA c) ∧ (He.Fa.glo ci.nm).ok K = true := by
  have eA : (clOf P K).cA c = He.ga K ci.nm := by unfold clOf; simp [e]
  have eF : (clOf P K).cF c = ci.fs.map P.fname := by unfold clOf; simp [e]
  obtain ⟨b0, b⟩ := He.ba b
  obtain ⟨b1, b⟩ := He.ba b
  obtain ⟨b2, b⟩ := He.ba b
  obtain ⟨b3, b⟩ := He.ba b
  obtain ⟨b4, b⟩ := He.ba b
  obtain ⟨b5, b⟩ := He.ba b
  obtain ⟨b6, b⟩ := He.ba b
  obtain ⟨b7, b⟩ := He.ba b
  obtain ⟨b8, b⟩ := He.ba b
  obtain ⟨b9, b⟩ := He.ba b
  obtain ⟨b10, b⟩ := He.ba b
  obtain ⟨b11, b12⟩ := He.ba b
  have hcl := He.cls_ok b1
  refine ⟨⟨?_, eF, ?_, of_decide_eq_true b7, fun f hf => ?_, fun m f hm => ?_, ?_, pt, fun fi ef => ?_⟩, ?_, b0⟩
  · rw [eA]; exact hcl
  · rw [eF]; exact of_decide_eq_true b6
  · rw [eA]; exact He.noat_ok (List.all_eq_true.mp b2 f hf)
  · have hmem : (m, f) ∈ ci.ms := by
      have : ∀ (l : List (Nat × Nat)), l.lookup m = some f → (m, f) ∈ l := by
        intro l
        induction l with
        | nil => intro z; cases z
        | cons q r ih =>
          intro z
          obtain ⟨a, b⟩ := q
          rw [List.lookup_cons] at z
          split at z
          · rename_i hq
            cases z
            rw [beq_iff_eq.mp hq]; exact List.mem_cons_self
          · exact List.mem_cons_of_mem _ (ih z)
      exact this _ hm
    have b3' := List.all_eq_true.mp b3 (m, f) hmem
    obtain ⟨k1, k2⟩ := He.ba b3'
    obtain ⟨k2, k3⟩ := He.ba k2
    have k2 := of_decide_eq_true k2
    obtain ⟨fi, ef, eat⟩ := Option.map_eq_some_iff.mp k2
    have hfa := hL f fi ef
    rw [eat] at hfa
    refine ⟨?_, by rw [eF]; exact of_decide_eq_true k3⟩
    rw [eA, hfa]
    exact He.meth_ok k1
  · obtain ⟨fi, ef, eat⟩ := Option.map_eq_some_iff.mp (of_decide_eq_true b5)
    have hfa := hL ci.ini fi ef
    rw [eat] at hfa
    rw [eA, hfa]
    exact He.mkr_ok b4
  · have hfa := hL ci.eqf fi ef
    unfold eqB at b12
    rw [ef] at b12
    dsimp only at b12
    obtain ⟨k1, k⟩ := He.ba b12
    obtain ⟨k2, k⟩ := He.ba k
    obtain ⟨k3, k4⟩ := He.ba k
    rw [eA, hfa]
    exact ⟨He.eqO_ok k1, k2, He.eqO_ok k3, of_decide_eq_true k4, of_decide_eq_true b11⟩
  · rw [eA]
    exact ⟨hcl, He.eqO_ok b8, He.eqO_ok b9, of_decide_eq_true b10, of_decide_eq_true b11⟩
theorem link_ok (X : K.In h) (G : h.Ns mainGlobals mg) (hL : ∀ i fi, P.fns[i]? = some fi → L.fA i = He.fAd K fi.at_) (b : linkB P K = true) (fk : ∀ i fi, P.fns[i]? = some fi → FnK L K i fi)
    (pt : ∀ (c : Nat) (ci : ClI), P.cls[c]? = some ci → ∀ p ∈ ci.pats, ∀ fi, P.fns[ci.ini]? = some fi → MkOk K (L.fD ci.ini) fi p.1 p.2) : Gx P (clOf P K) L K ∧ MgK P (clOf P K) L K mg ∧ IsiAll (clOf P K) K P.cls.length := by
  obtain ⟨b1, b⟩ := He.ba b
  obtain ⟨b2, b⟩ := He.ba b
  obtain ⟨b3, b⟩ := He.ba b
  obtain ⟨b4, b⟩ := He.ba b
  obtain ⟨b5, b6⟩ := He.ba b
  have hc : ∀ c ci, P.cls[c]? = some ci → ClK P (clOf P K) L K c ci ∧ ClsI K ((clOf P K).cA c) ∧ (He.Fa.glo ci.nm).ok K = true := fun c ci e => clsB_ok e hL (List.all_eq_true.mp b3 ci (List.mem_of_getElem? e)) (pt c ci e)
  refine ⟨⟨fk, fun c ci e => (hc c ci e).1⟩, ⟨fun i fi e ht => ?_, fun c ci e => ?_, fun g y e => ?_, fun x hx => ?_, fun e x ex => ?_⟩, ⟨fun c hlt => ?_, fun t q ht hq => ?_⟩⟩
  · have := List.all_eq_true.mp b2 fi (List.mem_of_getElem? e)
    rw [ht] at this
    have := He.glo_ok X G (x := fi.nm) (by simpa using this)
    rw [this, hL i fi e]
    have e2 : fi.at_ = (fi.nm, none) := by
      unfold FnI.nm
      unfold FnI.top at ht
      cases q : fi.at_ with
      | mk a b =>
        rw [q] at ht
        cases b with
        | none => rfl
        | some _ => cases ht
    rw [e2]; rfl
  · have := He.glo_ok X G (hc c ci e).2.2
    rw [this]
    unfold clOf; simp [e]
  · have := List.all_eq_true.mp b4 y (List.mem_of_getElem? e)
    split at this
    · rename_i u eu
      obtain ⟨v, r1, r2⟩ := vrB_ok 4 _ _ this
      exact ⟨u, v, PySem.W.mg_of X G eu, r1, r2⟩
    · cases this
  · exact He.free_ok X G (List.all_eq_true.mp b1 x hx)
  · have := List.all_eq_true.mp b5 x (List.mem_of_getElem? ex)
    obtain ⟨k1, k2⟩ := He.ba this
    have eA : (clOf P K).xA e = He.ga K x := by unfold clOf; simp [ex]
    rw [eA]
    obtain ⟨q1, q2, q3, q4⟩ := He.exc_ok k1
    exact ⟨He.glo_ok X G k2, ⟨q1, q2, q3, q4⟩⟩
  · exact (hc c P.cls[c] (by simp [hlt])).2.1
  · have := List.all_eq_true.mp b6 t (mem_tq ht)
    have z := List.all_eq_true.mp this q (mem_tq hq)
    show PySem.W.kitOne K (tqV (clOf P K) t) (tqV (clOf P K) q) = some (isiQ t q)
    exact of_decide_eq_true z
end
end LD
end
section
set_option Elab.async false
set_option linter.all false
set_option maxRecDepth 100000
set_option autoImplicit false
/-! LFA: the head by one Bool -/
namespace LD
open PySem L2

/-- a keyword default that is an object -/
def kwAt (f : Str × Option Str) (x : Str) (K : PySem.W.Frag) : Addr := match K.lookup (He.fAd K f) with
  | some ⟨_, _, .func fd, _⟩ => (match fd.kwdefaults with
    | .ref D => (match PySem.W.nsIn K D x with
      | some (some (.ref a)) => a
      | _ => 0)
    | _ => 0)
  | _ => 0
def obsX (b : PySem.W.Frag → Bool) (fn : List He.DefD) (K : PySem.W.Frag) : He.AlD := (b K && fn.all fun d => d.ok K, fn.map fun d => He.fnW K d.at_)
def SaysX (b : PySem.W.Frag → Bool) (fn : List He.DefD) (K : PySem.W.Frag) : Prop := obsX b fn K = He.valD fn
def obsXG (n : Nat) (b : PySem.W.Frag → Bool) (fn : List He.DefD) (g : Addr → Option Obj) : He.AlD := obsX b fn (He.frG g (He.asD g n))
def hookX (n : Nat) (b : PySem.W.Frag → Bool) (fn : List He.DefD) : PySem.W.Hook where
  α := He.AlD
  obs := fun s => obsXG n b fn s.heap.get?
  val := fun _ => He.valD fn
  says := fun _ h => ∃ K : PySem.W.Frag, K.In h ∧ SaysX b fn K
  of := fun _ _ e => ⟨_, He.frG_in, e⟩
  keeps := fun _ _ _ ⟨K, hK, c⟩ k => ⟨K, PySem.W.Frag.In.keeps hK k, c⟩
theorem obsXG_eq {n : Nat} {b : PySem.W.Frag → Bool} {fn : List He.DefD} {g : Addr → Option Obj} {s : Shared} (h : ∀ a, g a = s.heap.get? a) : obsXG n b fn g = (hookX n b fn).obs s := by
  have e : g = s.heap.get? := funext h
  rw [e] <;> rfl
section
variable {b : PySem.W.Frag → Bool} {fn : List He.DefD} {K : PySem.W.Frag}
theorem SaysX.bool (c : SaysX b fn K) : b K = true := (He.ba (show (b K && fn.all fun d => d.ok K) = true from congrArg (fun z : He.AlD => z.1) c)).1
theorem SaysX.def_ (c : SaysX b fn K) (i : Nat) {d : He.DefD} (h : fn[i]? = some d) : ∃ fd, FunD K d.name d.qual d.params d.body d.scope (d.dvs K) (d.kws K) (He.fAd K d.at_) fd := by
  have c2 := (He.ba (show (b K && fn.all fun d => d.ok K) = true from congrArg (fun z : He.AlD => z.1) c)).2
  have e : fn.map (fun d => He.fnW K d.at_) = fn.map He.DefD.val := congrArg (fun z : He.AlD => z.2) c
  have e2 : (fn.map fun d => He.fnW K d.at_)[i]? = (fn.map He.DefD.val)[i]? := by rw [e]
  rw [List.getElem?_map, List.getElem?_map, h] at e2
  exact He.DefD.funD (Option.some.inj e2) (List.all_eq_true.mp c2 d (List.mem_of_getElem? h))
end

/-- a def's scope, checked -/
def scB (N ps : List Str) (sc : Scope) : Bool := decide (sc.kind = .function) && (!sc.isCoroutine && (!sc.isGenerator && (decide N.Nodup && (decide (N.take ps.length = ps) && ((ps.all fun x => match sc.names.lookup x with
  | some .local => true
  | some .cell => true
  | _ => false) && sc.names.all fun y => match y.2 with
  | .free => false
  | _ => true)))))
theorem scB_ok {N ps : List Str} {sc : Scope} (h : scB N ps sc = true) : FnScope N ps sc := by
  obtain ⟨h1, h⟩ := He.ba h
  obtain ⟨h2, h⟩ := He.ba h
  obtain ⟨h3, h⟩ := He.ba h
  obtain ⟨h4, h⟩ := He.ba h
  obtain ⟨h5, h⟩ := He.ba h
  obtain ⟨h6, h7⟩ := He.ba h
  refine ⟨of_decide_eq_true h1, by simpa using h2, by simpa using h3, of_decide_eq_true h4, of_decide_eq_true h5, fun x hx => ?_, fun y hy => ?_⟩
  · have := List.all_eq_true.mp h6 x hx
    split at this
    · rename_i e; exact .inl e
    · rename_i e; exact .inr e
    · cases this
  · have := List.all_eq_true.mp h7 y hy
    intro z
    rw [z] at this
    cases this
/-- a table entry is the row's def -/
structure Ent (P : Prg) (us : List He.DefD) (fi : FnI) (d : He.DefD) : Prop where
  ix : ∃ j : Nat, us[j]? = some d
  at_ : fi.at_ = d.at_
  sc : scB fi.N fi.ps d.scope = true
  m : mSs P { N := fi.N, nm := d.scope.names, raw := d.scope.names } fi.body d.body = true
  bd : ∀ (K : PySem.W.Frag) (fd : FuncData), FunD K d.name d.qual d.params d.body d.scope (d.dvs K) (d.kws K) (He.fAd K d.at_) fd → fi.kwo = false → BindOk K fd fi.ps fi.dv
/-- two tables, entry by entry -/
inductive Ents (P : Prg) (us : List He.DefD) : List FnI → List He.DefD → Prop
  | nil : Ents P us [] []
  | cons {fi : FnI} {d : He.DefD} {fs : List FnI} {ds : List He.DefD} : Ent P us fi d → Ents P us fs ds → Ents P us (fi :: fs) (d :: ds)
theorem Ents.at_ {P : Prg} {us : List He.DefD} : ∀ {fs : List FnI} {ds : List He.DefD}, Ents P us fs ds → ∀ {i : Nat} {fi : FnI}, fs[i]? = some fi → ∃ d, ds[i]? = some d ∧ Ent P us fi d
  | _, _, .nil, i, fi, e => by simp at e
  | _, _, .cons h r, 0, fi, e => by simp at e; subst e; exact ⟨_, rfl, h⟩
  | _, _, .cons h r, i + 1, fi, e => by
    have e' : _ := e
    rw [List.getElem?_cons_succ] at e'
    obtain ⟨d, e2, q⟩ := r.at_ e'
    exact ⟨d, by rw [List.getElem?_cons_succ]; exact e2, q⟩

/-- defaults none -/
theorem bindOk0 {K : PySem.W.Frag} {fd : FuncData} {ps : List Str} (h : Binds K fd ps []) : BindOk K fd ps [] := fun j hj => ⟨[], [], h, .nil, fun _ _ _ => by simpa using VRs.nil⟩
/-- one default -/
theorem bindOk1 {K : PySem.W.Frag} {fd : FuncData} {ps : List Str} {v : LV} {x : V} (h0 : ∃ ds, Vals [x] ds ∧ Binds K fd ps ds) (h1 : ∃ ds, Vals ([] : List V) ds ∧ Binds K fd ps ds) (r : ∀ φ n H, VR K φ n H v x) : BindOk K fd ps [v] := fun j hj => by
  match j with
  | 0 =>
    obtain ⟨ds, q, b⟩ := h0
    exact ⟨ds, [x], b, q, fun φ n H => VRs.cons (r φ n H) VRs.nil⟩
  | 1 =>
    obtain ⟨ds, q, b⟩ := h1
    cases q
    exact ⟨[], [], b, .nil, fun _ _ _ => VRs.nil⟩
  | j + 2 => simp at hj

/-- the head of a law: the table's entries, the classes' ways, what the run says of the law -/
theorem law_says {P : Prg} {prog : Program} {w : World} {K : PySem.W.Frag} {mg : Str → Option Value} {h : Heap} {b : PySem.W.Frag → Bool} {us ds : List He.DefD} (X : K.In h) (G : h.Ns mainGlobals mg) (c : SaysX (fun K => linkB P K && b K) us K) (ents : Ents P us P.fns ds)
    (pt : ∀ (L : Lk), (∀ i fi, P.fns[i]? = some fi → L.fA i = He.fAd K fi.at_) → (∀ (i : Nat) (d : He.DefD), ds[i]? = some d → FunD K d.name d.qual d.params d.body d.scope (d.dvs K) (d.kws K) (L.fA i) (L.fD i)) → b K = true → ∀ (c : Nat) (ci : ClI), P.cls[c]? = some ci → ∀ p ∈ ci.pats, ∀ fi, P.fns[ci.ini]? = some fi → MkOk K (L.fD ci.ini) fi p.1 p.2)
    (n l : Nat) {fi : FnI} {d : He.DefD} (el : P.fns[l]? = some fi) (ed : ds[l]? = some d) :
    ∃ fd : FuncData, FunD K d.name d.qual d.params d.body d.scope (d.dvs K) (d.kws K) (He.fAd K d.at_) fd ∧ ∀ base : Heap, FnOk prog w K mg base (CX prog w) (2 * n) (He.fAd K d.at_) fd fi.ps (spF (clOf P K) K fi.ps.length (run P n l)) := by
  classical
  have hb := c.bool
  obtain ⟨hb1, hb2⟩ := He.ba hb
  have hu : ∀ (i : Nat) (d : He.DefD), ds[i]? = some d → ∃ fd, FunD K d.name d.qual d.params d.body d.scope (d.dvs K) (d.kws K) (He.fAd K d.at_) fd := by
    have : ∀ {fs : List FnI} {es : List He.DefD}, Ents P us fs es → ∀ (i : Nat) (d : He.DefD), es[i]? = some d → ∃ j : Nat, us[j]? = some d := by
      intro fs es q
      induction q with
      | nil => intro i d e; simp at e
      | cons h _ ih =>
        intro i d e
        cases i with
        | zero => simp at e; subst e; exact h.ix
        | succ i => exact ih i d (by simpa using e)
    intro i d e
    obtain ⟨j, ej⟩ := this ents i d e
    exact c.def_ j ej
  let fD : Nat → FuncData := fun i => if h : ∃ d, ds[i]? = some d then Classical.choose (hu i _ (Classical.choose_spec h)) else Classical.choose (hu l _ ed)
  let L : Lk := ⟨fAof P K, fD⟩
  have hL : ∀ i fi, P.fns[i]? = some fi → L.fA i = He.fAd K fi.at_ := fun i fi e => by
    show fAof P K i = _
    unfold fAof; rw [e]
  have hfd : ∀ (i : Nat) (d : He.DefD), ds[i]? = some d → FunD K d.name d.qual d.params d.body d.scope (d.dvs K) (d.kws K) (He.fAd K d.at_) (fD i) := fun i d e => by
    have hx : ∃ d, ds[i]? = some d := ⟨d, e⟩
    have e1 : fD i = Classical.choose (hu i _ (Classical.choose_spec hx)) := by
      show (if h : ∃ d, ds[i]? = some d then Classical.choose (hu i _ (Classical.choose_spec h)) else Classical.choose (hu l _ ed)) = _
      rw [dif_pos hx]
    have q := Classical.choose_spec (hu i _ (Classical.choose_spec hx))
    rw [← e1] at q
    have e2 : Classical.choose hx = d := Option.some.inj ((Classical.choose_spec hx).symm.trans e)
    rw [e2] at q
    exact q
  have hfi : ∀ i fi, P.fns[i]? = some fi → ∃ d, ds[i]? = some d ∧ Ent P us fi d ∧ FunD K d.name d.qual d.params d.body d.scope (d.dvs K) (d.kws K) (L.fA i) (L.fD i) := fun i fi e => by
    obtain ⟨d, e2, en⟩ := ents.at_ e
    refine ⟨d, e2, en, ?_⟩
    rw [hL i fi e, en.at_]
    exact hfd i d e2
  have hds : ∀ (i : Nat) (d : He.DefD), ds[i]? = some d → ∃ fi, P.fns[i]? = some fi := by
    have : ∀ {fs : List FnI} {es : List He.DefD}, Ents P us fs es → ∀ (i : Nat) (d : He.DefD), es[i]? = some d → ∃ fi, fs[i]? = some fi := by
      intro fs es q
      induction q with
      | nil => intro i d e; simp at e
      | cons _ _ ih =>
        intro i d e
        cases i with
        | zero => exact ⟨_, rfl⟩
        | succ i => obtain ⟨fi, e2⟩ := ih i d (by simpa using e); exact ⟨fi, by simpa using e2⟩
    exact this ents
  have fk : ∀ i fi, P.fns[i]? = some fi → FnK L K i fi := fun i fi e => by
    obtain ⟨d, e2, en, F⟩ := hfi i fi e
    refine ⟨F.kp, fun hk => ?_⟩
    have F' := F
    rw [hL i fi e, en.at_] at F'
    exact en.bd K (L.fD i) F' hk
  obtain ⟨gx, gm, isi⟩ := link_ok (L := L) X G hL hb1 fk (pt L hL (fun i d e => by obtain ⟨fi, e2⟩ := hds i d e; obtain ⟨d', e3, en, F⟩ := hfi i fi e2; rw [e] at e3; cases e3; exact F) hb2)
  have all : ∀ base : Heap, FnsOk P (clOf P K) L prog w K mg base (2 * n) (run P n) := fun base => all_run gx gm isi (fun i fi e => by
    obtain ⟨d, e2, en, F⟩ := hfi i fi e
    exact ⟨_, _, _, _, _, _, _, F, scB_ok en.sc, en.m⟩) n
  obtain ⟨d', e3, en, F⟩ := hfi l fi el
  rw [ed] at e3; cases e3
  refine ⟨L.fD l, ?_, fun base => ?_⟩
  · rw [hL l fi el, en.at_] at F
    exact F
  · have := all base l fi el
    rw [hL l fi el, en.at_] at this
    exact this
/-- what is promised of the law: the evaluator answers True -/
theorem law_sp {P : Prg} {K : PySem.W.Frag} {C : Cl} {n l m : Nat} (hf : ∀ ns : List Int, ns.length ≤ m → ∃ h', run P n l [.frl (ns.map LV.int)] [] = .ok (.bl true) h') (H : Hp) (a : Addr) (ns : List Int) (hl : ns.length ≤ m) (hO : Only H) (hS : SqL K H a (ns.map V.int)) :
    spF C K 1 (run P n l) [.ref a] H (fun v _ => v = .bl true) fun _ _ _ => False := by
  obtain ⟨h', e⟩ := hf ns hl
  refine ⟨fun _ => 0, [], [.frl (ns.map LV.int)], ⟨fun i j hi => by simp at hi, fun i o e => by simp at e⟩, VRs.cons ?_ VRs.nil, rfl, ?_⟩
  · have hv : VRs K (fun _ => 0) ([] : LH).length H (ns.map LV.int) (ns.map V.int) := by
      clear hS e hl
      induction ns with
      | nil => exact VRs.nil
      | cons i r ih => exact VRs.cons vr_int ih
    unfold VR
    refine ⟨a, ns.map V.int, rfl, ?_, hv⟩
    rcases hS with (q | ⟨o, q⟩) | q
    · rcases hO a with z | ⟨o, xs, z⟩
      · rw [q] at z; cases z
      · rw [q] at z; cases z
    · exact .inl ⟨o, q⟩
    · exact .inr q
  · rw [e]
    intro φ' H' b st r
    unfold VR at r
    exact r
/-- the end of a law whose defs may raise -/
theorem walk_ofX {l : PySem.W.OpenLaw} {n k : Nat} {q : Program} {loose : List Str} {XP : (Str → Option Value) → Heap → Prop} {YP : World → Heap → Prop} {d : DefRec} {x : Str}
    (hn : l.most = some n) (hn2 : n ≤ sizeLine) (hdf : d.params.defaults = []) (hr : Room k callerA)
    (F : ∀ (w : World) (mg : Str → Option Value) (fa : Addr) (h : Heap), YP w h → h.Ns mainGlobals mg → mg d.name = some (.ref fa) →
      ∃ (K : PySem.W.Frag) (fd : FuncData) (sp : Sp), K.In h ∧ (∀ (s : Shared) (u : Value), BindsTo s fd ⟨[u], []⟩ [(x, u)]) ∧
        (∀ (H : Hp) (a : Addr) (ns : List Int), ns.length ≤ n → Only H → SqL K H a (ns.map V.int) → sp [.ref a] H (fun v _ => v = .bl true) fun _ _ _ => False) ∧
        ∀ base : Heap, FnOk l.prog w K mg base (CX l.prog w) k fa fd [x] sp) :
    PySem.W.WalkO q loose XP YP l.row.toRowW d [] (fun f vs => PySem.call f vs) := by
  refine Att.attach_call hn hdf fun w s₀ s₁ mg mb fa o pm cd doc a vs ns G Y ho hd hcd hmg hobj hints hlen hg => ?_
  obtain ⟨K, fd, sp, KX, hb, hsp, hF⟩ := F w mg fa _ Y G.T.g hmg
  refine law_call KX G.T.g G.T.b G.T.builtins G.T.nolimit hg hobj hints (Nat.le_trans hlen hn2) hr (fun base _ _ => hF base) hb (fun H hO hS => hsp H a ns hlen hO hS) fun H e s' c => ?_
  obtain ⟨_, _, _, _, _, _, _, _, _, _, _, _, z⟩ := c
  exact z
end LD
end
section
set_option Elab.async false
set_option linter.all false
set_option maxRecDepth 100000
/-! PB: the own texts of the program's defs (printed by gen2.py) -/
namespace PB
open LD
/-- is_name: 0 thing, 1 sign -/
def b0 : Sms := (.cons (.iff (.bop false (.cons (.nt (.isi (.var 0) [.ty 0] false)) (.cons (.nt (.chn (.con (.int 1)) (.bif .len (.cons (.var 0) .nil)) (.glo 1))) .nil))) (.cons (.ret (.con (.bl false))) .nil) .nil) (.cons (.ret (.cmp .all (.op2 .isin (.var 1) (.glo 0)) [1] (.nm 1) (.exp (.var 0)) .none)) .nil))
/-- is_number: 0 thing, 1 least, 2 most -/
def b1 : Sms := (.cons (.iff (.bop false (.cons (.nt (.isi (.var 0) [.ty 1] false)) (.cons (.isi (.var 0) [.ty 2] false) (.cons (.op2 .lt (.var 0) (.var 1)) .nil)))) (.cons (.ret (.con (.bl false))) .nil) .nil) (.cons (.ret (.bop false (.cons (.isN false (.var 2)) (.cons (.op2 .le (.var 0) (.var 2)) .nil)))) .nil))
/-- are_names: 0 thing, 1 least, 2 most, 3 one -/
def b2 : Sms := (.cons (.iff (.bop false (.cons (.nt (.isi (.var 0) [.ty 3, .ty 4] true)) (.cons (.nt (.chn (.var 1) (.bif .len (.cons (.var 0) .nil)) (.var 2))) .nil))) (.cons (.ret (.con (.bl false))) .nil) .nil) (.cons (.ret (.bop true (.cons (.cmp .all (.cal 0 (.cons (.var 3) .nil)) [3] (.nm 3) (.exp (.var 0)) .none) (.cons (.op2 .eq (.lsc (.var 3) [3] (.nm 3) (.exp (.var 0)) .none) (.bif .len (.cons (.var 0) .nil))) .nil)))) .nil))
/-- is_one_of: 0 thing, 1 names -/
def b3 : Sms := (.cons (.ret (.bop true (.cons (.isi (.var 0) [.ty 0] false) (.cons (.op2 .isin (.var 0) (.var 1)) .nil)))) .nil)
/-- part_of: 0 number, 1 rate, 2 whole -/
def b4 : Sms := (.cons (.ret (.op2 .fdiv (.op2 .mul (.var 0) (.var 1)) (.var 2))) .nil)
/-- is_levy: 0 thing, 1 lands, 2 kinds -/
def b5 : Sms := (.cons (.iff (.bop false (.cons (.nt (.isi (.var 0) [.ty 4] false)) (.cons (.op2 .ne (.bif .len (.cons (.var 0) .nil)) (.con (.int 4))) (.cons (.nt (.cal 3 (.cons (.op2 .idx (.var 0) (.con (.int 0))) (.cons (.var 1) .nil)))) .nil)))) (.cons (.ret (.con (.bl false))) .nil) .nil) (.cons (.ret (.bop true (.cons (.cal 3 (.cons (.op2 .idx (.var 0) (.con (.int 1))) (.cons (.var 2) .nil))) (.cons (.cal 1 (.cons (.op2 .idx (.var 0) (.con (.int 2))) (.cons (.con (.int 0)) .nil))) (.cons (.cal 1 (.cons (.op2 .idx (.var 0) (.con (.int 3))) (.cons (.con (.int 0)) (.cons (.glo 3) .nil)))) .nil))))) .nil))
/-- is_said: 0 thing -/
def b6 : Sms := (.cons (.ret (.bop true (.cons (.isi (.var 0) [.ty 4] false) (.cons (.op2 .eq (.bif .len (.cons (.var 0) .nil)) (.con (.int 2))) (.cons (.cal 3 (.cons (.op2 .idx (.var 0) (.con (.int 0))) (.cons (.glo 12) .nil))) (.cons (.cal 0 (.cons (.op2 .idx (.var 0) (.con (.int 1))) .nil)) .nil)))))) .nil)
/-- is_rule: 0 thing, 1 one -/
def b7 : Sms := (.cons (.iff (.bop false (.cons (.nt (.isi (.var 0) [.ty 4] false)) (.cons (.op2 .ne (.bif .len (.cons (.var 0) .nil)) (.con (.int 5))) (.cons (.nt (.cal 0 (.cons (.op2 .idx (.var 0) (.con (.int 0))) .nil))) .nil)))) (.cons (.ret (.con (.bl false))) .nil) .nil) (.cons (.iff (.bop false (.cons (.nt (.isi (.op2 .idx (.var 0) (.con (.int 1))) [.ty 4] false)) (.cons (.op2 .gt (.bif .len (.cons (.op2 .idx (.var 0) (.con (.int 1))) .nil)) (.glo 10)) (.cons (.nt (.cmp .all (.cal 6 (.cons (.var 1) .nil)) [1] (.nm 1) (.exp (.op2 .idx (.var 0) (.con (.int 1)))) .none)) .nil)))) (.cons (.ret (.con (.bl false))) .nil) .nil) (.cons (.ret (.bop true (.cons (.cal 1 (.cons (.op2 .idx (.var 0) (.con (.int 2))) (.cons (.con (.int 0)) (.cons (.glo 11) .nil)))) (.cons (.cal 1 (.cons (.op2 .idx (.var 0) (.con (.int 3))) (.cons (.con (.int 0)) (.cons (.glo 5) .nil)))) (.cons (.isi (.op2 .idx (.var 0) (.con (.int 4))) [.ty 2] false) .nil))))) .nil)))
/-- are_rules: 0 thing, 1 one -/
def b8 : Sms := (.cons (.ret (.bop true (.cons (.isi (.var 0) [.ty 3, .ty 4] true) (.cons (.op2 .le (.bif .len (.cons (.var 0) .nil)) (.glo 9)) (.cons (.cmp .all (.cal 7 (.cons (.var 1) .nil)) [1] (.nm 1) (.exp (.var 0)) .none) .nil))))) .nil)
/-- verdict: 0 word, 1 said, 2 days, 3 rules, 4 name, 5 pairs, 6 limit, 7 part, 8 back, 9 pair -/
def l9_0 : Sms := (.cons (.iff (.bop true (.cons (.op2 .eq (.var 4) (.var 0)) (.cons (.op2 .le (.var 2) (.var 6)) (.cons (.cmp .all (.op2 .isin (.var 9) (.var 1)) [9] (.nm 9) (.exp (.var 5)) .none) .nil)))) (.cons (.ret (.tup (.cons (.var 7) (.cons (.var 8) .nil)))) .nil) .nil) .nil)
def b9 : Sms := (.cons (.for_ (.tp (.cons (.nm 4) (.cons (.nm 5) (.cons (.nm 6) (.cons (.nm 7) (.cons (.nm 8) .nil)))))) (.exp (.var 3)) l9_0) (.cons (.ret (.tup (.cons (.con (.int 0)) (.cons (.con (.bl false)) .nil)))) .nil))
/-- are_wares: 0 thing, 1 name, 2 kind -/
def b10 : Sms := (.cons (.iff (.bop false (.cons (.nt (.isi (.var 0) [.ty 5] false)) (.cons (.nt (.chn (.con (.int 1)) (.bif .len (.cons (.var 0) .nil)) (.glo 14))) .nil))) (.cons (.ret (.con (.bl false))) .nil) .nil) (.cons (.ret (.cmp .all (.bop true (.cons (.cal 0 (.cons (.var 1) .nil)) (.cons (.cal 0 (.cons (.var 2) .nil)) .nil))) [1, 2] (.tp (.cons (.nm 1) (.cons (.nm 2) .nil))) (.its (.var 0)) .none)) .nil))
/-- are_parties: 0 thing, 1 lands, 2 name, 3 land -/
def b11 : Sms := (.cons (.iff (.bop false (.cons (.nt (.isi (.var 0) [.ty 5] false)) (.cons (.nt (.chn (.con (.int 1)) (.bif .len (.cons (.var 0) .nil)) (.glo 15))) .nil))) (.cons (.ret (.con (.bl false))) .nil) .nil) (.cons (.ret (.cmp .all (.bop true (.cons (.cal 0 (.cons (.var 2) .nil)) (.cons (.op2 .ne (.var 2) (.glo 20)) (.cons (.cal 3 (.cons (.var 3) (.cons (.var 1) .nil))) .nil)))) [2, 3] (.tp (.cons (.nm 2) (.cons (.nm 3) .nil))) (.its (.var 0)) .none)) .nil))
/-- World.__init__: 0 self, 1 lands, 2 wares, 3 parties, 4 carriers, 5 levies, 6 rules, 7 fee, 8 send, 9 complain, 10 one -/
def b12 : Sms := (.cons (.iff (.bop false (.cons (.nt (.cal 2 (.cons (.var 1) (.cons (.con (.int 1)) (.cons (.glo 13) .nil))))) (.cons (.nt (.cal 10 (.cons (.var 2) .nil))) (.cons (.nt (.cal 11 (.cons (.var 3) (.cons (.var 1) .nil)))) .nil)))) (.cons (.rse 1) .nil) .nil) (.cons (.iff (.bop false (.cons (.nt (.cal 2 (.cons (.var 4) (.cons (.con (.int 0)) (.cons (.glo 16) .nil))))) (.cons (.nt (.cmp .all (.op2 .isin (.var 10) (.var 3)) [10] (.nm 10) (.exp (.var 4)) .none)) .nil))) (.cons (.rse 1) .nil) .nil) (.cons (.iff (.bop false (.cons (.nt (.isi (.var 5) [.ty 3, .ty 4] true)) (.cons (.op2 .gt (.bif .len (.cons (.var 5) .nil)) (.glo 17)) (.cons (.nt (.cal 8 (.cons (.var 6) .nil))) .nil)))) (.cons (.rse 1) .nil) .nil) (.cons (.iff (.nt (.cmp .all (.cal 5 (.cons (.var 10) (.cons (.var 1) (.cons (.lvl (.var 2)) .nil)))) [10] (.nm 10) (.exp (.var 5)) .none)) (.cons (.rse 1) .nil) .nil) (.cons (.iff (.bop false (.cons (.nt (.cal 1 (.cons (.var 7) (.cons (.con (.int 0)) (.cons (.glo 18) .nil))))) (.cons (.nt (.cmp .all (.cal 1 (.cons (.var 10) (.cons (.con (.int 1)) (.cons (.glo 19) .nil)))) [10] (.nm 10) (.exp (.tup (.cons (.var 8) (.cons (.var 9) .nil)))) .none)) .nil))) (.cons (.rse 1) .nil) .nil) (.cons (.fst (.var 0) 0 (.bif .list (.cons (.var 1) .nil))) (.cons (.fst (.var 0) 1 (.bif .dict (.cons (.var 2) .nil))) (.cons (.fst (.var 0) 2 (.bif .dict (.cons (.var 3) .nil))) (.cons (.fst (.var 0) 3 (.bif .list (.cons (.var 4) .nil))) (.cons (.fst (.var 0) 4 (.bif .list (.cons (.var 5) .nil))) (.cons (.fst (.var 0) 5 (.bif .list (.cons (.var 6) .nil))) (.cons (.fst (.var 0) 6 (.var 7)) (.cons (.fst (.var 0) 7 (.tup (.cons (.var 8) (.cons (.var 9) .nil)))) .nil)))))))))))))
/-- World.__eq__: 0 self, 1 other, 2 mine -/
def b13 : Sms := (.cons (.iff (.nt (.isi (.var 1) [.cls 0] false)) (.cons (.ret (.con (.bl false))) .nil) .nil) (.cons (.set (.nm 2) (.tup (.cons (.fld (.var 0) 0) (.cons (.fld (.var 0) 1) (.cons (.fld (.var 0) 2) (.cons (.fld (.var 0) 3) (.cons (.fld (.var 0) 4) (.cons (.fld (.var 0) 5) (.cons (.fld (.var 0) 6) (.cons (.fld (.var 0) 7) .nil)))))))))) (.cons (.ret (.op2 .eqd (.var 2) (.tup (.cons (.fld (.var 1) 0) (.cons (.fld (.var 1) 1) (.cons (.fld (.var 1) 2) (.cons (.fld (.var 1) 3) (.cons (.fld (.var 1) 4) (.cons (.fld (.var 1) 5) (.cons (.fld (.var 1) 6) (.cons (.fld (.var 1) 7) .nil))))))))))) .nil)))
/-- World.rate: 0 self, 1 land, 2 kind, 3 day -/
def b14 : Sms := (.cons (.iff (.bop false (.cons (.nt (.cal 3 (.cons (.var 1) (.cons (.fld (.var 0) 0) .nil)))) (.cons (.nt (.cal 3 (.cons (.var 2) (.cons (.lvl (.fld (.var 0) 1)) .nil)))) .nil))) (.cons (.rse 1) .nil) .nil) (.cons (.iff (.nt (.cal 1 (.cons (.var 3) (.cons (.con (.int 0)) .nil)))) (.cons (.rse 10) .nil) .nil) (.cons (.ret (.met (.var 0) 1 (.cons (.var 1) (.cons (.var 2) (.cons (.var 3) .nil))))) .nil)))
/-- World.rate_at: 0 self, 1 land, 2 kind, 3 day, 4 last, 5 found, 6 place, 7 what, 8 begin, 9 rate -/
def l15_0 : Sms := (.cons (.iff (.bop true (.cons (.op2 .eq (.var 6) (.var 1)) (.cons (.op2 .eq (.var 7) (.var 2)) (.cons (.chn (.var 4) (.var 8) (.var 3)) .nil)))) (.cons (.par [4, 5] (.cons (.var 8) (.cons (.var 9) .nil))) .nil) .nil) .nil)
def b15 : Sms := (.cons (.set (.tp (.cons (.nm 4) (.cons (.nm 5) .nil))) (.tup (.cons (.con (.int 0)) (.cons (.con (.int 0)) .nil)))) (.cons (.for_ (.tp (.cons (.nm 6) (.cons (.nm 7) (.cons (.nm 8) (.cons (.nm 9) .nil))))) (.exp (.fld (.var 0) 4)) l15_0) (.cons (.ret (.var 5)) .nil)))
/-- World.rate_for: 0 self, 1 buyer, 2 ware, 3 day -/
def b16 : Sms := (.cons (.ret (.met (.var 0) 1 (.cons (.op2 .idx (.fld (.var 0) 2) (.var 1)) (.cons (.op2 .idx (.fld (.var 0) 1) (.var 2)) (.cons (.var 3) .nil))))) .nil)
/-- Deal.__init__: 0 self, 1 seller, 2 buyer, 3 land, 4 whole, 5 tax, 6 rate, 7 fee -/
def b17 : Sms := (.cons (.fst (.var 0) 8 (.var 1)) (.cons (.fst (.var 0) 9 (.var 2)) (.cons (.fst (.var 0) 10 (.var 3)) (.cons (.fst (.var 0) 11 (.var 4)) (.cons (.fst (.var 0) 12 (.var 5)) (.cons (.fst (.var 0) 13 (.var 6)) (.cons (.fst (.var 0) 6 (.var 7)) .nil)))))))
/-- moves_for: 0 deal, 1 word, 2 part, 3 carrier, 4 found, 5 more, 6 back, 7 rest, 8 tax, 9 fee -/
def b18 : Sms := (.cons (.iff (.op2 .isin (.var 1) (.tup (.cons (.con (.str [98, 97, 99, 107])) (.cons (.con (.str [108, 111, 115, 116])) .nil)))) (.cons (.set (.nm 4) (.lst (.cons (.tup (.cons (.tup (.cons (.con (.str [112, 97, 114, 116, 121])) (.cons (.fld (.var 0) 9) .nil))) (.cons (.op2 .add (.fld (.var 0) 11) (.fld (.var 0) 12)) (.cons (.con (.str [98, 97, 99, 107])) .nil)))) .nil))) (.cons (.set (.nm 5) (.ite (.op2 .eq (.var 1) (.con (.str [108, 111, 115, 116]))) (.lst (.cons (.tup (.cons (.tup (.cons (.con (.str [112, 97, 114, 116, 121])) (.cons (.fld (.var 0) 8) .nil))) (.cons (.fld (.var 0) 11) (.cons (.con (.str [108, 111, 115, 116])) .nil)))) .nil)) (.lst .nil))) (.cons (.ret (.tup (.cons (.var 4) (.cons (.var 5) .nil)))) .nil))) .nil) (.cons (.set (.nm 6) (.cal 4 (.cons (.fld (.var 0) 11) (.cons (.var 2) (.cons (.glo 5) .nil))))) (.cons (.set (.nm 7) (.op2 .sub (.fld (.var 0) 11) (.var 6))) (.cons (.set (.nm 8) (.ite (.op2 .eq (.var 1) (.con (.str [106, 117, 100, 103, 101, 100]))) (.cal 4 (.cons (.var 7) (.cons (.fld (.var 0) 13) .nil))) (.fld (.var 0) 12))) (.cons (.set (.nm 9) (.cal 4 (.cons (.var 7) (.cons (.fld (.var 0) 6) .nil)))) (.cons (.set (.nm 4) (.ite (.op2 .eq (.var 1) (.con (.str [106, 117, 100, 103, 101, 100]))) (.lst (.cons (.tup (.cons (.tup (.cons (.con (.str [112, 97, 114, 116, 121])) (.cons (.fld (.var 0) 9) .nil))) (.cons (.op2 .sub (.op2 .add (.var 6) (.fld (.var 0) 12)) (.var 8)) (.cons (.con (.str [106, 117, 100, 103, 101, 100])) .nil)))) .nil)) (.lst .nil))) (.cons (.set (.nm 4) (.op2 .add (.var 4) (.lst (.cons (.tup (.cons (.tup (.cons (.con (.str [102, 101, 101])) .nil)) (.cons (.var 9) (.cons (.con (.str [102, 101, 101])) .nil)))) (.cons (.tup (.cons (.tup (.cons (.con (.str [112, 97, 114, 116, 121])) (.cons (.fld (.var 0) 8) .nil))) (.cons (.op2 .sub (.var 7) (.var 9)) (.cons (.con (.str [115, 111, 108, 100])) .nil)))) .nil))))) (.cons (.ret (.tup (.cons (.op2 .add (.var 4) (.lst (.cons (.tup (.cons (.tup (.cons (.con (.str [116, 97, 120])) (.cons (.fld (.var 0) 10) .nil))) (.cons (.var 8) (.cons (.con (.str [116, 97, 120])) .nil)))) .nil))) (.cons (.lst .nil) .nil)))) .nil))))))))
/-- is_made: 0 row, 1 word, 2 day, 3 sell, 4 buy, 5 seller, 6 buyer, 7 ware, 8 many, 9 price, 10 tax, 11 one -/
def b19 : Sms := (.cons (.iff (.bop false (.cons (.nt (.isi (.var 0) [.ty 4] false)) (.cons (.op2 .ne (.bif .len (.cons (.var 0) .nil)) (.con (.int 10))) (.cons (.nt (.cal 3 (.cons (.op2 .idx (.var 0) (.con (.int 0))) (.cons (.tup (.cons (.con (.str [109, 97, 100, 101])) .nil)) .nil)))) .nil)))) (.cons (.ret (.con (.bl false))) .nil) .nil) (.cons (.set (.tp (.cons (.nm 1) (.cons (.nm 2) (.cons (.nm 3) (.cons (.nm 4) (.cons (.nm 5) (.cons (.nm 6) (.cons (.nm 7) (.cons (.nm 8) (.cons (.nm 9) (.cons (.nm 10) .nil))))))))))) (.var 0)) (.cons (.iff (.bop false (.cons (.nt (.cmp .all (.cal 1 (.cons (.var 11) (.cons (.con (.int 0)) (.cons (.glo 2) .nil)))) [11] (.nm 11) (.exp (.tup (.cons (.var 2) (.cons (.var 3) (.cons (.var 4) .nil))))) .none)) (.cons (.op2 .eq (.var 3) (.var 4)) .nil))) (.cons (.ret (.con (.bl false))) .nil) .nil) (.cons (.iff (.bop false (.cons (.nt (.cmp .all (.cal 0 (.cons (.var 11) .nil)) [11] (.nm 11) (.exp (.tup (.cons (.var 5) (.cons (.var 6) (.cons (.var 7) .nil))))) .none)) (.cons (.op2 .eq (.var 5) (.var 6)) .nil))) (.cons (.ret (.con (.bl false))) .nil) .nil) (.cons (.iff (.bop false (.cons (.nt (.cal 1 (.cons (.var 8) (.cons (.con (.int 1)) (.cons (.glo 6) .nil))))) (.cons (.nt (.cal 1 (.cons (.var 9) (.cons (.con (.int 1)) (.cons (.glo 7) .nil))))) .nil))) (.cons (.ret (.con (.bl false))) .nil) .nil) (.cons (.ret (.cal 1 (.cons (.var 10) (.cons (.con (.int 0)) (.cons (.cal 4 (.cons (.op2 .mul (.var 8) (.var 9)) (.cons (.glo 22) .nil))) .nil))))) .nil))))))
/-- is_ended: 0 row -/
def b20 : Sms := (.cons (.iff (.bop false (.cons (.op2 .ne (.bif .len (.cons (.var 0) .nil)) (.con (.int 5))) (.cons (.nt (.isi (.op2 .idx (.var 0) (.con (.int 2))) [.ty 0] false)) (.cons (.nt (.isi (.op2 .idx (.var 0) (.con (.int 4))) [.ty 2] false)) .nil)))) (.cons (.ret (.con (.bl false))) .nil) .nil) (.cons (.iff (.nt (.cal 1 (.cons (.op2 .idx (.var 0) (.con (.int 3))) (.cons (.con (.int 0)) (.cons (.glo 5) .nil))))) (.cons (.ret (.con (.bl false))) .nil) .nil) (.cons (.ret (.bop false (.cons (.op2 .eq (.op2 .idx (.var 0) (.con (.int 2))) (.con (.str [106, 117, 100, 103, 101, 100]))) (.cons (.bop true (.cons (.op2 .isin (.op2 .idx (.var 0) (.con (.int 2))) (.glo 21)) (.cons (.op2 .eq (.op2 .idx (.glo 21) (.op2 .idx (.var 0) (.con (.int 2)))) (.tup (.cons (.op2 .idx (.var 0) (.con (.int 3))) (.cons (.op2 .idx (.var 0) (.con (.int 4))) .nil)))) .nil))) .nil)))) .nil)))
/-- is_row_forms: 0 row -/
def b21 : Sms := (.cons (.iff (.bop false (.cons (.nt (.isi (.var 0) [.ty 4] false)) (.cons (.op2 .lt (.bif .len (.cons (.var 0) .nil)) (.con (.int 2))) (.cons (.nt (.isi (.op2 .idx (.var 0) (.con (.int 0))) [.ty 0] false)) .nil)))) (.cons (.ret (.con (.bl false))) .nil) .nil) (.cons (.iff (.nt (.cal 1 (.cons (.op2 .idx (.var 0) (.con (.int 1))) (.cons (.con (.int 0)) (.cons (.glo 2) .nil))))) (.cons (.ret (.con (.bl false))) .nil) .nil) (.cons (.iff (.op2 .eq (.op2 .idx (.var 0) (.con (.int 0))) (.con (.str [115, 101, 110, 116]))) (.cons (.ret (.bop true (.cons (.op2 .eq (.bif .len (.cons (.var 0) .nil)) (.con (.int 4))) (.cons (.cal 0 (.cons (.op2 .idx (.var 0) (.con (.int 2))) .nil)) (.cons (.cal 1 (.cons (.op2 .idx (.var 0) (.con (.int 3))) (.cons (.con (.int 0)) (.cons (.glo 2) .nil)))) .nil))))) .nil) .nil) (.cons (.iff (.op2 .eq (.op2 .idx (.var 0) (.con (.int 0))) (.con (.str [99, 97, 109, 101]))) (.cons (.ret (.op2 .eq (.bif .len (.cons (.var 0) .nil)) (.con (.int 2)))) .nil) .nil) (.cons (.iff (.op2 .eq (.op2 .idx (.var 0) (.con (.int 0))) (.con (.str [99, 111, 109, 112, 108, 97, 105, 110, 101, 100]))) (.cons (.ret (.bop true (.cons (.op2 .eq (.bif .len (.cons (.var 0) .nil)) (.con (.int 3))) (.cons (.cal 0 (.cons (.op2 .idx (.var 0) (.con (.int 2))) .nil)) .nil)))) .nil) .nil) (.cons (.iff (.op2 .eq (.op2 .idx (.var 0) (.con (.int 0))) (.con (.str [115, 97, 105, 100]))) (.cons (.ret (.bop true (.cons (.op2 .eq (.bif .len (.cons (.var 0) .nil)) (.con (.int 4))) (.cons (.cal 3 (.cons (.op2 .idx (.var 0) (.con (.int 2))) (.cons (.glo 12) .nil))) (.cons (.cal 0 (.cons (.op2 .idx (.var 0) (.con (.int 3))) .nil)) .nil))))) .nil) .nil) (.cons (.ret (.bop true (.cons (.op2 .eq (.op2 .idx (.var 0) (.con (.int 0))) (.con (.str [101, 110, 100, 101, 100]))) (.cons (.cal 20 (.cons (.var 0) .nil)) .nil)))) .nil)))))))
/-- goes_on: 0 before, 1 row -/
def b22 : Sms := (.cons (.iff (.bop false (.cons (.op2 .eq (.op2 .idx (.var 0) (.con (.int 0))) (.con (.str [101, 110, 100, 101, 100]))) (.cons (.op2 .lt (.op2 .idx (.var 1) (.con (.int 1))) (.op2 .idx (.var 0) (.con (.int 1)))) .nil))) (.cons (.ret (.con (.bl false))) .nil) .nil) (.cons (.ret (.op2 .isin (.ite (.op2 .eq (.op2 .idx (.var 1) (.con (.int 0))) (.con (.str [101, 110, 100, 101, 100]))) (.op2 .idx (.var 1) (.con (.int 2))) (.op2 .idx (.var 1) (.con (.int 0)))) (.op2 .idx (.glo 23) (.op2 .idx (.var 0) (.con (.int 0)))))) .nil))
/-- stands: 0 rows, 1 at, 2 row -/
def b23 : Sms := (.cons (.set (.nm 2) (.op2 .idx (.var 0) (.var 1))) (.cons (.iff (.op2 .eq (.var 1) (.con (.int 0))) (.cons (.ret (.cal 19 (.cons (.var 2) .nil))) .nil) .nil) (.cons (.iff (.bop false (.cons (.nt (.cal 21 (.cons (.var 2) .nil))) (.cons (.nt (.cal 22 (.cons (.op2 .idx (.var 0) (.op2 .sub (.var 1) (.con (.int 1)))) (.cons (.var 2) .nil)))) .nil))) (.cons (.ret (.con (.bl false))) .nil) .nil) (.cons (.ret (.bop false (.cons (.op2 .ne (.op2 .idx (.var 2) (.con (.int 0))) (.con (.str [115, 101, 110, 116]))) (.cons (.op2 .notin (.op2 .idx (.var 2) (.con (.int 2))) (.slc (.op2 .idx (.var 0) (.con (.int 0))) (.some (.con (.int 4))) (.some (.con (.int 6))))) .nil)))) .nil))))
/-- first_wrong: 0 rows, 1 at -/
def l24_0 : Sms := (.cons (.iff (.nt (.cal 23 (.cons (.var 0) (.cons (.var 1) .nil)))) (.cons (.ret (.var 1)) .nil) .nil) .nil)
def b24 : Sms := (.cons (.for_ (.nm 1) (.rng (.bif .len (.cons (.var 0) .nil))) l24_0) (.cons (.ret (.con .non)) .nil))
/-- is_record: 0 thing -/
def b25 : Sms := (.cons (.ret (.bop true (.cons (.isi (.var 0) [.ty 3] false) (.cons (.op2 .ne (.var 0) (.lst .nil)) (.cons (.isN false (.cal 24 (.cons (.var 0) .nil))) .nil))))) .nil)
/-- row_of: 0 record, 1 word, 2 found, 3 row -/
def b26 : Sms := (.cons (.slc 2 (.var 3) [3] (.nm 3) (.exp (.var 0)) (.some (.op2 .eq (.op2 .idx (.var 3) (.con (.int 0))) (.var 1)))) (.cons (.ret (.ite (.op2 .ne (.var 2) (.lst .nil)) (.op2 .idx (.var 2) (.con (.int 0))) (.con .non))) .nil))
/-- judged: 0 record, 1 rules -/
def b27 : Sms := (.cons (.iff (.bop false (.cons (.nt (.cal 25 (.cons (.var 0) .nil))) (.cons (.isN false (.cal 26 (.cons (.var 0) (.cons (.con (.str [99, 111, 109, 112, 108, 97, 105, 110, 101, 100])) .nil)))) .nil))) (.cons (.rse 19) .nil) .nil) (.cons (.iff (.nt (.cal 8 (.cons (.var 1) .nil))) (.cons (.rse 18) .nil) .nil) (.cons (.ret (.cal 28 (.cons (.var 0) (.cons (.var 1) .nil)))) .nil)))
/-- judged_by: 0 record, 1 rules, 2 came, 3 complaint, 4 said, 5 row -/
def b28 : Sms := (.cons (.par [2, 3] (.cons (.cal 26 (.cons (.var 0) (.cons (.con (.str [99, 97, 109, 101])) .nil))) (.cons (.cal 26 (.cons (.var 0) (.cons (.con (.str [99, 111, 109, 112, 108, 97, 105, 110, 101, 100])) .nil))) .nil))) (.cons (.slc 4 (.slc (.var 5) (.some (.con (.int 2))) .none) [5] (.nm 5) (.exp (.var 0)) (.some (.op2 .eq (.op2 .idx (.var 5) (.con (.int 0))) (.con (.str [115, 97, 105, 100]))))) (.cons (.ret (.cal 9 (.cons (.op2 .idx (.var 3) (.con (.int 2))) (.cons (.var 4) (.cons (.op2 .sub (.op2 .idx (.var 3) (.con (.int 1))) (.op2 .idx (.var 2) (.con (.int 1)))) (.cons (.var 1) .nil)))))) .nil)))
/-- deal_of: 0 record, 1 world, 2 word, 3 day, 4 sell, 5 buy, 6 seller, 7 buyer, 8 ware, 9 many, 10 price, 11 tax, 12 sent, 13 rate -/
def b29 : Sms := (.cons (.set (.tp (.cons (.nm 2) (.cons (.nm 3) (.cons (.nm 4) (.cons (.nm 5) (.cons (.nm 6) (.cons (.nm 7) (.cons (.nm 8) (.cons (.nm 9) (.cons (.nm 10) (.cons (.nm 11) .nil))))))))))) (.op2 .idx (.var 0) (.con (.int 0)))) (.cons (.set (.nm 12) (.cal 26 (.cons (.var 0) (.cons (.con (.str [115, 101, 110, 116])) .nil)))) (.cons (.iff (.bop false (.cons (.op2 .notin (.var 6) (.fld (.var 1) 2)) (.cons (.op2 .notin (.var 7) (.fld (.var 1) 2)) (.cons (.op2 .notin (.var 8) (.fld (.var 1) 1)) .nil)))) (.cons (.ret (.con .non)) .nil) .nil) (.cons (.iff (.bop true (.cons (.isN true (.var 12)) (.cons (.bop false (.cons (.op2 .notin (.op2 .idx (.var 12) (.con (.int 2))) (.fld (.var 1) 3)) (.cons (.op2 .isin (.op2 .idx (.var 12) (.con (.int 2))) (.tup (.cons (.var 6) (.cons (.var 7) .nil)))) .nil))) .nil))) (.cons (.ret (.con .non)) .nil) .nil) (.cons (.set (.nm 13) (.met (.var 1) 2 (.cons (.var 7) (.cons (.var 8) (.cons (.var 3) .nil))))) (.cons (.iff (.op2 .ne (.var 11) (.cal 4 (.cons (.op2 .mul (.var 9) (.var 10)) (.cons (.var 13) .nil)))) (.cons (.ret (.con .non)) .nil) .nil) (.cons (.ret (.mke 1 (.cons (.var 6) (.cons (.var 7) (.cons (.op2 .idx (.fld (.var 1) 2) (.var 7)) (.cons (.op2 .mul (.var 9) (.var 10)) (.cons (.var 11) (.cons (.var 13) (.cons (.fld (.var 1) 6) .nil))))))) [] .nil)) .nil)))))))
/-- is_row: 0 thing, 1 one -/
def b40 : Sms := (.cons (.iff (.bop false (.cons (.nt (.isi (.var 0) [.ty 4] false)) (.cons (.nt (.chn (.con (.int 1)) (.bif .len (.cons (.var 0) .nil)) (.glo 26))) (.cons (.nt (.cmp .all (.cal 39 (.cons (.var 1) .nil)) [1] (.nm 1) (.exp (.var 0)) .none)) .nil)))) (.cons (.ret (.con (.bl false))) .nil) .nil) (.cons (.ret (.op2 .isin (.op2 .idx (.var 0) (.con (.int 0))) (.tup (.cons (.glo 27) (.cons (.glo 28) .nil))))) .nil))
/-- rows_of: 0 deed -/
def b41 : Sms := (.cons (.iff (.op2 .lt (.bif .len (.cons (.var 0) .nil)) (.glo 26)) (.cons (.ret (.lst (.cons (.op2 .add (.tup (.cons (.glo 28) .nil)) (.var 0)) .nil))) .nil) .nil) (.cons (.ret (.op2 .add (.lst (.cons (.op2 .add (.tup (.cons (.glo 27) .nil)) (.slc (.var 0) .none (.some (.op2 .sub (.glo 26) (.con (.int 1)))))) .nil)) (.cal 41 (.cons (.slc (.var 0) (.some (.op2 .sub (.glo 26) (.con (.int 1)))) .none) .nil)))) .nil))
/-- deeds_of: 0 rows, 1 found, 2 begun, 3 row -/
def l42_0 : Sms := (.cons (.iff (.nt (.cal 40 (.cons (.var 3) .nil))) (.cons (.rse 22) .nil) .nil) (.cons (.set (.nm 2) (.op2 .add (.var 2) (.slc (.var 3) (.some (.con (.int 1))) .none))) (.cons (.iff (.op2 .eq (.op2 .idx (.var 3) (.con (.int 0))) (.glo 28)) (.cons (.ex (.bme .append (.var 1) (.cons (.var 2) .nil))) (.cons (.set (.nm 2) (.tup .nil)) .nil)) .nil) .nil)))
def b42 : Sms := (.cons (.par [1, 2] (.cons (.lst .nil) (.cons (.tup .nil) .nil))) (.cons (.for_ (.nm 3) (.exp (.var 0)) l42_0) (.cons (.ret (.var 1)) .nil)))
/-- levied_for: 0 state, 1 land, 2 first, 3 last, 4 found, 5 day, 6 one, 7 other, 8 amount, 9 why, 10 trade, 11 part, 12 rest -/
def l44_0 : Sms := (.cons (.iff (.bop true (.cons (.op2 .eq (.var 7) (.tup (.cons (.con (.str [116, 97, 120])) (.cons (.var 1) .nil)))) (.cons (.chn (.var 2) (.var 5) (.var 3)) .nil))) (.cons (.set (.nm 10) (.op2 .idx (.fld (.var 0) 36) (.op2 .idx (.var 6) (.con (.int 1))))) (.cons (.set (.nm 11) (.op2 .idx (.op2 .idx (.fld (.var 10) 24) (.neg (.con (.int 1)))) (.con (.int 3)))) (.cons (.set (.nm 12) (.op2 .sub (.fld (.fld (.var 10) 23) 11) (.cal 4 (.cons (.fld (.fld (.var 10) 23) 11) (.cons (.var 11) (.cons (.glo 5) .nil)))))) (.cons (.ex (.bme .append (.var 4) (.cons (.tup (.cons (.fld (.var 10) 14) (.cons (.var 5) (.cons (.var 12) (.cons (.var 8) .nil))))) .nil))) .nil)))) .nil) .nil)
def b44 : Sms := (.cons (.set (.nm 4) (.lst .nil)) (.cons (.for_ (.tp (.cons (.nm 5) (.cons (.nm 6) (.cons (.nm 7) (.cons (.nm 8) (.cons (.nm 9) .nil)))))) (.exp (.fld (.var 0) 31)) l44_0) (.cons (.ret (.var 4)) .nil)))
/-- Offer.__init__: 0 self, 1 number, 2 party, 3 side, 4 ware, 5 many, 6 price, 7 until -/
def b46 : Sms := (.cons (.fst (.var 0) 14 (.var 1)) (.cons (.fst (.var 0) 15 (.var 2)) (.cons (.fst (.var 0) 16 (.var 3)) (.cons (.fst (.var 0) 17 (.var 4)) (.cons (.fst (.var 0) 18 (.var 5)) (.cons (.fst (.var 0) 19 (.var 6)) (.cons (.fst (.var 0) 20 (.var 7)) .nil)))))))
/-- Trade.__init__: 0 self, 1 number, 2 ware, 3 many, 4 price, 5 deal, 6 record -/
def b47 : Sms := (.cons (.fst (.var 0) 14 (.var 1)) (.cons (.fst (.var 0) 21 (.con (.str [109, 97, 100, 101]))) (.cons (.fst (.var 0) 22 (.op2 .idx (.var 6) (.con (.int 1)))) (.cons (.fst (.var 0) 17 (.var 2)) (.cons (.fst (.var 0) 18 (.var 3)) (.cons (.fst (.var 0) 19 (.var 4)) (.cons (.fst (.var 0) 23 (.var 5)) (.cons (.fst (.var 0) 24 (.lst (.cons (.var 6) .nil))) (.cons (.fst (.var 0) 25 (.con .non)) .nil)))))))))
/-- Post.__init__: 0 self -/
def b48 : Sms := (.cons (.fst (.var 0) 26 (.lst .nil)) (.cons (.fst (.var 0) 27 (.dnw false)) (.cons (.fst (.var 0) 28 (.con (.int 0))) .nil)))
/-- State.move: 0 self, 1 one, 2 other, 3 amount, 4 why -/
def b50 : Sms := (.cons (.iff (.op2 .eq (.var 3) (.con (.int 0))) (.cons .retN .nil) .nil) (.cons (.ex (.bme .append (.fld (.var 0) 31) (.cons (.tup (.cons (.fld (.var 0) 30) (.cons (.var 1) (.cons (.var 2) (.cons (.var 3) (.cons (.var 4) .nil)))))) .nil))) (.cons (.set (.sb (.fld (.var 0) 32) (.var 1)) (.op2 .sub (.bme .get2 (.fld (.var 0) 32) (.cons (.var 1) (.cons (.con (.int 0)) .nil))) (.var 3))) (.cons (.set (.sb (.fld (.var 0) 32) (.var 2)) (.op2 .add (.bme .get2 (.fld (.var 0) 32) (.cons (.var 2) (.cons (.con (.int 0)) .nil))) (.var 3))) .nil))))
/-- State.has: 0 self, 1 account -/
def b51 : Sms := (.cons (.ret (.bme .get2 (.fld (.var 0) 32) (.cons (.var 1) (.cons (.con (.int 0)) .nil)))) .nil)
/-- State.free_of: 0 self, 1 party, 2 ware -/
def b52 : Sms := (.cons (.ret (.bme .get2 (.fld (.var 0) 33) (.cons (.tup (.cons (.var 1) (.cons (.var 2) .nil))) (.cons (.con (.int 0)) .nil)))) .nil)
/-- State.more_free: 0 self, 1 party, 2 ware, 3 many -/
def b53 : Sms := (.cons (.set (.sb (.fld (.var 0) 33) (.tup (.cons (.var 1) (.cons (.var 2) .nil)))) (.op2 .add (.met (.var 0) 5 (.cons (.var 1) (.cons (.var 2) .nil))) (.var 3))) .nil)
/-- State.bound_of: 0 self, 1 party, 2 ware, 3 found, 4 one -/
def b54 : Sms := (.cons (.slc 3 (.var 4) [4] (.nm 4) (.vls (.fld (.var 0) 34)) (.some (.bop true (.cons (.op2 .eq (.fld (.var 4) 16) (.con (.str [115, 101, 108, 108]))) (.cons (.op2 .eq (.fld (.var 4) 15) (.var 1)) .nil))))) (.cons (.ret (.cmp .sum (.fld (.var 4) 18) [4] (.nm 4) (.exp (.var 3)) (.some (.op2 .eq (.fld (.var 4) 17) (.var 2))))) .nil))
/-- State.offer: 0 self, 1 party, 2 side, 3 ware, 4 many, 5 price, 6 until, 7 number, 8 one, 9 other -/
def b55 : Sms := (.cons (.set (.nm 7) (.fld (.var 0) 35)) (.cons (.set (.nm 8) (.mke 2 (.cons (.var 7) (.cons (.var 1) (.cons (.var 2) (.cons (.var 3) (.cons (.var 4) (.cons (.var 5) (.cons (.var 6) .nil))))))) [] .nil)) (.cons (.fst (.var 0) 35 (.op2 .add (.var 7) (.con (.int 1)))) (.cons (.set (.sb (.fld (.var 0) 34) (.var 7)) (.var 8)) (.cons (.iff (.op2 .eq (.var 2) (.con (.str [115, 101, 108, 108]))) (.cons (.ex (.met (.var 0) 6 (.cons (.var 1) (.cons (.var 3) (.cons (.neg (.var 4)) .nil))))) .nil) .nil) (.cons (.whl (.op2 .isin (.var 7) (.fld (.var 0) 34)) (.cons (.set (.nm 9) (.met (.var 0) 9 (.cons (.var 8) .nil))) (.cons (.iff (.isN false (.var 9)) (.cons (.ret (.var 7)) .nil) .nil) (.cons (.ex (.met (.var 0) 10 (.cons (.var 8) (.cons (.var 9) .nil)))) .nil)))) (.cons (.ret (.var 7)) .nil)))))))
/-- State.best_for: 0 self, 1 one, 2 found, 3 other, 4 sell, 5 buy -/
def l56_0 : Sms := (.cons (.iff (.bop false (.cons (.op2 .eq (.fld (.var 3) 16) (.fld (.var 1) 16)) (.cons (.op2 .ne (.fld (.var 3) 17) (.fld (.var 1) 17)) (.cons (.op2 .eq (.fld (.var 3) 15) (.fld (.var 1) 15)) .nil)))) (.cons .cont .nil) .nil) (.cons (.set (.tp (.cons (.nm 4) (.cons (.nm 5) .nil))) (.ite (.op2 .eq (.fld (.var 1) 16) (.con (.str [98, 117, 121]))) (.tup (.cons (.var 3) (.cons (.var 1) .nil))) (.tup (.cons (.var 1) (.cons (.var 3) .nil))))) (.cons (.iff (.op2 .le (.fld (.var 4) 19) (.fld (.var 5) 19)) (.cons (.ex (.bme .append (.var 2) (.cons (.tup (.cons (.ite (.op2 .eq (.fld (.var 1) 16) (.con (.str [98, 117, 121]))) (.fld (.var 3) 19) (.neg (.fld (.var 3) 19))) (.cons (.fld (.var 3) 14) .nil))) .nil))) .nil) .nil) .nil)))
def b56 : Sms := (.cons (.set (.nm 2) (.lst .nil)) (.cons (.for_ (.nm 3) (.vls (.fld (.var 0) 34)) l56_0) (.cons (.ret (.ite (.op2 .ne (.var 2) (.lst .nil)) (.op2 .idx (.fld (.var 0) 34) (.op2 .idx (.bif .min2 (.cons (.var 2) .nil)) (.con (.int 1)))) (.con .non))) .nil)))
/-- State.meet: 0 self, 1 one, 2 other, 3 sell, 4 buy, 5 many, 6 price, 7 rate, 8 whole, 9 tax, 10 number, 11 record, 12 deal, 13 offer -/
def l57_0 : Sms := (.cons (.agF (.var 13) 18 true (.var 5)) (.cons (.iff (.op2 .eq (.fld (.var 13) 18) (.con (.int 0))) (.cons (.ex (.bme .popAt (.fld (.var 0) 34) (.cons (.fld (.var 13) 14) .nil))) .nil) .nil) .nil))
def b57 : Sms := (.cons (.set (.tp (.cons (.nm 3) (.cons (.nm 4) .nil))) (.ite (.op2 .eq (.fld (.var 1) 16) (.con (.str [98, 117, 121]))) (.tup (.cons (.var 2) (.cons (.var 1) .nil))) (.tup (.cons (.var 1) (.cons (.var 2) .nil))))) (.cons (.par [5, 6] (.cons (.bif .min2 (.cons (.fld (.var 1) 18) (.cons (.fld (.var 2) 18) .nil))) (.cons (.fld (.var 2) 19) .nil))) (.cons (.set (.nm 7) (.met (.fld (.var 0) 29) 2 (.cons (.fld (.var 4) 15) (.cons (.fld (.var 1) 17) (.cons (.fld (.var 0) 30) .nil))))) (.cons (.set (.nm 8) (.op2 .mul (.var 5) (.var 6))) (.cons (.set (.nm 9) (.cal 4 (.cons (.var 8) (.cons (.var 7) .nil)))) (.cons (.iff (.op2 .lt (.met (.var 0) 4 (.cons (.tup (.cons (.con (.str [112, 97, 114, 116, 121])) (.cons (.fld (.var 4) 15) .nil))) .nil)) (.op2 .add (.var 8) (.var 9))) (.cons (.ex (.met (.var 0) 11 (.cons (.var 4) .nil))) (.cons .retN .nil)) .nil) (.cons (.set (.nm 10) (.bif .len (.cons (.fld (.var 0) 36) .nil))) (.cons (.set (.nm 11) (.tup (.cons (.con (.str [109, 97, 100, 101])) (.cons (.fld (.var 0) 30) (.cons (.fld (.var 3) 14) (.cons (.fld (.var 4) 14) (.cons (.fld (.var 3) 15) (.cons (.fld (.var 4) 15) (.cons (.fld (.var 1) 17) (.cons (.var 5) (.cons (.var 6) (.cons (.var 9) .nil)))))))))))) (.cons (.set (.nm 12) (.mke 1 (.cons (.fld (.var 3) 15) (.cons (.fld (.var 4) 15) (.cons (.op2 .idx (.fld (.fld (.var 0) 29) 2) (.fld (.var 4) 15)) (.cons (.var 8) (.cons (.var 9) (.cons (.var 7) (.cons (.fld (.fld (.var 0) 29) 6) .nil))))))) [] .nil)) (.cons (.ex (.bme .append (.fld (.var 0) 36) (.cons (.mke 3 (.cons (.var 10) (.cons (.fld (.var 1) 17) (.cons (.var 5) (.cons (.var 6) (.cons (.var 12) (.cons (.var 11) .nil)))))) [] .nil) .nil))) (.cons (.ex (.met (.var 0) 3 (.cons (.tup (.cons (.con (.str [112, 97, 114, 116, 121])) (.cons (.fld (.var 4) 15) .nil))) (.cons (.tup (.cons (.con (.str [104, 101, 108, 100])) (.cons (.var 10) .nil))) (.cons (.op2 .add (.var 8) (.var 9)) (.cons (.con (.str [116, 114, 97, 100, 101])) .nil)))))) (.cons (.for_ (.nm 13) (.exp (.tup (.cons (.var 3) (.cons (.var 4) .nil)))) l57_0) .nil))))))))))))
/-- State.strike: 0 self, 1 offer -/
def b58 : Sms := (.cons (.ex (.bme .popAt (.fld (.var 0) 34) (.cons (.fld (.var 1) 14) .nil))) (.cons (.iff (.op2 .eq (.fld (.var 1) 16) (.con (.str [115, 101, 108, 108]))) (.cons (.ex (.met (.var 0) 6 (.cons (.fld (.var 1) 15) (.cons (.fld (.var 1) 17) (.cons (.fld (.var 1) 18) .nil))))) .nil) .nil) .nil))
/-- State.send: 0 self, 1 trade, 2 carrier, 3 parcels, 4 number -/
def b59 : Sms := (.cons (.set (.nm 3) (.fld (.op2 .idx (.fld (.var 0) 37) (.var 2)) 26)) (.cons (.set (.nm 4) (.bif .len (.cons (.var 3) .nil))) (.cons (.ex (.bme .append (.var 3) (.cons (.fld (.var 1) 14) .nil))) (.cons (.fst (.var 1) 25 (.var 2)) (.cons (.ex (.met (.var 0) 13 (.cons (.var 1) (.cons (.con (.str [115, 101, 110, 116])) (.cons (.tup (.cons (.con (.str [115, 101, 110, 116])) (.cons (.fld (.var 0) 30) (.cons (.var 2) (.cons (.var 4) .nil))))) .nil))))) (.cons (.ret (.var 4)) .nil))))))
/-- State.goes: 0 self, 1 trade, 2 state, 3 row -/
def b60 : Sms := (.cons (.fst (.var 1) 21 (.var 2)) (.cons (.fst (.var 1) 22 (.fld (.var 0) 30)) (.cons (.ex (.bme .append (.fld (.var 1) 24) (.cons (.var 3) .nil))) .nil)))
/-- State.word: 0 self, 1 carrier, 2 number, 3 parcel, 4 word, 5 post, 6 spot, 7 told -/
def b61 : Sms := (.cons (.set (.nm 5) (.op2 .idx (.fld (.var 0) 37) (.var 1))) (.cons (.set (.sb (.fld (.var 5) 27) (.var 2)) (.tup (.cons (.var 3) (.cons (.var 4) .nil)))) (.cons (.whl (.op2 .isin (.fld (.var 5) 28) (.fld (.var 5) 27)) (.cons (.set (.tp (.cons (.nm 6) (.cons (.nm 7) .nil))) (.op2 .idx (.fld (.var 5) 27) (.fld (.var 5) 28))) (.cons (.agF (.var 5) 28 false (.con (.int 1))) (.cons (.iff (.op2 .lt (.var 6) (.bif .len (.cons (.fld (.var 5) 26) .nil))) (.cons (.ex (.met (.var 0) 15 (.cons (.op2 .idx (.fld (.var 0) 36) (.op2 .idx (.fld (.var 5) 26) (.var 6))) (.cons (.var 7) .nil)))) .nil) .nil) .nil)))) .nil)))
/-- State.counts: 0 self, 1 trade, 2 word -/
def b62 : Sms := (.cons (.iff (.bop false (.cons (.op2 .ne (.fld (.var 1) 21) (.con (.str [115, 101, 110, 116]))) (.cons (.op2 .eq (.var 2) (.con (.str [115, 101, 101, 110]))) .nil))) (.cons .retN .nil) .nil) (.cons (.iff (.op2 .eq (.var 2) (.con (.str [99, 97, 109, 101]))) (.cons (.ex (.met (.var 0) 13 (.cons (.var 1) (.cons (.con (.str [99, 97, 109, 101])) (.cons (.tup (.cons (.con (.str [99, 97, 109, 101])) (.cons (.fld (.var 0) 30) .nil))) .nil))))) .nil) (.cons (.ex (.met (.var 0) 16 (.cons (.var 1) (.cons (.con (.str [108, 111, 115, 116])) (.cons (.con (.int 100)) (.cons (.con (.bl false)) .nil)))))) .nil)) .nil))
/-- State.end: 0 self, 1 trade, 2 word, 3 part, 4 back, 5 moves, 6 more, 7 account, 8 amount, 9 why -/
def l63_0 : Sms := (.cons (.ex (.met (.var 0) 3 (.cons (.tup (.cons (.con (.str [104, 101, 108, 100])) (.cons (.fld (.var 1) 14) .nil))) (.cons (.var 7) (.cons (.var 8) (.cons (.var 9) .nil)))))) .nil)
def l63_1 : Sms := (.cons (.ex (.met (.var 0) 3 (.cons (.tup (.cons (.con (.str [112, 97, 114, 116, 121])) (.cons (.fld (.var 1) 25) .nil))) (.cons (.var 7) (.cons (.var 8) (.cons (.var 9) .nil)))))) .nil)
def b63 : Sms := (.cons (.set (.tp (.cons (.nm 5) (.cons (.nm 6) .nil))) (.cal 18 (.cons (.fld (.var 1) 23) (.cons (.var 2) (.cons (.var 3) (.cons (.fld (.var 1) 25) .nil)))))) (.cons (.for_ (.tp (.cons (.nm 7) (.cons (.nm 8) (.cons (.nm 9) .nil)))) (.exp (.var 5)) l63_0) (.cons (.for_ (.tp (.cons (.nm 7) (.cons (.nm 8) (.cons (.nm 9) .nil)))) (.exp (.var 6)) l63_1) (.cons (.iff (.op2 .ne (.var 2) (.con (.str [108, 111, 115, 116]))) (.cons (.ex (.met (.var 0) 6 (.cons (.ite (.var 4) (.fld (.fld (.var 1) 23) 8) (.fld (.fld (.var 1) 23) 9)) (.cons (.fld (.var 1) 17) (.cons (.fld (.var 1) 18) .nil))))) .nil) .nil) (.cons (.ex (.met (.var 0) 13 (.cons (.var 1) (.cons (.con (.str [101, 110, 100, 101, 100])) (.cons (.tup (.cons (.con (.str [101, 110, 100, 101, 100])) (.cons (.fld (.var 0) 30) (.cons (.var 2) (.cons (.var 3) (.cons (.var 4) .nil)))))) .nil))))) .nil)))))
/-- Market.__init__: 0 self, 1 world, 2 rows, 3 deed -/
def l65_0 : Sms := (.cons (.ex (.met (.var 0) 18 (.cons (.var 3) .nil))) .nil)
def b65 : Sms := (.cons (.iff (.nt (.isi (.var 1) [.cls 0] false)) (.cons (.rse 1) .nil) .nil) (.cons (.fst (.var 0) 38 (.var 1)) (.cons (.fst (.var 0) 21 (.mke 5 (.cons (.var 1) .nil) [] .nil)) (.cons (.fst (.var 0) 39 (.lst .nil)) (.cons (.fst (.var 0) 40 (.lst .nil)) (.cons (.fst (.var 0) 41 (.con .non)) (.cons (.fst (.var 0) 42 (.con (.bl false))) (.cons (.iff (.nt (.isi (.var 2) [.ty 3, .ty 4] true)) (.cons (.rse 22) .nil) .nil) (.cons (.for_ (.nm 3) (.exp (.cal 42 (.cons (.var 2) .nil))) l65_0) .nil)))))))))
/-- Market.check_power: 0 self -/
def b67 : Sms := (.cons (.iff (.fld (.var 0) 42) (.cons (.rse 20) .nil) .nil) .nil)
/-- Market.write: 0 self, 1 deed, 2 row -/
def l68_0 : Sms := (.cons (.iff (.op2 .eq (.fld (.var 0) 41) (.con (.int 0))) (.cons (.fst (.var 0) 42 (.con (.bl true))) (.cons (.rse 20) .nil)) .nil) (.cons (.iff (.isN true (.fld (.var 0) 41)) (.cons (.agF (.var 0) 41 true (.con (.int 1))) .nil) .nil) (.cons (.ex (.bme .append (.fld (.var 0) 39) (.cons (.var 2) .nil))) .nil)))
def b68 : Sms := (.cons (.for_ (.nm 2) (.exp (.cal 41 (.cons (.var 1) .nil))) l68_0) (.cons (.ex (.bme .append (.fld (.var 0) 40) (.cons (.var 1) .nil))) .nil))
/-- Market.check_party: 0 self, 1 party -/
def b69 : Sms := (.cons (.ex (.met (.var 0) 19 .nil)) (.cons (.iff (.nt (.cal 3 (.cons (.var 1) (.cons (.fld (.fld (.var 0) 38) 2) .nil)))) (.cons (.rse 2) .nil) .nil) .nil))
/-- Market.check_ware: 0 self, 1 ware -/
def b70 : Sms := (.cons (.iff (.nt (.cal 3 (.cons (.var 1) (.cons (.fld (.fld (.var 0) 38) 1) .nil)))) (.cons (.rse 3) .nil) .nil) .nil)
/-- Market.trade_of: 0 self, 1 trade -/
def b71 : Sms := (.cons (.iff (.nt (.cal 1 (.cons (.var 1) (.cons (.con (.int 0)) (.cons (.op2 .sub (.bif .len (.cons (.fld (.fld (.var 0) 21) 36) .nil)) (.con (.int 1))) .nil))))) (.cons (.rse 5) .nil) .nil) (.cons (.ret (.op2 .idx (.fld (.fld (.var 0) 21) 36) (.var 1))) .nil))
/-- Market.power: 0 self, 1 rows -/
def b72 : Sms := (.cons (.iff (.nt (.cal 1 (.cons (.var 1) (.cons (.con (.int 0)) .nil)))) (.cons (.rse 21) .nil) .nil) (.cons (.fst (.var 0) 41 (.var 1)) .nil))
/-- Market.pay_in: 0 self, 1 party, 2 amount -/
def b73 : Sms := (.cons (.ex (.met (.var 0) 21 (.cons (.var 1) .nil))) (.cons (.iff (.nt (.cal 1 (.cons (.var 2) (.cons (.con (.int 1)) (.cons (.glo 2) .nil))))) (.cons (.rse 7) .nil) .nil) (.cons (.ex (.met (.var 0) 20 (.cons (.tup (.cons (.con (.str [112, 97, 121, 95, 105, 110])) (.cons (.var 1) (.cons (.var 2) .nil)))) .nil))) (.cons (.ex (.met (.fld (.var 0) 21) 3 (.cons (.tup (.cons (.con (.str [111, 117, 116])) .nil)) (.cons (.tup (.cons (.con (.str [112, 97, 114, 116, 121])) (.cons (.var 1) .nil))) (.cons (.var 2) (.cons (.con (.str [105, 110])) .nil)))))) .nil))))
/-- Market.pay_out: 0 self, 1 party, 2 amount -/
def b74 : Sms := (.cons (.ex (.met (.var 0) 21 (.cons (.var 1) .nil))) (.cons (.iff (.nt (.cal 1 (.cons (.var 2) (.cons (.con (.int 1)) (.cons (.glo 2) .nil))))) (.cons (.rse 7) .nil) .nil) (.cons (.iff (.op2 .lt (.met (.fld (.var 0) 21) 4 (.cons (.tup (.cons (.con (.str [112, 97, 114, 116, 121])) (.cons (.var 1) .nil))) .nil)) (.var 2)) (.cons (.rse 13) .nil) .nil) (.cons (.ex (.met (.var 0) 20 (.cons (.tup (.cons (.con (.str [112, 97, 121, 95, 111, 117, 116])) (.cons (.var 1) (.cons (.var 2) .nil)))) .nil))) (.cons (.ex (.met (.fld (.var 0) 21) 3 (.cons (.tup (.cons (.con (.str [112, 97, 114, 116, 121])) (.cons (.var 1) .nil))) (.cons (.tup (.cons (.con (.str [111, 117, 116])) .nil)) (.cons (.var 2) (.cons (.con (.str [111, 117, 116])) .nil)))))) .nil)))))
/-- Market.check_goods: 0 self, 1 party, 2 ware, 3 many -/
def b75 : Sms := (.cons (.ex (.met (.var 0) 21 (.cons (.var 1) .nil))) (.cons (.ex (.met (.var 0) 22 (.cons (.var 2) .nil))) (.cons (.iff (.nt (.cal 1 (.cons (.var 3) (.cons (.con (.int 1)) (.cons (.glo 8) .nil))))) (.cons (.rse 8) .nil) .nil) .nil)))
/-- Market.bring: 0 self, 1 party, 2 ware, 3 many -/
def b76 : Sms := (.cons (.ex (.met (.var 0) 27 (.cons (.var 1) (.cons (.var 2) (.cons (.var 3) .nil))))) (.cons (.ex (.met (.var 0) 20 (.cons (.tup (.cons (.con (.str [98, 114, 105, 110, 103])) (.cons (.var 1) (.cons (.var 2) (.cons (.var 3) .nil))))) .nil))) (.cons (.ex (.met (.fld (.var 0) 21) 6 (.cons (.var 1) (.cons (.var 2) (.cons (.var 3) .nil))))) .nil)))
/-- Market.take: 0 self, 1 party, 2 ware, 3 many -/
def b77 : Sms := (.cons (.ex (.met (.var 0) 27 (.cons (.var 1) (.cons (.var 2) (.cons (.var 3) .nil))))) (.cons (.iff (.op2 .lt (.met (.fld (.var 0) 21) 5 (.cons (.var 1) (.cons (.var 2) .nil))) (.var 3)) (.cons (.rse 14) .nil) .nil) (.cons (.ex (.met (.var 0) 20 (.cons (.tup (.cons (.con (.str [116, 97, 107, 101])) (.cons (.var 1) (.cons (.var 2) (.cons (.var 3) .nil))))) .nil))) (.cons (.ex (.met (.fld (.var 0) 21) 6 (.cons (.var 1) (.cons (.var 2) (.cons (.neg (.var 3)) .nil))))) .nil))))
/-- Market.offer: 0 self, 1 party, 2 side, 3 ware, 4 many, 5 price, 6 until -/
def b78 : Sms := (.cons (.ex (.met (.var 0) 21 (.cons (.var 1) .nil))) (.cons (.iff (.nt (.cal 3 (.cons (.var 2) (.cons (.tup (.cons (.con (.str [115, 101, 108, 108])) (.cons (.con (.str [98, 117, 121])) .nil))) .nil)))) (.cons (.rse 11) .nil) .nil) (.cons (.ex (.met (.var 0) 22 (.cons (.var 3) .nil))) (.cons (.iff (.nt (.cal 1 (.cons (.var 4) (.cons (.con (.int 1)) (.cons (.glo 6) .nil))))) (.cons (.rse 8) .nil) .nil) (.cons (.iff (.nt (.cal 1 (.cons (.var 5) (.cons (.con (.int 1)) (.cons (.glo 7) .nil))))) (.cons (.rse 9) .nil) .nil) (.cons (.iff (.nt (.cal 1 (.cons (.var 6) (.cons (.fld (.fld (.var 0) 21) 30) .nil)))) (.cons (.rse 10) .nil) .nil) (.cons (.iff (.bop true (.cons (.op2 .eq (.var 2) (.con (.str [115, 101, 108, 108]))) (.cons (.op2 .lt (.met (.fld (.var 0) 21) 5 (.cons (.var 1) (.cons (.var 3) .nil))) (.var 4)) .nil))) (.cons (.rse 14) .nil) .nil) (.cons (.ex (.met (.var 0) 20 (.cons (.tup (.cons (.con (.str [111, 102, 102, 101, 114])) (.cons (.var 1) (.cons (.var 2) (.cons (.var 3) (.cons (.var 4) (.cons (.var 5) (.cons (.var 6) .nil)))))))) .nil))) (.cons (.ret (.met (.fld (.var 0) 21) 8 (.cons (.var 1) (.cons (.var 2) (.cons (.var 3) (.cons (.var 4) (.cons (.var 5) (.cons (.var 6) .nil)))))))) .nil)))))))))
/-- Market.strike: 0 self, 1 party, 2 offer, 3 found -/
def b79 : Sms := (.cons (.ex (.met (.var 0) 21 (.cons (.var 1) .nil))) (.cons (.iff (.bop false (.cons (.nt (.cal 1 (.cons (.var 2) (.cons (.con (.int 0)) .nil)))) (.cons (.op2 .notin (.var 2) (.fld (.fld (.var 0) 21) 34)) .nil))) (.cons (.rse 4) .nil) .nil) (.cons (.set (.nm 3) (.op2 .idx (.fld (.fld (.var 0) 21) 34) (.var 2))) (.cons (.iff (.op2 .ne (.fld (.var 3) 15) (.var 1)) (.cons (.rse 15) .nil) .nil) (.cons (.ex (.met (.var 0) 20 (.cons (.tup (.cons (.con (.str [115, 116, 114, 105, 107, 101])) (.cons (.var 1) (.cons (.var 2) .nil)))) .nil))) (.cons (.ex (.met (.fld (.var 0) 21) 11 (.cons (.var 3) .nil))) .nil))))))
/-- Market.send: 0 self, 1 party, 2 trade, 3 carrier, 4 found -/
def b80 : Sms := (.cons (.ex (.met (.var 0) 21 (.cons (.var 1) .nil))) (.cons (.set (.nm 4) (.met (.var 0) 23 (.cons (.var 2) .nil))) (.cons (.iff (.op2 .ne (.fld (.fld (.var 4) 23) 8) (.var 1)) (.cons (.rse 15) .nil) .nil) (.cons (.iff (.bop false (.cons (.nt (.cal 3 (.cons (.var 3) (.cons (.fld (.fld (.var 0) 38) 3) .nil)))) (.cons (.op2 .isin (.var 3) (.tup (.cons (.fld (.fld (.var 4) 23) 8) (.cons (.fld (.fld (.var 4) 23) 9) .nil)))) .nil))) (.cons (.rse 6) .nil) .nil) (.cons (.iff (.op2 .ne (.fld (.var 4) 21) (.con (.str [109, 97, 100, 101]))) (.cons (.rse 16) .nil) .nil) (.cons (.ex (.met (.var 0) 20 (.cons (.tup (.cons (.con (.str [115, 101, 110, 100])) (.cons (.var 1) (.cons (.var 2) (.cons (.var 3) .nil))))) .nil))) (.cons (.ret (.met (.fld (.var 0) 21) 12 (.cons (.var 4) (.cons (.var 3) .nil)))) .nil)))))))
/-- Market.check_carrier: 0 self, 1 carrier -/
def b81 : Sms := (.cons (.iff (.nt (.cal 3 (.cons (.var 1) (.cons (.fld (.fld (.var 0) 38) 3) .nil)))) (.cons (.rse 6) .nil) .nil) (.cons (.ret (.op2 .idx (.fld (.fld (.var 0) 21) 37) (.var 1))) .nil))
/-- Market.word: 0 self, 1 carrier, 2 number, 3 parcel, 4 word, 5 post -/
def b82 : Sms := (.cons (.ex (.met (.var 0) 19 .nil)) (.cons (.set (.nm 5) (.met (.var 0) 30 (.cons (.var 1) .nil))) (.cons (.iff (.bop false (.cons (.nt (.cal 1 (.cons (.var 2) (.cons (.con (.int 0)) (.cons (.glo 8) .nil))))) (.cons (.nt (.cal 1 (.cons (.var 3) (.cons (.con (.int 0)) (.cons (.glo 8) .nil))))) .nil))) (.cons (.rse 8) .nil) .nil) (.cons (.iff (.nt (.cal 3 (.cons (.var 4) (.cons (.glo 30) .nil)))) (.cons (.rse 12) .nil) .nil) (.cons (.iff (.op2 .isin (.var 2) (.fld (.var 5) 27)) (.cons (.iff (.op2 .ne (.op2 .idx (.fld (.var 5) 27) (.var 2)) (.tup (.cons (.var 3) (.cons (.var 4) .nil)))) (.cons (.rse 17) .nil) .nil) (.cons (.ret (.fld (.var 5) 28)) .nil)) .nil) (.cons (.ex (.met (.var 0) 20 (.cons (.tup (.cons (.con (.str [119, 111, 114, 100])) (.cons (.var 1) (.cons (.var 2) (.cons (.var 3) (.cons (.var 4) .nil)))))) .nil))) (.cons (.ex (.met (.fld (.var 0) 21) 14 (.cons (.var 1) (.cons (.var 2) (.cons (.var 3) (.cons (.var 4) .nil)))))) (.cons (.ret (.fld (.var 5) 28)) .nil))))))))
/-- Market.complain: 0 self, 1 party, 2 trade, 3 word, 4 found -/
def b83 : Sms := (.cons (.ex (.met (.var 0) 21 (.cons (.var 1) .nil))) (.cons (.set (.nm 4) (.met (.var 0) 23 (.cons (.var 2) .nil))) (.cons (.iff (.op2 .ne (.fld (.fld (.var 4) 23) 9) (.var 1)) (.cons (.rse 15) .nil) .nil) (.cons (.iff (.nt (.cal 0 (.cons (.var 3) .nil))) (.cons (.rse 12) .nil) .nil) (.cons (.iff (.op2 .ne (.fld (.var 4) 21) (.con (.str [99, 97, 109, 101]))) (.cons (.rse 16) .nil) .nil) (.cons (.ex (.met (.var 0) 20 (.cons (.tup (.cons (.con (.str [99, 111, 109, 112, 108, 97, 105, 110])) (.cons (.var 1) (.cons (.var 2) (.cons (.var 3) .nil))))) .nil))) (.cons (.ex (.met (.fld (.var 0) 21) 13 (.cons (.var 4) (.cons (.con (.str [99, 111, 109, 112, 108, 97, 105, 110, 101, 100])) (.cons (.tup (.cons (.con (.str [99, 111, 109, 112, 108, 97, 105, 110, 101, 100])) (.cons (.fld (.fld (.var 0) 21) 30) (.cons (.var 3) .nil)))) .nil))))) .nil)))))))
/-- Market.say: 0 self, 1 party, 2 trade, 3 word, 4 found, 5 side -/
def b84 : Sms := (.cons (.ex (.met (.var 0) 21 (.cons (.var 1) .nil))) (.cons (.set (.nm 4) (.met (.var 0) 23 (.cons (.var 2) .nil))) (.cons (.iff (.op2 .notin (.var 1) (.tup (.cons (.fld (.fld (.var 4) 23) 9) (.cons (.fld (.fld (.var 4) 23) 8) .nil)))) (.cons (.rse 15) .nil) .nil) (.cons (.iff (.nt (.cal 0 (.cons (.var 3) .nil))) (.cons (.rse 12) .nil) .nil) (.cons (.iff (.op2 .ne (.fld (.var 4) 21) (.con (.str [99, 111, 109, 112, 108, 97, 105, 110, 101, 100]))) (.cons (.rse 16) .nil) .nil) (.cons (.ex (.met (.var 0) 20 (.cons (.tup (.cons (.con (.str [115, 97, 121])) (.cons (.var 1) (.cons (.var 2) (.cons (.var 3) .nil))))) .nil))) (.cons (.set (.nm 5) (.ite (.op2 .eq (.var 1) (.fld (.fld (.var 4) 23) 9)) (.con (.str [98, 117, 121, 101, 114])) (.con (.str [115, 101, 108, 108, 101, 114])))) (.cons (.ex (.bme .append (.fld (.var 4) 24) (.cons (.tup (.cons (.con (.str [115, 97, 105, 100])) (.cons (.fld (.fld (.var 0) 21) 30) (.cons (.var 5) (.cons (.var 3) .nil))))) .nil))) .nil))))))))
/-- Market.pass_days: 0 self, 1 days, 2 day -/
def l85_0 : Sms := (.cons (.ex (.met (.fld (.var 0) 21) 17 .nil)) .nil)
def b85 : Sms := (.cons (.ex (.met (.var 0) 19 .nil)) (.cons (.iff (.nt (.cal 1 (.cons (.var 1) (.cons (.con (.int 1)) (.cons (.glo 29) .nil))))) (.cons (.rse 10) .nil) .nil) (.cons (.ex (.met (.var 0) 20 (.cons (.tup (.cons (.con (.str [112, 97, 115, 115, 95, 100, 97, 121, 115])) (.cons (.var 1) .nil))) .nil))) (.cons (.for_ (.nm 2) (.rng (.var 1)) l85_0) .nil))))
/-- Market.do_two: 0 self, 1 word, 2 one, 3 other -/
def b87 : Sms := (.cons (.iff (.op2 .eq (.var 1) (.con (.str [112, 97, 121, 95, 105, 110]))) (.cons (.ret (.met (.var 0) 25 (.cons (.var 2) (.cons (.var 3) .nil)))) .nil) .nil) (.cons (.ret (.ite (.op2 .eq (.var 1) (.con (.str [112, 97, 121, 95, 111, 117, 116]))) (.met (.var 0) 26 (.cons (.var 2) (.cons (.var 3) .nil))) (.met (.var 0) 11 (.cons (.var 2) (.cons (.var 3) .nil))))) .nil))
/-- Market.do_three: 0 self, 1 word, 2 one, 3 other, 4 third -/
def b88 : Sms := (.cons (.iff (.op2 .eq (.var 1) (.con (.str [98, 114, 105, 110, 103]))) (.cons (.ret (.met (.var 0) 28 (.cons (.var 2) (.cons (.var 3) (.cons (.var 4) .nil))))) .nil) .nil) (.cons (.iff (.op2 .eq (.var 1) (.con (.str [116, 97, 107, 101]))) (.cons (.ret (.met (.var 0) 29 (.cons (.var 2) (.cons (.var 3) (.cons (.var 4) .nil))))) .nil) .nil) (.cons (.iff (.op2 .eq (.var 1) (.con (.str [115, 101, 110, 100]))) (.cons (.ret (.met (.var 0) 12 (.cons (.var 2) (.cons (.var 3) (.cons (.var 4) .nil))))) .nil) .nil) (.cons (.ret (.ite (.op2 .eq (.var 1) (.con (.str [99, 111, 109, 112, 108, 97, 105, 110]))) (.met (.var 0) 31 (.cons (.var 2) (.cons (.var 3) (.cons (.var 4) .nil)))) (.met (.var 0) 32 (.cons (.var 2) (.cons (.var 3) (.cons (.var 4) .nil)))))) .nil))))
/-- Market.day: 0 self -/
def b89 : Sms := (.cons (.ret (.fld (.fld (.var 0) 21) 30)) .nil)
/-- Market.account: 0 self, 1 account -/
def b90 : Sms := (.cons (.iff (.bop false (.cons (.nt (.isi (.var 1) [.ty 4] false)) (.cons (.nt (.met (.var 0) 39 (.cons (.var 1) .nil))) .nil))) (.cons (.rse 7) .nil) .nil) (.cons (.ret (.met (.fld (.var 0) 21) 4 (.cons (.var 1) .nil))) .nil))
/-- Market.is_account: 0 self, 1 account -/
def b91 : Sms := (.cons (.iff (.op2 .eq (.bif .len (.cons (.var 1) .nil)) (.con (.int 1))) (.cons (.ret (.cal 3 (.cons (.op2 .idx (.var 1) (.con (.int 0))) (.cons (.tup (.cons (.con (.str [102, 101, 101])) (.cons (.con (.str [111, 117, 116])) .nil))) .nil)))) .nil) .nil) (.cons (.iff (.bop false (.cons (.op2 .ne (.bif .len (.cons (.var 1) .nil)) (.con (.int 2))) (.cons (.nt (.isi (.op2 .idx (.var 1) (.con (.int 0))) [.ty 0] false)) .nil))) (.cons (.ret (.con (.bl false))) .nil) .nil) (.cons (.iff (.op2 .eq (.op2 .idx (.var 1) (.con (.int 0))) (.con (.str [104, 101, 108, 100]))) (.cons (.ret (.cal 1 (.cons (.op2 .idx (.var 1) (.con (.int 1))) (.cons (.con (.int 0)) (.cons (.op2 .sub (.bif .len (.cons (.fld (.fld (.var 0) 21) 36) .nil)) (.con (.int 1))) .nil))))) .nil) .nil) (.cons (.iff (.op2 .eq (.op2 .idx (.var 1) (.con (.int 0))) (.con (.str [112, 97, 114, 116, 121]))) (.cons (.ret (.cal 3 (.cons (.op2 .idx (.var 1) (.con (.int 1))) (.cons (.fld (.fld (.var 0) 38) 2) .nil)))) .nil) .nil) (.cons (.ret (.bop true (.cons (.op2 .eq (.op2 .idx (.var 1) (.con (.int 0))) (.con (.str [116, 97, 120]))) (.cons (.cal 3 (.cons (.op2 .idx (.var 1) (.con (.int 1))) (.cons (.fld (.fld (.var 0) 38) 0) .nil))) .nil)))) .nil)))))
/-- Market.goods: 0 self, 1 party, 2 ware -/
def b93 : Sms := (.cons (.iff (.nt (.cal 3 (.cons (.var 1) (.cons (.fld (.fld (.var 0) 38) 2) .nil)))) (.cons (.rse 2) .nil) .nil) (.cons (.ex (.met (.var 0) 22 (.cons (.var 2) .nil))) (.cons (.ret (.tup (.cons (.met (.fld (.var 0) 21) 5 (.cons (.var 1) (.cons (.var 2) .nil))) (.cons (.met (.fld (.var 0) 21) 7 (.cons (.var 1) (.cons (.var 2) .nil))) .nil)))) .nil)))
/-- Market.kept: 0 self, 1 trade, 2 found -/
def b94 : Sms := (.cons (.set (.nm 2) (.met (.var 0) 23 (.cons (.var 1) .nil))) (.cons (.ret (.ite (.op2 .eq (.fld (.var 2) 21) (.con (.str [101, 110, 100, 101, 100]))) (.con (.int 0)) (.fld (.var 2) 18))) .nil))
/-- Market.trades: 0 self, 1 found, 2 one, 3 deal -/
def l96_0 : Sms := (.cons (.set (.nm 3) (.fld (.var 2) 23)) (.cons (.ex (.bme .append (.var 1) (.cons (.tup (.cons (.fld (.var 2) 14) (.cons (.fld (.var 2) 21) (.cons (.fld (.var 3) 8) (.cons (.fld (.var 3) 9) (.cons (.fld (.var 2) 17) (.cons (.fld (.var 2) 18) (.cons (.fld (.var 2) 19) (.cons (.fld (.var 3) 12) .nil))))))))) .nil))) .nil))
def b96 : Sms := (.cons (.set (.nm 1) (.lst .nil)) (.cons (.for_ (.nm 2) (.exp (.fld (.fld (.var 0) 21) 36)) l96_0) (.cons (.ret (.var 1)) .nil)))
/-- Market.record: 0 self, 1 trade -/
def b97 : Sms := (.cons (.ret (.bif .list (.cons (.fld (.met (.var 0) 23 (.cons (.var 1) .nil)) 24) .nil))) .nil)
/-- Market.movements: 0 self -/
def b98 : Sms := (.cons (.ret (.bif .list (.cons (.fld (.fld (.var 0) 21) 31) .nil))) .nil)
/-- Market.statement: 0 self, 1 party, 2 rows, 3 there, 4 day, 5 one, 6 other, 7 amount, 8 why, 9 more -/
def l99_0 : Sms := (.cons (.iff (.op2 .isin (.tup (.cons (.con (.str [112, 97, 114, 116, 121])) (.cons (.var 1) .nil))) (.tup (.cons (.var 5) (.cons (.var 6) .nil)))) (.cons (.set (.nm 9) (.ite (.op2 .eq (.var 6) (.tup (.cons (.con (.str [112, 97, 114, 116, 121])) (.cons (.var 1) .nil)))) (.var 7) (.neg (.var 7)))) (.cons (.agN 3 false (.var 9)) (.cons (.ex (.bme .append (.var 2) (.cons (.tup (.cons (.var 4) (.cons (.var 8) (.cons (.var 9) (.cons (.var 3) .nil))))) .nil))) .nil))) .nil) .nil)
def b99 : Sms := (.cons (.iff (.nt (.cal 3 (.cons (.var 1) (.cons (.fld (.fld (.var 0) 38) 2) .nil)))) (.cons (.rse 2) .nil) .nil) (.cons (.par [2, 3] (.cons (.lst .nil) (.cons (.con (.int 0)) .nil))) (.cons (.for_ (.tp (.cons (.nm 4) (.cons (.nm 5) (.cons (.nm 6) (.cons (.nm 7) (.cons (.nm 8) .nil)))))) (.exp (.fld (.fld (.var 0) 21) 31)) l99_0) (.cons (.ret (.cal 37 (.cons (.var 2) .nil))) .nil))))
/-- Market.paper: 0 self -/
def b101 : Sms := (.cons (.ret (.bif .list (.cons (.fld (.var 0) 39) .nil))) .nil)
/-- Market.log: 0 self -/
def b102 : Sms := (.cons (.ret (.bif .list (.cons (.fld (.var 0) 40) .nil))) .nil)
/-- Market.quotes: 0 self, 1 ware -/
def b103 : Sms := (.cons (.ex (.met (.var 0) 22 (.cons (.var 1) .nil))) (.cons (.ret (.cal 43 (.cons (.fld (.var 0) 21) (.cons (.var 1) .nil)))) .nil))
/-- Market.levied: 0 self, 1 land, 2 first, 3 last -/
def b104 : Sms := (.cons (.iff (.nt (.cal 3 (.cons (.var 1) (.cons (.fld (.fld (.var 0) 38) 0) .nil)))) (.cons (.rse 1) .nil) .nil) (.cons (.iff (.bop false (.cons (.nt (.cal 1 (.cons (.var 2) (.cons (.con (.int 0)) .nil)))) (.cons (.nt (.cal 1 (.cons (.var 3) (.cons (.var 2) .nil)))) .nil))) (.cons (.rse 10) .nil) .nil) (.cons (.ret (.cal 44 (.cons (.fld (.var 0) 21) (.cons (.var 1) (.cons (.var 2) (.cons (.var 3) .nil)))))) .nil)))
/-- Market.standing: 0 self, 1 party -/
def b105 : Sms := (.cons (.iff (.nt (.cal 3 (.cons (.var 1) (.cons (.fld (.fld (.var 0) 38) 2) .nil)))) (.cons (.rse 2) .nil) .nil) (.cons (.ret (.cal 45 (.cons (.fld (.var 0) 21) (.cons (.var 1) .nil)))) .nil))
/-- Market.world: 0 self -/
def b106 : Sms := (.cons (.ret (.fld (.var 0) 38)) .nil)
/-- _law_draw: 0 _law_cell, 1 _law_k, 2 _law_many, 3 _law_primes -/
def b107 : Sms := (.cons (.set (.nm 3) (.tup (.cons (.con (.int 1000003)) (.cons (.con (.int 1000033)) (.cons (.con (.int 1000037)) (.cons (.con (.int 1000039)) (.cons (.con (.int 1000081)) (.cons (.con (.int 1000099)) (.cons (.con (.int 1000117)) (.cons (.con (.int 1000121)) (.cons (.con (.int 1000133)) (.cons (.con (.int 1000151)) (.cons (.con (.int 1000159)) (.cons (.con (.int 1000171)) (.cons (.con (.int 1000183)) (.cons (.con (.int 1000187)) (.cons (.con (.int 1000193)) (.cons (.con (.int 1000199)) .nil)))))))))))))))))) (.cons (.ret (.op2 .mod (.op2 .mod (.op2 .add (.op2 .mul (.var 0) (.con (.int 48271))) (.op2 .mul (.var 1) (.con (.int 69621)))) (.op2 .idx (.var 3) (.op2 .mod (.var 1) (.con (.int 16))))) (.var 2))) .nil))
/-- _law_cell_at: 0 _law_script, 1 _law_k -/
def b108 : Sms := (.cons (.iff (.op2 .lt (.var 1) (.bif .len (.cons (.var 0) .nil))) (.cons (.ret (.bif .abs (.cons (.op2 .idx (.var 0) (.var 1)) .nil))) .nil) .nil) (.cons (.ret (.cal 107 (.cons (.op2 .add (.bif .abs (.cons (.bif .sum (.cons (.var 0) .nil)) .nil)) (.op2 .mul (.con (.int 7919)) (.var 1))) (.cons (.var 1) (.cons (.con (.int 999983)) .nil))))) .nil))
/-- _law_digits: 0 _law_script, 1 _law_at, 2 _law_many, 3 _law_base, 4 _law_cell, 5 _law_found, 6 _law_left, 7 _law_turn, 8 _law_blend, 9 _law_more -/
def s109_0 : Sm := (.par [4, 5] (.cons (.cal 108 (.cons (.var 0) (.cons (.var 1) .nil))) (.cons (.lst .nil) .nil)))
def s109_1 : Sm := (.set (.nm 6) (.op2 .sub (.var 4) (.op2 .pow (.con (.int 10)) (.con (.int 18)))))
def l109_0 : Sms := (.cons (.iff (.op2 .ge (.var 4) (.op2 .pow (.con (.int 10)) (.con (.int 18)))) (.cons (.ex (.bme .append (.var 5) (.cons (.op2 .mod (.var 6) (.var 3)) .nil))) (.cons (.set (.nm 6) (.op2 .fdiv (.var 6) (.var 3))) .nil)) (.cons (.set (.nm 8) (.cal 107 (.cons (.op2 .mul (.op2 .add (.var 4) (.op2 .mul (.con (.int 977)) (.var 7))) (.op2 .add (.op2 .add (.var 4) (.op2 .mul (.con (.int 31)) (.var 7))) (.con (.int 5)))) (.cons (.op2 .add (.op2 .mod (.var 7) (.con (.int 9))) (.con (.int 1))) (.cons (.con (.int 999983)) .nil))))) (.cons (.set (.nm 9) (.cal 107 (.cons (.op2 .add (.op2 .mul (.op2 .add (.var 4) (.op2 .mul (.con (.int 31)) (.var 7))) (.op2 .add (.var 4) (.con (.int 7)))) (.op2 .mul (.con (.int 977)) (.var 7))) (.cons (.op2 .add (.op2 .mod (.var 7) (.con (.int 7))) (.con (.int 2))) (.cons (.con (.int 1000003)) .nil))))) (.cons (.ex (.bme .append (.var 5) (.cons (.op2 .mod (.op2 .add (.op2 .mul (.var 8) (.con (.int 1000003))) (.var 9)) (.var 3)) .nil))) .nil)))) .nil)
def s109_2 : Sm := (.for_ (.nm 7) (.rng (.var 2)) l109_0)
def s109_3 : Sm := (.ret (.var 5))
def b109 : Sms := (.cons s109_0 (.cons s109_1 (.cons s109_2 (.cons s109_3 .nil))))
/-- _law_take: 0 _law_draws, 1 _law_many -/
def b110 : Sms := (.cons (.ret (.ite (.op2 .ne (.var 0) (.lst .nil)) (.op2 .mod (.bme .popAt (.var 0) (.cons (.con (.int 0)) .nil)) (.var 1)) (.con (.int 0)))) .nil)
/-- _law_parts: 0 _law_draws, 1 _law_lands, 2 _law_wares, 3 _law_ware, 4 _law_names, 5 _law_parties, 6 _law_porters, 7 _law_kinds, 8 _law_dues, 9 _law_turn, 10 _law_rate_here, 11 _law_land, 12 _law_kind, 13 _law_norms, 14 _law_pairs, 15 _law_part, 16 _law_word, 17 _law_days, 18 _law_cut, 19 _law_wait, 20 _law_name -/
def s111_0 : Sm := (.set (.nm 1) (.op2 .idx (.tup (.cons (.lst (.cons (.con (.str [101, 97, 115, 116])) (.cons (.con (.str [119, 101, 115, 116])) .nil))) (.cons (.lst (.cons (.con (.str [101, 97, 115, 116])) .nil)) (.cons (.lst (.cons (.con (.str [115, 97, 110, 100])) (.cons (.con (.str [101, 97, 115, 116])) (.cons (.con (.str [119, 101, 115, 116])) .nil)))) .nil)))) (.cal 110 (.cons (.var 0) (.cons (.con (.int 3)) .nil)))))
def s111_1 : Sm := (.set (.nm 2) (.dnw false))
def l111_0 : Sms := (.cons (.set (.sb (.var 2) (.var 3)) (.op2 .idx (.tup (.cons (.con (.str [102, 111, 111, 100])) (.cons (.con (.str [116, 111, 111, 108])) (.cons (.con (.str [102, 111, 111, 100])) .nil)))) (.cal 110 (.cons (.var 0) (.cons (.con (.int 3)) .nil))))) .nil)
def s111_2 : Sm := (.for_ (.nm 3) (.exp (.slc (.tup (.cons (.con (.str [99, 111, 114, 110])) (.cons (.con (.str [97, 120, 101])) (.cons (.con (.str [109, 111, 114, 101])) .nil)))) .none (.some (.op2 .add (.con (.int 1)) (.cal 110 (.cons (.var 0) (.cons (.con (.int 3)) .nil))))))) l111_0)
def s111_3 : Sm := (.set (.nm 4) (.slc (.lst (.cons (.con (.str [97, 110, 110])) (.cons (.con (.str [98, 111, 98])) (.cons (.con (.str [99, 97, 116])) (.cons (.con (.str [119, 104, 111, 108, 101])) (.cons (.con (.str [111, 117, 116])) (.cons (.con (.str [102, 101, 101])) .nil))))))) .none (.some (.op2 .add (.con (.int 3)) (.cal 110 (.cons (.var 0) (.cons (.con (.int 4)) .nil)))))))
def c111_0 : Ex := (.tup (.cons (.var 20) (.cons (.op2 .idx (.var 1) (.cal 110 (.cons (.var 0) (.cons (.bif .len (.cons (.var 1) .nil)) .nil)))) .nil)))
def s111_4 : Sm := (.set (.nm 5) (.bif .dict (.cons (.cmp .keep c111_0 [20] (.nm 20) (.exp (.var 4)) .none) .nil)))
def c111_1 : Ex := (.var 20)
def s111_5 : Sm := (.set (.nm 6) (.op2 .add (.slc (.cmp .keep c111_1 [20] (.nm 20) (.exp (.slc (.var 4) (.some (.con (.int 1))) (.some (.neg (.con (.int 1)))))) (.some (.op2 .eq (.cal 110 (.cons (.var 0) (.cons (.con (.int 3)) .nil))) (.con (.int 0))))) .none (.some (.con (.int 2)))) (.slc (.var 4) (.some (.neg (.con (.int 1)))) .none)))
def s111_6 : Sm := (.par [7, 8] (.cons (.sst (.lvl (.var 2))) (.cons (.lst .nil) .nil)))
def l111_1 : Sms := (.cons (.set (.nm 10) (.op2 .idx (.tup (.cons (.con (.int 0)) (.cons (.con (.int 700)) (.cons (.con (.int 1900)) (.cons (.con (.int 5000)) (.cons (.con (.int 1)) (.cons (.con (.int 333)) .nil))))))) (.cal 110 (.cons (.var 0) (.cons (.con (.int 6)) .nil))))) (.cons (.par [11, 12] (.cons (.op2 .idx (.var 1) (.cal 110 (.cons (.var 0) (.cons (.bif .len (.cons (.var 1) .nil)) .nil)))) (.cons (.op2 .idx (.var 7) (.cal 110 (.cons (.var 0) (.cons (.bif .len (.cons (.var 7) .nil)) .nil)))) .nil))) (.cons (.ex (.bme .append (.var 8) (.cons (.tup (.cons (.var 11) (.cons (.var 12) (.cons (.op2 .mul (.cal 110 (.cons (.var 0) (.cons (.con (.int 5)) .nil))) (.con (.int 2))) (.cons (.var 10) .nil))))) .nil))) .nil)))
def s111_7 : Sm := (.for_ (.nm 9) (.rng (.cal 110 (.cons (.var 0) (.cons (.con (.int 6)) .nil)))) l111_1)
def s111_8 : Sm := (.set (.nm 13) (.lst .nil))
def t111_2_0 : Sm := (.set (.nm 14) (.slc (.lst (.cons (.tup (.cons (.con (.str [98, 117, 121, 101, 114])) (.cons (.con (.str [112, 104, 111, 116, 111])) .nil))) (.cons (.tup (.cons (.con (.str [115, 101, 108, 108, 101, 114])) (.cons (.con (.str [115, 111, 114, 114, 121])) .nil))) (.cons (.tup (.cons (.con (.str [115, 101, 108, 108, 101, 114])) (.cons (.con (.str [112, 104, 111, 116, 111])) .nil))) .nil)))) .none (.some (.cal 110 (.cons (.var 0) (.cons (.con (.int 4)) .nil))))))
def t111_2_1 : Sm := (.set (.nm 14) (.slc (.var 14) (.some (.cal 110 (.cons (.var 0) (.cons (.con (.int 2)) .nil)))) .none))
def t111_2_2 : Sm := (.set (.nm 15) (.op2 .idx (.tup (.cons (.con (.int 100)) (.cons (.con (.int 50)) (.cons (.con (.int 33)) (.cons (.con (.int 0)) (.cons (.con (.int 1)) .nil)))))) (.cal 110 (.cons (.var 0) (.cons (.con (.int 5)) .nil)))))
def t111_2_3 : Sm := (.par [16, 17] (.cons (.op2 .idx (.tup (.cons (.con (.str [98, 114, 111, 107, 101, 110])) (.cons (.con (.str [108, 97, 116, 101])) .nil))) (.cal 110 (.cons (.var 0) (.cons (.con (.int 2)) .nil)))) (.cons (.cal 110 (.cons (.var 0) (.cons (.con (.int 4)) .nil))) .nil)))
def t111_2_4 : Sm := (.ex (.bme .append (.var 13) (.cons (.tup (.cons (.var 16) (.cons (.bif .tuple (.cons (.var 14) .nil)) (.cons (.var 17) (.cons (.var 15) (.cons (.op2 .eq (.cal 110 (.cons (.var 0) (.cons (.con (.int 2)) .nil))) (.con (.int 0))) .nil)))))) .nil)))
def l111_2 : Sms := (.cons t111_2_0 (.cons t111_2_1 (.cons t111_2_2 (.cons t111_2_3 (.cons t111_2_4 .nil)))))
def s111_9 : Sm := (.for_ (.nm 9) (.rng (.cal 110 (.cons (.var 0) (.cons (.con (.int 5)) .nil)))) l111_2)
def s111_10 : Sm := (.par [18, 19] (.cons (.op2 .idx (.tup (.cons (.con (.int 0)) (.cons (.con (.int 500)) (.cons (.con (.int 2000)) (.cons (.con (.int 1)) .nil))))) (.cal 110 (.cons (.var 0) (.cons (.con (.int 4)) .nil)))) (.cons (.op2 .add (.con (.int 1)) (.cal 110 (.cons (.var 0) (.cons (.con (.int 3)) .nil)))) .nil)))
def s111_11 : Sm := (.ret (.lst (.cons (.var 1) (.cons (.var 2) (.cons (.var 5) (.cons (.var 6) (.cons (.var 8) (.cons (.var 13) (.cons (.var 18) (.cons (.var 19) (.cons (.op2 .add (.con (.int 1)) (.cal 110 (.cons (.var 0) (.cons (.con (.int 3)) .nil)))) .nil)))))))))))
def b111 : Sms := (.cons s111_0 (.cons s111_1 (.cons s111_2 (.cons s111_3 (.cons s111_4 (.cons s111_5 (.cons s111_6 (.cons s111_7 (.cons s111_8 (.cons s111_9 (.cons s111_10 (.cons s111_11 .nil))))))))))))
/-- _law_world: 0 _law_parts_here -/
def b112 : Sms := (.cons (.ret (.mke 0 (.cons (.op2 .idx (.var 0) (.con (.int 0))) (.cons (.op2 .idx (.var 0) (.con (.int 1))) (.cons (.op2 .idx (.var 0) (.con (.int 2))) .nil))) [4, 5, 6, 7, 8, 9] (.cons (.op2 .idx (.var 0) (.con (.int 3))) (.cons (.op2 .idx (.var 0) (.con (.int 4))) (.cons (.op2 .idx (.var 0) (.con (.int 5))) (.cons (.op2 .idx (.var 0) (.con (.int 6))) (.cons (.op2 .idx (.var 0) (.con (.int 7))) (.cons (.op2 .idx (.var 0) (.con (.int 8))) .nil)))))))) .nil)
end PB
end
section
set_option Elab.async false
set_option linter.all false
set_option maxRecDepth 100000
/-! LGA: evaluating the own text -/
namespace LD
theorem bind_ok {α β : Type} (a : α) (h : LH) (k : α → LH → Res β) : (Res.ok a h).bind k = k a h := rfl
theorem bind_exc {α β : Type} (c : Nat) (p : Option LV) (h : LH) (k : α → LH → Res β) : (Res.exc c p h : Res α).bind k = .exc c p h := rfl
theorem bindN_ok {α β : Type} (a : α) (h : LH) (k : α → LH → Res β) : (Res.ok a h).bindN k = k a h := rfl
theorem toS_ok {α : Type} (ls : LSt) (a : α) (h : LH) (k : α → LH → SR) : (Res.ok a h).toS ls k = k a h := rfl
theorem toS_exc {α : Type} (ls : LSt) (c : Nat) (p : Option LV) (h : LH) (k : α → LH → SR) : (Res.exc c p h : Res α).toS ls k = .exc c p ls h := rfl
theorem thn_nx (ls : LSt) (h : LH) (k : LSt → LH → SR) : (SR.nx ls h).thn k = k ls h := rfl
theorem thn_rt (v : LV) (h : LH) (k : LSt → LH → SR) : (SR.rt v h).thn k = .rt v h := rfl
theorem thn_ct (ls : LSt) (h : LH) (k : LSt → LH → SR) : (SR.ct ls h).thn k = .ct ls h := rfl
theorem thn_exc (c : Nat) (p : Option LV) (ls : LSt) (h : LH) (k : LSt → LH → SR) : (SR.exc c p ls h).thn k = .exc c p ls h := rfl
theorem turn_nx (ls : LSt) (h : LH) (k : LSt → LH → SR) : (SR.nx ls h).turn k = k ls h := rfl
theorem turn_ct (ls : LSt) (h : LH) (k : LSt → LH → SR) : (SR.ct ls h).turn k = k ls h := rfl
theorem turn_rt (v : LV) (h : LH) (k : LSt → LH → SR) : (SR.rt v h).turn k = .rt v h := rfl
/-- a def by its body -/
def fin (r : SR) : Res LV := match r with
  | .nx _ h1 => .ok .non h1
  | .rt v h1 => .ok v h1
  | .exc c p _ h1 => .exc c p h1
  | _ => .bad
/-- the def k of the table -/
structure Fx (P : Prg) (k : Nat) (b : Sms) (np nN : Nat) (dv : List LV) (kwo : Bool) : Prop where
  ex : ∃ fi, P.fns[k]? = some fi ∧ fi.body = b ∧ fi.ps.length = np ∧ fi.N.length = nN ∧ fi.dv = dv ∧ fi.kwo = kwo
theorem Fx.run {P : Prg} {k : Nat} {b : Sms} {np nN : Nat} {dv : List LV} {kwo : Bool} (f : Fx P k b np nN dv kwo) (n : Nat) (as : List LV) (h : LH) (hl : as.length = np) : LD.run P (n + 1) k as h = fin (evSs P (LD.run P n) b (as.map some ++ List.replicate (nN - np) none) h) := by
  obtain ⟨fi, e, rfl, rfl, rfl, _, _⟩ := f.ex
  show (match P.fns[k]? with
    | some fi => evFn P (LD.run P n) fi as h
    | none => .bad) = _
  rw [e]
  show evFn P (LD.run P n) fi as h = _
  unfold evFn fin
  rw [if_pos hl, hl]
  try (cases evSs P (LD.run P n) fi.body (as.map some ++ List.replicate (fi.N.length - fi.ps.length) none) h <;> rfl)
theorem Fx.call {P : Prg} {k : Nat} {b : Sms} {np nN : Nat} {dv : List LV} (f : Fx P k b np nN dv false) (F : FT) (as : List LV) (h : LH) (hl : as.length = np) : callF P F k as h = F k as h := by
  obtain ⟨fi, e, rfl, rfl, rfl, rfl, hk⟩ := f.ex
  unfold callF
  rw [e]
  unfold fillA
  dsimp only
  rw [if_pos ⟨hk, by omega, by omega⟩, hl]
  simp
def parK (o : Option LSt) (h : LH) : SR := match o with
  | some ls1 => .nx ls1 h
  | none => .bad
theorem parK_some (ls : LSt) (h : LH) : parK (some ls) h = .nx ls h := rfl
theorem par_nil (ls : LSt) : parSet [] [] ls = some ls := rfl
theorem par_cons (i : Nat) (is : List Nat) (v : LV) (vs : List LV) (ls : LSt) : parSet (i :: is) (v :: vs) ls = parSet is vs (ls.set i (some v)) := rfl
def kOp2 (P : Prg) (F : FT) (o : O2) (b : Ex) (ls : LSt) (x : LV) (h : LH) : Res LV := (evE P F b ls h).bind (p2 o x)
theorem kOp2_eq (P : Prg) (F : FT) (o : O2) (b : Ex) (ls : LSt) (x : LV) (h : LH) : kOp2 P F o b ls x h = (evE P F b ls h).bind (p2 o x) := rfl
def kNot  (b : Bool) (h : LH) : Res LV := Res.ok (.bl (!b)) h
theorem kNot_eq  (b : Bool) (h : LH) : kNot  b h = Res.ok (.bl (!b)) h := rfl
def kNt  (x : LV) (h : LH) : Res LV := (asB x h).bind kNot
theorem kNt_eq  (x : LV) (h : LH) : kNt  x h = (asB x h).bind kNot := rfl
def kIf (P : Prg) (F : FT) (a : Ex) (b : Ex) (ls : LSt) (c : Bool) (h : LH) : Res LV := (if c = true then evE P F a ls h else evE P F b ls h)
def kIte (P : Prg) (F : FT) (a : Ex) (b : Ex) (ls : LSt) (x : LV) (h : LH) : Res LV := (asB x h).bind (kIf P F a b ls)
theorem kIte_eq (P : Prg) (F : FT) (a : Ex) (b : Ex) (ls : LSt) (x : LV) (h : LH) : kIte P F a b ls x h = (asB x h).bind (kIf P F a b ls) := rfl
def kTup  (vs : List LV) (h : LH) : Res LV := (if vs.length ≤ 16777216 then Res.ok (.tup vs) h else .bad)
theorem kTup_eq  (vs : List LV) (h : LH) : kTup  vs h = (if vs.length ≤ 16777216 then Res.ok (.tup vs) h else .bad) := rfl
def kSl2 (P : Prg) (F : FT) (hi : Ox) (ls : LSt) (x : LV) (l : Option Int) (h : LH) : Res LV := (evO P F hi ls h).bind (pSlice x l)
theorem kSl2_eq (P : Prg) (F : FT) (hi : Ox) (ls : LSt) (x : LV) (l : Option Int) (h : LH) : kSl2 P F hi ls x l h = (evO P F hi ls h).bind (pSlice x l) := rfl
def kSl1 (P : Prg) (F : FT) (lo : Ox) (hi : Ox) (ls : LSt) (x : LV) (h : LH) : Res LV := (evO P F lo ls h).bind (kSl2 P F hi ls x)
theorem kSl1_eq (P : Prg) (F : FT) (lo : Ox) (hi : Ox) (ls : LSt) (x : LV) (h : LH) : kSl1 P F lo hi ls x h = (evO P F lo ls h).bind (kSl2 P F hi ls x) := rfl
def kFld (P : Prg) (f : Nat) (x : LV) (h : LH) : Res LV := pFld P x f h
theorem kFld_eq (P : Prg) (f : Nat) (x : LV) (h : LH) : kFld P f x h = pFld P x f h := rfl
def kMk (P : Prg) (F : FT) (c : Nat) (ks : List Nat) (kws : Exs) (ls : LSt) (vs : List LV) (h : LH) : Res LV := (evEs P F kws ls h).bind (makeC P F c vs ks)
theorem kMk_eq (P : Prg) (F : FT) (c : Nat) (ks : List Nat) (kws : Exs) (ls : LSt) (vs : List LV) (h : LH) : kMk P F c ks kws ls vs h = (evEs P F kws ls h).bind (makeC P F c vs ks) := rfl
def kEq1 (P : Prg) (F : FT) (ng : Bool) (b : Ex) (ls : LSt) (x : LV) (h : LH) : Res LV := (evE P F b ls h).bind (eqoM P F ng x)
theorem kEq1_eq (P : Prg) (F : FT) (ng : Bool) (b : Ex) (ls : LSt) (x : LV) (h : LH) : kEq1 P F ng b ls x h = (evE P F b ls h).bind (eqoM P F ng x) := rfl
def kCs2 (v : LV) (vs : List LV) (h : LH) : Res (List LV) := Res.ok (v :: vs) h
theorem kCs2_eq (v : LV) (vs : List LV) (h : LH) : kCs2 v vs h = Res.ok (v :: vs) h := rfl
def kCs1 (P : Prg) (F : FT) (es : Exs) (ls : LSt) (v : LV) (h : LH) : Res (List LV) := (evEs P F es ls h).bind (kCs2 v)
theorem kCs1_eq (P : Prg) (F : FT) (es : Exs) (ls : LSt) (v : LV) (h : LH) : kCs1 P F es ls v h = (evEs P F es ls h).bind (kCs2 v) := rfl
def kB1b  (b : Bool) (h : LH) : Res LV := Res.ok (.bl b) h
theorem kB1b_eq  (b : Bool) (h : LH) : kB1b  b h = Res.ok (.bl b) h := rfl
def kB1  (x : LV) (h : LH) : Res LV := (asB x h).bind kB1b
theorem kB1_eq  (x : LV) (h : LH) : kB1  x h = (asB x h).bind kB1b := rfl
def kBf2 (P : Prg) (F : FT) (es : Exs) (ls : LSt) (b : Bool) (h : LH) : Res LV := (if b = true then Res.ok (.bl true) h else evB P F false es ls h)
def kBf (P : Prg) (F : FT) (es : Exs) (ls : LSt) (x : LV) (h : LH) : Res LV := (asB x h).bind (kBf2 P F es ls)
theorem kBf_eq (P : Prg) (F : FT) (es : Exs) (ls : LSt) (x : LV) (h : LH) : kBf P F es ls x h = (asB x h).bind (kBf2 P F es ls) := rfl
def kBt2 (P : Prg) (F : FT) (es : Exs) (ls : LSt) (b : Bool) (h : LH) : Res LV := (if b = true then evB P F true es ls h else Res.ok (.bl false) h)
def kBt (P : Prg) (F : FT) (es : Exs) (ls : LSt) (x : LV) (h : LH) : Res LV := (asB x h).bind (kBt2 P F es ls)
theorem kBt_eq (P : Prg) (F : FT) (es : Exs) (ls : LSt) (x : LV) (h : LH) : kBt P F es ls x h = (asB x h).bind (kBt2 P F es ls) := rfl
def kSb3 (ls : LSt) (_x : LV) (h : LH) : Res LSt := Res.ok ls h
theorem kSb3_eq (ls : LSt) (_x : LV) (h : LH) : kSb3 ls _x h = Res.ok ls h := rfl
def kSb2 (v : LV) (ls : LSt) (x : LV) (y : LV) (h : LH) : Res LSt := (pSet x y v h).bindN (kSb3 ls)
theorem kSb2_eq (v : LV) (ls : LSt) (x : LV) (y : LV) (h : LH) : kSb2 v ls x y h = (pSet x y v h).bindN (kSb3 ls) := rfl
def kSb1 (P : Prg) (F : FT) (i : Ex) (v : LV) (ls : LSt) (x : LV) (h : LH) : Res LSt := (evE P F i ls h).bindN (kSb2 v ls x)
theorem kSb1_eq (P : Prg) (F : FT) (i : Ex) (v : LV) (ls : LSt) (x : LV) (h : LH) : kSb1 P F i v ls x h = (evE P F i ls h).bindN (kSb2 v ls x) := rfl
def kEx (ls : LSt) (_x : LV) (h : LH) : SR := SR.nx ls h
theorem kEx_eq (ls : LSt) (_x : LV) (h : LH) : kEx ls _x h = SR.nx ls h := rfl
def kSet (P : Prg) (F : FT) (t : Tg) (ls : LSt) (v : LV) (h : LH) : SR := (asg P F t v ls h).toS ls SR.nx
theorem kSet_eq (P : Prg) (F : FT) (t : Tg) (ls : LSt) (v : LV) (h : LH) : kSet P F t ls v h = (asg P F t v ls h).toS ls SR.nx := rfl
def kPar (is : List Nat) (ls : LSt) (vs : List LV) (h : LH) : SR := parK (parSet is.reverse vs.reverse ls) h
theorem kPar_eq (is : List Nat) (ls : LSt) (vs : List LV) (h : LH) : kPar is ls vs h = parK (parSet is.reverse vs.reverse ls) h := rfl
def kAg3 (i : Nat) (ls : LSt) (z : LV) (h : LH) : SR := SR.nx (ls.set i (some z)) h
theorem kAg3_eq (i : Nat) (ls : LSt) (z : LV) (h : LH) : kAg3 i ls z h = SR.nx (ls.set i (some z)) h := rfl
def kAg2 (i : Nat) (sub : Bool) (ls : LSt) (x : LV) (y : LV) (h : LH) : SR := (agO sub x y h).toS ls (kAg3 i ls)
theorem kAg2_eq (i : Nat) (sub : Bool) (ls : LSt) (x : LV) (y : LV) (h : LH) : kAg2 i sub ls x y h = (agO sub x y h).toS ls (kAg3 i ls) := rfl
def kAg1 (P : Prg) (F : FT) (i : Nat) (sub : Bool) (e : Ex) (ls : LSt) (x : LV) (h : LH) : SR := (evE P F e ls h).toS ls (kAg2 i sub ls x)
theorem kAg1_eq (P : Prg) (F : FT) (i : Nat) (sub : Bool) (e : Ex) (ls : LSt) (x : LV) (h : LH) : kAg1 P F i sub e ls x h = (evE P F e ls h).toS ls (kAg2 i sub ls x) := rfl
def kI2 (P : Prg) (F : FT) (a : Sms) (b : Sms) (ls : LSt) (c : Bool) (h : LH) : SR := (if c = true then evSs P F a ls h else evSs P F b ls h)
def kI1 (P : Prg) (F : FT) (a : Sms) (b : Sms) (ls : LSt) (x : LV) (h : LH) : SR := (asB x h).toS ls (kI2 P F a b ls)
theorem kI1_eq (P : Prg) (F : FT) (a : Sms) (b : Sms) (ls : LSt) (x : LV) (h : LH) : kI1 P F a b ls x h = (asB x h).toS ls (kI2 P F a b ls) := rfl
theorem kIf_T (P : Prg) (F : FT) (a : Ex) (b : Ex) (ls : LSt) (h : LH) : kIf P F a b ls true h = evE P F a ls h := rfl
theorem kIf_F (P : Prg) (F : FT) (a : Ex) (b : Ex) (ls : LSt) (h : LH) : kIf P F a b ls false h = evE P F b ls h := rfl
theorem kBf2_T (P : Prg) (F : FT) (es : Exs) (ls : LSt) (h : LH) : kBf2 P F es ls true h = Res.ok (.bl true) h := rfl
theorem kBf2_F (P : Prg) (F : FT) (es : Exs) (ls : LSt) (h : LH) : kBf2 P F es ls false h = evB P F false es ls h := rfl
theorem kBt2_T (P : Prg) (F : FT) (es : Exs) (ls : LSt) (h : LH) : kBt2 P F es ls true h = evB P F true es ls h := rfl
theorem kBt2_F (P : Prg) (F : FT) (es : Exs) (ls : LSt) (h : LH) : kBt2 P F es ls false h = Res.ok (.bl false) h := rfl
theorem kI2_T (P : Prg) (F : FT) (a : Sms) (b : Sms) (ls : LSt) (h : LH) : kI2 P F a b ls true h = evSs P F a ls h := rfl
theorem kI2_F (P : Prg) (F : FT) (a : Sms) (b : Sms) (ls : LSt) (h : LH) : kI2 P F a b ls false h = evSs P F b ls h := rfl
section
variable (P : Prg) (F : FT) (ls : LSt) (h : LH)
theorem ev_var (i : Nat) : evE P F (.var i) ls h = slotE ls i h := by rw [evE] <;> rfl
theorem ev_con (c : LV) : evE P F (.con c) ls h = .ok c h := by rw [evE] <;> rfl
theorem ev_op2 (o : O2) (a b : Ex) : evE P F (.op2 o a b) ls h = (evE P F a ls h).bind (kOp2 P F o b ls) := by rw [evE] <;> rfl
theorem ev_neg (a : Ex) : evE P F (.neg a) ls h = (evE P F a ls h).bind pNeg := by rw [evE] <;> rfl
theorem ev_isN (ng : Bool) (a : Ex) : evE P F (.isN ng a) ls h = (evE P F a ls h).bind (isNM ng) := by rw [evE] <;> rfl
theorem ev_bop (k : Bool) (xs : Exs) : evE P F (.bop k xs) ls h = evB P F k xs ls h := by rw [evE] <;> rfl
theorem ev_nt (a : Ex) : evE P F (.nt a) ls h = (evE P F a ls h).bind kNt := by rw [evE] <;> rfl
theorem ev_ite (c a b : Ex) : evE P F (.ite c a b) ls h = (evE P F c ls h).bind (kIte P F a b ls) := by rw [evE] <;> rfl
theorem ev_tup (xs : Exs) : evE P F (.tup xs) ls h = (evEs P F xs ls h).bind kTup := by rw [evE] <;> rfl
theorem ev_lst (xs : Exs) : evE P F (.lst xs) ls h = (evEs P F xs ls h).bind newL := by rw [evE] <;> rfl
theorem ev_dnw (t : Bool) : evE P F (.dnw t) ls h = .ok (.ref h.length) (h ++ [if t then .dT [] else .dK []]) := by rw [evE] <;> rfl
theorem ev_dsp (ks : List LV) (vs : Exs) : evE P F (.dsp ks vs) ls h = (evEs P F vs ls h).bindN (pDsp ks) := by rw [evE] <;> rfl
theorem ev_slc (a : Ex) (lo hi : Ox) : evE P F (.slc a lo hi) ls h = (evE P F a ls h).bind (kSl1 P F lo hi ls) := by rw [evE] <;> rfl
theorem ev_fld (a : Ex) (f : Nat) : evE P F (.fld a f) ls h = (evE P F a ls h).bind (kFld P f) := by rw [evE] <;> rfl
theorem ev_cal (f : Nat) (xs : Exs) : evE P F (.cal f xs) ls h = (evEs P F xs ls h).bind (callF P F f) := by rw [evE] <;> rfl
theorem ev_mke (c : Nat) (xs kws : Exs) (ks : List Nat) : evE P F (.mke c xs ks kws) ls h = (evEs P F xs ls h).bind (kMk P F c ks kws ls) := by rw [evE] <;> rfl
theorem ev_bif (b : Bf) (xs : Exs) : evE P F (.bif b xs) ls h = (evEs P F xs ls h).bind (pB b) := by rw [evE] <;> rfl
theorem ev_isi (a : Ex) (ts : List Tq) (t : Bool) : evE P F (.isi a ts t) ls h = (evE P F a ls h).bind (pIsi P.cls.length ts) := by rw [evE] <;> rfl
theorem ev_lvl (e : Ex) : evE P F (.lvl e) ls h = (evE P F e ls h).bind pLvl := by rw [evE] <;> rfl
theorem ev_sst (e : Ex) : evE P F (.sst e) ls h = (evE P F e ls h).bind pSst := by rw [evE] <;> rfl
theorem ev_eqo (ng : Bool) (a b : Ex) : evE P F (.eqo ng a b) ls h = (evE P F a ls h).bind (kEq1 P F ng b ls) := by rw [evE] <;> rfl
theorem ev_nil : evEs P F .nil ls h = .ok [] h := by rw [evEs] <;> rfl
theorem ev_cons (e : Ex) (es : Exs) : evEs P F (.cons e es) ls h = (evE P F e ls h).bind (kCs1 P F es ls) := by rw [evEs] <;> rfl
theorem ev_B1 (k : Bool) (e : Ex) : evB P F k (.cons e .nil) ls h = (evE P F e ls h).bind kB1 := by rw [evB] <;> rfl
theorem ev_O0 : evO P F .none ls h = .ok none h := by rw [evO] <;> rfl
theorem ev_O1 (e : Ex) : evO P F (.some e) ls h = (evE P F e ls h).bind asI := by rw [evO] <;> rfl
theorem ev_Q0 : evQ P F .none ls h = .ok true h := by rw [evQ] <;> rfl
theorem ev_Q1 (e : Ex) : evQ P F (.some e) ls h = (evE P F e ls h).bind asB := by rw [evQ] <;> rfl
theorem asg_nm (i : Nat) (v : LV) : asg P F (.nm i) v ls h = .ok (ls.set i (some v)) h := by rw [asg] <;> rfl
theorem asg_tp (ts : Tgs) (vs : List LV) : asg P F (.tp ts) (.tup vs) ls h = if vs.length = tgsLen ts then asgs P F ts vs ls h else .bad := by rw [asg] <;> rfl
theorem asg_kt (ts : Tgs) (vs : List LV) : asg P F (.tp ts) (.ktu vs) ls h = if vs.length = tgsLen ts then asgs P F ts vs ls h else .bad := by rw [asg] <;> rfl
theorem asg_sb (o i : Ex) (v : LV) : asg P F (.sb o i) v ls h = (evE P F o ls h).bindN (kSb1 P F i v ls) := by rw [asg] <;> rfl
theorem asgs_nil : asgs P F .nil [] ls h = .ok ls h := by rw [asgs] <;> rfl
theorem asgs_cons (t : Tg) (ts : Tgs) (v : LV) (vs : List LV) : asgs P F (.cons t ts) (v :: vs) ls h = (asg P F t v ls h).bindN (asgs P F ts vs) := by rw [asgs] <;> rfl
theorem es_ex (e : Ex) : evS P F (.ex e) ls h = (evE P F e ls h).toS ls (kEx ls) := by rw [evS] <;> rfl
theorem es_set (t : Tg) (e : Ex) : evS P F (.set t e) ls h = (evE P F e ls h).toS ls (kSet P F t ls) := by rw [evS] <;> rfl
theorem es_par (is : List Nat) (es : Exs) : evS P F (.par is es) ls h = (evEs P F es ls h).toS ls (kPar is ls) := by rw [evS] <;> rfl
theorem es_agN (i : Nat) (sub : Bool) (e : Ex) : evS P F (.agN i sub e) ls h = (slotE ls i h).toS ls (kAg1 P F i sub e ls) := by rw [evS] <;> rfl
theorem es_iff (c : Ex) (a b : Sms) : evS P F (.iff c a b) ls h = (evE P F c ls h).toS ls (kI1 P F a b ls) := by rw [evS] <;> rfl
theorem es_ret (e : Ex) : evS P F (.ret e) ls h = (evE P F e ls h).toS ls SR.rt := by rw [evS] <;> rfl
theorem es_retN : evS P F .retN ls h = .rt .non h := by rw [evS] <;> rfl
theorem es_rse (c : Nat) : evS P F (.rse c) ls h = .exc c none ls h := by rw [evS] <;> rfl
theorem es_pass : evS P F .pass ls h = .nx ls h := by rw [evS] <;> rfl
theorem es_cont : evS P F .cont ls h = .ct ls h := by rw [evS] <;> rfl
theorem es_nil : evSs P F .nil ls h = .nx ls h := by rw [evSs] <;> rfl
theorem es_cons (s : Sm) (ss : Sms) : evSs P F (.cons s ss) ls h = (evS P F s ls h).thn (evSs P F ss) := by rw [evSs] <;> rfl
theorem es_fst (o : Ex) (f : Nat) (e : Ex) : evS P F (.fst o f e) ls h = (evE P F e ls h).toS ls fun v h1 => (evE P F o ls h1).toS ls fun x h2 => (pFst P x f v h2).toS ls fun _ h3 => .nx ls h3 := by rw [evS]
theorem ev_B2f (e e2 : Ex) (es : Exs) : evB P F false (.cons e (.cons e2 es)) ls h = (evE P F e ls h).bind (kBf P F (.cons e2 es) ls) := by
  rw [evB]
  cases evE P F e ls h <;> first | rfl | skip
  rename_i x h1
  show (asB x h1).bind _ = (asB x h1).bind _
  cases asB x h1 <;> first | rfl | skip
  rename_i b h2
  cases b <;> rfl
theorem ev_B2t (e e2 : Ex) (es : Exs) : evB P F true (.cons e (.cons e2 es)) ls h = (evE P F e ls h).bind (kBt P F (.cons e2 es) ls) := by
  rw [evB]
  cases evE P F e ls h <;> first | rfl | skip
  rename_i x h1
  show (asB x h1).bind _ = (asB x h1).bind _
  cases asB x h1 <;> first | rfl | skip
  rename_i b h2
  cases b <;> rfl
theorem ite_T {α : Type} (a b : α) : (if true = true then a else b) = a := rfl
theorem ite_F {α : Type} (a b : α) : (if false = true then a else b) = b := rfl
theorem ite_TT {α : Type} [Decidable True] (a b : α) : (if True then a else b) = a := if_pos trivial
theorem ite_FF {α : Type} [Decidable False] (a b : α) : (if False then a else b) = b := if_neg id
theorem t_and (b : Bool) : (true && b) = b := rfl
theorem f_and (b : Bool) : (false && b) = false := rfl
theorem and_t (b : Bool) : (b && true) = b := Bool.and_true b
theorem and_f (b : Bool) : (b && false) = false := Bool.and_false b
theorem t_or (b : Bool) : (true || b) = true := rfl
theorem f_or (b : Bool) : (false || b) = b := rfl
theorem not_T : (!true) = false := rfl
theorem not_F : (!false) = true := rfl
theorem map1_ {α β : Type} (f : α → β) (a : α) (l : List α) : (a :: l).map f = f a :: l.map f := rfl
theorem app_c {α : Type} (a : α) (l m : List α) : (a :: l) ++ m = a :: (l ++ m) := rfl
theorem app_n {α : Type} (m : List α) : [] ++ m = m := rfl
theorem rep0 {α : Type} (a : α) : List.replicate 0 a = [] := rfl
theorem repS {α : Type} (n : Nat) (a : α) : List.replicate (n + 1) a = a :: List.replicate n a := rfl
theorem len0 {α : Type} : ([] : List α).length = 0 := rfl
theorem lenS {α : Type} (a : α) (l : List α) : (a :: l).length = l.length + 1 := rfl
theorem sub_n (n : Nat) : n - n = 0 := Nat.sub_self n
end
theorem slot0 (v : LV) (ls : LSt) (h : LH) : slotE (some v :: ls) 0 h = .ok v h := rfl
theorem slotS (o : Option LV) (ls : LSt) (i : Nat) (h : LH) : slotE (o :: ls) (i + 1) h = slotE ls i h := rfl
theorem fin_nx (ls : LSt) (h : LH) : fin (.nx ls h) = .ok .non h := rfl
theorem fin_rt (v : LV) (h : LH) : fin (.rt v h) = .ok v h := rfl
theorem fin_exc (c : Nat) (p : Option LV) (ls : LSt) (h : LH) : fin (.exc c p ls h) = .exc c p h := rfl
theorem glo_eq {P : Prg} {g : Nat} {v : LV} (e : (P.glo[g]?).map (·.2) = some v) (F : FT) (ls : LSt) (h : LH) : evE P F (.glo g) ls h = .ok v h := by
  rw [evE]
  obtain ⟨y, e1, e2⟩ := Option.map_eq_some_iff.mp e
  rw [e1, ← e2]
theorem Fx.call1 {P : Prg} {k : Nat} {b : Sms} {nN : Nat} {dv : List LV} (f : Fx P k b 1 nN dv false) (F : FT) (a : LV) (h : LH) : callF P F k [a] h = F k [a] h := f.call _ _ _ rfl
theorem Fx.call2 {P : Prg} {k : Nat} {b : Sms} {nN : Nat} {dv : List LV} (f : Fx P k b 2 nN dv false) (F : FT) (a c : LV) (h : LH) : callF P F k [a, c] h = F k [a, c] h := f.call _ _ _ rfl
theorem Fx.call3 {P : Prg} {k : Nat} {b : Sms} {nN : Nat} {dv : List LV} (f : Fx P k b 3 nN dv false) (F : FT) (a c d : LV) (h : LH) : callF P F k [a, c, d] h = F k [a, c, d] h := f.call _ _ _ rfl
theorem Fx.call4 {P : Prg} {k : Nat} {b : Sms} {nN : Nat} {dv : List LV} (f : Fx P k b 4 nN dv false) (F : FT) (a c d e : LV) (h : LH) : callF P F k [a, c, d, e] h = F k [a, c, d, e] h := f.call _ _ _ rfl
theorem Fx.call23 {P : Prg} {k : Nat} {b : Sms} {nN : Nat} {v : LV} (f : Fx P k b 3 nN [v] false) (F : FT) (a c : LV) (h : LH) : callF P F k [a, c] h = F k [a, c, v] h := by
  obtain ⟨fi, e, rfl, e1, rfl, e2, hk⟩ := f.ex
  unfold callF
  rw [e]
  unfold fillA
  dsimp only
  rw [e1, e2, if_pos ⟨hk, by simp, by simp⟩]
  rfl
end LD
end
section
set_option Elab.async false
set_option linter.all false
set_option maxRecDepth 100000
/-! LGB: the primitives, by values -/
namespace LD
open L2
section
variable (h : LH)
theorem p2_add (x y : LV) : p2 .add x y h = pAdd x y h := rfl
theorem p2_sub (x y : LV) : p2 .sub x y h = pSub x y h := rfl
theorem p2_mul (x y : LV) : p2 .mul x y h = pMul x y h := rfl
theorem p2_fdiv (x y : LV) : p2 .fdiv x y h = pFdiv x y h := rfl
theorem p2_mod (x y : LV) : p2 .mod x y h = pMod x y h := rfl
theorem p2_pow (x y : LV) : p2 .pow x y h = pPow x y h := rfl
theorem p2_eq (x y : LV) : p2 .eq x y h = pEq x y h := rfl
theorem p2_ne (x y : LV) : p2 .ne x y h = pNe x y h := rfl
theorem p2_lt (i j : Int) : p2 .lt (.int i) (.int j) h = .ok (.bl (decide (i < j))) h := rfl
theorem p2_le (i j : Int) : p2 .le (.int i) (.int j) h = .ok (.bl (decide (i ≤ j))) h := rfl
theorem p2_gt (i j : Int) : p2 .gt (.int i) (.int j) h = .ok (.bl (decide (j < i))) h := rfl
theorem p2_ge (i j : Int) : p2 .ge (.int i) (.int j) h = .ok (.bl (decide (j ≤ i))) h := rfl
theorem p2_in (x y : LV) : p2 .isin x y h = pIn x y h := rfl
theorem p2_nin (x y : LV) : p2 .notin x y h = pNotIn x y h := rfl
theorem p2_idx (x y : LV) : p2 .idx x y h = pIdx x y h := rfl
theorem p2_eqd (x y : LV) : p2 .eqd x y h = pEqD x y h := rfl
end
def kCh4 (y : LV) (z : LV) (h : LH) : Res LV := p2 .le y z h
def kCh3 (P : Prg) (F : FT) (c : Ex) (ls : LSt) (y : LV) (k : Bool) (h : LH) : Res LV := if k = true then (evE P F c ls h).bind (p2 .le y) else .ok (.bl false) h
theorem kCh3_T (P : Prg) (F : FT) (c : Ex) (ls : LSt) (y : LV) (h : LH) : kCh3 P F c ls y true h = (evE P F c ls h).bind (p2 .le y) := rfl
theorem kCh3_F (P : Prg) (F : FT) (c : Ex) (ls : LSt) (y : LV) (h : LH) : kCh3 P F c ls y false h = .ok (.bl false) h := rfl
def kCh2b (P : Prg) (F : FT) (c : Ex) (ls : LSt) (y : LV) (k : LV) (h : LH) : Res LV := (asB k h).bind (kCh3 P F c ls y)
theorem kCh2b_eq (P : Prg) (F : FT) (c : Ex) (ls : LSt) (y : LV) (k : LV) (h : LH) : kCh2b P F c ls y k h = (asB k h).bind (kCh3 P F c ls y) := rfl
def kCh2 (P : Prg) (F : FT) (c : Ex) (ls : LSt) (x y : LV) (h : LH) : Res LV := (p2 .le x y h).bind (kCh2b P F c ls y)
theorem kCh2_eq (P : Prg) (F : FT) (c : Ex) (ls : LSt) (x y : LV) (h : LH) : kCh2 P F c ls x y h = (p2 .le x y h).bind (kCh2b P F c ls y) := rfl
def kCh1 (P : Prg) (F : FT) (b c : Ex) (ls : LSt) (x : LV) (h : LH) : Res LV := (evE P F b ls h).bind (kCh2 P F c ls x)
theorem kCh1_eq (P : Prg) (F : FT) (b c : Ex) (ls : LSt) (x : LV) (h : LH) : kCh1 P F b c ls x h = (evE P F b ls h).bind (kCh2 P F c ls x) := rfl
theorem ev_chn (P : Prg) (F : FT) (ls : LSt) (h : LH) (a b c : Ex) : evE P F (.chn a b c) ls h = (evE P F a ls h).bind (kCh1 P F b c ls) := by
  rw [evE]
  congr 1; funext x h1
  show (evE P F b ls h1).bind _ = (evE P F b ls h1).bind _
  congr 1; funext y h2
  show (p2 .le x y h2).bind _ = (p2 .le x y h2).bind _
  cases p2 .le x y h2 with
  | ok k h3 => cases k with
    | bl k => cases k <;> rfl
    | _ => rfl
  | exc c p h => rfl
  | bad => rfl
def kBm (P : Prg) (F : FT) (m : Bm) (xs : Exs) (ls : LSt) (x : LV) (h : LH) : Res LV := if bmT m x h = true then (evEs P F xs ls h).bind (pM m x) else .bad
theorem kBm_eq (P : Prg) (F : FT) (m : Bm) (xs : Exs) (ls : LSt) (x : LV) (h : LH) : kBm P F m xs ls x h = if bmT m x h = true then (evEs P F xs ls h).bind (pM m x) else .bad := rfl
section
variable (h : LH)
theorem pB_len (x : List LV) : pB .len x h = pLen x h := rfl
theorem pB_abs (i : Int) : pB .abs [.int i] h = .ok (.int (if i < 0 then -i else i)) h := rfl
theorem pB_sum (x : List LV) : pB .sum x h = pSum x h := rfl
theorem pB_list (x : List LV) : pB .list x h = pList x h := rfl
theorem pB_tuple (x : List LV) : pB .tuple x h = pTuple x h := rfl
theorem pB_dict (x : List LV) : pB .dict x h = pDict x h := rfl
theorem pB_max2 (i j : Int) : pB .max2 [.int i, .int j] h = .ok (.int (if j > i then j else i)) h := rfl
theorem pB_min2 (i j : Int) : pB .min2 [.int i, .int j] h = .ok (.int (if j < i then j else i)) h := rfl
theorem pM_app (a : LV) (x : List LV) : pM .append a x h = pAppend a x h := rfl
theorem pM_pop (a : LV) (x : List LV) : pM .popAt a x h = pPopAt a x h := rfl
theorem pM_get (a : LV) (x : List LV) : pM .get2 a x h = pGet2 a x h := rfl
theorem asB_bl (b : Bool) : asB (.bl b) h = .ok b h := rfl
theorem asI_int (i : Int) : asI (.int i) h = .ok (some i) h := rfl
theorem isN_non (ng : Bool) : isNM ng .non h = .ok (.bl (!ng)) h := rfl
theorem isN_int (ng : Bool) (i : Int) : isNM ng (.int i) h = .ok (.bl ng) h := rfl
theorem isN_ref (ng : Bool) (i : Nat) : isNM ng (.ref i) h = .ok (.bl ng) h := rfl
theorem isN_str (ng : Bool) (i : List Nat) : isNM ng (.str i) h = .ok (.bl ng) h := rfl
theorem isN_tup (ng : Bool) (i : List LV) : isNM ng (.tup i) h = .ok (.bl ng) h := rfl
theorem add_int (i j : Int) : pAdd (.int i) (.int j) h = .ok (.int (i + j)) h := rfl
theorem sub_int (i j : Int) : pSub (.int i) (.int j) h = .ok (.int (i - j)) h := rfl
theorem neg_int (i : Int) : pNeg (.int i) h = .ok (.int (-i)) h := rfl
theorem mul_int {i j : Int} (c : mulOk i j = true) : pMul (.int i) (.int j) h = .ok (.int (i * j)) h := by
  show (if mulOk i j then _ else _) = _
  rw [if_pos c]
theorem mulOk_l {i j : Int} (h1 : -18446744073709551616 < i) (h2 : i < 18446744073709551616) : mulOk i j = true := by
  unfold mulOk; simp [h1, h2]
theorem mulOk_r {i j : Int} (h1 : -18446744073709551616 < j) (h2 : j < 18446744073709551616) : mulOk i j = true := by
  unfold mulOk; simp [h1, h2]
theorem mul_l {i j : Int} (h1 : -18446744073709551616 < i) (h2 : i < 18446744073709551616) : pMul (.int i) (.int j) h = .ok (.int (i * j)) h := mul_int h (mulOk_l h1 h2)
theorem mul_r {i j : Int} (h1 : -18446744073709551616 < j) (h2 : j < 18446744073709551616) : pMul (.int i) (.int j) h = .ok (.int (i * j)) h := mul_int h (mulOk_r h1 h2)
theorem fdiv_int {i j : Int} (h1 : 0 < j) (h2 : j < 1073741824) : pFdiv (.int i) (.int j) h = .ok (.int (i / j)) h := by
  show (if 0 < j ∧ j < 1073741824 then _ else _) = _
  rw [if_pos ⟨h1, h2⟩]
theorem mod_int {i j : Int} (h1 : 0 < j) : pMod (.int i) (.int j) h = .ok (.int (i % j)) h := by
  show (if 0 < j then _ else _) = _
  rw [if_pos h1]
theorem eq_int (i j : Int) : pEq (.int i) (.int j) h = .ok (.bl (i == j)) h := rfl
theorem eq_str (x y : List Nat) : pEq (.str x) (.str y) h = .ok (.bl (x == y)) h := rfl
theorem eq_bl (x y : Bool) : pEq (.bl x) (.bl y) h = .ok (.bl (x == y)) h := rfl
theorem ne_int (i j : Int) : pNe (.int i) (.int j) h = .ok (.bl (!(i == j))) h := rfl
theorem ne_str (x y : List Nat) : pNe (.str x) (.str y) h = .ok (.bl (!(x == y))) h := rfl
theorem got_some (v : LV) : got (some v) h = .ok v h := rfl
theorem idx_tup (xs : List LV) (i : Int) : pIdx (.tup xs) (.int i) h = got (atI xs i) h := rfl
theorem idx_ktu (xs : List LV) (i : Int) : pIdx (.ktu xs) (.int i) h = got (atI xs i) h := rfl
theorem idx_frl (xs : List LV) (i : Int) : pIdx (.frl xs) (.int i) h = got (atI xs i) h := rfl
theorem idx_lst {r : Nat} {xs : List LV} (e : h[r]? = some (.lst xs)) (i : Int) : pIdx (.ref r) (.int i) h = got (atI xs i) h := by
  simp only [pIdx, dicOf, e, pSeqIdx, lstOf]
theorem idx_dK {r : Nat} {kvs : List (LV × LV)} (e : h[r]? = some (.dK kvs)) {k : LV} (hk : (keyOf k).isSome = true) : pIdx (.ref r) k h = got (dget kvs k) h := by
  simp only [pIdx, dicOf, e, fits, hk, if_true, Bool.false_eq_true, if_false]
theorem len_tup (xs : List LV) : pLen [.tup xs] h = .ok (.int xs.length) h := rfl
theorem len_ktu (xs : List LV) : pLen [.ktu xs] h = .ok (.int xs.length) h := rfl
theorem len_frl (xs : List LV) : pLen [.frl xs] h = .ok (.int xs.length) h := rfl
theorem len_str {x : List Nat} (hx : x.length ≤ 16777216) : pLen [.str x] h = .ok (.int x.length) h := by
  show (if x.length ≤ 16777216 then _ else _) = _; rw [if_pos hx]
theorem len_lst {r : Nat} {xs : List LV} (e : h[r]? = some (.lst xs)) : pLen [.ref r] h = .ok (.int xs.length) h := by
  unfold pLen lstOf; dsimp only; rw [e]
theorem len_dK {r : Nat} {xs : List (LV × LV)} (e : h[r]? = some (.dK xs)) : pLen [.ref r] h = .ok (.int xs.length) h := by
  unfold pLen lstOf dicOf; dsimp only; rw [e]; rfl
theorem app_lst {r : Nat} {xs : List LV} (e : h[r]? = some (.lst xs)) (hx : xs.length < 16777216) (v : LV) : pAppend (.ref r) [v] h = .ok .non (h.set r (.lst (xs ++ [v]))) := by
  unfold pAppend; dsimp only; rw [e]; dsimp only; rw [if_pos hx]
theorem bmT_lst {r : Nat} {xs : List LV} (e : h[r]? = some (.lst xs)) (m : Bm) (hm : m = .append ∨ m = .popAt) : bmT m (.ref r) h = true := by
  rcases hm with rfl | rfl <;> (unfold bmT lstOf; dsimp only; rw [e]; rfl)
theorem ev_bme (P : Prg) (F : FT) (ls : LSt) (m : Bm) (o : Ex) (xs : Exs) : evE P F (.bme m o xs) ls h = (evE P F o ls h).bind (kBm P F m xs ls) := by rw [evE] <;> rfl
theorem newL_ok {xs : List LV} (hx : xs.length ≤ 16777216) : newL xs h = .ok (.ref h.length) (h ++ [.lst xs]) := by unfold newL; rw [if_pos hx]
theorem list_lst {r : Nat} {xs : List LV} (e : h[r]? = some (.lst xs)) : pList [.ref r] h = newL xs h := by
  unfold pList lstOf; dsimp only; rw [e]
theorem list_tup (xs : List LV) : pList [.tup xs] h = newL xs h := rfl
theorem list_ktu (xs : List LV) : pList [.ktu xs] h = newL xs h := rfl
theorem list_dK {r : Nat} {xs : List (LV × LV)} (e : h[r]? = some (.dK xs)) : pList [.ref r] h = newL (xs.map (·.1)) h := by
  unfold pList lstOf tupOf; dsimp only; rw [e]
theorem dict_dK {r : Nat} {xs : List (LV × LV)} (e : h[r]? = some (.dK xs)) : pDict [.ref r] h = .ok (.ref h.length) (h ++ [.dK xs]) := by
  unfold pDict; dsimp only; rw [e]
theorem tuple_lst {r : Nat} {xs : List LV} (e : h[r]? = some (.lst xs)) : pTuple [.ref r] h = .ok (.tup xs) h := by
  unfold pTuple lstOf; dsimp only; rw [e]
theorem slice_lst {r : Nat} {xs : List LV} (e : h[r]? = some (.lst xs)) (lo hi : Option Int) : pSlice (.ref r) lo hi h = newL (cutL xs lo hi) h := by
  unfold pSlice lstOf; dsimp only; rw [e]
theorem slice_tup (xs : List LV) (lo hi : Option Int) : pSlice (.tup xs) lo hi h = .ok (.tup (cutL xs lo hi)) h := rfl
theorem slice_frl (xs : List LV) (lo hi : Option Int) : pSlice (.frl xs) lo hi h = newL (cutL xs lo hi) h := rfl
theorem lvl_dK {r : Nat} {xs : List (LV × LV)} (e : h[r]? = some (.dK xs)) : pLvl (.ref r) h = newL (xs.map (·.2)) h := by
  unfold pLvl; dsimp only; rw [e]
theorem setD {r : Nat} {kvs : List (LV × LV)} (e : h[r]? = some (.dK kvs)) {k : LV} (hk : (keyOf k).isSome = true) (hl : kvs.length < 16777216) (v : LV) : pSet (.ref r) k v h = .ok .non (h.set r (.dK (dput kvs k v))) := by
  unfold pSet; dsimp only; rw [e]; dsimp only; rw [if_pos ⟨hk, hl⟩]
theorem setL {r j : Nat} {xs : List LV} (e : h[r]? = some (.lst xs)) {i : Int} (hi : ixN xs.length i = some j) (v : LV) : pSet (.ref r) (.int i) v h = .ok .non (h.set r (.lst (xs.set j v))) := by
  unfold pSet; dsimp only; rw [e]; dsimp only; rw [hi]
theorem fld_at {P : Prg} {r c j f : Nat} {fs : List LV} {ci : ClI} (e : h[r]? = some (.ins c fs)) (ec : P.cls[c]? = some ci) (ef : ci.fs.idxOf f = j) : pFld P (.ref r) f h = got (fs[j]?) h := by
  unfold pFld; dsimp only; rw [e]; dsimp only; rw [ec]; dsimp only; rw [ef]
/-! ### isinstance -/
theorem isi_of {n : Nat} {ts : List Tq} {a : LV} {t : Tq} (e : tqOf h a = some t) (ht : okTq n t = true) (hs : ts.all (okTq n) = true) : pIsi n ts a h = .ok (.bl (ts.any (isiQ t))) h := by
  unfold pIsi; rw [e]; dsimp only; rw [ht, hs]; rfl
theorem isi_str (n : Nat) (x : List Nat) : pIsi n [.ty 0] (.str x) h = .ok (.bl true) h := rfl
theorem isi_int (n : Nat) (i : Int) : pIsi n [.ty 1] (.int i) h = .ok (.bl true) h := rfl
theorem isi_intb (n : Nat) (i : Int) : pIsi n [.ty 2] (.int i) h = .ok (.bl false) h := rfl
theorem isi_blb (n : Nat) (b : Bool) : pIsi n [.ty 2] (.bl b) h = .ok (.bl true) h := rfl
theorem isi_intl (n : Nat) (i : Int) : pIsi n [.ty 3] (.int i) h = .ok (.bl false) h := rfl
theorem isi_tup (n : Nat) (xs : List LV) : pIsi n [.ty 4] (.tup xs) h = .ok (.bl true) h := rfl
theorem isi_tup2 (n : Nat) (xs : List LV) : pIsi n [.ty 3, .ty 4] (.tup xs) h = .ok (.bl true) h := rfl
theorem isi_ktu2 (n : Nat) (xs : List LV) : pIsi n [.ty 3, .ty 4] (.ktu xs) h = .ok (.bl true) h := rfl
theorem isi_lst2 {r : Nat} {xs : List LV} (e : h[r]? = some (.lst xs)) (n : Nat) : pIsi n [.ty 3, .ty 4] (.ref r) h = .ok (.bl true) h := isi_of h (t := .ty 3) (by simp only [tqOf, e]) rfl rfl
theorem isi_lst1 {r : Nat} {xs : List LV} (e : h[r]? = some (.lst xs)) (n : Nat) : pIsi n [.ty 3] (.ref r) h = .ok (.bl true) h := isi_of h (t := .ty 3) (by simp only [tqOf, e]) rfl rfl
theorem isi_dKd {r : Nat} {xs : List (LV × LV)} (e : h[r]? = some (.dK xs)) (n : Nat) : pIsi n [.ty 5] (.ref r) h = .ok (.bl true) h := isi_of h (t := .ty 5) (by simp only [tqOf, e]) rfl rfl
theorem isi_dKl {r : Nat} {xs : List (LV × LV)} (e : h[r]? = some (.dK xs)) (n : Nat) : pIsi n [.ty 3] (.ref r) h = .ok (.bl false) h := isi_of h (t := .ty 5) (by simp only [tqOf, e]) rfl rfl
end
/-! ### indices -/
theorem atI_lit {α : Type} (xs : List α) (k : Nat) : atI xs (no_index (@OfNat.ofNat Int k instOfNat)) = xs[k]? := by
  show atI xs (k : Int) = _
  cases e : xs[k]? with
  | some v => exact atI_nat e
  | none =>
    unfold atI ixN
    have hl : xs.length ≤ k := by simpa using e
    rw [if_pos (by omega), if_neg (by omega)]; rfl
theorem atI_of {α : Type} {xs : List α} {i : Int} (h1 : 0 ≤ i) : atI xs i = xs[i.toNat]? := by
  obtain ⟨k, rfl⟩ := Int.eq_ofNat_of_zero_le h1
  show atI xs ((k : Nat) : Int) = _
  rw [show ((k : Int)).toNat = k from rfl]
  cases e : xs[k]? with
  | some v => exact atI_nat e
  | none =>
    unfold atI ixN
    have hl : xs.length ≤ k := by simpa using e
    rw [if_pos (by omega), if_neg (by omega)]; rfl
theorem get0 {α : Type} (a : α) (l : List α) : (a :: l)[0]? = some a := rfl
theorem getS {α : Type} (a : α) (l : List α) (i : Nat) : (a :: l)[i + 1]? = l[i]? := rfl
theorem set0 {α : Type} (a b : α) (l : List α) : (a :: l).set 0 b = b :: l := rfl
theorem setS {α : Type} (a b : α) (l : List α) (i : Nat) : (a :: l).set (i + 1) b = a :: l.set i b := rfl
/-! ### equality, membership -/
theorem memV_str (h : LH) (x : List Nat) : ∀ ys : List (List Nat), memV h (.str x) (ys.map .str) = some (decide (x ∈ ys))
  | [] => by simp [memV]
  | y :: ys => by
    rw [List.map_cons, memV, memV_str h x ys]
    show some ((y == x) || _) = _
    by_cases q : x = y
    · subst q; simp
    · have : (y == x) = false := by simpa using fun z => q z.symm
      simp [this, q]
theorem in_lstS {h : LH} {r : Nat} {ys : List (List Nat)} (e : h[r]? = some (.lst (ys.map .str))) {x : List Nat} : pIn (.str x) (.ref r) h = .ok (.bl (decide (x ∈ ys))) h := by
  unfold pIn
  split
  · rename_i z; cases z
  · unfold lstOf; dsimp only; rw [e]; dsimp only; rw [memV_str]
theorem in_ktuS {h : LH} {ys : List (List Nat)} {x : List Nat} : pIn (.str x) (.ktu (ys.map .str)) h = .ok (.bl (decide (x ∈ ys))) h := by
  unfold pIn
  split
  · rename_i z; cases z
  · unfold lstOf tupOf; dsimp only; rw [memV_str]
theorem in_sign {h : LH} {c : Nat} {y : List Nat} : pIn (.str [c]) (.str y) h = .ok (.bl (decide (c ∈ y))) h := rfl
theorem in_dK {h : LH} {r : Nat} {kvs : List (LV × LV)} (e : h[r]? = some (.dK kvs)) {k : LV} (hk : (keyOf k).isSome = true) : pIn k (.ref r) h = .ok (.bl (dget kvs k).isSome) h := by
  unfold pIn
  split
  · rename_i z; cases z
  · unfold lstOf tupOf dicOf; dsimp only; rw [e]; dsimp only; unfold fits; rw [if_pos (by simpa using hk)]
end LD
end
section
set_option Elab.async false
set_option linter.all false
set_option maxRecDepth 100000
/-! LGC: frames, loops, comprehensions -/
namespace LD
open L2
/-- h' is h but for the places in S and new ones -/
def Fr (S : Nat → Prop) (h h' : LH) : Prop := h.length ≤ h'.length ∧ ∀ i, i < h.length → ¬ S i → h'[i]? = h[i]?
theorem lt_of {h : LH} {i : Nat} {o : LO} (e : h[i]? = some o) : i < h.length := (List.getElem?_eq_some_iff.mp e).1
theorem Fr.refl (S : Nat → Prop) (h : LH) : Fr S h h := ⟨Nat.le_refl _, fun _ _ _ => rfl⟩
theorem Fr.trans {S : Nat → Prop} {h h1 h2 : LH} (a : Fr S h h1) (b : Fr S h1 h2) : Fr S h h2 :=
  ⟨Nat.le_trans a.1 b.1, fun i hi hs => by rw [b.2 i (Nat.lt_of_lt_of_le hi a.1) hs, a.2 i hi hs]⟩
theorem Fr.mono {S T : Nat → Prop} {h h1 : LH} (a : Fr S h h1) (m : ∀ i, i < h.length → S i → T i) : Fr T h h1 := ⟨a.1, fun i hi hs => a.2 i hi fun z => hs (m i hi z)⟩
/-- new places of the first step may be changed by the second -/
theorem Fr.seq {S T : Nat → Prop} {h h1 h2 : LH} (a : Fr S h h1) (b : Fr T h1 h2) (m : ∀ i, i < h.length → T i → S i) : Fr S h h2 :=
  ⟨Nat.le_trans a.1 b.1, fun i hi hs => by rw [b.2 i (Nat.lt_of_lt_of_le hi a.1) (fun z => hs (m i hi z)), a.2 i hi hs]⟩
theorem Fr.app (S : Nat → Prop) (h g : LH) : Fr S h (h ++ g) := ⟨by simp, fun i hi _ => List.getElem?_append_left hi⟩
theorem Fr.set {S : Nat → Prop} {h : LH} {d : Nat} (o : LO) (hd : S d) : Fr S h (h.set d o) := ⟨by simp, fun i hi hs => List.getElem?_set_ne (fun (z : d = i) => hs (z ▸ hd))⟩
theorem Fr.get {S : Nat → Prop} {h h' : LH} (a : Fr S h h') {i : Nat} {o : LO} (e : h[i]? = some o) (hs : ¬ S i) : h'[i]? = some o := by rw [a.2 i (lt_of e) hs]; exact e
abbrev noS : Nat → Prop := fun _ => False
theorem Fr.get0 {h h' : LH} (a : Fr noS h h') {i : Nat} {o : LO} (e : h[i]? = some o) : h'[i]? = some o := a.get e id
theorem Fr.any {S : Nat → Prop} {h h' : LH} (a : Fr noS h h') : Fr S h h' := a.mono fun _ _ z => z.elim

/-! ### loops -/
section
variable {t : LV → LSt → LH → Res LSt} {b : LSt → LH → SR}
theorem loop_go {w : Wk} {xs : List LV} (I : Nat → LSt → LH → Prop) (hw : ∀ i ls h, I i ls h → nxW w i h = some xs[i]?)
    (step : ∀ i x ls h, xs[i]? = some x → I i ls h → ∃ ls1 h1, t x ls h = .ok ls1 h1 ∧ ∃ ls2 h2, (b ls1 h1 = .nx ls2 h2 ∨ b ls1 h1 = .ct ls2 h2) ∧ I (i + 1) ls2 h2) :
    ∀ (k i : Nat) (ls : LSt) (h : LH), I i ls h → i + k = xs.length → ∃ ls' h', loopG w t b k i ls h = .nx ls' h' ∧ I xs.length ls' h'
  | 0, i, ls, h, hi, e => by
    refine ⟨ls, h, ?_, by have : i = xs.length := by omega
                          rw [this] at hi; exact hi⟩
    rw [loopG, hw i ls h hi, List.getElem?_eq_none (by omega)]
  | k + 1, i, ls, h, hi, e => by
    have hlt : i < xs.length := by omega
    obtain ⟨ls1, h1, e1, ls2, h2, e2, hI⟩ := step i xs[i] ls h (by simp [hlt]) hi
    obtain ⟨ls', h', e3, hI'⟩ := loop_go I hw step k (i + 1) ls2 h2 hI (by omega)
    refine ⟨ls', h', ?_, hI'⟩
    rw [loopG, hw i ls h hi, List.getElem?_eq_getElem hlt]
    dsimp only
    rw [e1]
    show (b ls1 h1).turn _ = _
    rcases e2 with e2 | e2 <;> rw [e2] <;> exact e3
theorem loop_told {xs : List LV} (I : Nat → LSt → LH → Prop) (step : ∀ i x ls h, xs[i]? = some x → I i ls h → ∃ ls1 h1, t x ls h = .ok ls1 h1 ∧ ∃ ls2 h2, (b ls1 h1 = .nx ls2 h2 ∨ b ls1 h1 = .ct ls2 h2) ∧ I (i + 1) ls2 h2)
    {ls : LSt} {h : LH} (h0 : I 0 ls h) : ∃ ls' h', loopOf t b (.told xs) ls h = .nx ls' h' ∧ I xs.length ls' h' :=
  loop_go (w := .told xs) I (fun _ _ _ _ => rfl) step _ 0 ls h h0 (by simp [fuelW])
theorem loop_at {m : Nat} {xs : List LV} (I : Nat → LSt → LH → Prop) (hm : ∀ i ls h, I i ls h → h[m]? = some (.lst xs)) (step : ∀ i x ls h, xs[i]? = some x → I i ls h → ∃ ls1 h1, t x ls h = .ok ls1 h1 ∧ ∃ ls2 h2, (b ls1 h1 = .nx ls2 h2 ∨ b ls1 h1 = .ct ls2 h2) ∧ I (i + 1) ls2 h2)
    {ls : LSt} {h : LH} (h0 : I 0 ls h) : ∃ ls' h', loopOf t b (.at_ m xs.length) ls h = .nx ls' h' ∧ I xs.length ls' h' :=
  loop_go (w := .at_ m xs.length) I (fun i ls h hi => by simp only [nxW, hm i ls h hi]) step _ 0 ls h h0 (by simp [fuelW])
end
/-! ### comprehensions -/
section
variable {t : LV → LSt → LH → Res LSt} {q : LSt → LH → Res Bool} {e : LSt → LH → Res LV} {ls : LSt}
theorem comp_go {w : Wk} {xs : List LV} (I : Nat → List LV → LH → Prop) (hw : ∀ i acc h, I i acc h → nxW w i h = some xs[i]?)
    (step : ∀ i x acc h, xs[i]? = some x → I i acc h → ∃ ls1 h1, t x ls h = .ok ls1 h1 ∧ ∃ b h2, q ls1 h1 = .ok b h2 ∧ (b = true → ∃ v h3, e ls1 h2 = .ok v h3 ∧ acc.length < 16777216 ∧ I (i + 1) (acc ++ [v]) h3) ∧ (b = false → I (i + 1) acc h2)) :
    ∀ (k i : Nat) (acc : List LV) (h : LH), I i acc h → i + k = xs.length → ∃ r h', compG w t q e ls k i acc h = .ok r h' ∧ I xs.length r h'
  | 0, i, acc, h, hi, ek => by
    refine ⟨acc, h, ?_, by have : i = xs.length := by omega
                           rw [this] at hi; exact hi⟩
    rw [compG, hw i acc h hi, List.getElem?_eq_none (by omega)]
  | k + 1, i, acc, h, hi, ek => by
    have hlt : i < xs.length := by omega
    obtain ⟨ls1, h1, e1, b, h2, e2, hT, hF⟩ := step i xs[i] acc h (by simp [hlt]) hi
    rw [compG, hw i acc h hi, List.getElem?_eq_getElem hlt]
    dsimp only
    rw [e1, bindN_ok, e2, bindN_ok]
    cases b with
    | true =>
      obtain ⟨v, h3, e3, hl, hI⟩ := hT rfl
      rw [if_pos rfl, e3, bindN_ok, if_pos hl]
      exact comp_go I hw step k (i + 1) _ h3 hI (by omega)
    | false =>
      rw [if_neg (by simp)]
      exact comp_go I hw step k (i + 1) _ h2 (hF rfl) (by omega)
theorem comp_told {xs : List LV} {own : List Nat} {ls0 : LSt} (I : Nat → List LV → LH → Prop)
    (step : ∀ i x acc h, xs[i]? = some x → I i acc h → ∃ ls1 h1, t x (lwipe ls0 own) h = .ok ls1 h1 ∧ ∃ b h2, q ls1 h1 = .ok b h2 ∧ (b = true → ∃ v h3, e ls1 h2 = .ok v h3 ∧ acc.length < 16777216 ∧ I (i + 1) (acc ++ [v]) h3) ∧ (b = false → I (i + 1) acc h2))
    {h : LH} (h0 : I 0 [] h) : ∃ r h', compOf t q e own (.told xs) ls0 h = .ok r h' ∧ I xs.length r h' :=
  comp_go (w := .told xs) I (fun _ _ _ _ => rfl) step _ 0 [] h h0 (by simp [fuelW])
theorem comp_at {m : Nat} {xs : List LV} {own : List Nat} {ls0 : LSt} (I : Nat → List LV → LH → Prop) (hm : ∀ i acc h, I i acc h → h[m]? = some (.lst xs))
    (step : ∀ i x acc h, xs[i]? = some x → I i acc h → ∃ ls1 h1, t x (lwipe ls0 own) h = .ok ls1 h1 ∧ ∃ b h2, q ls1 h1 = .ok b h2 ∧ (b = true → ∃ v h3, e ls1 h2 = .ok v h3 ∧ acc.length < 16777216 ∧ I (i + 1) (acc ++ [v]) h3) ∧ (b = false → I (i + 1) acc h2))
    {h : LH} (h0 : I 0 [] h) : ∃ r h', compOf t q e own (.at_ m xs.length) ls0 h = .ok r h' ∧ I xs.length r h' :=
  comp_go (w := .at_ m xs.length) I (fun i acc h hi => by simp only [nxW, hm i acc h hi]) step _ 0 [] h h0 (by simp [fuelW])
/-- nothing is changed, nothing is left out -/
theorem comp_pure {w : Wk} {xs : List LV} {f : LV → LV} {own : List Nat} {ls0 : LSt} {h : LH} (hw : w = .told xs ∨ ∃ m, w = .at_ m xs.length ∧ h[m]? = some (.lst xs)) (hl : xs.length ≤ 16777216)
    (step : ∀ x ∈ xs, ∃ ls1, t x (lwipe ls0 own) h = .ok ls1 h ∧ q ls1 h = .ok true h ∧ e ls1 h = .ok (f x) h) : compOf t q e own w ls0 h = .ok (xs.map f) h := by
  have hn : ∀ (i : Nat) (acc : List LV) (h1 : LH), (i ≤ xs.length ∧ acc = (xs.take i).map f ∧ h1 = h) → nxW w i h1 = some xs[i]? := fun i acc h1 hI => by
    rcases hw with rfl | ⟨m, rfl, em⟩
    · rfl
    · simp only [nxW, hI.2.2, em]
  have hf : fuelW w = xs.length := by rcases hw with rfl | ⟨m, rfl, em⟩ <;> rfl
  obtain ⟨r, h', e1, _, e2, e3⟩ := comp_go (w := w) (xs := xs) (t := t) (q := q) (e := e) (ls := lwipe ls0 own) (fun i acc h1 => i ≤ xs.length ∧ acc = (xs.take i).map f ∧ h1 = h) hn (fun i x acc h1 ex hI => by
    obtain ⟨h1', rfl, rfl⟩ := hI
    have hlt : i < xs.length := (List.getElem?_eq_some_iff.mp ex).1
    have hx : xs[i] = x := by simpa [hlt] using ex
    obtain ⟨ls1, s1, s2, s3⟩ := step x (List.mem_of_getElem? ex)
    refine ⟨ls1, _, s1, true, _, s2, fun _ => ⟨f x, _, s3, ?_, ?_⟩, fun z => by cases z⟩
    · simp; omega
    · refine ⟨by omega, ?_, rfl⟩
      rw [List.take_add_one, List.map_append, ex]; rfl) xs.length 0 [] h ⟨by omega, rfl, rfl⟩ (by omega)
  unfold compOf
  rw [hf, e1, e2, e3, List.take_length]
end
section
variable (P : Prg) (F : FT) (ls : LSt) (h : LH)
/-- a comprehension's walk -/
def cmpW (P : Prg) (F : FT) (elt : Ex) (own : List Nat) (tg : Tg) (tst : Ox) (w : Wk) (ls : LSt) (h : LH) : Res (List LV) := compOf (fun v ls h => asg P F tg v ls h) (fun ls h => evQ P F tst ls h) (fun ls h => evE P F elt ls h) own w ls h
end
def kC2 (P : Prg) (F : FT) (k : Ck) (elt : Ex) (own : List Nat) (tg : Tg) (tst : Ox) (ls : LSt) (w : Wk) (h : LH) : Res LV := (cmpW P F elt own tg tst w ls h).bind (pC k)
theorem kC2_eq (P : Prg) (F : FT) (k : Ck) (elt : Ex) (own : List Nat) (tg : Tg) (tst : Ox) (ls : LSt) (w : Wk) (h : LH) : kC2 P F k elt own tg tst ls w h = (cmpW P F elt own tg tst w ls h).bind (pC k) := rfl
def kC1 (P : Prg) (F : FT) (k : Ck) (elt : Ex) (own : List Nat) (tg : Tg) (tst : Ox) (ls : LSt) (v : LV) (h : LH) : Res LV := (walkV v h).bind (kC2 P F k elt own tg tst ls)
theorem kC1_eq (P : Prg) (F : FT) (k : Ck) (elt : Ex) (own : List Nat) (tg : Tg) (tst : Ox) (ls : LSt) (v : LV) (h : LH) : kC1 P F k elt own tg tst ls v h = (walkV v h).bind (kC2 P F k elt own tg tst ls) := rfl
def kC1r (P : Prg) (F : FT) (k : Ck) (elt : Ex) (own : List Nat) (tg : Tg) (tst : Ox) (ls : LSt) (v : LV) (h : LH) : Res LV := (walkR v h).bind (kC2 P F k elt own tg tst ls)
theorem kC1r_eq (P : Prg) (F : FT) (k : Ck) (elt : Ex) (own : List Nat) (tg : Tg) (tst : Ox) (ls : LSt) (v : LV) (h : LH) : kC1r P F k elt own tg tst ls v h = (walkR v h).bind (kC2 P F k elt own tg tst ls) := rfl
def kL2 (P : Prg) (F : FT) (elt : Ex) (own : List Nat) (tg : Tg) (tst : Ox) (ls : LSt) (w : Wk) (h : LH) : Res LV := (cmpW P F elt own tg tst w ls h).bind pLs
theorem kL2_eq (P : Prg) (F : FT) (elt : Ex) (own : List Nat) (tg : Tg) (tst : Ox) (ls : LSt) (w : Wk) (h : LH) : kL2 P F elt own tg tst ls w h = (cmpW P F elt own tg tst w ls h).bind pLs := rfl
def kL1 (P : Prg) (F : FT) (elt : Ex) (own : List Nat) (tg : Tg) (tst : Ox) (ls : LSt) (v : LV) (h : LH) : Res LV := (walkV v h).bind (kL2 P F elt own tg tst ls)
theorem kL1_eq (P : Prg) (F : FT) (elt : Ex) (own : List Nat) (tg : Tg) (tst : Ox) (ls : LSt) (v : LV) (h : LH) : kL1 P F elt own tg tst ls v h = (walkV v h).bind (kL2 P F elt own tg tst ls) := rfl
def kS4 (i : Nat) (ls : LSt) (v : LV) (h : LH) : SR := .nx (ls.set i (some v)) h
theorem kS4_eq (i : Nat) (ls : LSt) (v : LV) (h : LH) : kS4 i ls v h = .nx (ls.set i (some v)) h := rfl
def kS3 (i : Nat) (ls : LSt) (xs : List LV) (h : LH) : SR := (newL xs h).toS ls (kS4 i ls)
theorem kS3_eq (i : Nat) (ls : LSt) (xs : List LV) (h : LH) : kS3 i ls xs h = (newL xs h).toS ls (kS4 i ls) := rfl
def kS2 (P : Prg) (F : FT) (i : Nat) (elt : Ex) (own : List Nat) (tg : Tg) (tst : Ox) (ls : LSt) (w : Wk) (h : LH) : SR := (cmpW P F elt own tg tst w ls h).toS ls (kS3 i ls)
theorem kS2_eq (P : Prg) (F : FT) (i : Nat) (elt : Ex) (own : List Nat) (tg : Tg) (tst : Ox) (ls : LSt) (w : Wk) (h : LH) : kS2 P F i elt own tg tst ls w h = (cmpW P F elt own tg tst w ls h).toS ls (kS3 i ls) := rfl
def kS1 (P : Prg) (F : FT) (i : Nat) (elt : Ex) (own : List Nat) (tg : Tg) (tst : Ox) (ls : LSt) (v : LV) (h : LH) : SR := (walkV v h).toS ls (kS2 P F i elt own tg tst ls)
theorem kS1_eq (P : Prg) (F : FT) (i : Nat) (elt : Ex) (own : List Nat) (tg : Tg) (tst : Ox) (ls : LSt) (v : LV) (h : LH) : kS1 P F i elt own tg tst ls v h = (walkV v h).toS ls (kS2 P F i elt own tg tst ls) := rfl
section
variable (P : Prg) (F : FT) (ls : LSt) (h : LH)
theorem ev_cmpE (k : Ck) (elt : Ex) (own : List Nat) (tg : Tg) (e : Ex) (tst : Ox) : evE P F (.cmp k elt own tg (.exp e) tst) ls h = (evE P F e ls h).bind (kC1 P F k elt own tg tst ls) := by
  rw [evE, evCs]; cases evE P F e ls h <;> first | rfl | skip
  rename_i v h1; show ((walkV v h1).bind _).bind _ = (walkV v h1).bind _; cases walkV v h1 <;> rfl
theorem ev_cmpR (k : Ck) (elt : Ex) (own : List Nat) (tg : Tg) (e : Ex) (tst : Ox) : evE P F (.cmp k elt own tg (.rng e) tst) ls h = (evE P F e ls h).bind (kC1r P F k elt own tg tst ls) := by
  rw [evE, evCs]; cases evE P F e ls h <;> first | rfl | skip
  rename_i v h1; show ((walkR v h1).bind _).bind _ = (walkR v h1).bind _; cases walkR v h1 <;> rfl
theorem ev_lscE (elt : Ex) (own : List Nat) (tg : Tg) (e : Ex) (tst : Ox) : evE P F (.lsc elt own tg (.exp e) tst) ls h = (evE P F e ls h).bind (kL1 P F elt own tg tst ls) := by
  rw [evE, evCs]; cases evE P F e ls h <;> first | rfl | skip
  rename_i v h1; show ((walkV v h1).bind _).bind _ = (walkV v h1).bind _; cases walkV v h1 <;> rfl
/-- a dict's items are walked -/
theorem ev_cmpI {i r : Nat} {kvs : List (LV × LV)} (ev : ∀ h', slotE ls i h' = .ok (.ref r) h') (er : h[r]? = some (.dK kvs)) (k : Ck) (elt : Ex) (own : List Nat) (tg : Tg) (tst : Ox) : evE P F (.cmp k elt own tg (.its (.var i)) tst) ls h = (unlockR r (cmpW P F elt own tg tst (.told (kvs.map fun kv => .tup [kv.1, kv.2])) ls (h.set r (.fK kvs)))).bind (pC k) := by
  have hr := lt_of er
  rw [evE, evCs]
  have e1 : ∀ h', evE P F (.var i) ls h' = .ok (.ref r) h' := fun h' => by rw [evE]; exact ev h'
  rw [e1 h]
  simp only [lockAt, er, e1, bind_ok, walkD, if_true, List.getElem?_set_self hr]
  rfl
theorem es_slcE (i : Nat) (elt : Ex) (own : List Nat) (tg : Tg) (e : Ex) (tst : Ox) : evS P F (.slc i elt own tg (.exp e) tst) ls h = (evE P F e ls h).toS ls (kS1 P F i elt own tg tst ls) := by
  rw [evS, evC, evCs]; cases evE P F e ls h <;> first | rfl | skip
  rename_i v h1; show ((walkV v h1).bind _).toS ls _ = (walkV v h1).toS ls _; cases walkV v h1 <;> rfl
/-- a for's walk -/
def forW (P : Prg) (F : FT) (t : Tg) (body : Sms) (w : Wk) (ls : LSt) (h : LH) : SR := loopOf (fun v ls h => asg P F t v ls h) (fun ls h => evSs P F body ls h) w ls h
end
def kF2 (P : Prg) (F : FT) (t : Tg) (body : Sms) (ls : LSt) (w : Wk) (h : LH) : SR := forW P F t body w ls h
theorem kF2_eq (P : Prg) (F : FT) (t : Tg) (body : Sms) (ls : LSt) (w : Wk) (h : LH) : kF2 P F t body ls w h = forW P F t body w ls h := rfl
def kF1 (P : Prg) (F : FT) (t : Tg) (body : Sms) (ls : LSt) (v : LV) (h : LH) : SR := (walkV v h).toS ls (kF2 P F t body ls)
theorem kF1_eq (P : Prg) (F : FT) (t : Tg) (body : Sms) (ls : LSt) (v : LV) (h : LH) : kF1 P F t body ls v h = (walkV v h).toS ls (kF2 P F t body ls) := rfl
def kF1r (P : Prg) (F : FT) (t : Tg) (body : Sms) (ls : LSt) (v : LV) (h : LH) : SR := (walkR v h).toS ls (kF2 P F t body ls)
theorem kF1r_eq (P : Prg) (F : FT) (t : Tg) (body : Sms) (ls : LSt) (v : LV) (h : LH) : kF1r P F t body ls v h = (walkR v h).toS ls (kF2 P F t body ls) := rfl
section
variable (P : Prg) (F : FT) (ls : LSt) (h : LH)
theorem es_forE (t : Tg) (e : Ex) (body : Sms) : evS P F (.for_ t (.exp e) body) ls h = (evE P F e ls h).toS ls (kF1 P F t body ls) := by
  rw [evS, evFs] <;> rfl
theorem es_forR (t : Tg) (e : Ex) (body : Sms) : evS P F (.for_ t (.rng e) body) ls h = (evE P F e ls h).toS ls (kF1r P F t body ls) := by
  rw [evS, evFs] <;> rfl
end
theorem for_told {P : Prg} {F : FT} {t : Tg} {body : Sms} {xs : List LV} {ls : LSt} {h : LH} (I : Nat → LSt → LH → Prop) (h0 : I 0 ls h)
    (step : ∀ i x ls h, xs[i]? = some x → I i ls h → ∃ ls1 h1, asg P F t x ls h = .ok ls1 h1 ∧ ∃ ls2 h2, (evSs P F body ls1 h1 = .nx ls2 h2 ∨ evSs P F body ls1 h1 = .ct ls2 h2) ∧ I (i + 1) ls2 h2) : ∃ ls' h', forW P F t body (.told xs) ls h = .nx ls' h' ∧ I xs.length ls' h' := loop_told I step h0
theorem for_at {P : Prg} {F : FT} {t : Tg} {body : Sms} {m : Nat} {xs : List LV} {ls : LSt} {h : LH} (I : Nat → LSt → LH → Prop) (hm : ∀ i ls h, I i ls h → h[m]? = some (.lst xs)) (h0 : I 0 ls h)
    (step : ∀ i x ls h, xs[i]? = some x → I i ls h → ∃ ls1 h1, asg P F t x ls h = .ok ls1 h1 ∧ ∃ ls2 h2, (evSs P F body ls1 h1 = .nx ls2 h2 ∨ evSs P F body ls1 h1 = .ct ls2 h2) ∧ I (i + 1) ls2 h2) : ∃ ls' h', forW P F t body (.at_ m xs.length) ls h = .nx ls' h' ∧ I xs.length ls' h' := loop_at I hm step h0
theorem walk_tup (xs : List LV) (h : LH) : walkV (.tup xs) h = .ok (.told xs) h := rfl
theorem walk_ktu (xs : List LV) (h : LH) : walkV (.ktu xs) h = .ok (.told xs) h := rfl
theorem walk_frl (xs : List LV) (h : LH) : walkV (.frl xs) h = .ok (.told xs) h := rfl
theorem walk_str (x : List Nat) (h : LH) : walkV (.str x) h = .ok (.told (x.map fun c => .str [c])) h := rfl
theorem walk_lst {h : LH} {r : Nat} {xs : List LV} (e : h[r]? = some (.lst xs)) : walkV (.ref r) h = .ok (.at_ r xs.length) h := by simp only [walkV, e]
theorem walk_rng {n : Int} (h1 : -4611686018427387904 ≤ n) (h2 : n < 4611686018427387904) (h : LH) : walkR (.int n) h = .ok (.told ((List.range n.toNat).map fun (i : Nat) => LV.int i)) h := by
  simp only [walkR]; rw [if_pos ⟨h1, h2⟩]
theorem blsOf_map {α : Type} (f : α → Bool) : ∀ xs : List α, blsOf (xs.map fun x => LV.bl (f x)) = some (xs.map f)
  | [] => rfl
  | x :: xs => by rw [List.map_cons, blsOf, blsOf_map f xs]; rfl
theorem pC_all {α : Type} (f : α → Bool) (xs : List α) (h : LH) : pC .all (xs.map fun x => LV.bl (f x)) h = .ok (.bl (xs.all f)) h := by
  simp only [pC, blsOf_map, List.all_map]; rfl
theorem strsOf_map : ∀ xs : List (List Nat), strsOf (xs.map LV.str) = some xs
  | [] => rfl
  | x :: xs => by rw [List.map_cons, strsOf, strsOf_map xs]; rfl
theorem intsOf_map : ∀ xs : List Int, intsOf (xs.map LV.int) = some xs
  | [] => rfl
  | x :: xs => by rw [List.map_cons, intsOf, intsOf_map xs]; rfl
end LD
end
section
set_option Elab.async false
set_option linter.all false
set_option maxRecDepth 100000
/-! LGD: names, numbers, levies, rules -/
namespace LD
open L2
local macro_rules
  | `(tactic| simp_arith [$as,*]) => `(tactic| simp only [bind_ok, bind_exc, bindN_ok, toS_ok, toS_exc, thn_nx, thn_rt, thn_ct, thn_exc, turn_nx, turn_ct, turn_rt, parK_some, par_nil, par_cons, kOp2_eq, kNot_eq, kNt_eq, kIte_eq, kTup_eq, kSl2_eq, kSl1_eq, kFld_eq, kMk_eq, kEq1_eq, kCs2_eq, kCs1_eq, kB1b_eq, kB1_eq, kBf_eq, kBt_eq, kSb3_eq, kSb2_eq, kSb1_eq, kEx_eq, kSet_eq, kPar_eq, kAg3_eq, kAg2_eq, kAg1_eq, kI1_eq, kIf_T, kIf_F, kBf2_T, kBf2_F, kBt2_T, kBt2_F, kI2_T, kI2_F, ev_var, ev_con, ev_op2, ev_neg, ev_isN, ev_bop, ev_nt, ev_ite, ev_tup, ev_lst, ev_dnw, ev_dsp, ev_slc, ev_fld, ev_cal, ev_mke, ev_bif, ev_isi, ev_lvl, ev_sst, ev_eqo, ev_nil, ev_cons, ev_B1, ev_O0, ev_O1, ev_Q0, ev_Q1, asg_nm, asg_tp, asg_kt, asg_sb, asgs_nil, asgs_cons, es_ex, es_set, es_par, es_agN, es_iff, es_ret, es_retN, es_rse, es_pass, es_cont, es_nil, es_cons, ev_B2f, ev_B2t, ite_T, ite_F, ite_TT, ite_FF, t_and, f_and, and_t, and_f, t_or, f_or, not_T, not_F, map1_, app_c, app_n, rep0, repS, len0, lenS, sub_n, slot0, slotS, fin_nx, fin_rt, fin_exc, p2_add, p2_sub, p2_mul, p2_fdiv, p2_mod, p2_pow, p2_eq, p2_ne, p2_lt, p2_le, p2_gt, p2_ge, p2_in, p2_nin, p2_idx, p2_eqd, kCh3_T, kCh3_F, kCh2b_eq, kCh2_eq, kCh1_eq, ev_chn, kBm_eq, pB_len, pB_abs, pB_sum, pB_list, pB_tuple, pB_dict, pB_max2, pB_min2, pM_app, pM_pop, pM_get, asB_bl, asI_int, isN_non, isN_int, isN_ref, isN_str, isN_tup, add_int, sub_int, neg_int, mul_l, mul_r, fdiv_int, mod_int, eq_int, eq_str, eq_bl, ne_int, ne_str, got_some, idx_tup, idx_ktu, idx_frl, len_tup, len_ktu, len_frl, ev_bme, newL_ok, list_tup, list_ktu, slice_tup, slice_frl, isi_str, isi_int, isi_intb, isi_blb, isi_intl, isi_tup, isi_tup2, isi_ktu2, atI_lit, get0, getS, set0, setS, kC2_eq, kC1_eq, kC1r_eq, kL2_eq, kL1_eq, kS4_eq, kS3_eq, kS2_eq, kS1_eq, ev_cmpE, ev_cmpR, ev_lscE, es_slcE, kF2_eq, kF1_eq, kF1r_eq, es_forE, es_forR, walk_tup, walk_ktu, walk_frl, walk_str, List.map_nil, List.map_append, List.length_append, List.map_cons, Nat.reduceAdd, Nat.reduceSub, Nat.reduceLeDiff, Nat.reduceEqDiff, Int.cast_ofNat_Int, Int.reduceBEq, Int.reduceLE, Int.reduceLT, Int.reduceNeg, Int.reduceAdd, Int.reduceSub, Int.reduceMul, Int.reduceToNat, decide_true, decide_false, $as,*])
def letters : List Nat := [97, 98, 99, 100, 101, 102, 103, 104, 105, 106, 107, 108, 109, 110, 111, 112, 113, 114, 115, 116, 117, 118, 119, 120, 121, 122]
def isName (x : List Nat) : Bool := decide (1 ≤ x.length) && decide (x.length ≤ 8) && x.all fun c => decide (c ∈ letters)
structure B0 (P : Prg) : Prop where
  f0 : Fx P 0 PB.b0 1 2 [] false
  f1 : Fx P 1 PB.b1 3 3 [.non] false
  f2 : Fx P 2 PB.b2 3 4 [] false
  f3 : Fx P 3 PB.b3 2 2 [] false
  g0 : (P.glo[0]?).map (·.2) = some (.str letters)
  g1 : (P.glo[1]?).map (·.2) = some (.int 8)
structure B1 (P : Prg) : Prop where
  f5 : Fx P 5 PB.b5 3 3 [] false
  f6 : Fx P 6 PB.b6 1 1 [] false
  f7 : Fx P 7 PB.b7 1 2 [] false
  f8 : Fx P 8 PB.b8 1 2 [] false
  g3 : (P.glo[3]?).map (·.2) = some (.int 5000)
  g5 : (P.glo[5]?).map (·.2) = some (.int 100)
  g9 : (P.glo[9]?).map (·.2) = some (.int 10)
  g10 : (P.glo[10]?).map (·.2) = some (.int 3)
  g11 : (P.glo[11]?).map (·.2) = some (.int 9)
  g12 : (P.glo[12]?).map (·.2) = some (.ktu [.str [98, 117, 121, 101, 114], .str [115, 101, 108, 108, 101, 114]])
section
variable {P : Prg}
theorem name_spec (B : B0 P) (n : Nat) (x : List Nat) (hx : x.length ≤ 16777216) (h : LH) : run P (n + 1) 0 [.str x] h = .ok (.bl (isName x)) h := by
  rw [B.f0.run _ _ _ rfl]
  unfold PB.b0
  simp_arith [List.replicate, Nat.reduceSub, List.cons_append, List.nil_append, len_str h hx, glo_eq B.g1, if_true]
  by_cases h1 : (1 : Int) ≤ (x.length : Int)
  · by_cases h2 : (x.length : Int) ≤ 8
    · simp_arith [h1, h2, decide_true, if_true, Bool.not_true, Bool.false_eq_true, if_false, List.replicate, Nat.reduceSub, List.cons_append, List.nil_append, len_str h hx, glo_eq B.g1]
      have hc : cmpW P (run P n) (.op2 .isin (.var 1) (.glo 0)) [1] (.nm 1) .none (.told (x.map fun c => .str [c])) [some (.str x), none] h = .ok ((x.map fun c => LV.str [c]).map fun v => match v with
          | .str [c] => LV.bl (decide (c ∈ letters))
          | _ => .non) h := by
        unfold cmpW
        refine comp_pure (.inl rfl) (by simpa using hx) fun v hv => ?_
        obtain ⟨c, _, rfl⟩ := List.mem_map.mp hv
        refine ⟨_, by simp_arith [lwipe]; rfl, by simp_arith [], ?_⟩
        simp_arith [glo_eq B.g0, in_sign, List.replicate, Nat.reduceSub, List.cons_append, List.nil_append, len_str h hx, glo_eq B.g1, if_true, h1, h2, decide_true, if_true, Bool.not_true, Bool.false_eq_true, if_false]
      rw [hc]
      simp_arith [List.map_map, List.replicate, Nat.reduceSub, List.cons_append, List.nil_append, len_str h hx, glo_eq B.g1, if_true, h1, h2, decide_true, if_true, Bool.not_true, Bool.false_eq_true, if_false]
      rw [show ((fun v : LV => match v with
          | .str [c] => LV.bl (decide (c ∈ letters))
          | _ => .non) ∘ fun c => LV.str [c]) = fun c : Nat => LV.bl (decide (c ∈ letters)) from rfl, pC_all]
      have g1 : 1 ≤ x.length := by omega
      have g2 : x.length ≤ 8 := by omega
      simp_arith [isName, g1, g2, decide_true, Bool.true_and, List.replicate, Nat.reduceSub, List.cons_append, List.nil_append, len_str h hx, glo_eq B.g1, if_true, h1, h2, if_true, Bool.not_true, Bool.false_eq_true, if_false, List.map_map]
    · have g2 : ¬ x.length ≤ 8 := by omega
      simp_arith [h1, h2, decide_true, decide_false, if_true, Bool.not_false, isName, g2, Bool.and_false, Bool.false_and, List.replicate, Nat.reduceSub, List.cons_append, List.nil_append, len_str h hx, glo_eq B.g1]
  · have g1 : ¬ 1 ≤ x.length := by omega
    simp_arith [h1, decide_false, Bool.false_eq_true, if_false, if_true, Bool.not_false, isName, g1, Bool.false_and, List.replicate, Nat.reduceSub, List.cons_append, List.nil_append, len_str h hx, glo_eq B.g1]
theorem number_spec (B : B0 P) (n : Nat) (i lo hi : Int) (h : LH) : run P (n + 1) 1 [.int i, .int lo, .int hi] h = .ok (.bl (decide (lo ≤ i) && decide (i ≤ hi))) h := by
  rw [B.f1.run _ _ _ rfl]
  unfold PB.b1
  simp_arith [List.replicate, Nat.sub_self, List.append_nil, Bool.not_true, Bool.false_eq_true, if_false, Bool.not_false, if_true]
  by_cases h1 : i < lo
  · have g : ¬ lo ≤ i := by omega
    simp_arith [h1, g, decide_true, decide_false, if_true, Bool.false_and, List.replicate, Nat.sub_self, List.append_nil, Bool.not_true, Bool.false_eq_true, if_false, Bool.not_false]
  · have g : lo ≤ i := by omega
    simp_arith [h1, g, decide_true, decide_false, Bool.false_eq_true, if_false, Bool.true_and, Bool.not_false, if_true, List.replicate, Nat.sub_self, List.append_nil, Bool.not_true]
theorem number_spec0 (B : B0 P) (n : Nat) (i lo : Int) (h : LH) : run P (n + 1) 1 [.int i, .int lo, .non] h = .ok (.bl (decide (lo ≤ i))) h := by
  rw [B.f1.run _ _ _ rfl]
  unfold PB.b1
  simp_arith [List.replicate, Nat.sub_self, List.append_nil, Bool.not_true, Bool.false_eq_true, if_false, Bool.not_false, if_true]
  by_cases h1 : i < lo
  · have g : ¬ lo ≤ i := by omega
    simp_arith [h1, g, decide_true, decide_false, if_true, List.replicate, Nat.sub_self, List.append_nil, Bool.not_true, Bool.false_eq_true, if_false, Bool.not_false]
  · have g : lo ≤ i := by omega
    simp_arith [h1, g, decide_true, decide_false, Bool.false_eq_true, if_false, Bool.not_false, Bool.not_true, if_true, List.replicate, Nat.sub_self, List.append_nil]
/-- one of some names: in a list -/
theorem oneof_spec (B : B0 P) (n : Nat) (x : List Nat) (r : Nat) (ys : List (List Nat)) (h : LH) (e : h[r]? = some (.lst (ys.map .str))) : run P (n + 1) 3 [.str x, .ref r] h = .ok (.bl (decide (x ∈ ys))) h := by
  rw [B.f3.run _ _ _ rfl]
  unfold PB.b3
  simp_arith [List.replicate, Nat.sub_self, List.append_nil, beq_self_eq_true, if_true, in_lstS e]
theorem oneof_ktu (B : B0 P) (n : Nat) (x : List Nat) (ys : List (List Nat)) (h : LH) : run P (n + 1) 3 [.str x, .ktu (ys.map .str)] h = .ok (.bl (decide (x ∈ ys))) h := by
  rw [B.f3.run _ _ _ rfl]
  unfold PB.b3
  simp_arith [List.replicate, Nat.sub_self, List.append_nil, beq_self_eq_true, if_true, in_ktuS]

theorem names_spec (B : B0 P) (n : Nat) (v : LV) (xs : List (List Nat)) (lo hi : Int) (hx : ∀ x ∈ xs, x.length ≤ 16777216) (hl : xs.length < 4000) (h : LH) (hv : (∃ r, v = .ref r ∧ h[r]? = some (.lst (xs.map .str))) ∨ v = .ktu (xs.map .str)) :
    run P (n + 2) 2 [v, .int lo, .int hi] h = .ok (.bl (decide (lo ≤ (xs.length : Int)) && decide ((xs.length : Int) ≤ hi) && xs.all isName && decide ((ddL xs []).length = xs.length))) h := by
  rw [B.f2.run _ _ _ rfl]
  unfold PB.b2
  have e1 : ∀ n, pIsi n [.ty 3, .ty 4] v h = .ok (.bl true) h := by
    rcases hv with ⟨r, rfl, e⟩ | rfl
    · exact isi_lst2 h e
    · intro n; rfl
  have e2 : pLen [v] h = .ok (.int xs.length) h := by
    rcases hv with ⟨r, rfl, e⟩ | rfl
    · rw [len_lst h e]; simp
    · rw [len_ktu]; simp
  have e3 : ∃ w, walkV v h = .ok w h ∧ (w = .told (xs.map .str) ∨ ∃ m, w = .at_ m (xs.map LV.str).length ∧ h[m]? = some (.lst (xs.map .str))) := by
    rcases hv with ⟨r, rfl, e⟩ | rfl
    · exact ⟨_, walk_lst e, .inr ⟨r, rfl, e⟩⟩
    · exact ⟨_, rfl, .inl rfl⟩
  obtain ⟨w, e3, hw⟩ := e3
  simp_arith [Nat.reduceSub, e1, e2]
  by_cases h1 : lo ≤ (xs.length : Int)
  · by_cases h2 : (xs.length : Int) ≤ hi
    · simp_arith [h1, h2, decide_true, e3, e2, Nat.reduceSub, e1]
      have hc : cmpW P (run P (n + 1)) (.cal 0 (.cons (.var 3) .nil)) [3] (.nm 3) .none w [some v, some (.int lo), some (.int hi), none] h = .ok ((xs.map LV.str).map fun v => match v with
          | .str x => LV.bl (isName x)
          | _ => .non) h := by
        unfold cmpW
        refine comp_pure hw (by simp; omega) fun v hv => ?_
        obtain ⟨c, hc, rfl⟩ := List.mem_map.mp hv
        refine ⟨_, by simp_arith [lwipe]; rfl, by simp_arith [], ?_⟩
        simp_arith [B.f0.call1, name_spec B n c (hx c hc), Nat.reduceSub, e1, e2, h1, h2, decide_true, e3, e2]
      have hd : cmpW P (run P (n + 1)) (.var 3) [3] (.nm 3) .none w [some v, some (.int lo), some (.int hi), none] h = .ok (xs.map LV.str) h := by
        rw [show xs.map LV.str = (xs.map LV.str).map id from (List.map_id _).symm]
        unfold cmpW
        refine comp_pure hw (by simp; omega) fun v hv => ?_
        exact ⟨_, by simp_arith [lwipe]; rfl, by simp_arith [], by simp_arith [id]⟩
      rw [hc]
      simp_arith [List.map_map, Nat.reduceSub, e1, e2, h1, h2, decide_true, e3, e2]
      rw [show ((fun v : LV => match v with
          | .str x => LV.bl (isName x)
          | _ => .non) ∘ LV.str) = fun x : List Nat => LV.bl (isName x) from rfl, pC_all]
      simp_arith [Nat.reduceSub, e1, e2, h1, h2, decide_true, e3, e2, List.map_map]
      cases xs.all isName with
      | false => simp_arith [Bool.true_and, Bool.false_and]
      | true =>
        simp_arith [e3, hd, List.map_id, pLs, strsOf_map, hl, if_true, e2, Bool.true_and, Nat.reduceSub, e1, h1, h2, decide_true, List.map_map]
        congr 2
        rw [Bool.eq_iff_iff]
        simp only [beq_iff_eq, decide_eq_true_eq]
        omega
    · simp_arith [h1, h2, decide_true, decide_false, Bool.false_and, Bool.and_false, Nat.reduceSub, e1, e2]
  · simp_arith [h1, decide_false, Bool.false_and, Nat.reduceSub, e1, e2]
/-- levies: land, kind, day, rate -/
abbrev Levy := List Nat × List Nat × Int × Int
def levyV (l : Levy) : LV := .tup [.str l.1, .str l.2.1, .int l.2.2.1, .int l.2.2.2]
def isLevy (lands kinds : List (List Nat)) (l : Levy) : Bool := decide (l.1 ∈ lands) && (decide (l.2.1 ∈ kinds) && (decide (0 ≤ l.2.2.1) && (decide (0 ≤ l.2.2.2) && decide (l.2.2.2 ≤ 5000))))
theorem levy_spec (B : B0 P) (C : B1 P) (n : Nat) (l : Levy) (r k : Nat) (lands kinds : List (List Nat)) (h : LH) (er : h[r]? = some (.lst (lands.map .str))) (ek : h[k]? = some (.lst (kinds.map .str))) :
    run P (n + 2) 5 [levyV l, .ref r, .ref k] h = .ok (.bl (isLevy lands kinds l)) h := by
  rw [C.f5.run _ _ _ rfl]
  unfold PB.b5 levyV isLevy
  simp_arith [B.f3.call2, oneof_spec B n _ r lands h er, oneof_spec B n _ k kinds h ek, B.f1.call23, B.f1.call3, glo_eq C.g3, number_spec B, number_spec0 B]
  by_cases q1 : l.1 ∈ lands
  · simp_arith [q1, B.f3.call2, oneof_spec B n _ r lands h er, oneof_spec B n _ k kinds h ek, B.f1.call23, B.f1.call3, glo_eq C.g3, number_spec B, number_spec0 B]
    by_cases q2 : l.2.1 ∈ kinds
    · simp_arith [q2, B.f1.call23, B.f1.call3, glo_eq C.g3, number_spec B, number_spec0 B, B.f3.call2, oneof_spec B n _ r lands h er, oneof_spec B n _ k kinds h ek, q1, B.f3.call2, oneof_spec B n _ r lands h er, oneof_spec B n _ k kinds h ek]
      by_cases q3 : 0 ≤ l.2.2.1
      · simp_arith [q3, B.f1.call3, glo_eq C.g3, number_spec B, B.f3.call2, oneof_spec B n _ r lands h er, oneof_spec B n _ k kinds h ek, B.f1.call23, number_spec0 B, q1, B.f3.call2, oneof_spec B n _ r lands h er, oneof_spec B n _ k kinds h ek, B.f1.call23, number_spec0 B, q2, B.f1.call23, number_spec0 B]
      · simp_arith [q3, B.f3.call2, oneof_spec B n _ r lands h er, oneof_spec B n _ k kinds h ek, B.f1.call23, B.f1.call3, glo_eq C.g3, number_spec B, number_spec0 B, q1, B.f3.call2, oneof_spec B n _ r lands h er, oneof_spec B n _ k kinds h ek, B.f1.call23, B.f1.call3, glo_eq C.g3, number_spec B, number_spec0 B, q2, B.f1.call23, B.f1.call3, glo_eq C.g3, number_spec B, number_spec0 B]
    · simp_arith [q2, B.f3.call2, oneof_spec B n _ r lands h er, oneof_spec B n _ k kinds h ek, B.f1.call23, B.f1.call3, glo_eq C.g3, number_spec B, number_spec0 B, q1, B.f3.call2, oneof_spec B n _ r lands h er, oneof_spec B n _ k kinds h ek, B.f1.call23, B.f1.call3, glo_eq C.g3, number_spec B, number_spec0 B]
  · simp_arith [q1, B.f3.call2, oneof_spec B n _ r lands h er, oneof_spec B n _ k kinds h ek, B.f1.call23, B.f1.call3, glo_eq C.g3, number_spec B, number_spec0 B]
/-- what a pair says -/
abbrev Said := List Nat × List Nat
def saidV (p : Said) : LV := .tup [.str p.1, .str p.2]
def sides : List (List Nat) := [[98, 117, 121, 101, 114], [115, 101, 108, 108, 101, 114]]
def isSaid (p : Said) : Bool := decide (p.1 ∈ sides) && isName p.2
theorem said_spec (B : B0 P) (C : B1 P) (n : Nat) (p : Said) (hp : p.2.length ≤ 16777216) (h : LH) : run P (n + 2) 6 [saidV p] h = .ok (.bl (isSaid p)) h := by
  rw [C.f6.run _ _ _ rfl]
  unfold PB.b6 saidV isSaid
  have hk : ∀ x, run P (n + 1) 3 [.str x, .ktu [.str [98, 117, 121, 101, 114], .str [115, 101, 108, 108, 101, 114]]] h = .ok (.bl (decide (x ∈ sides))) h := fun x => oneof_ktu B n x sides h
  simp_arith [B.f3.call2, glo_eq C.g12, hk, B.f0.call1]
  by_cases q1 : p.1 ∈ sides
  · simp_arith [q1, B.f0.call1, name_spec B n _ hp, B.f3.call2, glo_eq C.g12, hk]
  · simp_arith [q1, B.f3.call2, glo_eq C.g12, hk, B.f0.call1]
/-- rules: word, pairs, days, part, back -/
structure Rule where
  word : List Nat
  pairs : List Said
  days : Int
  part : Int
  back : Bool
def ruleV (r : Rule) : LV := .tup [.str r.word, .tup (r.pairs.map saidV), .int r.days, .int r.part, .bl r.back]
def isRule (r : Rule) : Bool := isName r.word && (decide (r.pairs.length ≤ 3) && (r.pairs.all isSaid && (decide (0 ≤ r.days) && decide (r.days ≤ 9) && (decide (0 ≤ r.part) && decide (r.part ≤ 100)))))
/-- its texts and pairs are no longer than may be -/
def Rule.fit (r : Rule) : Prop := r.word.length ≤ 16777216 ∧ ∀ p ∈ r.pairs, p.2.length ≤ 16777216
theorem rule_spec (B : B0 P) (C : B1 P) (n : Nat) (r : Rule) (hr : r.fit) (h : LH) : run P (n + 3) 7 [ruleV r] h = .ok (.bl (isRule r)) h := by
  rw [C.f7.run _ _ _ rfl]
  unfold PB.b7 ruleV isRule
  simp_arith [B.f0.call1, name_spec B (n + 1) _ hr.1]
  cases isName r.word with
  | false => simp_arith []
  | true =>
    simp_arith [glo_eq C.g10, List.length_map, B.f0.call1, name_spec B (n + 1) _ hr.1]
    by_cases q1 : r.pairs.length ≤ 3
    · have q1' : ¬ (3 : Int) < (r.pairs.length : Int) := by omega
      have hc : ∀ ls : LSt, ls.length = 2 → cmpW P (run P (n + 2)) (.cal 6 (.cons (.var 1) .nil)) [1] (.nm 1) .none (.told (r.pairs.map saidV)) ls h = .ok (r.pairs.map fun p => LV.bl (isSaid p)) h := by
        intro ls hls
        match ls, hls with
        | [a, b], _ =>
        unfold cmpW
        have := comp_pure (w := .told (r.pairs.map saidV)) (xs := r.pairs.map saidV) (f := fun v => match v with
            | .tup [.str a, .str b] => LV.bl (isSaid (a, b))
            | _ => .non) (own := [1]) (ls0 := [a, b]) (h := h) (t := fun v ls h => asg P (run P (n + 2)) (.nm 1) v ls h) (q := fun ls h => evQ P (run P (n + 2)) .none ls h) (e := fun ls h => evE P (run P (n + 2)) (.cal 6 (.cons (.var 1) .nil)) ls h) (.inl rfl) (by simp; omega) fun v hv => by
          obtain ⟨p, hp, rfl⟩ := List.mem_map.mp hv
          refine ⟨_, by simp_arith [lwipe]; rfl, by simp_arith [], ?_⟩
          simp_arith [C.f6.call1, said_spec B C n p (hr.2 p hp), B.f0.call1, name_spec B (n + 1) _ hr.1, glo_eq C.g10, List.length_map]
          rfl
        rw [this, List.map_map]; rfl
      simp_arith [q1, q1', hc, pC_all, B.f0.call1, name_spec B (n + 1) _ hr.1, glo_eq C.g10, List.length_map]
      cases r.pairs.all isSaid with
      | false => simp_arith []
      | true =>
        simp_arith [B.f1.call3, glo_eq C.g11, glo_eq C.g5, number_spec B, B.f0.call1, name_spec B (n + 1) _ hr.1, glo_eq C.g10, List.length_map, q1, q1', hc, pC_all]
        by_cases q3 : 0 ≤ r.days
        · by_cases q4 : r.days ≤ 9
          · by_cases q5 : 0 ≤ r.part
            · by_cases q6 : r.part ≤ 100
              · simp_arith [q3, q4, q5, q6, B.f1.call3, glo_eq C.g5, number_spec B, B.f0.call1, name_spec B (n + 1) _ hr.1, glo_eq C.g10, List.length_map, q1, q1', hc, pC_all, glo_eq C.g11]
              · simp_arith [q3, q4, q5, q6, B.f1.call3, glo_eq C.g5, number_spec B, B.f0.call1, name_spec B (n + 1) _ hr.1, glo_eq C.g10, List.length_map, q1, q1', hc, pC_all, glo_eq C.g11]
            · simp_arith [q3, q4, q5, B.f1.call3, glo_eq C.g5, number_spec B, B.f0.call1, name_spec B (n + 1) _ hr.1, glo_eq C.g10, List.length_map, q1, q1', hc, pC_all, glo_eq C.g11]
          · simp_arith [q3, q4, B.f0.call1, name_spec B (n + 1) _ hr.1, glo_eq C.g10, List.length_map, q1, q1', hc, pC_all, B.f1.call3, glo_eq C.g11, glo_eq C.g5, number_spec B]
        · simp_arith [q3, B.f0.call1, name_spec B (n + 1) _ hr.1, glo_eq C.g10, List.length_map, q1, q1', hc, pC_all, B.f1.call3, glo_eq C.g11, glo_eq C.g5, number_spec B]
    · have q1' : (3 : Int) < (r.pairs.length : Int) := by omega
      simp_arith [q1, q1', B.f0.call1, name_spec B (n + 1) _ hr.1, glo_eq C.g10, List.length_map]
theorem rules_spec (B : B0 P) (C : B1 P) (n : Nat) (v : LV) (rs : List Rule) (hr : ∀ r ∈ rs, r.fit) (hl : rs.length ≤ 16777216) (h : LH) (hv : (∃ r, v = .ref r ∧ h[r]? = some (.lst (rs.map ruleV))) ∨ v = .ktu (rs.map ruleV)) :
    run P (n + 4) 8 [v] h = .ok (.bl (decide (rs.length ≤ 10) && rs.all isRule)) h := by
  rw [C.f8.run _ _ _ rfl]
  unfold PB.b8
  have e1 : ∀ n, pIsi n [.ty 3, .ty 4] v h = .ok (.bl true) h := by
    rcases hv with ⟨r, rfl, e⟩ | rfl
    · exact isi_lst2 h e
    · intro n; rfl
  have e2 : pLen [v] h = .ok (.int rs.length) h := by
    rcases hv with ⟨r, rfl, e⟩ | rfl
    · rw [len_lst h e]; simp
    · rw [len_ktu]; simp
  have e3 : ∃ w, walkV v h = .ok w h ∧ (w = .told (rs.map ruleV) ∨ ∃ m, w = .at_ m (rs.map ruleV).length ∧ h[m]? = some (.lst (rs.map ruleV))) := by
    rcases hv with ⟨r, rfl, e⟩ | rfl
    · exact ⟨_, walk_lst e, .inr ⟨r, rfl, e⟩⟩
    · exact ⟨_, rfl, .inl rfl⟩
  obtain ⟨w, e3, hw⟩ := e3
  have hc : cmpW P (run P (n + 3)) (.cal 7 (.cons (.var 1) .nil)) [1] (.nm 1) .none w [some v, none] h = .ok (rs.map fun r => LV.bl (isRule r)) h := by
    unfold cmpW
    obtain ⟨inv, hinv⟩ : ∃ inv : LV → Option Rule, ∀ r, inv (ruleV r) = some r := ⟨fun v => match v with
      | .tup [.str w, .tup ps, .int d, .int p, .bl b] => some ⟨w, ps.map (fun v => match v with
        | .tup [.str a, .str b] => (a, b)
        | _ => ([], [])), d, p, b⟩
      | _ => none, fun r => by
        show some (Rule.mk r.word ((r.pairs.map saidV).map _) r.days r.part r.back) = _
        rw [List.map_map]
        have : ((fun v : LV => match v with
          | .tup [.str a, .str b] => (a, b)
          | _ => ([], [])) ∘ saidV) = (id : Said → Said) := by funext p; rfl
        rw [this, List.map_id]⟩
    have := comp_pure (w := w) (xs := rs.map ruleV) (f := fun v => match inv v with
        | some r => LV.bl (isRule r)
        | none => .non) (own := [1]) (ls0 := [some v, none]) (h := h) (t := fun v ls h => asg P (run P (n + 3)) (.nm 1) v ls h) (q := fun ls h => evQ P (run P (n + 3)) .none ls h) (e := fun ls h => evE P (run P (n + 3)) (.cal 7 (.cons (.var 1) .nil)) ls h) hw (by simpa using hl) fun v hv => by
      obtain ⟨r, hrr, rfl⟩ := List.mem_map.mp hv
      refine ⟨_, by simp_arith [lwipe]; rfl, by simp_arith [], ?_⟩
      simp_arith [C.f7.call1, rule_spec B C n r (hr r hrr), hinv]
    rw [this, List.map_map]
    congr 2
    funext r
    simp only [Function.comp, hinv]
  simp_arith [e1, e2, glo_eq C.g9]
  by_cases q : rs.length ≤ 10
  · have q' : (rs.length : Int) ≤ 10 := by omega
    simp_arith [q, q', e3, hc, pC_all, e1, e2, glo_eq C.g9]
  · have q' : ¬ (rs.length : Int) ≤ 10 := by omega
    simp_arith [q, q', e1, e2, glo_eq C.g9]
end
end LD
end
section
set_option Elab.async false
set_option linter.all false
set_option maxRecDepth 100000
/-! LGE: worlds -/
namespace LD
open L2
local macro_rules
  | `(tactic| simp_arith [$as,*]) => `(tactic| simp only [bind_ok, bind_exc, bindN_ok, toS_ok, toS_exc, thn_nx, thn_rt, thn_ct, thn_exc, turn_nx, turn_ct, turn_rt, parK_some, par_nil, par_cons, kOp2_eq, kNot_eq, kNt_eq, kIte_eq, kTup_eq, kSl2_eq, kSl1_eq, kFld_eq, kMk_eq, kEq1_eq, kCs2_eq, kCs1_eq, kB1b_eq, kB1_eq, kBf_eq, kBt_eq, kSb3_eq, kSb2_eq, kSb1_eq, kEx_eq, kSet_eq, kPar_eq, kAg3_eq, kAg2_eq, kAg1_eq, kI1_eq, kIf_T, kIf_F, kBf2_T, kBf2_F, kBt2_T, kBt2_F, kI2_T, kI2_F, ev_var, ev_con, ev_op2, ev_neg, ev_isN, ev_bop, ev_nt, ev_ite, ev_tup, ev_lst, ev_dnw, ev_dsp, ev_slc, ev_fld, ev_cal, ev_mke, ev_bif, ev_isi, ev_lvl, ev_sst, ev_eqo, ev_nil, ev_cons, ev_B1, ev_O0, ev_O1, ev_Q0, ev_Q1, asg_nm, asg_tp, asg_kt, asg_sb, asgs_nil, asgs_cons, es_ex, es_set, es_par, es_agN, es_iff, es_ret, es_retN, es_rse, es_pass, es_cont, es_nil, es_cons, ev_B2f, ev_B2t, ite_T, ite_F, ite_TT, ite_FF, t_and, f_and, and_t, and_f, t_or, f_or, not_T, not_F, map1_, app_c, app_n, rep0, repS, len0, lenS, sub_n, slot0, slotS, fin_nx, fin_rt, fin_exc, p2_add, p2_sub, p2_mul, p2_fdiv, p2_mod, p2_pow, p2_eq, p2_ne, p2_lt, p2_le, p2_gt, p2_ge, p2_in, p2_nin, p2_idx, p2_eqd, kCh3_T, kCh3_F, kCh2b_eq, kCh2_eq, kCh1_eq, ev_chn, kBm_eq, pB_len, pB_abs, pB_sum, pB_list, pB_tuple, pB_dict, pB_max2, pB_min2, pM_app, pM_pop, pM_get, asB_bl, asI_int, isN_non, isN_int, isN_ref, isN_str, isN_tup, add_int, sub_int, neg_int, mul_l, mul_r, fdiv_int, mod_int, eq_int, eq_str, eq_bl, ne_int, ne_str, got_some, idx_tup, idx_ktu, idx_frl, len_tup, len_ktu, len_frl, ev_bme, newL_ok, list_tup, list_ktu, slice_tup, slice_frl, isi_str, isi_int, isi_intb, isi_blb, isi_intl, isi_tup, isi_tup2, isi_ktu2, atI_lit, get0, getS, set0, setS, kC2_eq, kC1_eq, kC1r_eq, kL2_eq, kL1_eq, kS4_eq, kS3_eq, kS2_eq, kS1_eq, ev_cmpE, ev_cmpR, ev_lscE, es_slcE, kF2_eq, kF1_eq, kF1r_eq, es_forE, es_forR, walk_tup, walk_ktu, walk_frl, walk_str, List.map_nil, List.map_append, List.length_append, List.map_cons, Nat.reduceAdd, Nat.reduceSub, Nat.reduceLeDiff, Nat.reduceEqDiff, Int.cast_ofNat_Int, Int.reduceBEq, Int.reduceLE, Int.reduceLT, Int.reduceNeg, Int.reduceAdd, Int.reduceSub, Int.reduceMul, Int.reduceToNat, decide_true, decide_false, $as,*])
abbrev Pairs := List (List Nat × List Nat)
def dV (ws : Pairs) : List (LV × LV) := ws.map fun p => (.str p.1, .str p.2)
def market : List Nat := [109, 97, 114, 107, 101, 116]
structure BW (P : Prg) : Prop where
  f10 : Fx P 10 PB.b10 1 3 [] false
  f11 : Fx P 11 PB.b11 2 4 [] false
  f12 : Fx P 12 PB.b12 10 11 [.ktu [], .ktu [], .ktu [], .int 0, .int 2, .int 2] true
  g13 : (P.glo[13]?).map (·.2) = some (.int 4)
  g14 : (P.glo[14]?).map (·.2) = some (.int 6)
  g15 : (P.glo[15]?).map (·.2) = some (.int 8)
  g16 : (P.glo[16]?).map (·.2) = some (.int 3)
  g17 : (P.glo[17]?).map (·.2) = some (.int 20)
  g18 : (P.glo[18]?).map (·.2) = some (.int 2000)
  g19 : (P.glo[19]?).map (·.2) = some (.int 9)
  g20 : (P.glo[20]?).map (·.2) = some (.str market)
  cl : ∃ ci, P.cls[0]? = some ci ∧ ci.fs = [0, 1, 2, 3, 4, 5, 6, 7] ∧ ci.ini = 12
theorem set_same {h : LH} {r : Nat} {o : LO} (e : h[r]? = some o) : h.set r o = h := by
  obtain ⟨hr, e⟩ := List.getElem?_eq_some_iff.mp e
  rw [← e]; exact List.set_getElem_self hr
theorem unlock_ok {α : Type} {h : LH} {r : Nat} {kvs : List (LV × LV)} (e : h[r]? = some (.dK kvs)) (a : α) : unlockR r (.ok a (h.set r (.fK kvs))) = .ok a h := by
  have hr := lt_of e
  simp only [unlockR, unlockL, List.getElem?_set_self hr, List.set_set]
  congr 1
  exact set_same e
section
variable {P : Prg}
theorem wares_spec (B : B0 P) (W : BW P) (n r : Nat) (ws : Pairs) (hx : ∀ p ∈ ws, p.1.length ≤ 16777216 ∧ p.2.length ≤ 16777216) (hl : ws.length ≤ 16777216) (h : LH) (e : h[r]? = some (.dK (dV ws))) :
    run P (n + 2) 10 [.ref r] h = .ok (.bl (decide (1 ≤ ws.length) && decide (ws.length ≤ 6) && ws.all fun p => isName p.1 && isName p.2)) h := by
  rw [W.f10.run _ _ _ rfl]
  unfold PB.b10
  have el : (dV ws).length = ws.length := by simp [dV]
  simp_arith [isi_dKd h e, len_dK h e, glo_eq W.g14, el]
  by_cases h1 : 1 ≤ ws.length
  · by_cases h2 : ws.length ≤ 6
    · have h1' : (1 : Int) ≤ (ws.length : Int) := by omega
      have h2' : (ws.length : Int) ≤ 6 := by omega
      have hc : cmpW P (run P (n + 1)) (.bop true (.cons (.cal 0 (.cons (.var 1) .nil)) (.cons (.cal 0 (.cons (.var 2) .nil)) .nil))) [1, 2] (.tp (.cons (.nm 1) (.cons (.nm 2) .nil))) .none (.told ((dV ws).map fun kv => .tup [kv.1, kv.2])) [some (.ref r), none, none] (h.set r (.fK (dV ws))) = .ok (ws.map fun p => LV.bl (isName p.1 && isName p.2)) (h.set r (.fK (dV ws))) := by
        unfold cmpW
        have := comp_pure (w := .told ((dV ws).map fun kv => .tup [kv.1, kv.2])) (xs := (dV ws).map fun kv => .tup [kv.1, kv.2]) (f := fun v => match v with
            | .tup [.str a, .str b] => LV.bl (isName a && isName b)
            | _ => .non) (own := [1, 2]) (ls0 := [some (.ref r), none, none]) (h := h.set r (.fK (dV ws))) (t := fun v ls h => asg P (run P (n + 1)) (.tp (.cons (.nm 1) (.cons (.nm 2) .nil))) v ls h) (q := fun ls h => evQ P (run P (n + 1)) .none ls h) (e := fun ls h => evE P (run P (n + 1)) (.bop true (.cons (.cal 0 (.cons (.var 1) .nil)) (.cons (.cal 0 (.cons (.var 2) .nil)) .nil))) ls h) (.inl rfl) (by simp [dV]; omega) fun v hv => by
          obtain ⟨kv, hkv, rfl⟩ := List.mem_map.mp hv
          obtain ⟨p, hp, rfl⟩ := List.mem_map.mp hkv
          obtain ⟨p1, p2⟩ := hx p hp
          refine ⟨_, by simp_arith [lwipe, tgsLen]; rfl, by simp_arith [], ?_⟩
          simp_arith [B.f0.call1, name_spec B n _ p1, isi_dKd h e, len_dK h e, glo_eq W.g14, el]
          cases isName p.1 with
          | false => simp_arith []
          | true => simp_arith [B.f0.call1, name_spec B n _ p2]
        rw [this]
        unfold dV
        rw [List.map_map, List.map_map]; rfl
      have ec := ev_cmpI P (run P (n + 1)) [some (.ref r), none, none] h (i := 0) (r := r) (kvs := dV ws) (fun _ => rfl) e .all (.bop true (.cons (.cal 0 (.cons (.var 1) .nil)) (.cons (.cal 0 (.cons (.var 2) .nil)) .nil))) [1, 2] (.tp (.cons (.nm 1) (.cons (.nm 2) .nil))) .none
      rw [hc, unlock_ok e] at ec
      simp_arith [h1, h2, h1', h2', ec, pC_all, isi_dKd h e, len_dK h e, glo_eq W.g14, el]
    · have h1' : (1 : Int) ≤ (ws.length : Int) := by omega
      have h2' : ¬ (ws.length : Int) ≤ 6 := by omega
      simp_arith [h1, h2, h1', h2', isi_dKd h e, len_dK h e, glo_eq W.g14, el]
  · have h1' : ¬ (1 : Int) ≤ (ws.length : Int) := by omega
    simp_arith [h1, h1', isi_dKd h e, len_dK h e, glo_eq W.g14, el]
theorem parties_spec (B : B0 P) (W : BW P) (n r l : Nat) (ps : Pairs) (lands : List (List Nat)) (hx : ∀ p ∈ ps, p.1.length ≤ 16777216 ∧ p.2.length ≤ 16777216) (hl : ps.length ≤ 16777216) (h : LH) (e : h[r]? = some (.dK (dV ps))) (e2 : h[l]? = some (.lst (lands.map .str))) :
    run P (n + 2) 11 [.ref r, .ref l] h = .ok (.bl (decide (1 ≤ ps.length) && decide (ps.length ≤ 8) && ps.all fun p => isName p.1 && (!(p.1 == market)) && decide (p.2 ∈ lands))) h := by
  rw [W.f11.run _ _ _ rfl]
  unfold PB.b11
  have el : (dV ps).length = ps.length := by simp [dV]
  have hne : r ≠ l := fun z => by rw [z, e2] at e; cases e
  have e3 : (h.set r (.fK (dV ps)))[l]? = some (.lst (lands.map .str)) := by rw [List.getElem?_set_ne hne]; exact e2
  simp_arith [isi_dKd h e, len_dK h e, glo_eq W.g15, el]
  by_cases h1 : 1 ≤ ps.length
  · by_cases h2 : ps.length ≤ 8
    · have h1' : (1 : Int) ≤ (ps.length : Int) := by omega
      have h2' : (ps.length : Int) ≤ 8 := by omega
      have ec := ev_cmpI P (run P (n + 1)) [some (.ref r), some (.ref l), none, none] h (i := 0) (r := r) (kvs := dV ps) (fun _ => rfl) e .all (.bop true (.cons (.cal 0 (.cons (.var 2) .nil)) (.cons (.op2 .ne (.var 2) (.glo 20)) (.cons (.cal 3 (.cons (.var 3) (.cons (.var 1) .nil))) .nil)))) [2, 3] (.tp (.cons (.nm 2) (.cons (.nm 3) .nil))) .none
      have hc : cmpW P (run P (n + 1)) (.bop true (.cons (.cal 0 (.cons (.var 2) .nil)) (.cons (.op2 .ne (.var 2) (.glo 20)) (.cons (.cal 3 (.cons (.var 3) (.cons (.var 1) .nil))) .nil)))) [2, 3] (.tp (.cons (.nm 2) (.cons (.nm 3) .nil))) .none (.told ((dV ps).map fun kv => .tup [kv.1, kv.2])) [some (.ref r), some (.ref l), none, none] (h.set r (.fK (dV ps))) = .ok (ps.map fun p => LV.bl (isName p.1 && (!(p.1 == market)) && decide (p.2 ∈ lands))) (h.set r (.fK (dV ps))) := by
        unfold cmpW
        have := comp_pure (w := .told ((dV ps).map fun kv => .tup [kv.1, kv.2])) (xs := (dV ps).map fun kv => .tup [kv.1, kv.2]) (f := fun v => match v with
            | .tup [.str a, .str b] => LV.bl (isName a && (!(a == market)) && decide (b ∈ lands))
            | _ => .non) (own := [2, 3]) (ls0 := [some (.ref r), some (.ref l), none, none]) (h := h.set r (.fK (dV ps))) (t := fun v ls h => asg P (run P (n + 1)) (.tp (.cons (.nm 2) (.cons (.nm 3) .nil))) v ls h) (q := fun ls h => evQ P (run P (n + 1)) .none ls h) (e := fun ls h => evE P (run P (n + 1)) (.bop true (.cons (.cal 0 (.cons (.var 2) .nil)) (.cons (.op2 .ne (.var 2) (.glo 20)) (.cons (.cal 3 (.cons (.var 3) (.cons (.var 1) .nil))) .nil)))) ls h) (.inl rfl) (by simp [dV]; omega) fun v hv => by
          obtain ⟨kv, hkv, rfl⟩ := List.mem_map.mp hv
          obtain ⟨p, hp, rfl⟩ := List.mem_map.mp hkv
          obtain ⟨p1, p2⟩ := hx p hp
          refine ⟨_, by simp_arith [lwipe, tgsLen]; rfl, by simp_arith [], ?_⟩
          simp_arith [B.f0.call1, name_spec B n _ p1, isi_dKd h e, len_dK h e, glo_eq W.g15, el]
          cases isName p.1 with
          | false => simp_arith []
          | true =>
            simp_arith [glo_eq W.g20, isi_dKd h e, len_dK h e, glo_eq W.g15, el, B.f0.call1, name_spec B n _ p1]
            cases p.1 == market with
            | true => simp_arith []
            | false => simp_arith [B.f3.call2, oneof_spec B n _ l lands _ e3]
        rw [this]
        unfold dV
        rw [List.map_map, List.map_map]; rfl
      rw [hc, unlock_ok e] at ec
      simp_arith [h1, h2, h1', h2', ec, pC_all, isi_dKd h e, len_dK h e, glo_eq W.g15, el]
    · have h1' : (1 : Int) ≤ (ps.length : Int) := by omega
      have h2' : ¬ (ps.length : Int) ≤ 8 := by omega
      simp_arith [h1, h2, h1', h2', isi_dKd h e, len_dK h e, glo_eq W.g15, el]
  · have h1' : ¬ (1 : Int) ≤ (ps.length : Int) := by omega
    simp_arith [h1, h1', isi_dKd h e, len_dK h e, glo_eq W.g15, el]
end
end LD
end
section
set_option Elab.async false
set_option linter.all false
set_option maxRecDepth 100000
/-! LGF: a world is made -/
namespace LD
open L2
local macro_rules
  | `(tactic| simp_arith [$as,*]) => `(tactic| simp only [bind_ok, bind_exc, bindN_ok, toS_ok, toS_exc, thn_nx, thn_rt, thn_ct, thn_exc, turn_nx, turn_ct, turn_rt, parK_some, par_nil, par_cons, kOp2_eq, kNot_eq, kNt_eq, kIte_eq, kTup_eq, kSl2_eq, kSl1_eq, kFld_eq, kMk_eq, kEq1_eq, kCs2_eq, kCs1_eq, kB1b_eq, kB1_eq, kBf_eq, kBt_eq, kSb3_eq, kSb2_eq, kSb1_eq, kEx_eq, kSet_eq, kPar_eq, kAg3_eq, kAg2_eq, kAg1_eq, kI1_eq, kIf_T, kIf_F, kBf2_T, kBf2_F, kBt2_T, kBt2_F, kI2_T, kI2_F, ev_var, ev_con, ev_op2, ev_neg, ev_isN, ev_bop, ev_nt, ev_ite, ev_tup, ev_lst, ev_dnw, ev_dsp, ev_slc, ev_fld, ev_cal, ev_mke, ev_bif, ev_isi, ev_lvl, ev_sst, ev_eqo, ev_nil, ev_cons, ev_B1, ev_O0, ev_O1, ev_Q0, ev_Q1, asg_nm, asg_tp, asg_kt, asg_sb, asgs_nil, asgs_cons, es_ex, es_set, es_par, es_agN, es_iff, es_ret, es_retN, es_rse, es_pass, es_cont, es_nil, es_cons, ev_B2f, ev_B2t, ite_T, ite_F, ite_TT, ite_FF, t_and, f_and, and_t, and_f, t_or, f_or, not_T, not_F, map1_, app_c, app_n, rep0, repS, len0, lenS, sub_n, slot0, slotS, fin_nx, fin_rt, fin_exc, p2_add, p2_sub, p2_mul, p2_fdiv, p2_mod, p2_pow, p2_eq, p2_ne, p2_lt, p2_le, p2_gt, p2_ge, p2_in, p2_nin, p2_idx, p2_eqd, kCh3_T, kCh3_F, kCh2b_eq, kCh2_eq, kCh1_eq, ev_chn, kBm_eq, pB_len, pB_abs, pB_sum, pB_list, pB_tuple, pB_dict, pB_max2, pB_min2, pM_app, pM_pop, pM_get, asB_bl, asI_int, isN_non, isN_int, isN_ref, isN_str, isN_tup, add_int, sub_int, neg_int, mul_l, mul_r, fdiv_int, mod_int, eq_int, eq_str, eq_bl, ne_int, ne_str, got_some, idx_tup, idx_ktu, idx_frl, len_tup, len_ktu, len_frl, ev_bme, newL_ok, list_tup, list_ktu, slice_tup, slice_frl, isi_str, isi_int, isi_intb, isi_blb, isi_intl, isi_tup, isi_tup2, isi_ktu2, atI_lit, get0, getS, set0, setS, kC2_eq, kC1_eq, kC1r_eq, kL2_eq, kL1_eq, kS4_eq, kS3_eq, kS2_eq, kS1_eq, ev_cmpE, ev_cmpR, ev_lscE, es_slcE, kF2_eq, kF1_eq, kF1r_eq, es_forE, es_forR, walk_tup, walk_ktu, walk_frl, walk_str, List.map_nil, List.map_append, List.length_append, List.map_cons, Nat.reduceAdd, Nat.reduceSub, Nat.reduceLeDiff, Nat.reduceEqDiff, Int.cast_ofNat_Int, Int.reduceBEq, Int.reduceLE, Int.reduceLT, Int.reduceNeg, Int.reduceAdd, Int.reduceSub, Int.reduceMul, Int.reduceToNat, decide_true, decide_false, $as,*])
/-- what a world is made with -/
structure WA where
  lands : List (List Nat)
  wares : Pairs
  parties : Pairs
  carriers : List (List Nat)
  levies : List Levy
  rules : List Rule
  fee : Int
  send : Int
  complain : Int
def WA.kinds (a : WA) : List (List Nat) := a.wares.map (·.2)
/-- it is such as may be -/
structure WOk (a : WA) : Prop where
  lands : 1 ≤ a.lands.length ∧ a.lands.length ≤ 4 ∧ (∀ x ∈ a.lands, isName x = true) ∧ (ddL a.lands []).length = a.lands.length
  wares : 1 ≤ a.wares.length ∧ a.wares.length ≤ 6 ∧ ∀ p ∈ a.wares, isName p.1 = true ∧ isName p.2 = true
  parties : 1 ≤ a.parties.length ∧ a.parties.length ≤ 8 ∧ ∀ p ∈ a.parties, isName p.1 = true ∧ p.1 ≠ market ∧ p.2 ∈ a.lands
  carriers : a.carriers.length ≤ 3 ∧ (∀ x ∈ a.carriers, isName x = true) ∧ (ddL a.carriers []).length = a.carriers.length ∧ ∀ x ∈ a.carriers, (dget (dV a.parties) (.str x)).isSome = true
  levies : a.levies.length ≤ 20 ∧ ∀ l ∈ a.levies, isLevy a.lands a.kinds l = true
  rules : a.rules.length ≤ 10 ∧ ∀ r ∈ a.rules, isRule r = true
  fee : 0 ≤ a.fee ∧ a.fee ≤ 2000
  send : 1 ≤ a.send ∧ a.send ≤ 9
  complain : 1 ≤ a.complain ∧ a.complain ≤ 9
theorem name_len {x : List Nat} (h : isName x = true) : x.length ≤ 8 := by
  unfold isName at h
  simp only [Bool.and_eq_true, decide_eq_true_eq] at h
  exact h.1.2
theorem name_le {x : List Nat} (h : isName x = true) : x.length ≤ 16777216 := Nat.le_trans (name_len h) (by decide)
theorem rule_fit {r : Rule} (h : isRule r = true) : r.fit := by
  unfold isRule at h
  simp only [Bool.and_eq_true, decide_eq_true_eq, List.all_eq_true] at h
  refine ⟨name_le h.1, fun p hp => ?_⟩
  have := h.2.2.1 p hp
  unfold isSaid at this
  simp only [Bool.and_eq_true, decide_eq_true_eq] at this
  exact name_le this.2
/-- a list in the heap, or a written tuple -/
def LiA (h : LH) (v : LV) (xs : List LV) : Prop := (∃ r, v = .ref r ∧ h[r]? = some (.lst xs)) ∨ v = .ktu xs
theorem LiA.fr {S : Nat → Prop} {h h' : LH} {v : LV} {xs : List LV} (a : LiA h v xs) (f : Fr S h h') (hs : ∀ r xs, S r → h[r]? ≠ some (.lst xs)) : LiA h' v xs := by
  rcases a with ⟨r, rfl, e⟩ | rfl
  · exact .inl ⟨r, rfl, f.get e fun z => hs r _ z e⟩
  · exact .inr rfl
/-- an instance of World, its parts within lo .. hi -/
def WIn (lo hi : Nat) (h : LH) (s : Nat) (a : WA) : Prop := ∃ b0 b1 b2 b3 b4 b5, h[s]? = some (.ins 0 [.ref b0, .ref b1, .ref b2, .ref b3, .ref b4, .ref b5, .int a.fee, .tup [.int a.send, .int a.complain]]) ∧
  h[b0]? = some (.lst (a.lands.map .str)) ∧ h[b1]? = some (.dK (dV a.wares)) ∧ h[b2]? = some (.dK (dV a.parties)) ∧ h[b3]? = some (.lst (a.carriers.map .str)) ∧ h[b4]? = some (.lst (a.levies.map levyV)) ∧ h[b5]? = some (.lst (a.rules.map ruleV)) ∧
  (lo ≤ s ∧ s < hi) ∧ (lo ≤ b0 ∧ b0 < hi) ∧ (lo ≤ b1 ∧ b1 < hi) ∧ (lo ≤ b2 ∧ b2 < hi) ∧ (lo ≤ b3 ∧ b3 < hi) ∧ (lo ≤ b4 ∧ b4 < hi) ∧ (lo ≤ b5 ∧ b5 < hi)
theorem WIn.keep {lo hi : Nat} {h h' : LH} {s : Nat} {a : WA} (w : WIn lo hi h s a) (k : ∀ i o, lo ≤ i → i < hi → h[i]? = some o → h'[i]? = some o) : WIn lo hi h' s a := by
  obtain ⟨b0, b1, b2, b3, b4, b5, e, e0, e1, e2, e3, e4, e5, ls, l0, l1, l2, l3, l4, l5⟩ := w
  exact ⟨b0, b1, b2, b3, b4, b5, k _ _ ls.1 ls.2 e, k _ _ l0.1 l0.2 e0, k _ _ l1.1 l1.2 e1, k _ _ l2.1 l2.2 e2, k _ _ l3.1 l3.2 e3, k _ _ l4.1 l4.2 e4, k _ _ l5.1 l5.2 e5, ls, l0, l1, l2, l3, l4, l5⟩
theorem fst_new {P : Prg} {h : LH} {s c f : Nat} {fs : List LV} {ci : ClI} (e : h[s]? = some (.ins c fs)) (ec : P.cls[c]? = some ci) (hi : ci.fs.idxOf f = fs.length) (hl : fs.length < ci.fs.length) (v : LV) : pFst P (.ref s) f v h = .ok .non (h.set s (.ins c (fs ++ [v]))) := by
  simp only [pFst, e, ec, hi, Nat.lt_irrefl, if_false, true_and, hl, if_true]
section
variable {P : Prg}
/-- self.f = a new object made of v -/
theorem fst_step (W : BW P) {F : FT} {ls : LSt} {h : LH} {s f : Nat} {fs : List LV} {ex : Ex} {o : LO} (h0 : slotE ls 0 (h ++ [o]) = .ok (.ref s) (h ++ [o])) (hx : evE P F ex ls h = .ok (.ref h.length) (h ++ [o])) (e : h[s]? = some (.ins 0 fs)) (hf : fs.length = f) (hl : f < 8) :
    ∃ h', evS P F (.fst (.var 0) f ex) ls h = .nx ls h' ∧ h'[s]? = some (.ins 0 (fs ++ [.ref h.length])) ∧ h'[h.length]? = some o ∧ h'.length = h.length + 1 ∧ Fr (fun i => i = s) h h' := by
  obtain ⟨ci, ec, ef, _⟩ := W.cl
  have hs := lt_of e
  have e1 : (h ++ [o])[s]? = some (.ins 0 fs) := by rw [List.getElem?_append_left hs]; exact e
  refine ⟨(h ++ [o]).set s (.ins 0 (fs ++ [.ref h.length])), ?_, ?_, ?_, by simp, ?_⟩
  · simp only [es_fst, hx, toS_ok, ev_var, h0]
    rw [fst_new e1 ec (by rw [ef, hf]; match f, hl with
      | 0, _ => rfl
      | 1, _ => rfl
      | 2, _ => rfl
      | 3, _ => rfl
      | 4, _ => rfl
      | 5, _ => rfl
      | 6, _ => rfl
      | 7, _ => rfl) (by rw [ef]; simpa [hf] using hl)]
    rfl
  · rw [List.getElem?_set_self (by simp; omega)]
  · rw [List.getElem?_set_ne (by omega)]; simp
  · exact Fr.seq (S := fun i => i = s) (T := fun i => i = s) (Fr.app _ h [o]) (Fr.set _ rfl) (fun i _ z => z)
theorem fst_val (W : BW P) {F : FT} {ls : LSt} {h : LH} {s f : Nat} {fs : List LV} {ex : Ex} {v : LV} (h0 : slotE ls 0 h = .ok (.ref s) h) (hx : evE P F ex ls h = .ok v h) (e : h[s]? = some (.ins 0 fs)) (hf : fs.length = f) (hl : f < 8) :
    ∃ h', evS P F (.fst (.var 0) f ex) ls h = .nx ls h' ∧ h'[s]? = some (.ins 0 (fs ++ [v])) ∧ h'.length = h.length ∧ Fr (fun i => i = s) h h' := by
  obtain ⟨ci, ec, ef, _⟩ := W.cl
  have hs := lt_of e
  refine ⟨h.set s (.ins 0 (fs ++ [v])), ?_, ?_, by simp, ?_⟩
  · simp only [es_fst, hx, toS_ok, ev_var, h0]
    rw [fst_new e ec (by rw [ef, hf]; match f, hl with
      | 0, _ => rfl
      | 1, _ => rfl
      | 2, _ => rfl
      | 3, _ => rfl
      | 4, _ => rfl
      | 5, _ => rfl
      | 6, _ => rfl
      | 7, _ => rfl) (by rw [ef]; simpa [hf] using hl)]
    rfl
  · rw [List.getElem?_set_self hs]
  · exact Fr.set _ rfl
theorem list_ev {P : Prg} {F : FT} {ls : LSt} {h : LH} {i : Nat} {v : LV} {xs : List LV} (hi : slotE ls i h = .ok v h) (a : LiA h v xs) (hl : xs.length ≤ 16777216) : evE P F (.bif .list (.cons (.var i) .nil)) ls h = .ok (.ref h.length) (h ++ [.lst xs]) := by
  simp_arith [hi]
  rcases a with ⟨r, rfl, e⟩ | rfl
  · rw [list_lst h e, newL_ok h hl]
  · rw [list_ktu, newL_ok h hl]
theorem dict_ev {P : Prg} {F : FT} {ls : LSt} {h : LH} {i r : Nat} {xs : List (LV × LV)} (hi : slotE ls i h = .ok (.ref r) h) (e : h[r]? = some (.dK xs)) : evE P F (.bif .dict (.cons (.var i) .nil)) ls h = .ok (.ref h.length) (h ++ [.dK xs]) := by
  simp_arith [hi, dict_dK h e]
theorem LiA.len {h : LH} {v : LV} {xs : List LV} (a : LiA h v xs) : pLen [v] h = .ok (.int xs.length) h := by
  rcases a with ⟨r, rfl, e⟩ | rfl
  · exact len_lst h e
  · exact len_ktu h _
theorem LiA.isi {h : LH} {v : LV} {xs : List LV} (a : LiA h v xs) (n : Nat) : pIsi n [.ty 3, .ty 4] v h = .ok (.bl true) h := by
  rcases a with ⟨r, rfl, e⟩ | rfl
  · exact isi_lst2 h e n
  · rfl
theorem LiA.walk {h : LH} {v : LV} {xs : List LV} (a : LiA h v xs) : ∃ w, walkV v h = .ok w h ∧ (w = .told xs ∨ ∃ m, w = .at_ m xs.length ∧ h[m]? = some (.lst xs)) := by
  rcases a with ⟨r, rfl, e⟩ | rfl
  · exact ⟨_, walk_lst e, .inr ⟨r, rfl, e⟩⟩
  · exact ⟨_, rfl, .inl rfl⟩
/-- each is a levy; a list of kinds is made for each -/
theorem levies_comp (B : B0 P) (C : B1 P) (a : WA) (n l w : Nat) (wk : Wk) (x0 x3 x4 x5 x6 x7 x8 x9 x10 : Option LV) (h : LH) (hl : h[l]? = some (.lst (a.lands.map .str))) (hw : h[w]? = some (.dK (dV a.wares))) (hk : wk = .told (a.levies.map levyV) ∨ ∃ m, wk = .at_ m (a.levies.map levyV).length ∧ h[m]? = some (.lst (a.levies.map levyV)))
    (hlen : a.levies.length ≤ 20) (hwl : a.wares.length ≤ 6) :
    ∃ h1, cmpW P (run P (n + 2)) (.cal 5 (.cons (.var 10) (.cons (.var 1) (.cons (.lvl (.var 2)) .nil)))) [10] (.nm 10) .none wk [x0, some (.ref l), some (.ref w), x3, x4, x5, x6, x7, x8, x9, x10] h = .ok (a.levies.map fun x => LV.bl (isLevy a.lands a.kinds x)) h1 ∧ Fr noS h h1 := by
  have go := comp_go (w := wk) (xs := a.levies.map levyV) (t := fun v ls h => asg P (run P (n + 2)) (.nm 10) v ls h) (q := fun ls h => evQ P (run P (n + 2)) .none ls h) (e := fun ls h => evE P (run P (n + 2)) (.cal 5 (.cons (.var 10) (.cons (.var 1) (.cons (.lvl (.var 2)) .nil)))) ls h) (ls := [x0, some (.ref l), some (.ref w), x3, x4, x5, x6, x7, x8, x9, none])
    (fun i acc h1 => i ≤ a.levies.length ∧ acc = (a.levies.take i).map (fun x => LV.bl (isLevy a.lands a.kinds x)) ∧ Fr noS h h1) (fun i acc h1 hI => by
      rcases hk with rfl | ⟨m, rfl, em⟩
      · rfl
      · simp only [nxW, hI.2.2.get0 em]) (fun i x acc h1 ex hI => by
      obtain ⟨h1', rfl, fr⟩ := hI
      rw [List.getElem?_map] at ex
      obtain ⟨y, ey, rfl⟩ := Option.map_eq_some_iff.mp ex
      have e1 := fr.get0 hl
      have e2 := fr.get0 hw
      have l1 : (h1 ++ [LO.lst ((dV a.wares).map (·.2))])[l]? = some (.lst (a.lands.map .str)) := by rw [List.getElem?_append_left (lt_of e1)]; exact e1
      have l2 : (h1 ++ [LO.lst ((dV a.wares).map (·.2))])[h1.length]? = some (.lst (a.kinds.map .str)) := by simp [dV, WA.kinds]
      refine ⟨_, _, by simp_arith []; rfl, true, _, by simp_arith []; rfl, fun _ => ⟨.bl (isLevy a.lands a.kinds y), h1 ++ [.lst ((dV a.wares).map (·.2))], ?_, ?_, ?_⟩, fun z => by cases z⟩
      · simp_arith [lvl_dK h1 e2]
        rw [newL_ok h1 (by simp [dV]; omega)]
        simp_arith [C.f5.call3, levy_spec B C n y l h1.length a.lands a.kinds _ l1 l2, lvl_dK h1 e2]
      · simp; omega
      · have hlt : i < a.levies.length := (List.getElem?_eq_some_iff.mp ey).1
        refine ⟨by omega, ?_, fr.trans (Fr.app _ _ _)⟩
        rw [List.take_add_one, ey, List.map_append]; rfl) a.levies.length 0 [] h ⟨by omega, rfl, Fr.refl _ _⟩ (by simp)
  obtain ⟨r, h1, e, _, e2, fr⟩ := go
  refine ⟨h1, ?_, fr⟩
  unfold cmpW compOf
  have hf : fuelW wk = a.levies.length := by rcases hk with rfl | ⟨m, rfl, em⟩ <;> simp [fuelW]
  rw [hf]
  rw [List.length_map, List.take_length] at e2
  rw [← e2]
  exact e
end
end LD
end
section
set_option Elab.async false
set_option linter.all false
set_option maxRecDepth 100000
set_option maxHeartbeats 1000000
/-! LGG: World.__init__ -/
namespace LD
open L2
local macro_rules
  | `(tactic| simp_arith [$as,*]) => `(tactic| simp only [bind_ok, bind_exc, bindN_ok, toS_ok, toS_exc, thn_nx, thn_rt, thn_ct, thn_exc, turn_nx, turn_ct, turn_rt, parK_some, par_nil, par_cons, kOp2_eq, kNot_eq, kNt_eq, kIte_eq, kTup_eq, kSl2_eq, kSl1_eq, kFld_eq, kMk_eq, kEq1_eq, kCs2_eq, kCs1_eq, kB1b_eq, kB1_eq, kBf_eq, kBt_eq, kSb3_eq, kSb2_eq, kSb1_eq, kEx_eq, kSet_eq, kPar_eq, kAg3_eq, kAg2_eq, kAg1_eq, kI1_eq, kIf_T, kIf_F, kBf2_T, kBf2_F, kBt2_T, kBt2_F, kI2_T, kI2_F, ev_var, ev_con, ev_op2, ev_neg, ev_isN, ev_bop, ev_nt, ev_ite, ev_tup, ev_lst, ev_dnw, ev_dsp, ev_slc, ev_fld, ev_cal, ev_mke, ev_bif, ev_isi, ev_lvl, ev_sst, ev_eqo, ev_nil, ev_cons, ev_B1, ev_O0, ev_O1, ev_Q0, ev_Q1, asg_nm, asg_tp, asg_kt, asg_sb, asgs_nil, asgs_cons, es_ex, es_set, es_par, es_agN, es_iff, es_ret, es_retN, es_rse, es_pass, es_cont, es_nil, es_cons, ev_B2f, ev_B2t, ite_T, ite_F, ite_TT, ite_FF, t_and, f_and, and_t, and_f, t_or, f_or, not_T, not_F, map1_, app_c, app_n, rep0, repS, len0, lenS, sub_n, slot0, slotS, fin_nx, fin_rt, fin_exc, p2_add, p2_sub, p2_mul, p2_fdiv, p2_mod, p2_pow, p2_eq, p2_ne, p2_lt, p2_le, p2_gt, p2_ge, p2_in, p2_nin, p2_idx, p2_eqd, kCh3_T, kCh3_F, kCh2b_eq, kCh2_eq, kCh1_eq, ev_chn, kBm_eq, pB_len, pB_abs, pB_sum, pB_list, pB_tuple, pB_dict, pB_max2, pB_min2, pM_app, pM_pop, pM_get, asB_bl, asI_int, isN_non, isN_int, isN_ref, isN_str, isN_tup, add_int, sub_int, neg_int, mul_l, mul_r, fdiv_int, mod_int, eq_int, eq_str, eq_bl, ne_int, ne_str, got_some, idx_tup, idx_ktu, idx_frl, len_tup, len_ktu, len_frl, ev_bme, newL_ok, list_tup, list_ktu, slice_tup, slice_frl, isi_str, isi_int, isi_intb, isi_blb, isi_intl, isi_tup, isi_tup2, isi_ktu2, atI_lit, get0, getS, set0, setS, kC2_eq, kC1_eq, kC1r_eq, kL2_eq, kL1_eq, kS4_eq, kS3_eq, kS2_eq, kS1_eq, ev_cmpE, ev_cmpR, ev_lscE, es_slcE, kF2_eq, kF1_eq, kF1r_eq, es_forE, es_forR, walk_tup, walk_ktu, walk_frl, walk_str, List.map_nil, List.map_append, List.length_append, List.map_cons, Nat.reduceAdd, Nat.reduceSub, Nat.reduceLeDiff, Nat.reduceEqDiff, Int.cast_ofNat_Int, Int.reduceBEq, Int.reduceLE, Int.reduceLT, Int.reduceNeg, Int.reduceAdd, Int.reduceSub, Int.reduceMul, Int.reduceToNat, decide_true, decide_false, $as,*])
section
variable {P : Prg}
theorem all_true {α : Type} {f : α → Bool} {xs : List α} (h : ∀ x ∈ xs, f x = true) : xs.all f = true := List.all_eq_true.mpr h
theorem init_spec (B : B0 P) (C : B1 P) (W : BW P) (a : WA) (ok : WOk a) (n s l w p : Nat) (vc vl vr : LV) (h : LH) (hs : s + 1 = h.length) (es : h[s]? = some (.ins 0 [])) (el : h[l]? = some (.lst (a.lands.map .str))) (ew : h[w]? = some (.dK (dV a.wares))) (ep : h[p]? = some (.dK (dV a.parties)))
    (ec : LiA h vc (a.carriers.map .str)) (ev : LiA h vl (a.levies.map levyV)) (er : LiA h vr (a.rules.map ruleV)) :
    ∃ h', run P (n + 5) 12 [.ref s, .ref l, .ref w, .ref p, vc, vl, vr, .int a.fee, .int a.send, .int a.complain] h = .ok .non h' ∧ WIn s h'.length h' s a ∧ Fr (fun i => i = s) h h' := by
  obtain ⟨o1, o2, o3, o4⟩ := ok.lands
  obtain ⟨w1, w2, w3⟩ := ok.wares
  obtain ⟨p1, p2, p3⟩ := ok.parties
  obtain ⟨c1, c2, c3, c4⟩ := ok.carriers
  obtain ⟨v1, v2⟩ := ok.levies
  obtain ⟨r1, r2⟩ := ok.rules
  have hN : run P (n + 4) 2 [.ref l, .int 1, .int 4] h = .ok (.bl true) h := by
    rw [names_spec B (n + 2) (.ref l) a.lands 1 4 (fun x hx => name_le (o3 x hx)) (by omega) h (.inl ⟨l, rfl, el⟩)]
    rw [all_true o3]; simp [o1, o2, o4]; omega
  have hW : run P (n + 4) 10 [.ref w] h = .ok (.bl true) h := by
    rw [wares_spec B W (n + 2) w a.wares (fun q hq => ⟨name_le (w3 q hq).1, name_le (w3 q hq).2⟩) (by omega) h ew]
    have hq : (a.wares.all fun q => isName q.1 && isName q.2) = true := all_true fun q hq => by simp [w3 q hq]
    rw [hq]; simp [w1, w2]
  have hland : ∀ x ∈ a.lands, x.length ≤ 16777216 := fun x hx => name_le (o3 x hx)
  have hP : run P (n + 4) 11 [.ref p, .ref l] h = .ok (.bl true) h := by
    rw [parties_spec B W (n + 2) p l a.parties a.lands (fun q hq => ⟨name_le (p3 q hq).1, hland _ (p3 q hq).2.2⟩) (by omega) h ep el]
    have hq : (a.parties.all fun q => isName q.1 && (!(q.1 == market)) && decide (q.2 ∈ a.lands)) = true := all_true fun q hq => by simp [p3 q hq]
    rw [hq]; simp [p1, p2]
  have hC : run P (n + 4) 2 [vc, .int 0, .int 3] h = .ok (.bl true) h := by
    rw [names_spec B (n + 2) vc a.carriers 0 3 (fun x hx => name_le (c2 x hx)) (by omega) h ec]
    rw [all_true c2]; simp [c3]; omega
  have hR : run P (n + 4) 8 [vr] h = .ok (.bl true) h := by
    rw [rules_spec B C n vr a.rules (fun r hr => rule_fit (r2 r hr)) (by omega) h er]
    rw [all_true r2]; simp [r1]
  obtain ⟨wc, hwc, hkc⟩ := ec.walk
  obtain ⟨wl, hwl, hkl⟩ := ev.walk
  have hcc : ∀ x4 x5 x6 x7 x8 x9, cmpW P (run P (n + 4)) (.op2 .isin (.var 10) (.var 3)) [10] (.nm 10) .none wc [some (.ref s), some (.ref l), some (.ref w), some (.ref p), x4, x5, x6, x7, x8, x9, none] h = .ok (a.carriers.map fun _ => .bl true) h := fun x4 x5 x6 x7 x8 x9 => by
    unfold cmpW
    rw [comp_pure (f := fun _ => .bl true) hkc (by simp; omega) fun v hv => ?_]
    · rw [List.map_map]; rfl
    · obtain ⟨c, hc, rfl⟩ := List.mem_map.mp hv
      refine ⟨_, by simp_arith [lwipe]; rfl, by simp_arith [], ?_⟩
      simp_arith [in_dK ep (k := .str c) rfl, c4 c hc]
  have hca : pC .all (a.carriers.map fun _ => LV.bl true) h = .ok (.bl true) h := by
    rw [pC_all (fun _ => true)]; simp
  obtain ⟨h1, hlv, f1⟩ := levies_comp B C a (n + 2) l w wl (some (.ref s)) (some (.ref p)) (some vc) (some vl) (some vr) (some (.int a.fee)) (some (.int a.send)) (some (.int a.complain)) none h el ew hkl v1 w2
  have hla : pC .all (a.levies.map fun x => LV.bl (isLevy a.lands a.kinds x)) h1 = .ok (.bl true) h1 := by
    rw [pC_all, all_true v2]
  have v1' : ¬ (20 : Int) < (a.levies.length : Int) := by omega
  have hF : ∀ h, run P (n + 4) 1 [.int a.fee, .int 0, .int 2000] h = .ok (.bl true) h := fun h => by rw [number_spec B]; simp [ok.fee]
  have hds : cmpW P (run P (n + 4)) (.cal 1 (.cons (.var 10) (.cons (.con (.int 1)) (.cons (.glo 19) .nil)))) [10] (.nm 10) .none (.told [.int a.send, .int a.complain]) [some (.ref s), some (.ref l), some (.ref w), some (.ref p), some vc, some vl, some vr, some (.int a.fee), some (.int a.send), some (.int a.complain), none] h1 = .ok ([LV.int a.send, .int a.complain].map fun _ => .bl true) h1 := by
    unfold cmpW
    refine comp_pure (.inl rfl) (by simp) fun v hv => ?_
    have : v = .int a.send ∨ v = .int a.complain := by simpa using hv
    rcases this with rfl | rfl
    · refine ⟨_, by simp_arith [lwipe]; rfl, by simp_arith [], ?_⟩
      simp_arith [B.f1.call3, glo_eq W.g19, number_spec B, ok.send]
    · refine ⟨_, by simp_arith [lwipe]; rfl, by simp_arith [], ?_⟩
      simp_arith [B.f1.call3, glo_eq W.g19, number_spec B, ok.complain]
  have hda : pC .all [LV.bl true, LV.bl true] h1 = .ok (.bl true) h1 := rfl
  rw [W.f12.run _ _ _ rfl]
  unfold PB.b12
  simp_arith [B.f2.call3, W.f10.call1, W.f11.call2, C.f8.call1, B.f1.call3, glo_eq W.g13, glo_eq W.g16, glo_eq W.g17, glo_eq W.g18, hN, hW, hP, hC, hR, hwc, hcc, hca, ev.isi, ev.len, List.length_map, v1', hwl, hlv, hla, hF, hds, hda]
  have fe : ∀ {h2 : LH}, Fr (fun i => i = s) h1 h2 → ∀ {i : Nat} {o : LO}, h[i]? = some o → i ≠ s → h2[i]? = some o := fun f i o e ne => f.get (f1.get0 e) ne
  have nel : l ≠ s := fun z => by rw [z, es] at el; cases el
  have nw : w ≠ s := fun z => by rw [z, es] at ew; cases ew
  have np : p ≠ s := fun z => by rw [z, es] at ep; cases ep
  have la : ∀ {h2 : LH} {v : LV} {xs : List LV}, Fr (fun i => i = s) h1 h2 → LiA h v xs → LiA h2 v xs := fun f x => (x.fr f1 fun r xs z => z.elim).fr f fun r xs z e => by
    rw [z, f1.get0 es] at e; cases e
  obtain ⟨h2, e2, s2, n2, l2, g2⟩ := fst_step W (F := run P (n + 4)) (ls := [some (.ref s), some (.ref l), some (.ref w), some (.ref p), some vc, some vl, some vr, some (.int a.fee), some (.int a.send), some (.int a.complain), none]) (h := h1) (s := s) (f := 0) (fs := []) (o := .lst (a.lands.map .str)) (ex := .bif .list (.cons (.var 1) .nil)) rfl (list_ev rfl (.inl ⟨l, rfl, f1.get0 el⟩) (by simp; omega)) (f1.get0 es) rfl (by decide)
  simp_arith [e2, B.f2.call3, W.f10.call1, W.f11.call2, C.f8.call1, B.f1.call3, glo_eq W.g13, glo_eq W.g16, glo_eq W.g17, glo_eq W.g18, hN, hW, hP, hC, hR, hwc, hcc, hca, ev.isi, ev.len, List.length_map, v1', hwl, hlv, hla, hF, hds, hda]
  obtain ⟨h3, e3, s3, n3, l3, g3'⟩ := fst_step W (F := run P (n + 4)) (ls := [some (.ref s), some (.ref l), some (.ref w), some (.ref p), some vc, some vl, some vr, some (.int a.fee), some (.int a.send), some (.int a.complain), none]) (h := h2) (s := s) (f := 1) (o := .dK (dV a.wares)) (ex := .bif .dict (.cons (.var 2) .nil)) rfl (dict_ev (r := w) rfl (fe g2 ew nw)) s2 rfl (by decide)
  simp_arith [e3, B.f2.call3, W.f10.call1, W.f11.call2, C.f8.call1, B.f1.call3, glo_eq W.g13, glo_eq W.g16, glo_eq W.g17, glo_eq W.g18, hN, hW, hP, hC, hR, hwc, hcc, hca, ev.isi, ev.len, List.length_map, v1', hwl, hlv, hla, hF, hds, hda, e2]
  have g3 := g2.trans g3'
  obtain ⟨h4, e4, s4, n4, l4, g4'⟩ := fst_step W (F := run P (n + 4)) (ls := [some (.ref s), some (.ref l), some (.ref w), some (.ref p), some vc, some vl, some vr, some (.int a.fee), some (.int a.send), some (.int a.complain), none]) (h := h3) (s := s) (f := 2) (o := .dK (dV a.parties)) (ex := .bif .dict (.cons (.var 3) .nil)) rfl (dict_ev (r := p) rfl (fe g3 ep np)) s3 rfl (by decide)
  simp_arith [e4, B.f2.call3, W.f10.call1, W.f11.call2, C.f8.call1, B.f1.call3, glo_eq W.g13, glo_eq W.g16, glo_eq W.g17, glo_eq W.g18, hN, hW, hP, hC, hR, hwc, hcc, hca, ev.isi, ev.len, List.length_map, v1', hwl, hlv, hla, hF, hds, hda, e2, e3]
  have g4 := g3.trans g4'
  obtain ⟨h5, e5, s5, n5, l5, g5'⟩ := fst_step W (F := run P (n + 4)) (ls := [some (.ref s), some (.ref l), some (.ref w), some (.ref p), some vc, some vl, some vr, some (.int a.fee), some (.int a.send), some (.int a.complain), none]) (h := h4) (s := s) (f := 3) (o := .lst (a.carriers.map .str)) (ex := .bif .list (.cons (.var 4) .nil)) rfl (list_ev rfl (la g4 ec) (by simp; omega)) s4 rfl (by decide)
  simp_arith [e5, B.f2.call3, W.f10.call1, W.f11.call2, C.f8.call1, B.f1.call3, glo_eq W.g13, glo_eq W.g16, glo_eq W.g17, glo_eq W.g18, hN, hW, hP, hC, hR, hwc, hcc, hca, ev.isi, ev.len, List.length_map, v1', hwl, hlv, hla, hF, hds, hda, e2, e3, e4]
  have g5 := g4.trans g5'
  obtain ⟨h6, e6, s6, n6, l6, g6'⟩ := fst_step W (F := run P (n + 4)) (ls := [some (.ref s), some (.ref l), some (.ref w), some (.ref p), some vc, some vl, some vr, some (.int a.fee), some (.int a.send), some (.int a.complain), none]) (h := h5) (s := s) (f := 4) (o := .lst (a.levies.map levyV)) (ex := .bif .list (.cons (.var 5) .nil)) rfl (list_ev rfl (la g5 ev) (by simp; omega)) s5 rfl (by decide)
  simp_arith [e6, B.f2.call3, W.f10.call1, W.f11.call2, C.f8.call1, B.f1.call3, glo_eq W.g13, glo_eq W.g16, glo_eq W.g17, glo_eq W.g18, hN, hW, hP, hC, hR, hwc, hcc, hca, ev.isi, ev.len, List.length_map, v1', hwl, hlv, hla, hF, hds, hda, e2, e3, e4, e5]
  have g6 := g5.trans g6'
  obtain ⟨h7, e7, s7, n7, l7, g7'⟩ := fst_step W (F := run P (n + 4)) (ls := [some (.ref s), some (.ref l), some (.ref w), some (.ref p), some vc, some vl, some vr, some (.int a.fee), some (.int a.send), some (.int a.complain), none]) (h := h6) (s := s) (f := 5) (o := .lst (a.rules.map ruleV)) (ex := .bif .list (.cons (.var 6) .nil)) rfl (list_ev rfl (la g6 er) (by simp; omega)) s6 rfl (by decide)
  simp_arith [e7, B.f2.call3, W.f10.call1, W.f11.call2, C.f8.call1, B.f1.call3, glo_eq W.g13, glo_eq W.g16, glo_eq W.g17, glo_eq W.g18, hN, hW, hP, hC, hR, hwc, hcc, hca, ev.isi, ev.len, List.length_map, v1', hwl, hlv, hla, hF, hds, hda, e2, e3, e4, e5, e6]
  have g7 := g6.trans g7'
  obtain ⟨h8, e8, s8, l8, g8'⟩ := fst_val W (F := run P (n + 4)) (ls := [some (.ref s), some (.ref l), some (.ref w), some (.ref p), some vc, some vl, some vr, some (.int a.fee), some (.int a.send), some (.int a.complain), none]) (h := h7) (s := s) (f := 6) (v := .int a.fee) (ex := .var 7) rfl (by simp_arith []) s7 rfl (by decide)
  simp_arith [e8, B.f2.call3, W.f10.call1, W.f11.call2, C.f8.call1, B.f1.call3, glo_eq W.g13, glo_eq W.g16, glo_eq W.g17, glo_eq W.g18, hN, hW, hP, hC, hR, hwc, hcc, hca, ev.isi, ev.len, List.length_map, v1', hwl, hlv, hla, hF, hds, hda, e2, e3, e4, e5, e6, e7]
  have g8 := g7.trans g8'
  obtain ⟨h9, e9, s9, l9, g9'⟩ := fst_val W (F := run P (n + 4)) (ls := [some (.ref s), some (.ref l), some (.ref w), some (.ref p), some vc, some vl, some vr, some (.int a.fee), some (.int a.send), some (.int a.complain), none]) (h := h8) (s := s) (f := 7) (v := .tup [.int a.send, .int a.complain]) (ex := .tup (.cons (.var 8) (.cons (.var 9) .nil))) rfl (by simp_arith [Nat.reduceLeDiff]) s8 rfl (by decide)
  simp_arith [e9, B.f2.call3, W.f10.call1, W.f11.call2, C.f8.call1, B.f1.call3, glo_eq W.g13, glo_eq W.g16, glo_eq W.g17, glo_eq W.g18, hN, hW, hP, hC, hR, hwc, hcc, hca, ev.isi, ev.len, List.length_map, v1', hwl, hlv, hla, hF, hds, hda, e2, e3, e4, e5, e6, e7, e8]
  have g9 := g8.trans g9'
  have hl1 := f1.1
  refine ⟨h9, rfl, ⟨h1.length, h2.length, h3.length, h4.length, h5.length, h6.length, s9, ?_, ?_, ?_, ?_, ?_, ?_, ?_⟩, Fr.seq (Fr.any f1) g9 (fun i _ z => z)⟩
  · exact (g3'.trans (g4'.trans (g5'.trans (g6'.trans (g7'.trans (g8'.trans g9')))))).get n2 (by omega)
  · exact (g4'.trans (g5'.trans (g6'.trans (g7'.trans (g8'.trans g9'))))).get n3 (by omega)
  · exact (g5'.trans (g6'.trans (g7'.trans (g8'.trans g9')))).get n4 (by omega)
  · exact (g6'.trans (g7'.trans (g8'.trans g9'))).get n5 (by omega)
  · exact (g7'.trans (g8'.trans g9')).get n6 (by omega)
  · exact (g8'.trans g9').get n7 (by omega)
  · omega
/-- a world is made -/
theorem make_world (B : B0 P) (C : B1 P) (W : BW P) (a : WA) (ok : WOk a) (n l w p : Nat) (vc vl vr : LV) (ks : List Nat) (ws : List LV) (h : LH) (el : h[l]? = some (.lst (a.lands.map .str))) (ew : h[w]? = some (.dK (dV a.wares))) (ep : h[p]? = some (.dK (dV a.parties)))
    (ec : LiA h vc (a.carriers.map .str)) (ev : LiA h vl (a.levies.map levyV)) (er : LiA h vr (a.rules.map ruleV)) (hp : ∀ ci, P.cls[0]? = some ci → (3, ks) ∈ ci.pats) (hk : ws.length = ks.length)
    (hw : ∀ fi, P.fns[12]? = some fi → kwFill fi [.ref h.length, .ref l, .ref w, .ref p] ks ws = some [.ref h.length, .ref l, .ref w, .ref p, vc, vl, vr, .int a.fee, .int a.send, .int a.complain]) :
    ∃ h', makeC P (run P (n + 5)) 0 [.ref l, .ref w, .ref p] ks ws h = .ok (.ref h.length) h' ∧ WIn h.length h'.length h' h.length a ∧ Fr noS h h' := by
  obtain ⟨ci, ec0, ef, ei⟩ := W.cl
  obtain ⟨fi, efi, eb, enp, eN, _, _⟩ := W.f12.ex
  have g : ∀ {i : Nat} {o : LO}, h[i]? = some o → (h ++ [LO.ins 0 []])[i]? = some o := fun e => by rw [List.getElem?_append_left (lt_of e)]; exact e
  have la : ∀ {v : LV} {xs : List LV}, LiA h v xs → LiA (h ++ [LO.ins 0 []]) v xs := fun x => x.fr (Fr.app noS h _) fun r xs z => z.elim
  obtain ⟨h', e, wi, fr⟩ := init_spec B C W a ok n h.length l w p vc vl vr (h ++ [.ins 0 []]) (by simp) (by simp) (g el) (g ew) (g ep) (la ec) (la ev) (la er)
  refine ⟨h', ?_, wi, ⟨by have := fr.1; simp at this; omega, fun i hi _ => by rw [fr.2 i (by simp; omega) (by omega), List.getElem?_append_left hi]⟩⟩
  unfold makeC
  rw [ec0]
  dsimp only
  rw [ei, efi]
  dsimp only
  rw [hw fi efi]
  dsimp only
  rw [if_pos ⟨hp ci ec0, by rw [enp]; rfl, hk⟩, e]
  rfl
end
end LD
end
section
set_option Elab.async false
set_option linter.all false
set_option maxRecDepth 100000
set_option maxHeartbeats 1000000
/-! LGH: rates, likeness of worlds -/
namespace LD
open L2
def kMe (P : Prg) (F : FT) (f : Nat) (x : LV) (vs : List LV) (h : LH) : Res LV := callF P F f (x :: vs) h
theorem kMe_eq (P : Prg) (F : FT) (f : Nat) (x : LV) (vs : List LV) (h : LH) : kMe P F f x vs h = callF P F f (x :: vs) h := rfl
def metK (P : Prg) (F : FT) (o : Option Nat) (x : LV) (xs : Exs) (ls : LSt) (h : LH) : Res LV := match o with
  | some f => (evEs P F xs ls h).bind (kMe P F f x)
  | none => .bad
theorem metK_some (P : Prg) (F : FT) (f : Nat) (x : LV) (xs : Exs) (ls : LSt) (h : LH) : metK P F (some f) x xs ls h = (evEs P F xs ls h).bind (kMe P F f x) := rfl
def kMet (P : Prg) (F : FT) (m : Nat) (xs : Exs) (ls : LSt) (x : LV) (h : LH) : Res LV := metK P F (methF P x m h) x xs ls h
theorem kMet_eq (P : Prg) (F : FT) (m : Nat) (xs : Exs) (ls : LSt) (x : LV) (h : LH) : kMet P F m xs ls x h = metK P F (methF P x m h) x xs ls h := rfl
theorem ev_met (P : Prg) (F : FT) (ls : LSt) (h : LH) (o : Ex) (m : Nat) (xs : Exs) : evE P F (.met o m xs) ls h = (evE P F o ls h).bind (kMet P F m xs ls) := by rw [evE] <;> rfl
local macro_rules
  | `(tactic| simp_arith [$as,*]) => `(tactic| simp only [bind_ok, bind_exc, bindN_ok, toS_ok, toS_exc, thn_nx, thn_rt, thn_ct, thn_exc, turn_nx, turn_ct, turn_rt, parK_some, par_nil, par_cons, kOp2_eq, kNot_eq, kNt_eq, kIte_eq, kTup_eq, kSl2_eq, kSl1_eq, kFld_eq, kMk_eq, kEq1_eq, kCs2_eq, kCs1_eq, kB1b_eq, kB1_eq, kBf_eq, kBt_eq, kSb3_eq, kSb2_eq, kSb1_eq, kEx_eq, kSet_eq, kPar_eq, kAg3_eq, kAg2_eq, kAg1_eq, kI1_eq, kIf_T, kIf_F, kBf2_T, kBf2_F, kBt2_T, kBt2_F, kI2_T, kI2_F, ev_var, ev_con, ev_op2, ev_neg, ev_isN, ev_bop, ev_nt, ev_ite, ev_tup, ev_lst, ev_dnw, ev_dsp, ev_slc, ev_fld, ev_cal, ev_mke, ev_bif, ev_isi, ev_lvl, ev_sst, ev_eqo, ev_nil, ev_cons, ev_B1, ev_O0, ev_O1, ev_Q0, ev_Q1, asg_nm, asg_tp, asg_kt, asg_sb, asgs_nil, asgs_cons, es_ex, es_set, es_par, es_agN, es_iff, es_ret, es_retN, es_rse, es_pass, es_cont, es_nil, es_cons, ev_B2f, ev_B2t, ite_T, ite_F, ite_TT, ite_FF, t_and, f_and, and_t, and_f, t_or, f_or, not_T, not_F, map1_, app_c, app_n, rep0, repS, len0, lenS, sub_n, slot0, slotS, fin_nx, fin_rt, fin_exc, p2_add, p2_sub, p2_mul, p2_fdiv, p2_mod, p2_pow, p2_eq, p2_ne, p2_lt, p2_le, p2_gt, p2_ge, p2_in, p2_nin, p2_idx, p2_eqd, kCh3_T, kCh3_F, kCh2b_eq, kCh2_eq, kCh1_eq, ev_chn, kBm_eq, pB_len, pB_abs, pB_sum, pB_list, pB_tuple, pB_dict, pB_max2, pB_min2, pM_app, pM_pop, pM_get, asB_bl, asI_int, isN_non, isN_int, isN_ref, isN_str, isN_tup, add_int, sub_int, neg_int, mul_l, mul_r, fdiv_int, mod_int, eq_int, eq_str, eq_bl, ne_int, ne_str, got_some, idx_tup, idx_ktu, idx_frl, len_tup, len_ktu, len_frl, ev_bme, newL_ok, list_tup, list_ktu, slice_tup, slice_frl, isi_str, isi_int, isi_intb, isi_blb, isi_intl, isi_tup, isi_tup2, isi_ktu2, atI_lit, get0, getS, set0, setS, kC2_eq, kC1_eq, kC1r_eq, kL2_eq, kL1_eq, kS4_eq, kS3_eq, kS2_eq, kS1_eq, ev_cmpE, ev_cmpR, ev_lscE, es_slcE, kF2_eq, kF1_eq, kF1r_eq, es_forE, es_forR, walk_tup, walk_ktu, walk_frl, walk_str, metK_some, kMe_eq, kMet_eq, ev_met, List.map_nil, List.map_append, List.length_append, List.map_cons, Nat.reduceAdd, Nat.reduceSub, Nat.reduceLeDiff, Nat.reduceEqDiff, Int.cast_ofNat_Int, Int.reduceBEq, Int.reduceLE, Int.reduceLT, Int.reduceNeg, Int.reduceAdd, Int.reduceSub, Int.reduceMul, Int.reduceToNat, decide_true, decide_false, $as,*])
theorem meth_at {P : Prg} {h : LH} {r c m f : Nat} {fs : List LV} {ci : ClI} (e : h[r]? = some (.ins c fs)) (ec : P.cls[c]? = some ci) (em : ci.ms.lookup m = some f) : methF P (.ref r) m h = some f := by
  simp only [methF, e, ec, em]
/-- the rate of a land and kind at a day: what was found last, and its day -/
def rateS (land kind : List Nat) (day : Int) (st : Int × Int) (l : Levy) : Int × Int := if (l.1 == land) = true ∧ (l.2.1 == kind) = true ∧ st.1 ≤ l.2.2.1 ∧ l.2.2.1 ≤ day then (l.2.2.1, l.2.2.2) else st
def rateF (land kind : List Nat) (day : Int) (ls : List Levy) (last found : Int) : Int × Int := ls.foldl (rateS land kind day) (last, found)
theorem rateF_snoc (land kind : List Nat) (day : Int) (l : Levy) (ls : List Levy) (last found : Int) : rateF land kind day (ls ++ [l]) last found = if (l.1 == land) = true ∧ (l.2.1 == kind) = true ∧ (rateF land kind day ls last found).1 ≤ l.2.2.1 ∧ l.2.2.1 ≤ day then (l.2.2.1, l.2.2.2) else rateF land kind day ls last found := by
  unfold rateF
  rw [List.foldl_append]; rfl
theorem rateF_same (land kind : List Nat) (day : Int) : ∀ (ls : List Levy) (found : Int), (∀ l ∈ ls, 0 ≤ l.2.2.1) → (rateF land kind day ls 0 found).2 = (rateF land kind day ls (-1) found).2
  | [], _, _ => rfl
  | l :: ls, found, h => by
    have h0 := h l (List.mem_cons_self ..)
    have ih := rateF_same land kind day ls found fun x hx => h x (List.mem_cons_of_mem _ hx)
    unfold rateF at ih ⊢
    rw [List.foldl_cons, List.foldl_cons]
    by_cases c : (l.1 == land) = true ∧ (l.2.1 == kind) = true ∧ l.2.2.1 ≤ day
    · have e1 : rateS land kind day (0, found) l = (l.2.2.1, l.2.2.2) := if_pos ⟨c.1, c.2.1, h0, c.2.2⟩
      have e2 : rateS land kind day (-1, found) l = (l.2.2.1, l.2.2.2) := if_pos ⟨c.1, c.2.1, by show (-1 : Int) ≤ _; omega, c.2.2⟩
      rw [e1, e2]
    · have e1 : rateS land kind day (0, found) l = (0, found) := if_neg fun z => c ⟨z.1, z.2.1, z.2.2.2⟩
      have e2 : rateS land kind day (-1, found) l = (-1, found) := if_neg fun z => c ⟨z.1, z.2.1, z.2.2.2⟩
      rw [e1, e2]; exact ih
structure BR (P : Prg) : Prop where
  f14 : Fx P 14 PB.b14 4 4 [] false
  f15 : Fx P 15 PB.b15 4 10 [] false
  cl : ∃ ci, P.cls[0]? = some ci ∧ ci.fs = [0, 1, 2, 3, 4, 5, 6, 7] ∧ ci.ms.lookup 0 = some 14 ∧ ci.ms.lookup 1 = some 15
section
variable {P : Prg}
/-- the loop over levies: slots 4 and 5 hold what the last one gave -/
theorem rate_at_spec (R : BR P) (n s b : Nat) (land kind : List Nat) (day : Int) (ls : List Levy) (f0 f1 f2 f3 : LV) (fs : List LV) (h : LH) (es : h[s]? = some (.ins 0 (f0 :: f1 :: f2 :: f3 :: .ref b :: fs))) (eb : h[b]? = some (.lst (ls.map levyV))) :
    run P (n + 1) 15 [.ref s, .str land, .str kind, .int day] h = .ok (.int (rateF land kind day ls 0 0).2) h := by
  obtain ⟨ci, ec, ef, _, _⟩ := R.cl
  rw [R.f15.run _ _ _ rfl]
  unfold PB.b15
  have hf : pFld P (.ref s) 4 h = .ok (.ref b) h := by rw [fld_at h es ec (j := 4) (by rw [ef]; rfl)]; rfl
  obtain ⟨ls', h', e, hI⟩ := for_at (P := P) (F := run P n) (t := .tp (.cons (.nm 6) (.cons (.nm 7) (.cons (.nm 8) (.cons (.nm 9) .nil))))) (body := PB.l15_0) (m := b) (xs := ls.map levyV) (ls := [some (.ref s), some (.str land), some (.str kind), some (.int day), some (.int 0), some (.int 0), none, none, none, none]) (h := h)
    (fun i st h1 => h1 = h ∧ ∃ x6 x7 x8 x9, st = [some (.ref s), some (.str land), some (.str kind), some (.int day), some (.int (rateF land kind day (ls.take i) 0 0).1), some (.int (rateF land kind day (ls.take i) 0 0).2), x6, x7, x8, x9])
    (fun i st h1 hI => by rw [hI.1]; exact eb) ⟨rfl, none, none, none, none, rfl⟩ (fun i x st h1 ex hI => by
      obtain ⟨rfl, x6, x7, x8, x9, rfl⟩ := hI
      rw [List.getElem?_map] at ex
      obtain ⟨l, el, rfl⟩ := Option.map_eq_some_iff.mp ex
      refine ⟨_, _, by simp_arith [levyV, tgsLen]; rfl, ?_⟩
      have et : ls.take (i + 1) = ls.take i ++ [l] := by rw [List.take_add_one, el]; rfl
      rw [et, rateF_snoc]
      unfold PB.l15_0
      simp_arith []
      by_cases q1 : (l.1 == land) = true
      · simp_arith [q1]
        by_cases q2 : (l.2.1 == kind) = true
        · simp_arith [q2, q1]
          by_cases q3 : (rateF land kind day (ls.take i) 0 0).1 ≤ l.2.2.1
          · simp_arith [q3, q1, q2]
            by_cases q4 : l.2.2.1 ≤ day
            · simp_arith [q4, List.reverse_cons, List.reverse_nil, and_self, q1, q2, q3]
              exact ⟨_, _, .inl rfl, rfl, _, _, _, _, rfl⟩
            · simp_arith [q4, and_false, q1, q2, q3]
              exact ⟨_, _, .inl rfl, rfl, _, _, _, _, rfl⟩
          · simp_arith [q3, and_false, false_and, q1, q2]
            exact ⟨_, _, .inl rfl, rfl, _, _, _, _, rfl⟩
        · simp_arith [q2, and_false, false_and, q1]
          exact ⟨_, _, .inl rfl, rfl, _, _, _, _, rfl⟩
      · simp_arith [q1, and_false, false_and]
        exact ⟨_, _, .inl rfl, rfl, _, _, _, _, rfl⟩)
  obtain ⟨rfl, x6, x7, x8, x9, rfl⟩ := hI
  rw [List.length_map, List.take_length] at e
  simp_arith [tgsLen, hf, walk_lst eb, List.length_map, e]
end
end LD
end
section
set_option Elab.async false
set_option linter.all false
set_option maxRecDepth 100000
set_option maxHeartbeats 1000000
/-! LGI: rate, == of worlds -/
namespace LD
open L2
local macro_rules
  | `(tactic| simp_arith [$as,*]) => `(tactic| simp only [bind_ok, bind_exc, bindN_ok, toS_ok, toS_exc, thn_nx, thn_rt, thn_ct, thn_exc, turn_nx, turn_ct, turn_rt, parK_some, par_nil, par_cons, kOp2_eq, kNot_eq, kNt_eq, kIte_eq, kTup_eq, kSl2_eq, kSl1_eq, kFld_eq, kMk_eq, kEq1_eq, kCs2_eq, kCs1_eq, kB1b_eq, kB1_eq, kBf_eq, kBt_eq, kSb3_eq, kSb2_eq, kSb1_eq, kEx_eq, kSet_eq, kPar_eq, kAg3_eq, kAg2_eq, kAg1_eq, kI1_eq, kIf_T, kIf_F, kBf2_T, kBf2_F, kBt2_T, kBt2_F, kI2_T, kI2_F, ev_var, ev_con, ev_op2, ev_neg, ev_isN, ev_bop, ev_nt, ev_ite, ev_tup, ev_lst, ev_dnw, ev_dsp, ev_slc, ev_fld, ev_cal, ev_mke, ev_bif, ev_isi, ev_lvl, ev_sst, ev_eqo, ev_nil, ev_cons, ev_B1, ev_O0, ev_O1, ev_Q0, ev_Q1, asg_nm, asg_tp, asg_kt, asg_sb, asgs_nil, asgs_cons, es_ex, es_set, es_par, es_agN, es_iff, es_ret, es_retN, es_rse, es_pass, es_cont, es_nil, es_cons, ev_B2f, ev_B2t, ite_T, ite_F, ite_TT, ite_FF, t_and, f_and, and_t, and_f, t_or, f_or, not_T, not_F, map1_, app_c, app_n, rep0, repS, len0, lenS, sub_n, slot0, slotS, fin_nx, fin_rt, fin_exc, p2_add, p2_sub, p2_mul, p2_fdiv, p2_mod, p2_pow, p2_eq, p2_ne, p2_lt, p2_le, p2_gt, p2_ge, p2_in, p2_nin, p2_idx, p2_eqd, kCh3_T, kCh3_F, kCh2b_eq, kCh2_eq, kCh1_eq, ev_chn, kBm_eq, pB_len, pB_abs, pB_sum, pB_list, pB_tuple, pB_dict, pB_max2, pB_min2, pM_app, pM_pop, pM_get, asB_bl, asI_int, isN_non, isN_int, isN_ref, isN_str, isN_tup, add_int, sub_int, neg_int, mul_l, mul_r, fdiv_int, mod_int, eq_int, eq_str, eq_bl, ne_int, ne_str, got_some, idx_tup, idx_ktu, idx_frl, len_tup, len_ktu, len_frl, ev_bme, newL_ok, list_tup, list_ktu, slice_tup, slice_frl, isi_str, isi_int, isi_intb, isi_blb, isi_intl, isi_tup, isi_tup2, isi_ktu2, atI_lit, get0, getS, set0, setS, kC2_eq, kC1_eq, kC1r_eq, kL2_eq, kL1_eq, kS4_eq, kS3_eq, kS2_eq, kS1_eq, ev_cmpE, ev_cmpR, ev_lscE, es_slcE, kF2_eq, kF1_eq, kF1r_eq, es_forE, es_forR, walk_tup, walk_ktu, walk_frl, walk_str, metK_some, kMe_eq, kMet_eq, ev_met, List.map_nil, List.map_append, List.length_append, List.map_cons, Nat.reduceAdd, Nat.reduceSub, Nat.reduceLeDiff, Nat.reduceEqDiff, Int.cast_ofNat_Int, Int.reduceBEq, Int.reduceLE, Int.reduceLT, Int.reduceNeg, Int.reduceAdd, Int.reduceSub, Int.reduceMul, Int.reduceToNat, decide_true, decide_false, $as,*])
section
variable {P : Prg}
theorem rate_spec (B : B0 P) (R : BR P) (a : WA) (n s lo hi : Nat) (land kind : List Nat) (day : Int) (h : LH) (w : WIn lo hi h s a) (hl : land ∈ a.lands) (hk : kind ∈ a.kinds) (hd : 0 ≤ day) (hw : a.wares.length ≤ 16777216) :
    run P (n + 2) 14 [.ref s, .str land, .str kind, .int day] h = .ok (.int (rateF land kind day a.levies 0 0).2) (h ++ [.lst (a.kinds.map .str)]) := by
  obtain ⟨b0, b1, b2, b3, b4, b5, e, e0, e1, e2, e3, e4, e5, _⟩ := w
  obtain ⟨ci, ec, ef, em0, em1⟩ := R.cl
  rw [R.f14.run _ _ _ rfl]
  unfold PB.b14
  have ek : (dV a.wares).map (·.2) = a.kinds.map .str := by simp [dV, WA.kinds]
  have g : ∀ {i : Nat} {o : LO}, h[i]? = some o → (h ++ [LO.lst (a.kinds.map .str)])[i]? = some o := fun e => by rw [List.getElem?_append_left (lt_of e)]; exact e
  have f0 : pFld P (.ref s) 0 h = .ok (.ref b0) h := by rw [fld_at h e ec (j := 0) (by rw [ef]; rfl)]; rfl
  have f1 : pFld P (.ref s) 1 h = .ok (.ref b1) h := by rw [fld_at h e ec (j := 1) (by rw [ef]; rfl)]; rfl
  have l1 : (h ++ [LO.lst (a.kinds.map .str)])[h.length]? = some (.lst (a.kinds.map .str)) := by simp
  simp_arith [f0, B.f3.call2, oneof_spec B n land b0 a.lands h e0, hl, f1, lvl_dK h e1, ek]
  rw [newL_ok h (by simp [WA.kinds]; omega)]
  simp_arith [B.f3.call2, oneof_spec B n kind h.length a.kinds _ l1, hk, B.f1.call23, number_spec0 B, hd, meth_at (g e) ec em1, R.f15.call4, rate_at_spec R n s b4 land kind day a.levies _ _ _ _ _ _ (g e) (g e4), f0, oneof_spec B n land b0 a.lands h e0, hl, f1, lvl_dK h e1, ek]
/-! ### likeness -/
theorem eqL_str (h : LH) (n : Nat) : ∀ xs : List (List Nat), eqL (eqV (n + 1) h) (xs.map .str) (xs.map .str) = some true
  | [] => rfl
  | x :: xs => by
    rw [List.map_cons, eqL, eqL_str h n xs]
    have : eqV (n + 1) h (.str x) (.str x) = some (x == x) := rfl
    rw [this]; simp
theorem eqV_levy (h : LH) (n : Nat) (l : Levy) : eqV (n + 2) h (levyV l) (levyV l) = some true := by
  simp [levyV, eqV, kdOf, eqL, eqS]
theorem eqV_said (h : LH) (n : Nat) (l : Said) : eqV (n + 2) h (saidV l) (saidV l) = some true := by
  simp [saidV, eqV, kdOf, eqL, eqS]
theorem eqL_of {α : Type} {h : LH} {n : Nat} {f : α → LV} (hf : ∀ x, eqV n h (f x) (f x) = some true) : ∀ xs : List α, eqL (eqV n h) (xs.map f) (xs.map f) = some true
  | [] => rfl
  | x :: xs => by rw [List.map_cons, eqL, hf x, eqL_of hf xs]; rfl
theorem eqV_rule (h : LH) (n : Nat) (r : Rule) : eqV (n + 4) h (ruleV r) (ruleV r) = some true := by
  have h1 : eqV (n + 3) h (.tup (r.pairs.map saidV)) (.tup (r.pairs.map saidV)) = some true := by
    rw [eqV]; simp only [kdOf]; exact eqL_of (eqV_said h n) r.pairs
  rw [ruleV, eqV]
  simp only [kdOf, eqL, h1]
  simp [eqV, kdOf, eqS]
theorem eqV_lst {h : LH} {n i j : Nat} {xs ys : List LV} (ei : h[i]? = some (.lst xs)) (ej : h[j]? = some (.lst ys)) : eqV (n + 1) h (.ref i) (.ref j) = if xs.length = ys.length then eqL (eqV n h) xs ys else some false := by
  rw [eqV]; simp only [kdOf, ei, ej]
theorem eqI_lst {h : LH} {i j : Nat} {xs ys : List LV} (ei : h[i]? = some (.lst xs)) (ej : h[j]? = some (.lst ys)) : eqI h (.ref i) (.ref j) = if xs.length = ys.length then eqL (eqV 19 h) xs ys else some false := by
  simp only [eqI, ei, ej, eqV_lst ei ej]
theorem dget_dV : ∀ {ws : Pairs}, (ws.map (·.1)).Nodup → ∀ {p : List Nat × List Nat}, p ∈ ws → dget (dV ws) (.str p.1) = some (.str p.2)
  | [], _, p, hp => by simp at hp
  | q :: ws, nd, p, hp => by
    rw [List.map_cons, List.nodup_cons] at nd
    show (if keq (.str q.1) (.str p.1) then some (LV.str q.2) else dget (dV ws) (.str p.1)) = _
    rcases List.mem_cons.mp hp with rfl | hp
    · rw [if_pos (by simp [keq])]
    · rw [if_neg, dget_dV nd.2 hp]
      simp only [keq, beq_iff_eq]
      intro z
      exact nd.1 (z ▸ List.mem_map.mpr ⟨p, hp, rfl⟩)
theorem eqD_self (h : LH) {ws : Pairs} (nd : (ws.map (·.1)).Nodup) : ∀ vs : Pairs, (∀ p ∈ vs, p ∈ ws) → eqD h (dV ws) (dV vs) = some true
  | [], _ => rfl
  | p :: vs, hv => by
    show eqD h (dV ws) ((.str p.1, .str p.2) :: dV vs) = _
    rw [eqD, dget_dV nd (hv p (List.mem_cons_self ..)), eqD_self h nd vs fun q hq => hv q (List.mem_cons_of_mem _ hq)]
    have : eqV 20 h (.str p.2) (.str p.2) = some (p.2 == p.2) := rfl
    simp [this]
theorem eqI_dK {h : LH} {i j : Nat} {ws : Pairs} (nd : (ws.map (·.1)).Nodup) (ei : h[i]? = some (.dK (dV ws))) (ej : h[j]? = some (.dK (dV ws))) : eqI h (.ref i) (.ref j) = some true := by
  simp only [eqI, ei, ej]
  by_cases q : i = j
  · rw [if_pos q]
  · rw [if_neg q, if_pos trivial]; exact eqD_self h nd ws fun p hp => hp
structure BE (P : Prg) : Prop where
  f13 : Fx P 13 PB.b13 2 3 [] false
  cl : ∃ ci, P.cls[0]? = some ci ∧ ci.fs = [0, 1, 2, 3, 4, 5, 6, 7] ∧ ci.eqf = 13
/-- names are told once -/
def WA.nd (a : WA) : Prop := (a.wares.map (·.1)).Nodup ∧ (a.parties.map (·.1)).Nodup
theorem isi_cls {P : Prg} {h : LH} {r c : Nat} {fs : List LV} (e : h[r]? = some (.ins c fs)) (hc : c < P.cls.length) : pIsi P.cls.length [.cls c] (.ref r) h = .ok (.bl true) h := by
  rw [isi_of h (t := .cls c) (by simp only [tqOf, e]) (by simpa [okTq] using hc) (by simpa [okTq] using hc)]
  simp [isiQ]
theorem isi_lstc {P : Prg} {h : LH} {r c : Nat} {xs : List LV} (e : h[r]? = some (.lst xs)) (hc : c < P.cls.length) : pIsi P.cls.length [.cls c] (.ref r) h = .ok (.bl false) h := by
  rw [isi_of h (t := .ty 3) (by simp only [tqOf, e]) rfl (by simpa [okTq] using hc)]
  simp [isiQ]
/-- worlds that differ at most in levies' number, fee and days -/
theorem weq_spec (E : BE P) (a b : WA) (n s t lo hi lo2 hi2 : Nat) (h : LH) (wa : WIn lo hi h s a) (wb : WIn lo2 hi2 h t b) (nd : a.nd) (h1 : b.lands = a.lands) (h2 : b.wares = a.wares) (h3 : b.parties = a.parties) (h4 : b.carriers = a.carriers) (h5 : b.levies = a.levies ∨ b.levies.length ≠ a.levies.length) (h6 : b.rules = a.rules) :
    run P (n + 1) 13 [.ref s, .ref t] h = .ok (.bl (decide (b.levies.length = a.levies.length ∧ b.fee = a.fee ∧ b.send = a.send ∧ b.complain = a.complain))) h := by
  obtain ⟨b0, b1, b2, b3, b4, b5, e, e0, e1, e2, e3, e4, e5, _⟩ := wa
  obtain ⟨c0, c1, c2, c3, c4, c5, e', e0', e1', e2', e3', e4', e5', _⟩ := wb
  obtain ⟨ci, ec, ef, _⟩ := E.cl
  have hc : 0 < P.cls.length := (List.getElem?_eq_some_iff.mp ec).1
  rw [E.f13.run _ _ _ rfl]
  unfold PB.b13
  have fl : ∀ {r : Nat} {x0 x1 x2 x3 x4 x5 x6 x7 : LV}, h[r]? = some (.ins 0 [x0, x1, x2, x3, x4, x5, x6, x7]) → pFld P (.ref r) 0 h = .ok x0 h ∧ pFld P (.ref r) 1 h = .ok x1 h ∧ pFld P (.ref r) 2 h = .ok x2 h ∧ pFld P (.ref r) 3 h = .ok x3 h ∧ pFld P (.ref r) 4 h = .ok x4 h ∧ pFld P (.ref r) 5 h = .ok x5 h ∧ pFld P (.ref r) 6 h = .ok x6 h ∧ pFld P (.ref r) 7 h = .ok x7 h := fun {r x0 x1 x2 x3 x4 x5 x6 x7} q =>
    ⟨by rw [fld_at h q ec (j := 0) (by rw [ef]; rfl)]; rfl, by rw [fld_at h q ec (j := 1) (by rw [ef]; rfl)]; rfl, by rw [fld_at h q ec (j := 2) (by rw [ef]; rfl)]; rfl, by rw [fld_at h q ec (j := 3) (by rw [ef]; rfl)]; rfl, by rw [fld_at h q ec (j := 4) (by rw [ef]; rfl)]; rfl, by rw [fld_at h q ec (j := 5) (by rw [ef]; rfl)]; rfl, by rw [fld_at h q ec (j := 6) (by rw [ef]; rfl)]; rfl, by rw [fld_at h q ec (j := 7) (by rw [ef]; rfl)]; rfl⟩
  obtain ⟨p0, p1, p2', p3, p4, p5, p6, p7⟩ := fl e
  obtain ⟨q0, q1, q2, q3, q4, q5, q6, q7⟩ := fl e'
  rw [h1] at e0'; rw [h2] at e1'; rw [h3] at e2'; rw [h4] at e3'; rw [h6] at e5'
  have i0 : eqI h (.ref b0) (.ref c0) = some true := by rw [eqI_lst e0 e0', if_pos rfl]; exact eqL_str h 18 _
  have i3 : eqI h (.ref b3) (.ref c3) = some true := by rw [eqI_lst e3 e3', if_pos rfl]; exact eqL_str h 18 _
  have i5 : eqI h (.ref b5) (.ref c5) = some true := by rw [eqI_lst e5 e5', if_pos rfl]; exact eqL_of (eqV_rule h 15) _
  have i4 : eqI h (.ref b4) (.ref c4) = some (decide (b.levies.length = a.levies.length)) := by
    rw [eqI_lst e4 e4']
    rcases h5 with h5 | h5
    · rw [h5, if_pos rfl, eqL_of (eqV_levy h 17)]; simp
    · rw [if_neg (by simpa using fun z => h5 z.symm)]; simp [h5]
  have i6 : eqI h (.int a.fee) (.int b.fee) = some (a.fee == b.fee) := rfl
  have i7 : eqI h (.tup [.int a.send, .int a.complain]) (.tup [.int b.send, .int b.complain]) = some ((a.send == b.send) && (a.complain == b.complain)) := by
    simp [eqI, eqV, kdOf, eqL, eqS]
  simp_arith [isi_cls e' hc, p0, p1, p2', p3, p4, p5, p6, p7, q0, q1, q2, q3, q4, q5, q6, q7, pEqD, tupOf, eqL, i0, eqI_dK nd.1 e1 e1', eqI_dK nd.2 e2 e2', i3, i4, i5, i6, i7]
  congr 2
  rw [Bool.eq_iff_iff]
  simp only [Bool.and_eq_true, decide_eq_true_eq, beq_iff_eq]
  constructor
  · rintro ⟨x1, x2, x3, x4⟩; exact ⟨x1, x2.symm, x3.symm, x4.symm⟩
  · rintro ⟨x1, x2, x3, x4⟩; exact ⟨x1, x2.symm, x3.symm, x4.symm⟩
theorem weq_list (E : BE P) (a : WA) (n s t lo hi : Nat) (xs : List LV) (h : LH) (wa : WIn lo hi h s a) (et : h[t]? = some (.lst xs)) : run P (n + 1) 13 [.ref s, .ref t] h = .ok (.bl false) h := by
  obtain ⟨ci, ec, ef, _⟩ := E.cl
  have hc : 0 < P.cls.length := (List.getElem?_eq_some_iff.mp ec).1
  rw [E.f13.run _ _ _ rfl]
  unfold PB.b13
  simp_arith [isi_lstc et hc]
theorem eqo_of (E : BE P) {n s t : Nat} {fs : List LV} {h : LH} {k : Bool} (e : h[s]? = some (.ins 0 fs)) (ho : othB h 0 (.ref t) = true) (r : run P n 13 [.ref s, .ref t] h = .ok (.bl k) h) (ng : Bool) : eqoM P (run P n) ng (.ref s) (.ref t) h = .ok (.bl (k != ng)) h := by
  obtain ⟨ci, ec, ef, eq⟩ := E.cl
  obtain ⟨fi, efi, eb, enp, eN, _, ek⟩ := E.f13.ex
  unfold eqoM
  simp only [insC, e, ec, eq, efi]
  rw [if_pos ⟨ek, enp, ho⟩, r]
  rfl
end
end LD
end
section
set_option Elab.async false
set_option linter.all false
set_option maxRecDepth 100000
set_option maxHeartbeats 1000000
/-! LGJ: the law's draws -/
namespace LD
open L2
local macro_rules
  | `(tactic| simp_arith [$as,*]) => `(tactic| simp only [bind_ok, bind_exc, bindN_ok, toS_ok, toS_exc, thn_nx, thn_rt, thn_ct, thn_exc, turn_nx, turn_ct, turn_rt, parK_some, par_nil, par_cons, kOp2_eq, kNot_eq, kNt_eq, kIte_eq, kTup_eq, kSl2_eq, kSl1_eq, kFld_eq, kMk_eq, kEq1_eq, kCs2_eq, kCs1_eq, kB1b_eq, kB1_eq, kBf_eq, kBt_eq, kSb3_eq, kSb2_eq, kSb1_eq, kEx_eq, kSet_eq, kPar_eq, kAg3_eq, kAg2_eq, kAg1_eq, kI1_eq, kIf_T, kIf_F, kBf2_T, kBf2_F, kBt2_T, kBt2_F, kI2_T, kI2_F, ev_var, ev_con, ev_op2, ev_neg, ev_isN, ev_bop, ev_nt, ev_ite, ev_tup, ev_lst, ev_dnw, ev_dsp, ev_slc, ev_fld, ev_cal, ev_mke, ev_bif, ev_isi, ev_lvl, ev_sst, ev_eqo, ev_nil, ev_cons, ev_B1, ev_O0, ev_O1, ev_Q0, ev_Q1, asg_nm, asg_tp, asg_kt, asg_sb, asgs_nil, asgs_cons, es_ex, es_set, es_par, es_agN, es_iff, es_ret, es_retN, es_rse, es_pass, es_cont, es_nil, es_cons, ev_B2f, ev_B2t, ite_T, ite_F, ite_TT, ite_FF, t_and, f_and, and_t, and_f, t_or, f_or, not_T, not_F, map1_, app_c, app_n, rep0, repS, len0, lenS, sub_n, slot0, slotS, fin_nx, fin_rt, fin_exc, p2_add, p2_sub, p2_mul, p2_fdiv, p2_mod, p2_pow, p2_eq, p2_ne, p2_lt, p2_le, p2_gt, p2_ge, p2_in, p2_nin, p2_idx, p2_eqd, kCh3_T, kCh3_F, kCh2b_eq, kCh2_eq, kCh1_eq, ev_chn, kBm_eq, pB_len, pB_abs, pB_sum, pB_list, pB_tuple, pB_dict, pB_max2, pB_min2, pM_app, pM_pop, pM_get, asB_bl, asI_int, isN_non, isN_int, isN_ref, isN_str, isN_tup, add_int, sub_int, neg_int, mul_l, mul_r, fdiv_int, mod_int, eq_int, eq_str, eq_bl, ne_int, ne_str, got_some, idx_tup, idx_ktu, idx_frl, len_tup, len_ktu, len_frl, ev_bme, newL_ok, list_tup, list_ktu, slice_tup, slice_frl, isi_str, isi_int, isi_intb, isi_blb, isi_intl, isi_tup, isi_tup2, isi_ktu2, atI_lit, get0, getS, set0, setS, kC2_eq, kC1_eq, kC1r_eq, kL2_eq, kL1_eq, kS4_eq, kS3_eq, kS2_eq, kS1_eq, ev_cmpE, ev_cmpR, ev_lscE, es_slcE, kF2_eq, kF1_eq, kF1r_eq, es_forE, es_forR, walk_tup, walk_ktu, walk_frl, walk_str, metK_some, kMe_eq, kMet_eq, ev_met, List.map_nil, List.map_append, List.length_append, List.map_cons, Nat.reduceAdd, Nat.reduceSub, Nat.reduceLeDiff, Nat.reduceEqDiff, Int.cast_ofNat_Int, Int.reduceBEq, Int.reduceLE, Int.reduceLT, Int.reduceNeg, Int.reduceAdd, Int.reduceSub, Int.reduceMul, Int.reduceToNat, decide_true, decide_false, $as,*])
structure BD (P : Prg) : Prop where
  f107 : Fx P 107 PB.b107 3 4 [] false
  f108 : Fx P 108 PB.b108 2 2 [] false
  f109 : Fx P 109 PB.b109 4 10 [] false
  f110 : Fx P 110 PB.b110 2 2 [] false
section
variable {P : Prg}
theorem draw_spec (D : BD P) (n : Nat) (c k m : Int) (hm : 0 < m) (h : LH) : ∃ r : Int, run P (n + 1) 107 [.int c, .int k, .int m] h = .ok (.int r) h ∧ 0 ≤ r ∧ r < m := by
  rw [D.f107.run _ _ _ rfl]
  unfold PB.b107
  have h16 : (0 : Int) < 16 := by decide
  simp_arith [Int.reduceLT]
  have hp : ∃ p : Int, atI [LV.int 1000003, .int 1000033, .int 1000037, .int 1000039, .int 1000081, .int 1000099, .int 1000117, .int 1000121, .int 1000133, .int 1000151, .int 1000159, .int 1000171, .int 1000183, .int 1000187, .int 1000193, .int 1000199] (k % 16) = some (.int p) ∧ 0 < p := by
    have h0 : 0 ≤ k % 16 := Int.emod_nonneg _ (by decide)
    have h1 : k % 16 < 16 := Int.emod_lt_of_pos _ (by decide)
    rw [atI_of h0]
    have h2 : (k % 16).toNat < 16 := by omega
    generalize (k % 16).toNat = j at h2
    match j, h2 with
    | 0, _ | 1, _ | 2, _ | 3, _ | 4, _ | 5, _ | 6, _ | 7, _ | 8, _ | 9, _ | 10, _ | 11, _ | 12, _ | 13, _ | 14, _ | 15, _ => exact ⟨_, rfl, by decide⟩
    | j + 16, h2 => exact absurd h2 (by omega)
  obtain ⟨p, hp, pp⟩ := hp
  simp_arith [hp, pp, hm, Int.reduceLT]
  exact ⟨_, rfl, Int.emod_nonneg _ (by omega), Int.emod_lt_of_pos _ hm⟩
theorem cell_spec (D : BD P) (n s : Nat) (k : Int) (hk : 0 ≤ k) (ns : List Int) (h : LH) (e : h[s]? = some (.lst (ns.map .int))) : ∃ c : Int, run P (n + 2) 108 [.ref s, .int k] h = .ok (.int c) h ∧ 0 ≤ c := by
  rw [D.f108.run _ _ _ rfl]
  unfold PB.b108
  simp_arith [len_lst h e, List.length_map]
  by_cases q : k < (ns.length : Int)
  · have hg : atI (ns.map LV.int) k = some (.int (ns[k.toNat]?.getD 0)) := by
      rw [atI_of hk, List.getElem?_map]
      have : k.toNat < ns.length := by omega
      simp [this]
    simp_arith [q, idx_lst h e, hg, len_lst h e, List.length_map]
    exact ⟨_, rfl, by split <;> omega⟩
  · obtain ⟨r, er, r0, _⟩ := draw_spec D n ((if ns.sum < 0 then -ns.sum else ns.sum) + 7919 * k) k 999983 (by decide) h
    have es : pSum [.ref s] h = .ok (.int ns.sum) h := by simp only [pSum, lstOf, e, intsOf_map]
    simp_arith [q, es, D.f107.call3, er, len_lst h e, List.length_map]
    exact ⟨_, rfl, r0⟩
theorem take_spec (D : BD P) (n d : Nat) (ds : List Int) (m : Int) (hm : 0 < m) (h : LH) (hd : h[d]? = some (.lst (ds.map .int))) :
    run P (n + 1) 110 [.ref d, .int m] h = .ok (.int (ds.headD 0 % m)) ((h ++ [LO.lst []]).set d (.lst (ds.tail.map .int))) := by
  rw [D.f110.run _ _ _ rfl]
  unfold PB.b110
  have hl : d < h.length := lt_of hd
  have e1 : (h ++ [LO.lst []])[d]? = some (.lst (ds.map .int)) := by rw [List.getElem?_append_left hl]; exact hd
  have e2 : (h ++ [LO.lst []])[h.length]? = some (.lst []) := by simp
  have en : pNe (.ref d) (.ref h.length) (h ++ [LO.lst []]) = .ok (.bl (!ds.isEmpty)) (h ++ [LO.lst []]) := by
    unfold pNe
    rw [eqV_lst e1 e2]
    cases ds <;> simp [eqL]
  simp_arith [Nat.zero_le, en]
  cases ds with
  | nil =>
    simp_arith [List.isEmpty_nil, List.headD_nil, List.tail_nil, Int.zero_emod, Nat.zero_le, en]
    rw [set_same (by simpa using e1)]
  | cons x xs =>
    simp_arith [List.isEmpty_cons, bmT_lst _ e1 .popAt (.inr rfl), pPopAt, e1, popIx, List.length_map, hm, List.headD_cons, List.tail_cons, Nat.zero_le, en, List.isEmpty_nil, List.headD_nil, List.tail_nil, Int.zero_emod]
    rw [if_pos (by omega)]
    simp_arith [Int.toNat_zero, List.eraseIdx_cons_zero, hm, Nat.zero_le, en, List.isEmpty_nil, List.headD_nil, List.tail_nil, Int.zero_emod, List.isEmpty_cons, bmT_lst _ e1 .popAt (.inr rfl), pPopAt, e1, popIx, List.length_map, List.headD_cons, List.tail_cons]
/-- a number below m; the draws are fewer -/
theorem take_fr (D : BD P) (n d : Nat) (ds : List Int) (m : Int) (hm : 0 < m) (h : LH) (hd : h[d]? = some (.lst (ds.map .int))) : ∃ (r : Int) (ds' : List Int) (h' : LH), run P (n + 1) 110 [.ref d, .int m] h = .ok (.int r) h' ∧ 0 ≤ r ∧ r < m ∧ h'[d]? = some (.lst (ds'.map .int)) ∧ Fr (fun i => i = d) h h' := by
  refine ⟨_, ds.tail, _, take_spec D n d ds m hm h hd, Int.emod_nonneg _ (by omega), Int.emod_lt_of_pos _ hm, ?_, ?_⟩
  · rw [List.getElem?_set_self (by have := lt_of hd; simp; omega)]
  · exact Fr.seq (S := fun i => i = d) (T := fun i => i = d) (Fr.app _ h _) (Fr.set _ rfl) fun _ _ z => z
theorem digits_spec (D : BD P) (n s : Nat) (at_ many base : Int) (h1 : 0 ≤ at_) (h2 : 0 ≤ many) (h3 : many ≤ 1000000) (h4 : 0 < base) (h5 : base < 1073741824) (ns : List Int) (h : LH) (e : h[s]? = some (.lst (ns.map .int))) :
    ∃ (r : Nat) (ds : List Int) (h' : LH), run P (n + 3) 109 [.ref s, .int at_, .int many, .int base] h = .ok (.ref r) h' ∧ h'[r]? = some (.lst (ds.map .int)) ∧ h.length ≤ r ∧ Fr noS h h' := by
  obtain ⟨c, ec, c0⟩ := cell_spec D n s at_ h1 ns h e
  rw [D.f109.run _ _ _ rfl]
  unfold PB.b109 PB.s109_0 PB.s109_1 PB.s109_2 PB.s109_3
  have ep : ∀ h : LH, pPow (.int 10) (.int 18) h = .ok (.int 1000000000000000000) h := fun h => rfl
  simp_arith [D.f108.call2, ec, List.reverse_cons, List.reverse_nil, ep, walk_rng (n := many) (by omega) (by omega)]
  obtain ⟨ls', h', ef, left, ds, x7, x8, x9, rfl, er, hl, fr⟩ := for_told (P := P) (F := run P (n + 2)) (t := .nm 7) (body := PB.l109_0) (xs := (List.range many.toNat).map fun (i : Nat) => LV.int i) (ls := [some (.ref s), some (.int at_), some (.int many), some (.int base), some (.int c), some (.ref h.length), some (.int (c - 1000000000000000000)), none, none, none]) (h := h ++ [.lst []])
    (fun i st h' => ∃ (left : Int) (ds : List Int) (x7 x8 x9 : Option LV), st = [some (.ref s), some (.int at_), some (.int many), some (.int base), some (.int c), some (.ref h.length), some (.int left), x7, x8, x9] ∧ h'[h.length]? = some (.lst (ds.map .int)) ∧ ds.length = i ∧ Fr noS h h')
    ⟨_, [], none, none, none, rfl, by simp, rfl, Fr.app _ _ _⟩ (fun i x st hh ex hI => by
      obtain ⟨left, ds, x7, x8, x9, rfl, er, hl, fr⟩ := hI
      rw [List.getElem?_map] at ex
      obtain ⟨j, ej, rfl⟩ := Option.map_eq_some_iff.mp ex
      have hj := List.getElem?_eq_some_iff.mp ej
      have hji : j = i := by simpa using hj.2.symm
      subst hji
      have hlt : j < many.toNat := by simpa using hj.1
      refine ⟨_, _, by simp_arith []; rfl, ?_⟩
      unfold PB.l109_0
      have hdl : (ds.map LV.int).length < 16777216 := by rw [List.length_map]; omega
      have fin_ : ∀ z : Int, Fr noS h (hh.set h.length (.lst (ds.map .int ++ [.int z]))) := fun z => Fr.seq fr (Fr.set (S := fun i => i = h.length) _ rfl) fun i hi z => by omega
      have get_ : ∀ z : Int, (hh.set h.length (.lst (ds.map .int ++ [.int z])))[h.length]? = some (.lst ((ds ++ [z]).map .int)) := fun z => by rw [List.getElem?_set_self (lt_of er)]; simp
      simp_arith [ep, D.f108.call2, ec, List.reverse_cons, List.reverse_nil, walk_rng (n := many) (by omega) (by omega)]
      by_cases q : (1000000000000000000 : Int) ≤ c
      · simp_arith [q, bmT_lst _ er .append (.inl rfl), h4, h5, app_lst _ er hdl, D.f108.call2, ec, List.reverse_cons, List.reverse_nil, ep, walk_rng (n := many) (by omega) (by omega), ep]
        exact ⟨_, _, .inl rfl, _, _, _, _, _, rfl, get_ _, by simp [hl], fin_ _⟩
      · obtain ⟨r1, e1, r10, r11⟩ := draw_spec D (n + 1) ((c + 977 * j) * (c + 31 * j + 5)) ((j : Int) % 9 + 1) 999983 (by decide) hh
        obtain ⟨r2, e2, r20, r21⟩ := draw_spec D (n + 1) ((c + 31 * j) * (c + 7) + 977 * j) ((j : Int) % 7 + 2) 1000003 (by decide) hh
        have m1 : pMul (.int (c + 977 * j)) (.int (c + 31 * j + 5)) hh = .ok (.int ((c + 977 * j) * (c + 31 * j + 5))) hh := mul_l hh (by omega) (by omega)
        have m2 : pMul (.int (c + 31 * j)) (.int (c + 7)) hh = .ok (.int ((c + 31 * j) * (c + 7))) hh := mul_l hh (by omega) (by omega)
        simp_arith [q, m1, m2, D.f107.call3, e1, e2, bmT_lst _ er .append (.inl rfl), h4, h5, app_lst _ er hdl, D.f108.call2, ec, List.reverse_cons, List.reverse_nil, ep, walk_rng (n := many) (by omega) (by omega), ep]
        exact ⟨_, _, .inl rfl, _, _, _, _, _, rfl, get_ _, by simp [hl], fin_ _⟩)
  simp_arith [ef, D.f108.call2, ec, List.reverse_cons, List.reverse_nil, ep, walk_rng (n := many) (by omega) (by omega)]
  exact ⟨_, ds, _, rfl, er, Nat.le_refl _, fr⟩
end
end LD
end
section
set_option Elab.async false
set_option linter.all false
set_option maxRecDepth 100000
set_option maxHeartbeats 1000000
/-! LGK: the law's parts of a world (printed by mkk.py) -/
namespace LD
open L2
local macro_rules
  | `(tactic| simp_arith [$as,*]) => `(tactic| simp only [bind_ok, bind_exc, bindN_ok, toS_ok, toS_exc, thn_nx, thn_rt, thn_ct, thn_exc, turn_nx, turn_ct, turn_rt, parK_some, par_nil, par_cons, kOp2_eq, kNot_eq, kNt_eq, kIte_eq, kTup_eq, kSl2_eq, kSl1_eq, kFld_eq, kMk_eq, kEq1_eq, kCs2_eq, kCs1_eq, kB1b_eq, kB1_eq, kBf_eq, kBt_eq, kSb3_eq, kSb2_eq, kSb1_eq, kEx_eq, kSet_eq, kPar_eq, kAg3_eq, kAg2_eq, kAg1_eq, kI1_eq, kIf_T, kIf_F, kBf2_T, kBf2_F, kBt2_T, kBt2_F, kI2_T, kI2_F, ev_var, ev_con, ev_op2, ev_neg, ev_isN, ev_bop, ev_nt, ev_ite, ev_tup, ev_lst, ev_dnw, ev_dsp, ev_slc, ev_fld, ev_cal, ev_mke, ev_bif, ev_isi, ev_lvl, ev_sst, ev_eqo, ev_nil, ev_cons, ev_B1, ev_O0, ev_O1, ev_Q0, ev_Q1, asg_nm, asg_tp, asg_kt, asg_sb, asgs_nil, asgs_cons, es_ex, es_set, es_par, es_agN, es_iff, es_ret, es_retN, es_rse, es_pass, es_cont, es_nil, es_cons, ev_B2f, ev_B2t, ite_T, ite_F, ite_TT, ite_FF, t_and, f_and, and_t, and_f, t_or, f_or, not_T, not_F, map1_, app_c, app_n, rep0, repS, len0, lenS, sub_n, slot0, slotS, fin_nx, fin_rt, fin_exc, p2_add, p2_sub, p2_mul, p2_fdiv, p2_mod, p2_pow, p2_eq, p2_ne, p2_lt, p2_le, p2_gt, p2_ge, p2_in, p2_nin, p2_idx, p2_eqd, kCh3_T, kCh3_F, kCh2b_eq, kCh2_eq, kCh1_eq, ev_chn, kBm_eq, pB_len, pB_abs, pB_sum, pB_list, pB_tuple, pB_dict, pB_max2, pB_min2, pM_app, pM_pop, pM_get, asB_bl, asI_int, isN_non, isN_int, isN_ref, isN_str, isN_tup, add_int, sub_int, neg_int, mul_l, mul_r, fdiv_int, mod_int, eq_int, eq_str, eq_bl, ne_int, ne_str, got_some, idx_tup, idx_ktu, idx_frl, len_tup, len_ktu, len_frl, ev_bme, newL_ok, list_tup, list_ktu, slice_tup, slice_frl, isi_str, isi_int, isi_intb, isi_blb, isi_intl, isi_tup, isi_tup2, isi_ktu2, atI_lit, get0, getS, set0, setS, kC2_eq, kC1_eq, kC1r_eq, kL2_eq, kL1_eq, kS4_eq, kS3_eq, kS2_eq, kS1_eq, ev_cmpE, ev_cmpR, ev_lscE, es_slcE, kF2_eq, kF1_eq, kF1r_eq, es_forE, es_forR, walk_tup, walk_ktu, walk_frl, walk_str, metK_some, kMe_eq, kMet_eq, ev_met, List.map_nil, List.map_append, List.length_append, List.map_cons, Nat.reduceAdd, Nat.reduceSub, Nat.reduceLeDiff, Nat.reduceEqDiff, Int.cast_ofNat_Int, Int.reduceBEq, Int.reduceLE, Int.reduceLT, Int.reduceNeg, Int.reduceAdd, Int.reduceSub, Int.reduceMul, Int.reduceToNat, decide_true, decide_false, $as,*])

def landsL : List (List (List Nat)) := [[[101, 97, 115, 116], [119, 101, 115, 116]], [[101, 97, 115, 116]], [[115, 97, 110, 100], [101, 97, 115, 116], [119, 101, 115, 116]]]
section
variable {P : Prg}
theorem pk0 (D : BD P) (n d : Nat) (ds : List Int) (h : LH) (hd : h[d]? = some (.lst (ds.map .int))) :
    ∃ (l : Nat) (lands : List (List Nat)) (ds' : List Int) (h' : LH), evS P (run P (n + 1)) PB.s111_0 [some (.ref d), none, none, none, none, none, none, none, none, none, none, none, none, none, none, none, none, none, none, none, none] h = .nx [some (.ref d), some (.ref l), none, none, none, none, none, none, none, none, none, none, none, none, none, none, none, none, none, none, none] h' ∧ lands ∈ landsL ∧ h'[l]? = some (.lst (lands.map .str)) ∧ h'[d]? = some (.lst (ds'.map .int)) ∧ h.length ≤ l ∧ Fr (fun i => i = d) h h' := by
  have hdl := lt_of hd
  unfold PB.s111_0
  have e0 : (((h ++ [LO.lst [.str [101, 97, 115, 116], .str [119, 101, 115, 116]]]) ++ [LO.lst [.str [101, 97, 115, 116]]]) ++ [LO.lst [.str [115, 97, 110, 100], .str [101, 97, 115, 116], .str [119, 101, 115, 116]]])[d]? = some (.lst (ds.map .int)) := by
    rw [List.getElem?_append_left (by simp; omega), List.getElem?_append_left (by simp; omega), List.getElem?_append_left hdl]; exact hd
  obtain ⟨r, ds', h', er, r0, r3, ed, fr⟩ := take_fr D n d ds 3 (by decide) _ e0
  have hf : Fr (fun i => i = d) h h' := Fr.seq (Fr.trans (Fr.app _ h _) (Fr.trans (Fr.app _ _ _) (Fr.app _ _ _))) fr fun _ _ z => z
  simp_arith [D.f110.call2, er]
  have hr : r = 0 ∨ r = 1 ∨ r = 2 := by omega
  rcases hr with rfl | rfl | rfl
  · simp_arith [D.f110.call2, er]
    refine ⟨_, [[101, 97, 115, 116], [119, 101, 115, 116]], _, _, rfl, by simp [landsL], ?_, ed, ?_, hf⟩
    · exact fr.get (by simp) (by omega)
    · omega
  · simp_arith [D.f110.call2, er]
    refine ⟨_, [[101, 97, 115, 116]], _, _, rfl, by simp [landsL], ?_, ed, ?_, hf⟩
    · exact fr.get (by rw [List.getElem?_append_left (by simp), List.getElem?_append_right (by simp)]; simp) (by omega)
    · omega
  · simp_arith [D.f110.call2, er]
    refine ⟨_, [[115, 97, 110, 100], [101, 97, 115, 116], [119, 101, 115, 116]], _, _, rfl, by simp [landsL], ?_, ed, ?_, hf⟩
    · exact fr.get (by rw [List.getElem?_append_right (by simp)]; simp) (by omega)
    · omega

theorem cutL_hi (xs : List LV) (k : Int) (hk : 0 ≤ k) : cutL xs none (some k) = xs.take k.toNat := by
  unfold cutL
  simp only [HT.sIx, Nat.sub_zero, List.drop_zero]
  rw [if_neg (by omega)]
  exact List.take_eq_take_iff.mpr (by omega)
theorem cutL_lo (xs : List LV) (k : Int) (hk : 0 ≤ k) : cutL xs (some k) none = xs.drop k.toNat := by
  unfold cutL
  simp only [HT.sIx]
  rw [if_neg (by omega)]
  by_cases q : k.toNat ≤ xs.length
  · rw [Nat.min_eq_left q, List.take_of_length_le (by simp)]
  · rw [Nat.min_eq_right (by omega), List.drop_eq_nil_of_le (Nat.le_refl _), List.drop_eq_nil_of_le (by omega)]; simp
theorem notin_take {α : Type} {l : List α} (nd : l.Nodup) {i : Nat} {y : α} (e : l[i]? = some y) : y ∉ l.take i := by
  intro hy
  obtain ⟨j, hj, ej⟩ := List.mem_iff_getElem.mp hy
  have h1 := List.getElem?_eq_some_iff.mp e
  obtain ⟨hi, e1⟩ := h1
  have hjl : j < i := by simp at hj; omega
  rw [List.getElem_take] at ej
  exact (List.pairwise_iff_getElem.mp nd) j i (by omega) hi hjl (ej.trans e1.symm)
theorem dput_new {ws : Pairs} {x v : List Nat} (hx : x ∉ ws.map (·.1)) : dput (dV ws) (.str x) (.str v) = dV (ws ++ [(x, v)]) := by
  unfold dput
  rw [if_neg]
  · simp [dV]
  · simp only [List.any_eq_true, not_exists, not_and]
    intro kv hkv
    obtain ⟨p, hp, rfl⟩ := List.mem_map.mp hkv
    simp only [keq, beq_iff_eq]
    intro z
    exact hx (z ▸ List.mem_map.mpr ⟨p, hp, rfl⟩)
def wnm : List (List Nat) := [[99, 111, 114, 110], [97, 120, 101], [109, 111, 114, 101]]
def pnm : List (List Nat) := [[97, 110, 110], [98, 111, 98], [99, 97, 116], [119, 104, 111, 108, 101], [111, 117, 116], [102, 101, 101]]

theorem pk2 (D : BD P) (n d w : Nat) (v1 : LV) (ds : List Int) (h : LH) (hd : h[d]? = some (.lst (ds.map .int))) (hw : h[w]? = some (.dK [])) :
    ∃ (ws : Pairs) (k : Nat) (x3 : Option LV) (ds' : List Int) (h' : LH), evS P (run P (n + 1)) PB.s111_2 [some (.ref d), some v1, some (.ref w), none, none, none, none, none, none, none, none, none, none, none, none, none, none, none, none, none, none] h = .nx [some (.ref d), some v1, some (.ref w), x3, none, none, none, none, none, none, none, none, none, none, none, none, none, none, none, none, none] h' ∧ ws.map (·.1) = wnm.take k ∧ 1 ≤ k ∧ k ≤ 3 ∧ (∀ p ∈ ws, p.2 = [102, 111, 111, 100] ∨ p.2 = [116, 111, 111, 108]) ∧ h'[w]? = some (.dK (dV ws)) ∧ h'[d]? = some (.lst (ds'.map .int)) ∧ Fr (fun i => i = d ∨ i = w) h h' := by
  unfold PB.s111_2
  obtain ⟨r, ds1, h1, er, r0, r3, ed, fr⟩ := take_fr D n d ds 3 (by decide) h hd
  have nwd : w ≠ d := fun z => by rw [z, hd] at hw; cases hw
  simp_arith [D.f110.call2, er, cutL_hi _ (1 + r) (by omega)]
  have ex : [LV.str [99, 111, 114, 110], .str [97, 120, 101], .str [109, 111, 114, 101]].take (1 + r).toNat = (wnm.take (1 + r).toNat).map .str := by rw [List.map_take]; rfl
  rw [ex]
  have hk1 : 1 ≤ (1 + r).toNat := by omega
  have hk3 : (1 + r).toNat ≤ 3 := by omega
  generalize (1 + r).toNat = k at hk1 hk3
  have nd : (wnm.take k).Nodup := (List.take_sublist _ _).nodup (by decide)
  have hlk : (wnm.take k).length ≤ 3 := by simp [wnm]; omega
  obtain ⟨ls', h', ef, ws, x3, ds', rfl, hws, hv, ew, ed', fr'⟩ := for_told (P := P) (F := run P (n + 1)) (t := .nm 3) (body := PB.l111_0) (xs := (wnm.take k).map .str) (ls := [some (.ref d), some v1, some (.ref w), none, none, none, none, none, none, none, none, none, none, none, none, none, none, none, none, none, none]) (h := h1)
    (fun i st h' => ∃ (ws : Pairs) (x3 : Option LV) (ds' : List Int), st = [some (.ref d), some v1, some (.ref w), x3, none, none, none, none, none, none, none, none, none, none, none, none, none, none, none, none, none] ∧ ws.map (·.1) = (wnm.take k).take i ∧ (∀ p ∈ ws, p.2 = [102, 111, 111, 100] ∨ p.2 = [116, 111, 111, 108]) ∧ h'[w]? = some (.dK (dV ws)) ∧ h'[d]? = some (.lst (ds'.map .int)) ∧ Fr (fun i => i = d ∨ i = w) h h')
    ⟨[], none, ds1, rfl, rfl, by simp, fr.get hw nwd, ed, fr.mono fun _ _ z => .inl z⟩ (fun i x st hh ex hI => by
      obtain ⟨ws, x3, ds2, rfl, hws, hv, ew, ed2, fr2⟩ := hI
      rw [List.getElem?_map] at ex
      obtain ⟨y, ey, rfl⟩ := Option.map_eq_some_iff.mp ex
      refine ⟨_, _, by simp_arith []; rfl, ?_⟩
      unfold PB.l111_0
      obtain ⟨r2, ds3, h3, er3, r20, r23, ed3, fr3⟩ := take_fr D n d ds2 3 (by decide) hh ed2
      have ew3 := fr3.get ew nwd
      have hni : y ∉ ws.map (·.1) := by rw [hws]; exact notin_take nd ey
      have hwl : (dV ws).length < 16777216 := by
        have : ws.length = ((wnm.take k).take i).length := by rw [← hws]; simp
        simp only [dV, List.length_map]
        rw [this, List.length_take]; omega
      have et : (wnm.take k).take (i + 1) = (wnm.take k).take i ++ [y] := by rw [List.take_add_one, ey]; rfl
      have done : ∀ v : List Nat, v = [102, 111, 111, 100] ∨ v = [116, 111, 111, 108] → ∃ ls2 h2, ((SR.nx [some (.ref d), some v1, some (.ref w), some (.str y), none, none, none, none, none, none, none, none, none, none, none, none, none, none, none, none, none] (h3.set w (.dK (dput (dV ws) (.str y) (.str v))))) = .nx ls2 h2 ∨ (SR.nx [some (.ref d), some v1, some (.ref w), some (.str y), none, none, none, none, none, none, none, none, none, none, none, none, none, none, none, none, none] (h3.set w (.dK (dput (dV ws) (.str y) (.str v))))) = .ct ls2 h2) ∧ ∃ (ws : Pairs) (x3 : Option LV) (ds' : List Int), ls2 = [some (.ref d), some v1, some (.ref w), x3, none, none, none, none, none, none, none, none, none, none, none, none, none, none, none, none, none] ∧ ws.map (·.1) = (wnm.take k).take (i + 1) ∧ (∀ p ∈ ws, p.2 = [102, 111, 111, 100] ∨ p.2 = [116, 111, 111, 108]) ∧ h2[w]? = some (.dK (dV ws)) ∧ h2[d]? = some (.lst (ds'.map .int)) ∧ Fr (fun i => i = d ∨ i = w) h h2 := fun v hv2 => by
        refine ⟨_, _, .inl rfl, ws ++ [(y, v)], some (.str y), ds3, rfl, by rw [List.map_append, hws, et]; rfl, ?_, ?_, ?_, ?_⟩
        · intro p hp
          rcases List.mem_append.mp hp with hp | hp
          · exact hv p hp
          · have : p = (y, v) := by simpa using hp
            rw [this]; exact hv2
        · rw [List.getElem?_set_self (lt_of ew3), dput_new hni]
        · rw [List.getElem?_set_ne nwd]; exact ed3
        · exact (fr2.trans (fr3.mono fun _ _ z => .inl z)).trans (Fr.set _ (.inr rfl))
      have hr : r2 = 0 ∨ r2 = 1 ∨ r2 = 2 := by omega
      rcases hr with rfl | rfl | rfl
      · simp_arith [D.f110.call2, er3, setD _ ew3 (k := .str y) rfl hwl, er, cutL_hi _ (1 + r) (by omega)]
        exact done _ (.inl rfl)
      · simp_arith [D.f110.call2, er3, setD _ ew3 (k := .str y) rfl hwl, er, cutL_hi _ (1 + r) (by omega)]
        exact done _ (.inr rfl)
      · simp_arith [D.f110.call2, er3, setD _ ew3 (k := .str y) rfl hwl, er, cutL_hi _ (1 + r) (by omega)]
        exact done _ (.inl rfl))
  rw [ef]
  rw [List.length_map, List.take_length] at hws
  exact ⟨ws, k, x3, ds', h', rfl, hws, hk1, hk3, hv, ew, ed', fr'⟩

theorem pk3 (D : BD P) (n d : Nat) (v1 v2 : LV) (x3 : Option LV) (ds : List Int) (h : LH) (hd : h[d]? = some (.lst (ds.map .int))) :
    ∃ (m k : Nat) (ds' : List Int) (h' : LH), evS P (run P (n + 1)) PB.s111_3 [some (.ref d), some v1, some v2, x3, none, none, none, none, none, none, none, none, none, none, none, none, none, none, none, none, none] h = .nx [some (.ref d), some v1, some v2, x3, some (.ref m), none, none, none, none, none, none, none, none, none, none, none, none, none, none, none, none] h' ∧ 3 ≤ k ∧ k ≤ 6 ∧ h'[m]? = some (.lst ((pnm.take k).map .str)) ∧ h.length ≤ m ∧ h'[d]? = some (.lst (ds'.map .int)) ∧ Fr (fun i => i = d) h h' := by
  unfold PB.s111_3
  have hdl := lt_of hd
  have e0 : (h ++ [LO.lst (pnm.map .str)])[d]? = some (.lst (ds.map .int)) := by rw [List.getElem?_append_left hdl]; exact hd
  obtain ⟨r, ds1, h1, er, r0, r3, ed, fr⟩ := take_fr D n d ds 4 (by decide) _ e0
  have en : h1[h.length]? = some (.lst (pnm.map .str)) := fr.get (by simp) (by omega)
  have er' : run P (n + 1) 110 [.ref d, .int 4] (h ++ [LO.lst [.str [97, 110, 110], .str [98, 111, 98], .str [99, 97, 116], .str [119, 104, 111, 108, 101], .str [111, 117, 116], .str [102, 101, 101]]]) = .ok (.int r) h1 := er
  simp_arith [D.f110.call2, er', slice_lst _ en, cutL_hi _ (3 + r) (by omega)]
  rw [newL_ok _ (by simp [pnm]; omega)]
  simp_arith [D.f110.call2, er', slice_lst _ en, cutL_hi _ (3 + r) (by omega)]
  refine ⟨h1.length, (3 + r).toNat, ds1, _, rfl, by omega, by omega, ?_, ?_, ?_, ?_⟩
  · simp [List.map_take]
  · have := fr.1; simp at this; omega
  · rw [List.getElem?_append_left (lt_of ed)]; exact ed
  · exact (Fr.seq (S := fun i => i = d) (Fr.app _ h _) fr fun _ _ z => z).trans (Fr.app _ _ _)
theorem dmerge_dV : ∀ (ps qs : Pairs), ((qs ++ ps).map (·.1)).Nodup → dmerge (dV qs) (dV ps) = dV (qs ++ ps)
  | [], qs, _ => by simp [dmerge, dV]
  | p :: ps, qs, nd => by
    show dmerge (dput (dV qs) (.str p.1) (.str p.2)) (dV ps) = _
    have hp : p.1 ∉ qs.map (·.1) := by
      rw [List.map_append, List.nodup_append] at nd
      intro z
      exact nd.2.2 _ z p.1 (by simp) rfl
    rw [dput_new hp]
    have e : qs ++ p :: ps = (qs ++ [(p.1, p.2)]) ++ ps := by simp
    rw [e] at nd ⊢
    exact dmerge_dV ps _ nd
theorem pairsOf_tup : ∀ ps : Pairs, pairsOf (ps.map fun p => .tup [.str p.1, .str p.2]) = some (dV ps)
  | [] => rfl
  | p :: ps => by
    rw [List.map_cons, pairsOf, if_pos (by rfl), pairsOf_tup ps]; rfl
theorem idx_strs {h : LH} {l : Nat} {ys : List (List Nat)} (e : h[l]? = some (.lst (ys.map .str))) {r : Int} (h0 : 0 ≤ r) (h1 : r < (ys.length : Int)) : ∃ y ∈ ys, pIdx (.ref l) (.int r) h = .ok (.str y) h := by
  have hlt : r.toNat < ys.length := by omega
  refine ⟨ys[r.toNat], List.getElem_mem hlt, ?_⟩
  rw [idx_lst h e, atI_of h0, List.getElem?_map, List.getElem?_eq_getElem hlt]; rfl
theorem pk4 (D : BD P) (n d l m : Nat) (v2 : LV) (x3 : Option LV) (ds : List Int) (lands L : List (List Nat)) (h : LH) (hd : h[d]? = some (.lst (ds.map .int))) (hl : h[l]? = some (.lst (lands.map .str))) (hm : h[m]? = some (.lst (L.map .str))) (hll : 1 ≤ lands.length) (hL : L.length ≤ 1000) (nd : L.Nodup) (nl : l ≠ d) (nm : m ≠ d) :
    ∃ (q : Nat) (ps : Pairs) (ds' : List Int) (h' : LH), evS P (run P (n + 1)) PB.s111_4 [some (.ref d), some (.ref l), some v2, x3, some (.ref m), none, none, none, none, none, none, none, none, none, none, none, none, none, none, none, none] h = .nx [some (.ref d), some (.ref l), some v2, x3, some (.ref m), some (.ref q), none, none, none, none, none, none, none, none, none, none, none, none, none, none, none] h' ∧ ps.map (·.1) = L ∧ (∀ p ∈ ps, p.2 ∈ lands) ∧ h'[q]? = some (.dK (dV ps)) ∧ h.length ≤ q ∧ h'[d]? = some (.lst (ds'.map .int)) ∧ Fr (fun i => i = d) h h' := by
  unfold PB.s111_4
  obtain ⟨acc, h1, ec, ps, ds1, rfl, hps, hv, ed, fr⟩ := comp_at (t := fun v ls h => asg P (run P (n + 1)) (.nm 20) v ls h) (q := fun ls h => evQ P (run P (n + 1)) .none ls h) (e := fun ls h => evE P (run P (n + 1)) PB.c111_0 ls h) (m := m) (xs := L.map .str) (own := [20]) (ls0 := [some (.ref d), some (.ref l), some v2, x3, some (.ref m), none, none, none, none, none, none, none, none, none, none, none, none, none, none, none, none]) (h := h)
    (fun i acc h' => ∃ (ps : Pairs) (ds' : List Int), acc = (ps.map fun p => LV.tup [.str p.1, .str p.2]) ∧ ps.map (·.1) = L.take i ∧ (∀ p ∈ ps, p.2 ∈ lands) ∧ h'[d]? = some (.lst (ds'.map .int)) ∧ Fr (fun i => i = d) h h')
    (fun i acc h' hI => by obtain ⟨_, _, _, _, _, _, fr⟩ := hI; exact fr.get hm nm) (fun i x acc hh ex hI => by
      obtain ⟨ps, ds2, rfl, hps, hv, ed, fr⟩ := hI
      rw [List.getElem?_map] at ex
      obtain ⟨y, ey, rfl⟩ := Option.map_eq_some_iff.mp ex
      have hll' : (0 : Int) < (lands.length : Int) := by omega
      obtain ⟨r, ds3, h3, er, r0, r3, ed3, fr3⟩ := take_fr D n d ds2 lands.length hll' hh ed
      obtain ⟨z, hz, ez⟩ := idx_strs (fr3.get (fr.get hl nl) nl) r0 r3
      refine ⟨_, _, by simp_arith [lwipe]; rfl, true, _, by simp_arith []; rfl, fun _ => ⟨.tup [.str y, .str z], h3, ?_, ?_, ps ++ [(y, z)], ds3, by simp, ?_, ?_, ed3, fr.trans fr3⟩, fun z => by cases z⟩
      · unfold PB.c111_0
        simp_arith [len_lst _ (fr.get hl nl), List.length_map, D.f110.call2, er, ez]
      · have : ps.length = (L.take i).length := by rw [← hps]; simp
        simp only [List.length_map]
        rw [this, List.length_take]; omega
      · rw [List.map_append, hps, List.take_add_one, ey]; rfl
      · intro p hp
        rcases List.mem_append.mp hp with hp | hp
        · exact hv p hp
        · have : p = (y, z) := by simpa using hp
          rw [this]; exact hz)
    ⟨[], ds, rfl, rfl, by simp, hd, Fr.refl _ _⟩
  rw [List.length_map, List.take_length] at hps
  have ec' : cmpW P (run P (n + 1)) PB.c111_0 [20] (.nm 20) .none (.at_ m (L.map LV.str).length) [some (.ref d), some (.ref l), some v2, x3, some (.ref m), none, none, none, none, none, none, none, none, none, none, none, none, none, none, none, none] h = .ok (ps.map fun p => LV.tup [.str p.1, .str p.2]) h1 := ec
  have hpl : ps.length = L.length := by rw [← hps]; simp
  have e2 : (h1 ++ [LO.lst (ps.map fun p => LV.tup [.str p.1, .str p.2])])[h1.length]? = some (.lst (ps.map fun p => LV.tup [.str p.1, .str p.2])) := by simp
  have e3 : pDict [.ref h1.length] (h1 ++ [LO.lst (ps.map fun p => LV.tup [.str p.1, .str p.2])]) = .ok (.ref (h1.length + 1)) ((h1 ++ [LO.lst (ps.map fun p => LV.tup [.str p.1, .str p.2])]) ++ [.dK (dV ps)]) := by
    have := dmerge_dV ps [] (by rw [List.nil_append, hps]; exact nd)
    simp only [pDict, e2, pairsOf_tup]
    rw [show dmerge [] (dV ps) = dV ps from this]
    simp
  have e4 : pC .keep (ps.map fun p => LV.tup [.str p.1, .str p.2]) h1 = .ok (.ref h1.length) (h1 ++ [LO.lst (ps.map fun p => LV.tup [.str p.1, .str p.2])]) := newL_ok _ (by rw [List.length_map]; omega)
  simp_arith [walk_lst hm, ec', e4, e3]
  refine ⟨_, ps, ds1, _, rfl, hps, hv, ?_, ?_, ?_, ?_⟩
  · rw [List.getElem?_append_right (by simp)]; simp
  · have := fr.1; omega
  · rw [List.getElem?_append_left (by have := lt_of ed; simp; omega), List.getElem?_append_left (lt_of ed)]; exact ed
  · exact fr.trans ((Fr.app _ _ _).trans (Fr.app _ _ _))
end
end LD
end
section
set_option Elab.async false
set_option linter.all false
set_option maxRecDepth 100000
set_option maxHeartbeats 1000000
/-! LGL: the law's parts, on (printed by mkl.py) -/
namespace LD
open L2
local macro_rules
  | `(tactic| simp_arith [$as,*]) => `(tactic| simp only [bind_ok, bind_exc, bindN_ok, toS_ok, toS_exc, thn_nx, thn_rt, thn_ct, thn_exc, turn_nx, turn_ct, turn_rt, parK_some, par_nil, par_cons, kOp2_eq, kNot_eq, kNt_eq, kIte_eq, kTup_eq, kSl2_eq, kSl1_eq, kFld_eq, kMk_eq, kEq1_eq, kCs2_eq, kCs1_eq, kB1b_eq, kB1_eq, kBf_eq, kBt_eq, kSb3_eq, kSb2_eq, kSb1_eq, kEx_eq, kSet_eq, kPar_eq, kAg3_eq, kAg2_eq, kAg1_eq, kI1_eq, kIf_T, kIf_F, kBf2_T, kBf2_F, kBt2_T, kBt2_F, kI2_T, kI2_F, ev_var, ev_con, ev_op2, ev_neg, ev_isN, ev_bop, ev_nt, ev_ite, ev_tup, ev_lst, ev_dnw, ev_dsp, ev_slc, ev_fld, ev_cal, ev_mke, ev_bif, ev_isi, ev_lvl, ev_sst, ev_eqo, ev_nil, ev_cons, ev_B1, ev_O0, ev_O1, ev_Q0, ev_Q1, asg_nm, asg_tp, asg_kt, asg_sb, asgs_nil, asgs_cons, es_ex, es_set, es_par, es_agN, es_iff, es_ret, es_retN, es_rse, es_pass, es_cont, es_nil, es_cons, ev_B2f, ev_B2t, ite_T, ite_F, ite_TT, ite_FF, t_and, f_and, and_t, and_f, t_or, f_or, not_T, not_F, map1_, app_c, app_n, rep0, repS, len0, lenS, sub_n, slot0, slotS, fin_nx, fin_rt, fin_exc, p2_add, p2_sub, p2_mul, p2_fdiv, p2_mod, p2_pow, p2_eq, p2_ne, p2_lt, p2_le, p2_gt, p2_ge, p2_in, p2_nin, p2_idx, p2_eqd, kCh3_T, kCh3_F, kCh2b_eq, kCh2_eq, kCh1_eq, ev_chn, kBm_eq, pB_len, pB_abs, pB_sum, pB_list, pB_tuple, pB_dict, pB_max2, pB_min2, pM_app, pM_pop, pM_get, asB_bl, asI_int, isN_non, isN_int, isN_ref, isN_str, isN_tup, add_int, sub_int, neg_int, mul_l, mul_r, fdiv_int, mod_int, eq_int, eq_str, eq_bl, ne_int, ne_str, got_some, idx_tup, idx_ktu, idx_frl, len_tup, len_ktu, len_frl, ev_bme, newL_ok, list_tup, list_ktu, slice_tup, slice_frl, isi_str, isi_int, isi_intb, isi_blb, isi_intl, isi_tup, isi_tup2, isi_ktu2, atI_lit, get0, getS, set0, setS, kC2_eq, kC1_eq, kC1r_eq, kL2_eq, kL1_eq, kS4_eq, kS3_eq, kS2_eq, kS1_eq, ev_cmpE, ev_cmpR, ev_lscE, es_slcE, kF2_eq, kF1_eq, kF1r_eq, es_forE, es_forR, walk_tup, walk_ktu, walk_frl, walk_str, metK_some, kMe_eq, kMet_eq, ev_met, List.map_nil, List.map_append, List.length_append, List.map_cons, Nat.reduceAdd, Nat.reduceSub, Nat.reduceLeDiff, Nat.reduceEqDiff, Int.cast_ofNat_Int, Int.reduceBEq, Int.reduceLE, Int.reduceLT, Int.reduceNeg, Int.reduceAdd, Int.reduceSub, Int.reduceMul, Int.reduceToNat, decide_true, decide_false, $as,*])
section
variable {P : Prg}

theorem cutL_mid (xs : List LV) (h : 2 ≤ xs.length) : cutL xs (some 1) (some (-1)) = (xs.drop 1).take (xs.length - 2) := by
  have a1 : HT.sIx xs.length 0 (some 1) = 1 := by
    show HT.sIx xs.length 0 (some ((1 : Nat) : Int)) = 1
    rw [HT.sIx_nat]; omega
  have a2 : HT.sIx xs.length xs.length (some (-1)) = xs.length - 1 := by
    simp only [HT.sIx]
    rw [if_pos (by decide)]; omega
  unfold cutL
  rw [a1, a2]
  congr 1
theorem cutL_end (xs : List LV) (h : 1 ≤ xs.length) : cutL xs (some (-1)) none = xs.drop (xs.length - 1) := by
  unfold cutL
  simp only [HT.sIx]
  rw [if_pos (by omega)]
  have : (-1 + (xs.length : Int)).toNat = xs.length - 1 := by omega
  rw [this, List.take_of_length_le (by simp)]
theorem add_lst {h : LH} {i j : Nat} {xs ys : List LV} (ei : h[i]? = some (.lst xs)) (ej : h[j]? = some (.lst ys)) : pAdd (.ref i) (.ref j) h = newL (xs ++ ys) h := by
  simp only [pAdd, ei, ej]
theorem pk5 (D : BD P) (n d m : Nat) (v1 v2 v5 : LV) (x3 : Option LV) (ds : List Int) (L : List (List Nat)) (h : LH) (hd : h[d]? = some (.lst (ds.map .int))) (hm : h[m]? = some (.lst (L.map .str))) (hL : 2 ≤ L.length) (hL2 : L.length ≤ 1000) (nm : m ≠ d) :
    ∃ (q : Nat) (cs : List (List Nat)) (ds' : List Int) (h' : LH), evS P (run P (n + 1)) PB.s111_5 [some (.ref d), some v1, some v2, x3, some (.ref m), some v5, none, none, none, none, none, none, none, none, none, none, none, none, none, none, none] h = .nx [some (.ref d), some v1, some v2, x3, some (.ref m), some v5, some (.ref q), none, none, none, none, none, none, none, none, none, none, none, none, none, none] h' ∧ cs.Sublist L ∧ cs.length ≤ 3 ∧ h'[q]? = some (.lst (cs.map .str)) ∧ h.length ≤ q ∧ h'[d]? = some (.lst (ds'.map .int)) ∧ Fr (fun i => i = d) h h' := by
  unfold PB.s111_5
  have hdl := lt_of hd
  have hxl : (L.map LV.str).length = L.length := List.length_map ..
  have emid : ((L.map LV.str).drop 1).take ((L.map LV.str).length - 2) = (((L.drop 1).take (L.length - 2)).map .str) := by rw [hxl, List.map_take, List.map_drop]
  generalize hM : (L.drop 1).take (L.length - 2) = M at emid
  have e1 : (h ++ [LO.lst (M.map .str)])[d]? = some (.lst (ds.map .int)) := by rw [List.getElem?_append_left hdl]; exact hd
  have em : (h ++ [LO.lst (M.map .str)])[h.length]? = some (.lst (M.map .str)) := by simp
  obtain ⟨acc, h1, ec, zs, ds1, rfl, hzs, hzl, ed, fr⟩ := comp_at (t := fun v ls h => asg P (run P (n + 1)) (.nm 20) v ls h) (q := fun ls h => evQ P (run P (n + 1)) (.some (.op2 .eq (.cal 110 (.cons (.var 0) (.cons (.con (.int 3)) .nil))) (.con (.int 0)))) ls h) (e := fun ls h => evE P (run P (n + 1)) PB.c111_1 ls h) (m := h.length) (xs := M.map .str) (own := [20]) (ls0 := [some (.ref d), some v1, some v2, x3, some (.ref m), some v5, none, none, none, none, none, none, none, none, none, none, none, none, none, none, none]) (h := h ++ [LO.lst (M.map .str)])
    (fun i acc h' => ∃ (zs : List (List Nat)) (ds' : List Int), acc = zs.map LV.str ∧ zs.Sublist (M.take i) ∧ zs.length ≤ i ∧ h'[d]? = some (.lst (ds'.map .int)) ∧ Fr (fun i => i = d) (h ++ [LO.lst (M.map .str)]) h')
    (fun i acc h' hI => by obtain ⟨_, _, _, _, _, _, fr⟩ := hI; exact fr.get em (by omega)) (fun i x acc hh ex hI => by
      obtain ⟨zs, ds2, rfl, hzs, hzl, ed, fr⟩ := hI
      rw [List.getElem?_map] at ex
      obtain ⟨y, ey, rfl⟩ := Option.map_eq_some_iff.mp ex
      obtain ⟨r, ds3, h3, er, r0, r3, ed3, fr3⟩ := take_fr D n d ds2 3 (by decide) hh ed
      have et : M.take (i + 1) = M.take i ++ [y] := by rw [List.take_add_one, ey]; rfl
      have hi : i < M.length := (List.getElem?_eq_some_iff.mp ey).1
      have hMl : M.length ≤ 1000 := by rw [← hM]; simp; omega
      refine ⟨_, _, by simp_arith [lwipe]; rfl, (r == 0), h3, by simp_arith [D.f110.call2, er], fun _ => ⟨.str y, h3, by unfold PB.c111_1; simp_arith [], by simp; omega, zs ++ [y], ds3, by simp, ?_, by simp; omega, ed3, fr.trans fr3⟩, fun _ => ⟨zs, ds3, rfl, ?_, by omega, ed3, fr.trans fr3⟩⟩
      · rw [et]; exact List.Sublist.append hzs (List.Sublist.refl _)
      · rw [et]; exact hzs.trans (List.sublist_append_left _ _))
    ⟨[], ds, rfl, List.Sublist.refl _, Nat.le_refl _, e1, Fr.refl _ _⟩
  rw [List.length_map, List.take_length] at hzs
  rw [List.length_map] at hzl
  have hMl : M.length ≤ 1000 := by rw [← hM]; simp; omega
  have ec' : cmpW P (run P (n + 1)) PB.c111_1 [20] (.nm 20) (.some (.op2 .eq (.cal 110 (.cons (.var 0) (.cons (.con (.int 3)) .nil))) (.con (.int 0)))) (.at_ h.length (M.map LV.str).length) [some (.ref d), some v1, some v2, x3, some (.ref m), some v5, none, none, none, none, none, none, none, none, none, none, none, none, none, none, none] (h ++ [LO.lst (M.map .str)]) = .ok (zs.map LV.str) h1 := ec
  have e4 : pC .keep (zs.map LV.str) h1 = .ok (.ref h1.length) (h1 ++ [LO.lst (zs.map LV.str)]) := newL_ok _ (by rw [List.length_map]; omega)
  have e5 : (h1 ++ [LO.lst (zs.map LV.str)])[h1.length]? = some (.lst (zs.map .str)) := by simp
  have hl1 := fr.1
  have hl1' : h.length + 1 ≤ h1.length := by simpa using hl1
  have em1 : h1[m]? = some (.lst (L.map .str)) := fr.get (by rw [List.getElem?_append_left (lt_of hm)]; exact hm) nm
  have em2 : ((h1 ++ [LO.lst (zs.map LV.str)]) ++ [LO.lst ((zs.map LV.str).take 2)])[m]? = some (.lst (L.map .str)) := by rw [List.getElem?_append_left (by have := lt_of em1; simp; omega), List.getElem?_append_left (lt_of em1)]; exact em1
  have n1 : newL ((zs.map LV.str).take 2) (h1 ++ [LO.lst (zs.map LV.str)]) = .ok (.ref (h1.length + 1)) ((h1 ++ [LO.lst (zs.map LV.str)]) ++ [LO.lst ((zs.map LV.str).take 2)]) := by rw [newL_ok _ (by simp; omega)]; simp
  have n2 : newL ((L.map LV.str).drop ((L.map LV.str).length - 1)) ((h1 ++ [LO.lst (zs.map LV.str)]) ++ [LO.lst ((zs.map LV.str).take 2)]) = .ok (.ref (h1.length + 2)) (((h1 ++ [LO.lst (zs.map LV.str)]) ++ [LO.lst ((zs.map LV.str).take 2)]) ++ [LO.lst ((L.map LV.str).drop ((L.map LV.str).length - 1))]) := by rw [newL_ok _ (by simp; omega)]; simp
  generalize hH : (((h1 ++ [LO.lst (zs.map LV.str)]) ++ [LO.lst ((zs.map LV.str).take 2)]) ++ [LO.lst ((L.map LV.str).drop ((L.map LV.str).length - 1))]) = H at n2
  have g1 : H[h1.length + 1]? = some (.lst ((zs.map LV.str).take 2)) := by rw [← hH]; rw [List.getElem?_append_left (by simp), List.getElem?_append_right (by simp)]; simp
  have g2 : H[h1.length + 2]? = some (.lst ((L.map LV.str).drop ((L.map LV.str).length - 1))) := by rw [← hH]; rw [List.getElem?_append_right (by simp)]; simp
  have gl : H.length = h1.length + 3 := by rw [← hH]; simp
  have gf : Fr (fun i => i = d) h H := by
    rw [← hH]
    exact (Fr.seq (S := fun i => i = d) (Fr.app _ h _) fr fun _ _ z => z).trans ((Fr.app _ _ _).trans ((Fr.app _ _ _).trans (Fr.app _ _ _)))
  have gd : H[d]? = some (.lst (ds1.map .int)) := by
    have hdl1 := lt_of ed
    rw [← hH, List.getElem?_append_left (by simp; omega), List.getElem?_append_left (by simp; omega), List.getElem?_append_left hdl1]; exact ed
  have n3 : newL ((zs.map LV.str).take 2 ++ (L.map LV.str).drop ((L.map LV.str).length - 1)) H = .ok (.ref H.length) (H ++ [LO.lst ((zs.map LV.str).take 2 ++ (L.map LV.str).drop ((L.map LV.str).length - 1))]) := newL_ok _ (by simp; omega)
  have n0 : newL (M.map LV.str) h = .ok (.ref h.length) (h ++ [LO.lst (M.map .str)]) := newL_ok _ (by simp; omega)
  simp_arith [slice_lst _ hm, cutL_mid _ (by rw [hxl]; omega), emid, n0, walk_lst em, ec', e4, slice_lst _ e5, cutL_hi _ 2 (by decide), n1, slice_lst _ em2, cutL_end _ (by rw [hxl]; omega), n2, add_lst g1 g2, n3]
  refine ⟨_, zs.take 2 ++ L.drop (L.length - 1), ds1, _, rfl, ?_, ?_, ?_, ?_, ?_, ?_⟩
  · have hz : (zs.take 2).Sublist ((L.drop 1).take (L.length - 2)) := by rw [hM]; exact (List.take_sublist _ _).trans hzs
    have h1 : ((zs.take 2) ++ L.drop (L.length - 1)).Sublist ((L.drop 1).take (L.length - 2) ++ L.drop (L.length - 1)) := List.Sublist.append hz (List.Sublist.refl _)
    have h2 : (L.drop 1).take (L.length - 2) ++ L.drop (L.length - 1) = L.drop 1 := by
      have : L.drop (L.length - 1) = (L.drop 1).drop (L.length - 2) := by rw [List.drop_drop]; congr 1; omega
      rw [this, List.take_append_drop]
    rw [h2] at h1
    exact h1.trans (List.drop_sublist _ _)
  · simp; omega
  · rw [List.getElem?_append_right (Nat.le_refl _), Nat.sub_self, List.getElem?_cons_zero, hxl, List.map_append, List.map_take, List.map_drop]
  · have := gf.1; omega
  · rw [List.getElem?_append_left (lt_of gd)]; exact gd
  · exact gf.trans (Fr.app _ _ _)
end
end LD
end
section
set_option Elab.async false
set_option linter.all false
set_option maxRecDepth 100000
set_option maxHeartbeats 1000000
/-! LGM: the law's parts, to their end (printed by mkm.py) -/
namespace LD
open L2
local macro_rules
  | `(tactic| simp_arith [$as,*]) => `(tactic| simp only [bind_ok, bind_exc, bindN_ok, toS_ok, toS_exc, thn_nx, thn_rt, thn_ct, thn_exc, turn_nx, turn_ct, turn_rt, parK_some, par_nil, par_cons, kOp2_eq, kNot_eq, kNt_eq, kIte_eq, kTup_eq, kSl2_eq, kSl1_eq, kFld_eq, kMk_eq, kEq1_eq, kCs2_eq, kCs1_eq, kB1b_eq, kB1_eq, kBf_eq, kBt_eq, kSb3_eq, kSb2_eq, kSb1_eq, kEx_eq, kSet_eq, kPar_eq, kAg3_eq, kAg2_eq, kAg1_eq, kI1_eq, kIf_T, kIf_F, kBf2_T, kBf2_F, kBt2_T, kBt2_F, kI2_T, kI2_F, ev_var, ev_con, ev_op2, ev_neg, ev_isN, ev_bop, ev_nt, ev_ite, ev_tup, ev_lst, ev_dnw, ev_dsp, ev_slc, ev_fld, ev_cal, ev_mke, ev_bif, ev_isi, ev_lvl, ev_sst, ev_eqo, ev_nil, ev_cons, ev_B1, ev_O0, ev_O1, ev_Q0, ev_Q1, asg_nm, asg_tp, asg_kt, asg_sb, asgs_nil, asgs_cons, es_ex, es_set, es_par, es_agN, es_iff, es_ret, es_retN, es_rse, es_pass, es_cont, es_nil, es_cons, ev_B2f, ev_B2t, ite_T, ite_F, ite_TT, ite_FF, t_and, f_and, and_t, and_f, t_or, f_or, not_T, not_F, map1_, app_c, app_n, rep0, repS, len0, lenS, sub_n, slot0, slotS, fin_nx, fin_rt, fin_exc, p2_add, p2_sub, p2_mul, p2_fdiv, p2_mod, p2_pow, p2_eq, p2_ne, p2_lt, p2_le, p2_gt, p2_ge, p2_in, p2_nin, p2_idx, p2_eqd, kCh3_T, kCh3_F, kCh2b_eq, kCh2_eq, kCh1_eq, ev_chn, kBm_eq, pB_len, pB_abs, pB_sum, pB_list, pB_tuple, pB_dict, pB_max2, pB_min2, pM_app, pM_pop, pM_get, asB_bl, asI_int, isN_non, isN_int, isN_ref, isN_str, isN_tup, add_int, sub_int, neg_int, mul_l, mul_r, fdiv_int, mod_int, eq_int, eq_str, eq_bl, ne_int, ne_str, got_some, idx_tup, idx_ktu, idx_frl, len_tup, len_ktu, len_frl, ev_bme, newL_ok, list_tup, list_ktu, slice_tup, slice_frl, isi_str, isi_int, isi_intb, isi_blb, isi_intl, isi_tup, isi_tup2, isi_ktu2, atI_lit, get0, getS, set0, setS, kC2_eq, kC1_eq, kC1r_eq, kL2_eq, kL1_eq, kS4_eq, kS3_eq, kS2_eq, kS1_eq, ev_cmpE, ev_cmpR, ev_lscE, es_slcE, kF2_eq, kF1_eq, kF1r_eq, es_forE, es_forR, walk_tup, walk_ktu, walk_frl, walk_str, metK_some, kMe_eq, kMet_eq, ev_met, List.map_nil, List.map_append, List.length_append, List.map_cons, Nat.reduceAdd, Nat.reduceSub, Nat.reduceLeDiff, Nat.reduceEqDiff, Int.cast_ofNat_Int, Int.reduceBEq, Int.reduceLE, Int.reduceLT, Int.reduceNeg, Int.reduceAdd, Int.reduceSub, Int.reduceMul, Int.reduceToNat, decide_true, decide_false, $as,*])

theorem mem_ddL : ∀ (xs l : List (List Nat)) (x : List Nat), x ∈ ddL xs l ↔ x ∈ xs ∨ x ∈ l
  | [], l, x => by simp [ddL]
  | y :: ys, l, x => by
    rw [ddL, mem_ddL ys]
    by_cases q : y ∈ l
    · rw [if_pos q, List.mem_cons]
      constructor
      · rintro (h | h)
        · exact .inl (.inr h)
        · exact .inr h
      · rintro ((rfl | h) | h)
        · exact .inr q
        · exact .inl h
        · exact .inr h
    · rw [if_neg q, List.mem_cons, List.mem_cons]
      constructor
      · rintro (h | rfl | h)
        · exact .inl (.inr h)
        · exact .inl (.inl rfl)
        · exact .inr h
      · rintro ((rfl | h) | h)
        · exact .inr (.inl rfl)
        · exact .inl h
        · exact .inr (.inr h)
theorem ddL_eqn : ∀ (xs l : List (List Nat)), xs.Nodup → (∀ x ∈ xs, x ∉ l) → (ddL xs l).length = xs.length + l.length
  | [], l, _, _ => by simp [ddL]
  | y :: ys, l, nd, h => by
    rw [List.nodup_cons] at nd
    rw [ddL, if_neg (h y (List.mem_cons_self ..)), ddL_eqn ys (y :: l) nd.2 fun x hx => by
      rw [List.mem_cons]
      rintro (rfl | z)
      · exact nd.1 hx
      · exact h x (List.mem_cons_of_mem _ hx) z]
    simp; omega
theorem ddL_nd {xs : List (List Nat)} (nd : xs.Nodup) : (ddL xs []).length = xs.length := by rw [ddL_eqn xs [] nd (by simp)]; simp
theorem ddL_le : ∀ (xs l : List (List Nat)), (ddL xs l).length ≤ xs.length + l.length
  | [], l => by simp [ddL]
  | y :: ys, l => by
    rw [ddL]
    split
    · have := ddL_le ys l; simp; omega
    · have := ddL_le ys (y :: l); simp at this ⊢; omega
theorem mem_insS (x y : List Nat) : ∀ l : List (List Nat), x ∈ insS y l ↔ x = y ∨ x ∈ l
  | [] => by simp [insS]
  | z :: l => by
    rw [insS]
    split
    · simp
    · rw [List.mem_cons, mem_insS x y l, List.mem_cons]
      constructor
      · rintro (h | h | h)
        · exact .inr (.inl h)
        · exact .inl h
        · exact .inr (.inr h)
      · rintro (h | h | h)
        · exact .inr (.inl h)
        · exact .inl h
        · exact .inr (.inr h)
theorem mem_sortL (x : List Nat) : ∀ l : List (List Nat), x ∈ sortL l ↔ x ∈ l
  | [] => by simp [sortL]
  | y :: l => by rw [sortL, mem_insS, mem_sortL x l, List.mem_cons]
theorem insS_len (y : List Nat) : ∀ l : List (List Nat), (insS y l).length = l.length + 1
  | [] => rfl
  | z :: l => by
    rw [insS]
    split
    · rfl
    · rw [List.length_cons, insS_len y l]; rfl
theorem sortL_len : ∀ l : List (List Nat), (sortL l).length = l.length
  | [] => rfl
  | y :: l => by rw [sortL, insS_len, sortL_len l]; rfl
/-- the kinds, sorted, each once -/
def kindsL (ss : List (List Nat)) : List (List Nat) := sortL (ddL ss [])
theorem mem_kinds {ss : List (List Nat)} {x : List Nat} : x ∈ kindsL ss ↔ x ∈ ss := by
  unfold kindsL; rw [mem_sortL, mem_ddL]; simp
theorem kinds_le (ss : List (List Nat)) : (kindsL ss).length ≤ ss.length := by
  unfold kindsL; rw [sortL_len]; have := ddL_le ss []; simpa using this
theorem kinds_pos {ss : List (List Nat)} (h : 1 ≤ ss.length) : 1 ≤ (kindsL ss).length := by
  match ss, h with
  | x :: ss, _ =>
    have : x ∈ kindsL (x :: ss) := mem_kinds.mpr (List.mem_cons_self ..)
    exact List.length_pos_of_mem this
theorem sst_lst {h : LH} {r : Nat} {ss : List (List Nat)} (e : h[r]? = some (.lst (ss.map .str))) (hl : ss.length < 64) : pSst (.ref r) h = .ok (.ref h.length) (h ++ [LO.lst ((kindsL ss).map .str)]) := by
  simp only [pSst, lstOf, e, strsOf_map, hl, if_true]
  rw [newL_ok _ (by have := kinds_le ss; unfold kindsL at this; rw [List.length_map]; omega)]
  rfl
section
variable {P : Prg}

theorem pk6 (n d w : Nat) (v1 v4 v5 v6 : LV) (x3 : Option LV) (ws : Pairs) (h : LH) (hw : h[w]? = some (.dK (dV ws))) (hl : ws.length < 64) :
    ∃ h' : LH, evS P (run P (n + 1)) PB.s111_6 [some (.ref d), some v1, some (.ref w), x3, some v4, some v5, some v6, none, none, none, none, none, none, none, none, none, none, none, none, none, none] h = .nx [some (.ref d), some v1, some (.ref w), x3, some v4, some v5, some v6, some (.ref (h.length + 1)), some (.ref (h.length + 2)), none, none, none, none, none, none, none, none, none, none, none, none] h' ∧ h'[h.length + 1]? = some (.lst ((kindsL (ws.map (·.2))).map .str)) ∧ h'[h.length + 2]? = some (.lst []) ∧ Fr noS h h' ∧ h'.length = h.length + 3 := by
  unfold PB.s111_6
  have ek : (dV ws).map (·.2) = (ws.map (·.2)).map .str := by simp [dV]
  have n0 : newL ((ws.map (·.2)).map LV.str) h = .ok (.ref h.length) (h ++ [LO.lst ((ws.map (·.2)).map .str)]) := newL_ok _ (by simp; omega)
  have e1 : (h ++ [LO.lst ((ws.map (·.2)).map .str)])[h.length]? = some (.lst ((ws.map (·.2)).map .str)) := by simp
  simp_arith [lvl_dK _ hw, ek, n0, sst_lst e1 (by simpa using hl), Nat.zero_le, List.reverse_cons, List.reverse_nil]
  refine ⟨_, rfl, ?_, ?_, ?_, by simp⟩
  · rw [List.getElem?_append_left (by simp), List.getElem?_append_right (by simp)]; simp
  · rw [List.getElem?_append_right (by simp)]; simp
  · exact (Fr.app _ _ _).trans ((Fr.app _ _ _).trans (Fr.app _ _ _))

theorem pk7 (D : BD P) (n d l k u : Nat) (v2 v4 v5 v6 : LV) (x3 : Option LV) (ds : List Int) (lands kinds : List (List Nat)) (h : LH) (hd : h[d]? = some (.lst (ds.map .int))) (hl : h[l]? = some (.lst (lands.map .str))) (hk : h[k]? = some (.lst (kinds.map .str))) (hu : h[u]? = some (.lst [])) (h1 : 1 ≤ lands.length) (h2 : 1 ≤ kinds.length) (nl : l ≠ d) (nk : k ≠ d) (nu : u ≠ d) (nlu : l ≠ u) (nku : k ≠ u) :
    ∃ (dues : List Levy) (x9 x10 x11 x12 : Option LV) (ds' : List Int) (h' : LH), evS P (run P (n + 1)) PB.s111_7 [some (.ref d), some (.ref l), some v2, x3, some v4, some v5, some v6, some (.ref k), some (.ref u), none, none, none, none, none, none, none, none, none, none, none, none] h = .nx [some (.ref d), some (.ref l), some v2, x3, some v4, some v5, some v6, some (.ref k), some (.ref u), x9, x10, x11, x12, none, none, none, none, none, none, none, none] h' ∧ dues.length ≤ 5 ∧ (∀ y ∈ dues, isLevy lands kinds y = true) ∧ h'[u]? = some (.lst (dues.map levyV)) ∧ h'[d]? = some (.lst (ds'.map .int)) ∧ Fr (fun i => i = d ∨ i = u) h h' := by
  unfold PB.s111_7
  obtain ⟨r, ds1, h3, er, r0, r3, ed, fr⟩ := take_fr D n d ds 6 (by decide) h hd
  simp_arith [D.f110.call2, er, walk_rng (n := r) (by omega) (by omega)]
  obtain ⟨ls', h', ef, dues, x9, x10, x11, x12, ds', rfl, hdl, hv, eu, ed', fr'⟩ := for_told (P := P) (F := run P (n + 1)) (t := .nm 9) (body := PB.l111_1) (xs := (List.range r.toNat).map fun (i : Nat) => LV.int i) (ls := [some (.ref d), some (.ref l), some v2, x3, some v4, some v5, some v6, some (.ref k), some (.ref u), none, none, none, none, none, none, none, none, none, none, none, none]) (h := h3)
    (fun i st h' => ∃ (dues : List Levy) (x9 x10 x11 x12 : Option LV) (ds' : List Int), st = [some (.ref d), some (.ref l), some v2, x3, some v4, some v5, some v6, some (.ref k), some (.ref u), x9, x10, x11, x12, none, none, none, none, none, none, none, none] ∧ dues.length ≤ i ∧ (∀ y ∈ dues, isLevy lands kinds y = true) ∧ h'[u]? = some (.lst (dues.map levyV)) ∧ h'[d]? = some (.lst (ds'.map .int)) ∧ Fr (fun i => i = d ∨ i = u) h h')
    ⟨[], none, none, none, none, ds1, rfl, Nat.le_refl _, by simp, fr.get hu nu, ed, fr.mono fun _ _ z => .inl z⟩ (fun i x st hh ex hI => by
      obtain ⟨dues, x9, x10, x11, x12, ds2, rfl, hdl, hv, eu, ed2, fr2⟩ := hI
      have hi : i < r.toNat := by simpa using (List.getElem?_eq_some_iff.mp ex).1
      refine ⟨_, _, by simp_arith []; rfl, ?_⟩
      unfold PB.l111_1
      obtain ⟨a, da, ha, ea, a0, a1, eda, fa⟩ := take_fr D n d ds2 6 (by decide) hh ed2
      obtain ⟨b, db, hb, eb, b0, b1, edb, fb⟩ := take_fr D n d da lands.length (by omega) ha eda
      obtain ⟨c, dc, hc, ec, c0, c1, edc, fc⟩ := take_fr D n d db kinds.length (by omega) hb edb
      obtain ⟨e, de, he, ee, e0, e1, ede, fe⟩ := take_fr D n d dc 5 (by decide) hc edc
      have ll : ∀ i, (i = l ∨ i = k) → ¬ (i = d ∨ i = u) := fun i hi z => by omega
      have hl2 := fr2.get hl (ll l (.inl rfl))
      have hk2 := fr2.get hk (ll k (.inr rfl))
      obtain ⟨ly, hly, ely⟩ := idx_strs (fb.get (fa.get hl2 nl) nl) b0 b1
      obtain ⟨ky, hky, eky⟩ := idx_strs (fc.get (fb.get (fa.get hk2 nk) nk) nk) c0 c1
      have eu' := fe.get (fc.get (fb.get (fa.get eu nu) nu) nu) nu
      have hra : ∃ q : Int, (0 ≤ q ∧ q ≤ 5000) ∧ ∀ hx : LH, got (atI [LV.int 0, .int 700, .int 1900, .int 5000, .int 1, .int 333] a) hx = .ok (.int q) hx := by
        have : a = 0 ∨ a = 1 ∨ a = 2 ∨ a = 3 ∨ a = 4 ∨ a = 5 := by omega
        rcases this with rfl | rfl | rfl | rfl | rfl | rfl
        · exact ⟨0, by omega, fun _ => rfl⟩
        · exact ⟨700, by omega, fun _ => rfl⟩
        · exact ⟨1900, by omega, fun _ => rfl⟩
        · exact ⟨5000, by omega, fun _ => rfl⟩
        · exact ⟨1, by omega, fun _ => rfl⟩
        · exact ⟨333, by omega, fun _ => rfl⟩
      obtain ⟨q, hq, eq⟩ := hra
      have hdl' : (dues.map levyV).length < 16777216 := by rw [List.length_map]; omega
      simp_arith [D.f110.call2, ea, eq, len_lst _ (fa.get hl2 nl), List.length_map, eb, ely, len_lst _ (fb.get (fa.get hk2 nk) nk), ec, eky, List.reverse_cons, List.reverse_nil, bmT_lst _ (fc.get (fb.get (fa.get eu nu) nu) nu) .append (.inl rfl), ee, app_lst _ eu' hdl', er, walk_rng (n := r) (by omega) (by omega)]
      refine ⟨_, _, .inl rfl, dues ++ [(ly, ky, e * 2, q)], _, _, _, _, de, rfl, by simp; omega, ?_, ?_, ?_, ?_⟩
      · intro y hy
        rcases List.mem_append.mp hy with hy | hy
        · exact hv y hy
        · have : y = (ly, ky, e * 2, q) := by simpa using hy
          subst this
          simp [isLevy, hly, hky, hq]; omega
      · rw [List.getElem?_set_self (lt_of eu')]; simp [levyV]
      · rw [List.getElem?_set_ne nu]; exact ede
      · exact ((fr2.trans ((fa.trans (fb.trans (fc.trans fe))).mono fun _ _ z => .inl z))).trans (Fr.set _ (.inr rfl)))
  rw [ef]
  have hdl2 : dues.length ≤ 5 := by simp at hdl; omega
  exact ⟨dues, x9, x10, x11, x12, ds', h', rfl, hdl2, hv, eu, ed', fr'⟩
end
end LD
end
section
set_option Elab.async false
set_option linter.all false
set_option maxRecDepth 100000
set_option maxHeartbeats 1000000
/-! LGN: the law's parts, rules and all (printed by mkn.py) -/
namespace LD
open L2
local macro_rules
  | `(tactic| simp_arith [$as,*]) => `(tactic| simp only [bind_ok, bind_exc, bindN_ok, toS_ok, toS_exc, thn_nx, thn_rt, thn_ct, thn_exc, turn_nx, turn_ct, turn_rt, parK_some, par_nil, par_cons, kOp2_eq, kNot_eq, kNt_eq, kIte_eq, kTup_eq, kSl2_eq, kSl1_eq, kFld_eq, kMk_eq, kEq1_eq, kCs2_eq, kCs1_eq, kB1b_eq, kB1_eq, kBf_eq, kBt_eq, kSb3_eq, kSb2_eq, kSb1_eq, kEx_eq, kSet_eq, kPar_eq, kAg3_eq, kAg2_eq, kAg1_eq, kI1_eq, kIf_T, kIf_F, kBf2_T, kBf2_F, kBt2_T, kBt2_F, kI2_T, kI2_F, ev_var, ev_con, ev_op2, ev_neg, ev_isN, ev_bop, ev_nt, ev_ite, ev_tup, ev_lst, ev_dnw, ev_dsp, ev_slc, ev_fld, ev_cal, ev_mke, ev_bif, ev_isi, ev_lvl, ev_sst, ev_eqo, ev_nil, ev_cons, ev_B1, ev_O0, ev_O1, ev_Q0, ev_Q1, asg_nm, asg_tp, asg_kt, asg_sb, asgs_nil, asgs_cons, es_ex, es_set, es_par, es_agN, es_iff, es_ret, es_retN, es_rse, es_pass, es_cont, es_nil, es_cons, ev_B2f, ev_B2t, ite_T, ite_F, ite_TT, ite_FF, t_and, f_and, and_t, and_f, t_or, f_or, not_T, not_F, map1_, app_c, app_n, rep0, repS, len0, lenS, sub_n, slot0, slotS, fin_nx, fin_rt, fin_exc, p2_add, p2_sub, p2_mul, p2_fdiv, p2_mod, p2_pow, p2_eq, p2_ne, p2_lt, p2_le, p2_gt, p2_ge, p2_in, p2_nin, p2_idx, p2_eqd, kCh3_T, kCh3_F, kCh2b_eq, kCh2_eq, kCh1_eq, ev_chn, kBm_eq, pB_len, pB_abs, pB_sum, pB_list, pB_tuple, pB_dict, pB_max2, pB_min2, pM_app, pM_pop, pM_get, asB_bl, asI_int, isN_non, isN_int, isN_ref, isN_str, isN_tup, add_int, sub_int, neg_int, mul_l, mul_r, fdiv_int, mod_int, eq_int, eq_str, eq_bl, ne_int, ne_str, got_some, idx_tup, idx_ktu, idx_frl, len_tup, len_ktu, len_frl, ev_bme, newL_ok, list_tup, list_ktu, slice_tup, slice_frl, isi_str, isi_int, isi_intb, isi_blb, isi_intl, isi_tup, isi_tup2, isi_ktu2, atI_lit, get0, getS, set0, setS, kC2_eq, kC1_eq, kC1r_eq, kL2_eq, kL1_eq, kS4_eq, kS3_eq, kS2_eq, kS1_eq, ev_cmpE, ev_cmpR, ev_lscE, es_slcE, kF2_eq, kF1_eq, kF1r_eq, es_forE, es_forR, walk_tup, walk_ktu, walk_frl, walk_str, metK_some, kMe_eq, kMet_eq, ev_met, List.map_nil, List.map_append, List.length_append, List.map_cons, Nat.reduceAdd, Nat.reduceSub, Nat.reduceLeDiff, Nat.reduceEqDiff, Int.cast_ofNat_Int, Int.reduceBEq, Int.reduceLE, Int.reduceLT, Int.reduceNeg, Int.reduceAdd, Int.reduceSub, Int.reduceMul, Int.reduceToNat, decide_true, decide_false, $as,*])
def prs3 : List Said := [([98, 117, 121, 101, 114], [112, 104, 111, 116, 111]), ([115, 101, 108, 108, 101, 114], [115, 111, 114, 114, 121]), ([115, 101, 108, 108, 101, 114], [112, 104, 111, 116, 111])]
section
variable {P : Prg}

theorem pk9 (D : BD P) (n d u : Nat) (v1 v2 v4 v5 v6 v7 v8 : LV) (x3 x9 x10 x11 x12 : Option LV) (ds : List Int) (h : LH) (hd : h[d]? = some (.lst (ds.map .int))) (hu : h[u]? = some (.lst [])) (nu : u ≠ d) :
    ∃ (norms : List Rule) (xn9 x14 x15 x16 x17 : Option LV) (ds' : List Int) (h' : LH), evS P (run P (n + 1)) PB.s111_9 [some (.ref d), some v1, some v2, x3, some v4, some v5, some v6, some v7, some v8, x9, x10, x11, x12, some (.ref u), none, none, none, none, none, none, none] h = .nx [some (.ref d), some v1, some v2, x3, some v4, some v5, some v6, some v7, some v8, xn9, x10, x11, x12, some (.ref u), x14, x15, x16, x17, none, none, none] h' ∧ norms.length ≤ 4 ∧ (∀ y ∈ norms, isRule y = true) ∧ h'[u]? = some (.lst (norms.map ruleV)) ∧ h'[d]? = some (.lst (ds'.map .int)) ∧ Fr (fun i => i = d ∨ i = u) h h' := by
  unfold PB.s111_9
  obtain ⟨r, ds1, h3, er, r0, r3, ed, fr⟩ := take_fr D n d ds 5 (by decide) h hd
  simp_arith [D.f110.call2, er, walk_rng (n := r) (by omega) (by omega)]
  obtain ⟨ls', h', ef, norms, xn9, x14, x15, x16, x17, ds', rfl, hdl, hv, eu, ed', fr'⟩ := for_told (P := P) (F := run P (n + 1)) (t := .nm 9) (body := PB.l111_2) (xs := (List.range r.toNat).map fun (i : Nat) => LV.int i) (ls := [some (.ref d), some v1, some v2, x3, some v4, some v5, some v6, some v7, some v8, x9, x10, x11, x12, some (.ref u), none, none, none, none, none, none, none]) (h := h3)
    (fun i st h' => ∃ (norms : List Rule) (xn9 x14 x15 x16 x17 : Option LV) (ds' : List Int), st = [some (.ref d), some v1, some v2, x3, some v4, some v5, some v6, some v7, some v8, xn9, x10, x11, x12, some (.ref u), x14, x15, x16, x17, none, none, none] ∧ norms.length ≤ i ∧ (∀ y ∈ norms, isRule y = true) ∧ h'[u]? = some (.lst (norms.map ruleV)) ∧ h'[d]? = some (.lst (ds'.map .int)) ∧ Fr (fun i => i = d ∨ i = u) h h')
    ⟨[], x9, none, none, none, none, ds1, rfl, Nat.le_refl _, by simp, fr.get hu nu, ed, fr.mono fun _ _ z => .inl z⟩ (fun i x st hh ex hI => by
      obtain ⟨norms, xn9, x14, x15, x16, x17, ds2, rfl, hdl, hv, eu, ed2, fr2⟩ := hI
      have hi : i < r.toNat := by simpa using (List.getElem?_eq_some_iff.mp ex).1
      refine ⟨_, _, by simp_arith []; rfl, ?_⟩
      unfold PB.l111_2 PB.t111_2_0 PB.t111_2_1 PB.t111_2_2 PB.t111_2_3 PB.t111_2_4
      have hudl := lt_of eu
      have e0 : (hh ++ [LO.lst (prs3.map saidV)])[d]? = some (.lst (ds2.map .int)) := by rw [List.getElem?_append_left (lt_of ed2)]; exact ed2
      obtain ⟨a, da, ha, ea, a0, a1, eda, fa⟩ := take_fr D n d ds2 4 (by decide) _ e0
      have ea' : run P (n + 1) 110 [.ref d, .int 4] (hh ++ [LO.lst [.tup [.str [98, 117, 121, 101, 114], .str [112, 104, 111, 116, 111]], .tup [.str [115, 101, 108, 108, 101, 114], .str [115, 111, 114, 114, 121]], .tup [.str [115, 101, 108, 108, 101, 114], .str [112, 104, 111, 116, 111]]]]) = .ok (.int a) ha := ea
      have dlt := lt_of ed2
      have g1 : ha[hh.length]? = some (.lst (prs3.map saidV)) := fa.get (by simp) (by omega)
      have n1 : newL ((prs3.map saidV).take a.toNat) ha = .ok (.ref ha.length) (ha ++ [.lst ((prs3.map saidV).take a.toNat)]) := newL_ok _ (by simp [prs3]; omega)
      have edA : (ha ++ [LO.lst ((prs3.map saidV).take a.toNat)])[d]? = some (.lst (da.map .int)) := by rw [List.getElem?_append_left (lt_of eda)]; exact eda
      obtain ⟨b, db, hb, eb, b0, b1, edb, fb⟩ := take_fr D n d da 2 (by decide) _ edA
      have dla := lt_of eda
      have g2 : hb[ha.length]? = some (.lst ((prs3.map saidV).take a.toNat)) := fb.get (by simp) (by omega)
      have n2 : newL (((prs3.map saidV).take a.toNat).drop b.toNat) hb = .ok (.ref hb.length) (hb ++ [.lst (((prs3.map saidV).take a.toNat).drop b.toNat)]) := newL_ok _ (by simp [prs3]; omega)
      have edB : (hb ++ [LO.lst (((prs3.map saidV).take a.toNat).drop b.toNat)])[d]? = some (.lst (db.map .int)) := by rw [List.getElem?_append_left (lt_of edb)]; exact edb
      obtain ⟨c, dc, hc, ec, c0, c1, edc, fc⟩ := take_fr D n d db 5 (by decide) _ edB
      obtain ⟨e, de, he, ee, e0', e1, ede, fe⟩ := take_fr D n d dc 2 (by decide) hc edc
      obtain ⟨g, dg, hg, eg, g0, g1', edg, fg⟩ := take_fr D n d de 4 (by decide) he ede
      obtain ⟨j, dj, hj, ej, j0, j1, edj, fj⟩ := take_fr D n d dg 2 (by decide) hg edg
      have dlb := lt_of edb
      have g3 : hg[hb.length]? = some (.lst (((prs3.map saidV).take a.toNat).drop b.toNat)) := fg.get (fe.get (fc.get (by simp) (by omega)) (by omega)) (by omega)
      have F1 : Fr (fun i => i = d) hh ha := Fr.seq (Fr.app _ hh _) fa fun _ _ z => z
      have F2 : Fr (fun i => i = d) ha hb := Fr.seq (Fr.app _ ha _) fb fun _ _ z => z
      have F3 : Fr (fun i => i = d) hb hc := Fr.seq (Fr.app _ hb _) fc fun _ _ z => z
      have eu' := fj.get (fg.get (fe.get (F3.get (F2.get (F1.get eu nu) nu) nu) nu) nu) nu
      have eug := fg.get (fe.get (F3.get (F2.get (F1.get eu nu) nu) nu) nu) nu
      have hra : ∃ q : Int, (0 ≤ q ∧ q ≤ 100) ∧ ∀ hx : LH, got (atI [LV.int 100, .int 50, .int 33, .int 0, .int 1] c) hx = .ok (.int q) hx := by
        have : c = 0 ∨ c = 1 ∨ c = 2 ∨ c = 3 ∨ c = 4 := by omega
        rcases this with rfl | rfl | rfl | rfl | rfl
        · exact ⟨100, by omega, fun _ => rfl⟩
        · exact ⟨50, by omega, fun _ => rfl⟩
        · exact ⟨33, by omega, fun _ => rfl⟩
        · exact ⟨0, by omega, fun _ => rfl⟩
        · exact ⟨1, by omega, fun _ => rfl⟩
      obtain ⟨q, hq, eq⟩ := hra
      have hwa : ∃ w : List Nat, isName w = true ∧ ∀ hx : LH, got (atI [LV.str [98, 114, 111, 107, 101, 110], .str [108, 97, 116, 101]] e) hx = .ok (.str w) hx := by
        have : e = 0 ∨ e = 1 := by omega
        rcases this with rfl | rfl
        · exact ⟨_, by decide, fun _ => rfl⟩
        · exact ⟨_, by decide, fun _ => rfl⟩
      obtain ⟨w, hw, ew⟩ := hwa
      have hdl' : (norms.map ruleV).length < 16777216 := by rw [List.length_map]; omega
      simp_arith [D.f110.call2, ea', slice_lst _ g1, cutL_hi _ a a0, n1, eb, slice_lst _ g2, cutL_lo _ b b0, n2, ec, eq, ee, ew, eg, List.reverse_cons, List.reverse_nil, bmT_lst _ eug .append (.inl rfl), tuple_lst _ g3, ej, app_lst _ eu' hdl', er, walk_rng (n := r) (by omega) (by omega)]
      refine ⟨_, _, .inl rfl, norms ++ [⟨w, (prs3.take a.toNat).drop b.toNat, g, q, j == 0⟩], _, _, _, _, _, dj, rfl, by simp; omega, ?_, ?_, ?_, ?_⟩
      · intro y hy
        rcases List.mem_append.mp hy with hy | hy
        · exact hv y hy
        · have : y = ⟨w, (prs3.take a.toNat).drop b.toNat, g, q, j == 0⟩ := by simpa using hy
          subst this
          have hp : ∀ p ∈ (prs3.take a.toNat).drop b.toNat, isSaid p = true := fun p hp => by
            have : p ∈ prs3 := List.mem_of_mem_take (List.mem_of_mem_drop hp)
            have h3 : ∀ p ∈ prs3, isSaid p = true := by decide
            exact h3 p this
          unfold isRule
          simp only [Bool.and_eq_true, decide_eq_true_eq, List.all_eq_true]
          refine ⟨hw, ?_, hp, ⟨g0, by omega⟩, hq.1, hq.2⟩
          have : prs3.length = 3 := rfl
          simp [this]; omega
      · rw [List.getElem?_set_self (lt_of eu')]; simp [ruleV, List.map_take, List.map_drop]
      · rw [List.getElem?_set_ne nu]; exact edj
      · exact ((fr2.trans ((F1.trans (F2.trans (F3.trans (fe.trans (fg.trans fj))))).mono fun _ _ z => .inl z))).trans (Fr.set _ (.inr rfl)))
  rw [ef]
  have hdl2 : norms.length ≤ 4 := by simp at hdl; omega
  exact ⟨norms, xn9, x14, x15, x16, x17, ds', h', rfl, hdl2, hv, eu, ed', fr'⟩
end
end LD
end
section
set_option Elab.async false
set_option linter.all false
set_option maxRecDepth 100000
set_option maxHeartbeats 1000000
/-! LGO: the law's parts: what they are -/
namespace LD
open L2
local macro_rules
  | `(tactic| simp_arith [$as,*]) => `(tactic| simp only [bind_ok, bind_exc, bindN_ok, toS_ok, toS_exc, thn_nx, thn_rt, thn_ct, thn_exc, turn_nx, turn_ct, turn_rt, parK_some, par_nil, par_cons, kOp2_eq, kNot_eq, kNt_eq, kIte_eq, kTup_eq, kSl2_eq, kSl1_eq, kFld_eq, kMk_eq, kEq1_eq, kCs2_eq, kCs1_eq, kB1b_eq, kB1_eq, kBf_eq, kBt_eq, kSb3_eq, kSb2_eq, kSb1_eq, kEx_eq, kSet_eq, kPar_eq, kAg3_eq, kAg2_eq, kAg1_eq, kI1_eq, kIf_T, kIf_F, kBf2_T, kBf2_F, kBt2_T, kBt2_F, kI2_T, kI2_F, ev_var, ev_con, ev_op2, ev_neg, ev_isN, ev_bop, ev_nt, ev_ite, ev_tup, ev_lst, ev_dnw, ev_dsp, ev_slc, ev_fld, ev_cal, ev_mke, ev_bif, ev_isi, ev_lvl, ev_sst, ev_eqo, ev_nil, ev_cons, ev_B1, ev_O0, ev_O1, ev_Q0, ev_Q1, asg_nm, asg_tp, asg_kt, asg_sb, asgs_nil, asgs_cons, es_ex, es_set, es_par, es_agN, es_iff, es_ret, es_retN, es_rse, es_pass, es_cont, es_nil, es_cons, ev_B2f, ev_B2t, ite_T, ite_F, ite_TT, ite_FF, t_and, f_and, and_t, and_f, t_or, f_or, not_T, not_F, map1_, app_c, app_n, rep0, repS, len0, lenS, sub_n, slot0, slotS, fin_nx, fin_rt, fin_exc, p2_add, p2_sub, p2_mul, p2_fdiv, p2_mod, p2_pow, p2_eq, p2_ne, p2_lt, p2_le, p2_gt, p2_ge, p2_in, p2_nin, p2_idx, p2_eqd, kCh3_T, kCh3_F, kCh2b_eq, kCh2_eq, kCh1_eq, ev_chn, kBm_eq, pB_len, pB_abs, pB_sum, pB_list, pB_tuple, pB_dict, pB_max2, pB_min2, pM_app, pM_pop, pM_get, asB_bl, asI_int, isN_non, isN_int, isN_ref, isN_str, isN_tup, add_int, sub_int, neg_int, mul_l, mul_r, fdiv_int, mod_int, eq_int, eq_str, eq_bl, ne_int, ne_str, got_some, idx_tup, idx_ktu, idx_frl, len_tup, len_ktu, len_frl, ev_bme, newL_ok, list_tup, list_ktu, slice_tup, slice_frl, isi_str, isi_int, isi_intb, isi_blb, isi_intl, isi_tup, isi_tup2, isi_ktu2, atI_lit, get0, getS, set0, setS, kC2_eq, kC1_eq, kC1r_eq, kL2_eq, kL1_eq, kS4_eq, kS3_eq, kS2_eq, kS1_eq, ev_cmpE, ev_cmpR, ev_lscE, es_slcE, kF2_eq, kF1_eq, kF1r_eq, es_forE, es_forR, walk_tup, walk_ktu, walk_frl, walk_str, metK_some, kMe_eq, kMet_eq, ev_met, List.map_nil, List.map_append, List.length_append, List.map_cons, Nat.reduceAdd, Nat.reduceSub, Nat.reduceLeDiff, Nat.reduceEqDiff, Int.cast_ofNat_Int, Int.reduceBEq, Int.reduceLE, Int.reduceLT, Int.reduceNeg, Int.reduceAdd, Int.reduceSub, Int.reduceMul, Int.reduceToNat, decide_true, decide_false, $as,*])
/-- the list of a world's parts, all within lo .. hi -/
def PIn (lo hi : Nat) (h : LH) (r : Nat) (a : WA) : Prop := ∃ b0 b1 b2 b3 b4 b5, h[r]? = some (.lst [.ref b0, .ref b1, .ref b2, .ref b3, .ref b4, .ref b5, .int a.fee, .int a.send, .int a.complain]) ∧
  h[b0]? = some (.lst (a.lands.map .str)) ∧ h[b1]? = some (.dK (dV a.wares)) ∧ h[b2]? = some (.dK (dV a.parties)) ∧ h[b3]? = some (.lst (a.carriers.map .str)) ∧ h[b4]? = some (.lst (a.levies.map levyV)) ∧ h[b5]? = some (.lst (a.rules.map ruleV)) ∧
  (lo ≤ r ∧ r < hi) ∧ (lo ≤ b0 ∧ b0 < hi) ∧ (lo ≤ b1 ∧ b1 < hi) ∧ (lo ≤ b2 ∧ b2 < hi) ∧ (lo ≤ b3 ∧ b3 < hi) ∧ (lo ≤ b4 ∧ b4 < hi) ∧ (lo ≤ b5 ∧ b5 < hi)
theorem PIn.keep {lo hi : Nat} {h h' : LH} {s : Nat} {a : WA} (w : PIn lo hi h s a) (k : ∀ i o, lo ≤ i → i < hi → h[i]? = some o → h'[i]? = some o) : PIn lo hi h' s a := by
  obtain ⟨b0, b1, b2, b3, b4, b5, e, e0, e1, e2, e3, e4, e5, ls, l0, l1, l2, l3, l4, l5⟩ := w
  exact ⟨b0, b1, b2, b3, b4, b5, k _ _ ls.1 ls.2 e, k _ _ l0.1 l0.2 e0, k _ _ l1.1 l1.2 e1, k _ _ l2.1 l2.2 e2, k _ _ l3.1 l3.2 e3, k _ _ l4.1 l4.2 e4, k _ _ l5.1 l5.2 e5, ls, l0, l1, l2, l3, l4, l5⟩
/-- what the law draws -/
structure Drawn (a : WA) : Prop where
  ok : WOk a
  nd : a.nd
  fee : a.fee = 0 ∨ a.fee = 500 ∨ a.fee = 2000 ∨ a.fee = 1
  send : a.send ≤ 3
  complain : a.complain ≤ 3
  levies : a.levies.length ≤ 5
  lands : a.lands ∈ landsL
  wares : ∃ k, 1 ≤ k ∧ k ≤ 3 ∧ a.wares.map (·.1) = wnm.take k ∧ ∀ p ∈ a.wares, p.2 = [102, 111, 111, 100] ∨ p.2 = [116, 111, 111, 108]
  parties : ∃ k, 3 ≤ k ∧ k ≤ 6 ∧ a.parties.map (·.1) = pnm.take k
  carriers : a.carriers.Sublist (a.parties.map (·.1))
theorem drawn_of {a : WA} {k k2 : Nat} (h1 : a.lands ∈ landsL) (h2 : a.wares.map (·.1) = wnm.take k) (h3 : 1 ≤ k ∧ k ≤ 3) (h4 : ∀ p ∈ a.wares, p.2 = [102, 111, 111, 100] ∨ p.2 = [116, 111, 111, 108]) (h5 : a.parties.map (·.1) = pnm.take k2) (h6 : 3 ≤ k2 ∧ k2 ≤ 6) (h7 : ∀ p ∈ a.parties, p.2 ∈ a.lands)
    (h8 : a.carriers.Sublist (pnm.take k2)) (h9 : a.carriers.length ≤ 3) (h10 : a.levies.length ≤ 5) (h11 : ∀ y ∈ a.levies, isLevy a.lands (kindsL (a.wares.map (·.2))) y = true) (h12 : a.rules.length ≤ 4) (h13 : ∀ y ∈ a.rules, isRule y = true) (h14 : a.fee = 0 ∨ a.fee = 500 ∨ a.fee = 2000 ∨ a.fee = 1) (h15 : 1 ≤ a.send ∧ a.send ≤ 3) (h16 : 1 ≤ a.complain ∧ a.complain ≤ 3) : Drawn a := by
  have wl : a.wares.length = k := by
    have := congrArg List.length h2
    simp only [List.length_map, List.length_take] at this
    have e : wnm.length = 3 := rfl
    omega
  have pl : a.parties.length = k2 := by
    have := congrArg List.length h5
    simp only [List.length_map, List.length_take] at this
    have e : pnm.length = 6 := rfl
    omega
  have ndp : (pnm.take k2).Nodup := (List.take_sublist _ _).nodup (by decide)
  have ndw : (wnm.take k).Nodup := (List.take_sublist _ _).nodup (by decide)
  have np : ∀ x ∈ pnm.take k2, isName x = true ∧ x ≠ market := fun x hx => by
    have h0 : ∀ x ∈ pnm, isName x = true ∧ x ≠ market := by decide
    exact h0 x (List.mem_of_mem_take hx)
  have nw : ∀ x ∈ wnm.take k, isName x = true := fun x hx => by
    have h0 : ∀ x ∈ wnm, isName x = true := by decide
    exact h0 x (List.mem_of_mem_take hx)
  have nl : ∀ l ∈ landsL, 1 ≤ l.length ∧ l.length ≤ 4 ∧ (∀ x ∈ l, isName x = true) ∧ (ddL l []).length = l.length := by decide
  have nf : isName [102, 111, 111, 100] = true := by decide
  have nt : isName [116, 111, 111, 108] = true := by decide
  refine ⟨⟨nl _ h1, ⟨by omega, by omega, fun p hp => ⟨nw _ (h2 ▸ List.mem_map.mpr ⟨p, hp, rfl⟩), ?_⟩⟩, ⟨by omega, by omega, fun p hp => ?_⟩, ⟨h9, fun x hx => (np x (h8.subset hx)).1, ddL_nd (h8.nodup ndp), fun x hx => ?_⟩, ⟨by omega, fun y hy => ?_⟩, ⟨by omega, h13⟩, by omega, by omega, by omega⟩, ⟨by rw [h2]; exact ndw, by rw [h5]; exact ndp⟩, h14, h15.2, h16.2, h10, h1, ⟨k, h3.1, h3.2, h2, h4⟩, ⟨k2, h6.1, h6.2, h5⟩, by rw [h5]; exact h8⟩
  · rcases h4 p hp with e | e <;> rw [e]
    · exact nf
    · exact nt
  · have := np p.1 (h5 ▸ List.mem_map.mpr ⟨p, hp, rfl⟩)
    exact ⟨this.1, this.2, h7 p hp⟩
  · have hx2 : x ∈ a.parties.map (·.1) := by rw [h5]; exact h8.subset hx
    obtain ⟨p, hp, rfl⟩ := List.mem_map.mp hx2
    rw [dget_dV (by rw [h5]; exact ndp) hp]; rfl
  · have := h11 y hy
    unfold isLevy at this ⊢
    simp only [Bool.and_eq_true, decide_eq_true_eq] at this ⊢
    exact ⟨this.1, mem_kinds.mp this.2.1, this.2.2⟩
section
variable {P : Prg}

theorem parts_spec (D : BD P) (Pt : Fx P 111 PB.b111 1 21 [] false) (n d : Nat) (ds : List Int) (h : LH) (hd : h[d]? = some (.lst (ds.map .int))) :
    ∃ (r : Nat) (a : WA) (ds' : List Int) (h' : LH), run P (n + 2) 111 [.ref d] h = .ok (.ref r) h' ∧ Drawn a ∧ PIn h.length h'.length h' r a ∧ h'[d]? = some (.lst (ds'.map .int)) ∧ Fr (fun i => i = d) h h' := by
  have hdl := lt_of hd
  rw [Pt.run _ _ _ rfl]
  unfold PB.b111
  obtain ⟨l, lands, ds0, h0, e0, hlands, gl0, gd0, ll, f0⟩ := pk0 D n d ds h hd
  have L0 := f0.1
  have ndl : l ≠ d := by omega
  have hlt := lt_of gl0
  simp_arith [e0, PB.s111_1]
  have gd1 : (h0 ++ [LO.dK []])[d]? = some (.lst (ds0.map .int)) := by rw [List.getElem?_append_left (lt_of gd0)]; exact gd0
  have gl1 : (h0 ++ [LO.dK []])[l]? = some (.lst (lands.map .str)) := by rw [List.getElem?_append_left hlt]; exact gl0
  obtain ⟨ws, k, x3, ds2, h2, e2, hws, hk1, hk3, hwv, gw2, gd2, f2⟩ := pk2 D n d h0.length (.ref l) ds0 (h0 ++ [.dK []]) gd1 (by simp)
  have L2 := f2.1
  have L2' : h0.length + 1 ≤ h2.length := by simpa using L2
  simp_arith [e2, e0, PB.s111_1]
  obtain ⟨m, k2, ds3, h3, e3, hk23, hk26, gm3, lm, gd3, f3⟩ := pk3 D n d (.ref l) (.ref h0.length) x3 ds2 h2 gd2
  have L3 := f3.1
  simp_arith [e3, e0, PB.s111_1, e2]
  have hl2 : h2[l]? = some (.lst (lands.map .str)) := f2.get gl1 (by omega)
  have hl3 := f3.get hl2 ndl
  have ndL : (pnm.take k2).Nodup := (List.take_sublist _ _).nodup (by decide)
  have hpl : (pnm.take k2).length = k2 := by
    rw [List.length_take]
    have e : pnm.length = 6 := rfl
    omega
  have hland1 : ∀ l ∈ landsL, 1 ≤ l.length := by decide
  obtain ⟨q, ps, ds4, h4, e4, hps, hpv, gq4, lq, gd4, f4⟩ := pk4 D n d l m (.ref h0.length) x3 ds3 lands (pnm.take k2) h3 gd3 hl3 gm3 (hland1 _ hlands) (by omega) ndL ndl (by omega)
  have L4 := f4.1
  simp_arith [e4, e0, PB.s111_1, e2, e3]
  obtain ⟨qc, cs, ds5, h5, e5, hcs, hcl, gc5, lc, gd5, f5⟩ := pk5 D n d m (.ref l) (.ref h0.length) (.ref q) x3 ds4 (pnm.take k2) h4 gd4 (f4.get gm3 (by omega)) (by omega) (by omega) (by omega)
  have L5 := f5.1
  simp_arith [e5, e0, PB.s111_1, e2, e3, e4]
  have hw3 := f3.get gw2 (by omega)
  have hw4 := f4.get hw3 (by omega)
  have hw5 := f5.get hw4 (by omega)
  have hwl : ws.length = k := by
    have := congrArg List.length hws
    simp only [List.length_map, List.length_take] at this
    have e : wnm.length = 3 := rfl
    omega
  obtain ⟨h6, e6, gk6, gu6, f6, L6⟩ := pk6 (P := P) n d h0.length (.ref l) (.ref m) (.ref q) (.ref qc) x3 ws h5 hw5 (by omega)
  simp_arith [e6, e0, PB.s111_1, e2, e3, e4, e5]
  have hl6 := f6.get0 (f5.get (f4.get hl3 ndl) ndl)
  have dlt5 := lt_of gd5
  obtain ⟨dues, x9, x10, x11, x12, ds7, h7, e7, hdl7, hdv, gu7, gd7, f7⟩ := pk7 D n d l (h5.length + 1) (h5.length + 2) (.ref h0.length) (.ref m) (.ref q) (.ref qc) x3 ds5 lands (kindsL (ws.map (·.2))) h6 (f6.get0 gd5) hl6 gk6 gu6 (hland1 _ hlands) (kinds_pos (by simp; omega)) ndl (by omega) (by omega) (by have := lt_of gl0; omega) (by omega)
  have L7 := f7.1
  simp_arith [e7, PB.s111_8, Nat.zero_le, e0, PB.s111_1, e2, e3, e4, e5, e6]
  have gd8 : (h7 ++ [LO.lst []])[d]? = some (.lst (ds7.map .int)) := by rw [List.getElem?_append_left (lt_of gd7)]; exact gd7
  obtain ⟨norms, xn9, x14, x15, x16, x17, ds9, h9, e9, hnl, hnv, gn9, gd9, f9⟩ := pk9 D n d h7.length (.ref l) (.ref h0.length) (.ref m) (.ref q) (.ref qc) (.ref (h5.length + 1)) (.ref (h5.length + 2)) x3 x9 x10 x11 x12 ds7 (h7 ++ [.lst []]) gd8 (by simp) (by omega)
  have L9 := f9.1
  have L9' : h7.length + 1 ≤ h9.length := by simpa using L9
  simp_arith [e9, PB.s111_10, e0, PB.s111_1, e2, e3, e4, e5, e6, e7, PB.s111_8, Nat.zero_le]
  obtain ⟨a, da, ha, ea, a0, a1, eda, fa⟩ := take_fr D n d ds9 4 (by decide) h9 gd9
  obtain ⟨b, db, hb, eb, b0, b1, edb, fb⟩ := take_fr D n d da 3 (by decide) ha eda
  obtain ⟨g, dg, hg, eg, g0, g1, edg, fg⟩ := take_fr D n d db 3 (by decide) hb edb
  have hcut : ∃ cut : Int, (cut = 0 ∨ cut = 500 ∨ cut = 2000 ∨ cut = 1) ∧ ∀ hx : LH, got (atI [LV.int 0, .int 500, .int 2000, .int 1] a) hx = .ok (.int cut) hx := by
    have : a = 0 ∨ a = 1 ∨ a = 2 ∨ a = 3 := by omega
    rcases this with rfl | rfl | rfl | rfl
    · exact ⟨0, by omega, fun _ => rfl⟩
    · exact ⟨500, by omega, fun _ => rfl⟩
    · exact ⟨2000, by omega, fun _ => rfl⟩
    · exact ⟨1, by omega, fun _ => rfl⟩
  obtain ⟨cut, hcut, ecut⟩ := hcut
  simp_arith [D.f110.call2, ea, ecut, eb, List.reverse_cons, List.reverse_nil, PB.s111_11, eg, e0, PB.s111_1, e2, e3, e4, e5, e6, e7, PB.s111_8, Nat.zero_le, e9, PB.s111_10]
  let W : WA := ⟨lands, ws, ps, cs, dues, norms, cut, 1 + b, 1 + g⟩
  have F : Fr (fun i => i = d) h9 hg := fa.trans (fb.trans fg)
  have F' := F.trans (Fr.app _ hg [LO.lst [.ref l, .ref h0.length, .ref q, .ref qc, .ref (h5.length + 2), .ref h7.length, .int cut, .int (1 + b), .int (1 + g)]])
  have LF := F'.1
  have LF2 := F.1
  have K9 : ∀ {i : Nat} {o : LO}, h7[i]? = some o → i ≠ d → (hg ++ [LO.lst [.ref l, .ref h0.length, .ref q, .ref qc, .ref (h5.length + 2), .ref h7.length, .int cut, .int (1 + b), .int (1 + g)]])[i]? = some o := fun {i o} e ne => F'.get (f9.get ((Fr.app noS h7 [LO.lst []]).get0 e) (by have := lt_of e; omega)) ne
  have K6 : ∀ {i : Nat} {o : LO}, h5[i]? = some o → i ≠ d → h7[i]? = some o := fun {i o} e ne => f7.get (f6.get0 e) (by have := lt_of e; omega)
  refine ⟨_, W, dg, _, rfl, ?_, ⟨l, h0.length, q, qc, h5.length + 2, h7.length, ?_, ?_, ?_, ?_, ?_, ?_, ?_, ?_, ?_, ?_, ?_, ?_, ?_, ?_⟩, ?_, ?_⟩
  · exact drawn_of (a := W) (k := k) (k2 := k2) hlands hws ⟨hk1, hk3⟩ hwv hps ⟨hk23, hk26⟩ hpv hcs hcl hdl7 hdv hnl hnv hcut ⟨by show 1 ≤ 1 + b; omega, by show 1 + b ≤ 3; omega⟩ ⟨by show 1 ≤ 1 + g; omega, by show 1 + g ≤ 3; omega⟩
  · simp [W]
  · exact K9 (K6 (f5.get (f4.get hl3 ndl) ndl) ndl) ndl
  · exact K9 (K6 hw5 (by omega)) (by omega)
  · exact K9 (K6 (f5.get gq4 (by omega)) (by omega)) (by omega)
  · exact K9 (K6 gc5 (by omega)) (by omega)
  · exact K9 gu7 (by omega)
  · exact F'.get gn9 (by omega)
  · simp; omega
  · simp; have := lt_of gl0; omega
  · simp; omega
  · simp; have := lt_of gq4; omega
  · simp; have := lt_of gc5; omega
  · simp; omega
  · simp; omega
  · rw [List.getElem?_append_left (lt_of edg)]; exact edg
  · refine ⟨by simp; omega, fun i hi hs => ?_⟩
    rw [F'.2 i (by omega) hs, f9.2 i (by simp; omega) (by omega), List.getElem?_append_left (by omega), f7.2 i (by omega) (by omega), f6.2 i (by omega) id, f5.2 i (by omega) hs, f4.2 i (by omega) hs, f3.2 i (by omega) hs, f2.2 i (by simp; omega) (by omega), List.getElem?_append_left (by omega), f0.2 i hi hs]
end
end LD
end
section
set_option Elab.async false
set_option linter.all false
set_option maxRecDepth 100000
set_option maxHeartbeats 0
/-! the table of the row (printed by gen2.py) -/
namespace PG
open PySem L2 LD
def top (i : Nat) : Stmt := PySem.Challenge.pw_marketden_k01_whole_worlds.main.body.getD i (.Pass ⟨0, 0, 0, 0⟩)
def clBody : Stmt → List Stmt
  | .ClassDef (body := b) .. => b
  | _ => []
def inn (i j : Nat) : Stmt := (clBody (top i)).getD j (.Pass ⟨0, 0, 0, 0⟩)
/-- is_name: 0 thing, 1 sign -/
def f0 : FnI := { at_ := ("is_name", none), ps := ["thing"], dv := [], N := ["thing", "sign"], body := PB.b0, kwo := false }
abbrev s0 : Stmt := top 6
/-- is_number: 0 thing, 1 least, 2 most -/
def f1 : FnI := { at_ := ("is_number", none), ps := ["thing", "least", "most"], dv := [.non], N := ["thing", "least", "most"], body := PB.b1, kwo := false }
abbrev s1 : Stmt := top 7
/-- are_names: 0 thing, 1 least, 2 most, 3 one -/
def f2 : FnI := { at_ := ("are_names", none), ps := ["thing", "least", "most"], dv := [], N := ["thing", "least", "most", "one"], body := PB.b2, kwo := false }
abbrev s2 : Stmt := top 8
/-- is_one_of: 0 thing, 1 names -/
def f3 : FnI := { at_ := ("is_one_of", none), ps := ["thing", "names"], dv := [], N := ["thing", "names"], body := PB.b3, kwo := false }
abbrev s3 : Stmt := top 9
/-- is_levy: 0 thing, 1 lands, 2 kinds -/
def f5 : FnI := { at_ := ("is_levy", none), ps := ["thing", "lands", "kinds"], dv := [], N := ["thing", "lands", "kinds"], body := PB.b5, kwo := false }
abbrev s5 : Stmt := top 19
/-- is_said: 0 thing -/
def f6 : FnI := { at_ := ("is_said", none), ps := ["thing"], dv := [], N := ["thing"], body := PB.b6, kwo := false }
abbrev s6 : Stmt := top 20
/-- is_rule: 0 thing, 1 one -/
def f7 : FnI := { at_ := ("is_rule", none), ps := ["thing"], dv := [], N := ["thing", "one"], body := PB.b7, kwo := false }
abbrev s7 : Stmt := top 21
/-- are_rules: 0 thing, 1 one -/
def f8 : FnI := { at_ := ("are_rules", none), ps := ["thing"], dv := [], N := ["thing", "one"], body := PB.b8, kwo := false }
abbrev s8 : Stmt := top 22
/-- are_wares: 0 thing, 1 name, 2 kind -/
def f10 : FnI := { at_ := ("are_wares", none), ps := ["thing"], dv := [], N := ["thing", "name", "kind"], body := PB.b10, kwo := false }
abbrev s10 : Stmt := top 32
/-- are_parties: 0 thing, 1 lands, 2 name, 3 land -/
def f11 : FnI := { at_ := ("are_parties", none), ps := ["thing", "lands"], dv := [], N := ["thing", "lands", "name", "land"], body := PB.b11, kwo := false }
abbrev s11 : Stmt := top 33
/-- World.__init__: 0 self, 1 lands, 2 wares, 3 parties, 4 carriers, 5 levies, 6 rules, 7 fee, 8 send, 9 complain, 10 one -/
def f12 : FnI := { at_ := ("World", some "__init__"), ps := ["self", "lands", "wares", "parties", "carriers", "levies", "rules", "fee", "send", "complain"], dv := [(.ktu []), (.ktu []), (.ktu []), (.int 0), (.int 2), (.int 2)], N := ["self", "lands", "wares", "parties", "carriers", "levies", "rules", "fee", "send", "complain", "one"], body := PB.b12, kwo := true }
abbrev s12 : Stmt := inn 34 0
/-- World.__eq__: 0 self, 1 other, 2 mine -/
def f13 : FnI := { at_ := ("World", some "__eq__"), ps := ["self", "other"], dv := [], N := ["self", "other", "mine"], body := PB.b13, kwo := false }
abbrev s13 : Stmt := inn 34 1
/-- World.rate: 0 self, 1 land, 2 kind, 3 day -/
def f14 : FnI := { at_ := ("World", some "rate"), ps := ["self", "land", "kind", "day"], dv := [], N := ["self", "land", "kind", "day"], body := PB.b14, kwo := false }
abbrev s14 : Stmt := inn 34 2
/-- World.rate_at: 0 self, 1 land, 2 kind, 3 day, 4 last, 5 found, 6 place, 7 what, 8 begin, 9 rate -/
def f15 : FnI := { at_ := ("World", some "rate_at"), ps := ["self", "land", "kind", "day"], dv := [], N := ["self", "land", "kind", "day", "last", "found", "place", "what", "begin", "rate"], body := PB.b15, kwo := false }
abbrev s15 : Stmt := inn 34 3
/-- _law_draw: 0 _law_cell, 1 _law_k, 2 _law_many, 3 _law_primes -/
def f107 : FnI := { at_ := ("_law_draw", none), ps := ["_law_cell", "_law_k", "_law_many"], dv := [], N := ["_law_cell", "_law_k", "_law_many", "_law_primes"], body := PB.b107, kwo := false }
abbrev s107 : Stmt := top 36
/-- _law_cell_at: 0 _law_script, 1 _law_k -/
def f108 : FnI := { at_ := ("_law_cell_at", none), ps := ["_law_script", "_law_k"], dv := [], N := ["_law_script", "_law_k"], body := PB.b108, kwo := false }
abbrev s108 : Stmt := top 37
/-- _law_digits: 0 _law_script, 1 _law_at, 2 _law_many, 3 _law_base, 4 _law_cell, 5 _law_found, 6 _law_left, 7 _law_turn, 8 _law_blend, 9 _law_more -/
def f109 : FnI := { at_ := ("_law_digits", none), ps := ["_law_script", "_law_at", "_law_many", "_law_base"], dv := [], N := ["_law_script", "_law_at", "_law_many", "_law_base", "_law_cell", "_law_found", "_law_left", "_law_turn", "_law_blend", "_law_more"], body := PB.b109, kwo := false }
abbrev s109 : Stmt := top 38
/-- _law_take: 0 _law_draws, 1 _law_many -/
def f110 : FnI := { at_ := ("_law_take", none), ps := ["_law_draws", "_law_many"], dv := [], N := ["_law_draws", "_law_many"], body := PB.b110, kwo := false }
abbrev s110 : Stmt := top 39
/-- _law_parts: 0 _law_draws, 1 _law_lands, 2 _law_wares, 3 _law_ware, 4 _law_names, 5 _law_parties, 6 _law_porters, 7 _law_kinds, 8 _law_dues, 9 _law_turn, 10 _law_rate_here, 11 _law_land, 12 _law_kind, 13 _law_norms, 14 _law_pairs, 15 _law_part, 16 _law_word, 17 _law_days, 18 _law_cut, 19 _law_wait, 20 _law_name -/
def f111 : FnI := { at_ := ("_law_parts", none), ps := ["_law_draws"], dv := [], N := ["_law_draws", "_law_lands", "_law_wares", "_law_ware", "_law_names", "_law_parties", "_law_porters", "_law_kinds", "_law_dues", "_law_turn", "_law_rate_here", "_law_land", "_law_kind", "_law_norms", "_law_pairs", "_law_part", "_law_word", "_law_days", "_law_cut", "_law_wait", "_law_name"], body := PB.b111, kwo := false }
abbrev s111 : Stmt := top 40
/-- _law_world: 0 _law_parts_here -/
def f112 : FnI := { at_ := ("_law_world", none), ps := ["_law_parts_here"], dv := [], N := ["_law_parts_here"], body := PB.b112, kwo := false }
abbrev s112 : Stmt := top 41
/-- _law_rate: 0 _law_parts_here, 1 _law_land, 2 _law_kind, 3 _law_day, 4 _law_found, 5 _law_last, 6 _law_place, 7 _law_what, 8 _law_begin, 9 _law_rate_here -/
def l113_0 : Sms := (.cons (.iff (.bop true (.cons (.op2 .eq (.var 6) (.var 1)) (.cons (.op2 .eq (.var 7) (.var 2)) (.cons (.chn (.var 5) (.var 8) (.var 3)) .nil)))) (.cons (.par [4, 5] (.cons (.var 9) (.cons (.var 8) .nil))) .nil) .nil) .nil)
def b113 : Sms := (.cons (.set (.tp (.cons (.nm 4) (.cons (.nm 5) .nil))) (.tup (.cons (.con (.int 0)) (.cons (.neg (.con (.int 1))) .nil)))) (.cons (.for_ (.tp (.cons (.nm 6) (.cons (.nm 7) (.cons (.nm 8) (.cons (.nm 9) .nil))))) (.exp (.op2 .idx (.var 0) (.con (.int 4)))) l113_0) (.cons (.ret (.var 4)) .nil)))
def f113 : FnI := { at_ := ("_law_rate", none), ps := ["_law_parts_here", "_law_land", "_law_kind", "_law_day"], dv := [], N := ["_law_parts_here", "_law_land", "_law_kind", "_law_day", "_law_found", "_law_last", "_law_place", "_law_what", "_law_begin", "_law_rate_here"], body := b113, kwo := false }
abbrev s113 : Stmt := top 42
/-- law: 0 _law_script, 1 _law_by, 2 _law_draws, 3 _law_parts_here, 4 _law_handed, 5 _law_world_here, 6 _law_land, 7 _law_kind, 8 _law_day, 9 _law_at, 10 _law_other, 11 _law_more, 12 _law_bare, 13 _law_full, 14 _law_one -/
def s114_0 : Sm := (.set (.nm 0) (.slc (.var 0) .none (.some (.con (.int 63)))))
def t114_0_0 : Sm := (.set (.nm 2) (.cal 109 (.cons (.var 0) (.cons (.var 1) (.cons (.con (.int 90)) (.cons (.con (.int 1000003)) .nil))))))
def t114_0_1 : Sm := (.set (.nm 3) (.cal 111 (.cons (.var 2) .nil)))
def c114_0 : Ex := (.ite (.isi (.var 14) [.ty 3] false) (.bif .list (.cons (.var 14) .nil)) (.var 14))
def t114_0_2 : Sm := (.slc 4 c114_0 [14] (.nm 14) (.exp (.var 3)) .none)
def t114_0_3 : Sm := (.set (.tp (.cons (.sb (.var 4) (.con (.int 1))) (.cons (.sb (.var 4) (.con (.int 2))) .nil))) (.tup (.cons (.bif .dict (.cons (.op2 .idx (.var 3) (.con (.int 1))) .nil)) (.cons (.bif .dict (.cons (.op2 .idx (.var 3) (.con (.int 2))) .nil)) .nil))))
def t114_0_4 : Sm := (.set (.nm 5) (.cal 112 (.cons (.var 4) .nil)))
def t114_0_5 : Sm := (.ex (.bme .append (.op2 .idx (.var 4) (.con (.int 0))) (.cons (.con (.str [109, 111, 114, 101])) .nil)))
def t114_0_6 : Sm := (.set (.sb (.op2 .idx (.var 4) (.con (.int 1))) (.con (.str [122, 122]))) (.con (.str [102, 111, 111, 100])))
def t114_0_7 : Sm := (.set (.sb (.op2 .idx (.var 4) (.con (.int 2))) (.con (.str [122, 122]))) (.op2 .idx (.op2 .idx (.var 3) (.con (.int 0))) (.con (.int 0))))
def t114_0_8 : Sm := (.ex (.bme .append (.op2 .idx (.var 4) (.con (.int 3))) (.cons (.con .non) .nil)))
def t114_0_9 : Sm := (.ex (.bme .append (.op2 .idx (.var 4) (.con (.int 4))) (.cons (.con .non) .nil)))
def t114_0_10 : Sm := (.ex (.bme .append (.op2 .idx (.var 4) (.con (.int 5))) (.cons (.con .non) .nil)))
def l114_3 : Sms := (.cons (.iff (.op2 .ne (.met (.var 5) 0 (.cons (.var 6) (.cons (.var 7) (.cons (.var 8) .nil)))) (.cal 113 (.cons (.var 3) (.cons (.var 6) (.cons (.var 7) (.cons (.var 8) .nil)))))) (.cons (.ret (.con (.bl false))) .nil) .nil) .nil)
def l114_2 : Sms := (.cons (.for_ (.nm 8) (.exp (.tup (.cons (.con (.int 0)) (.cons (.con (.int 1)) (.cons (.con (.int 2)) (.cons (.con (.int 3)) (.cons (.con (.int 7)) (.cons (.con (.int 8)) (.cons (.con (.int 9)) (.cons (.con (.int 1000)) .nil)))))))))) l114_3) .nil)
def l114_1 : Sms := (.cons (.for_ (.nm 7) (.exp (.sst (.lvl (.op2 .idx (.var 3) (.con (.int 1)))))) l114_2) .nil)
def t114_0_11 : Sm := (.for_ (.nm 6) (.exp (.op2 .idx (.var 3) (.con (.int 0)))) l114_1)
def t114_0_12 : Sm := (.iff (.bop false (.cons (.eqo true (.var 5) (.cal 112 (.cons (.var 3) .nil))) (.cons (.eqo false (.var 5) (.var 3)) .nil))) (.cons (.ret (.con (.bl false))) .nil) .nil)
def t114_0_13 : Sm := (.par [9, 10] (.cons (.cal 110 (.cons (.var 2) (.cons (.con (.int 3)) .nil))) (.cons (.bif .list (.cons (.var 3) .nil)) .nil)))
def t114_0_14 : Sm := (.set (.nm 11) (.op2 .add (.op2 .idx (.var 3) (.op2 .add (.con (.int 6)) (.var 9))) (.con (.int 1))))
def t114_0_15 : Sm := (.set (.sb (.var 10) (.op2 .add (.con (.int 6)) (.var 9))) (.ite (.op2 .gt (.var 9) (.con (.int 0))) (.op2 .add (.op2 .mod (.var 11) (.con (.int 9))) (.con (.int 1))) (.op2 .mod (.var 11) (.con (.int 2000)))))
def t114_0_16 : Sm := (.iff (.eqo false (.var 5) (.cal 112 (.cons (.var 10) .nil))) (.cons (.ret (.con (.bl false))) .nil) .nil)
def t114_0_17 : Sm := (.set (.nm 10) (.bif .list (.cons (.var 3) .nil)))
def t114_0_18 : Sm := (.set (.sb (.var 10) (.con (.int 4))) (.op2 .add (.op2 .idx (.var 3) (.con (.int 4))) (.lst (.cons (.tup (.cons (.op2 .idx (.op2 .idx (.var 3) (.con (.int 0))) (.con (.int 0))) (.cons (.op2 .idx (.lvl (.op2 .idx (.var 3) (.con (.int 1)))) (.con (.int 0))) (.cons (.con (.int 3)) (.cons (.con (.int 77)) .nil))))) .nil))))
def t114_0_19 : Sm := (.iff (.eqo false (.var 5) (.cal 112 (.cons (.var 10) .nil))) (.cons (.ret (.con (.bl false))) .nil) .nil)
def l114_0 : Sms := (.cons t114_0_0 (.cons t114_0_1 (.cons t114_0_2 (.cons t114_0_3 (.cons t114_0_4 (.cons t114_0_5 (.cons t114_0_6 (.cons t114_0_7 (.cons t114_0_8 (.cons t114_0_9 (.cons t114_0_10 (.cons t114_0_11 (.cons t114_0_12 (.cons t114_0_13 (.cons t114_0_14 (.cons t114_0_15 (.cons t114_0_16 (.cons t114_0_17 (.cons t114_0_18 (.cons t114_0_19 .nil))))))))))))))))))))
def s114_1 : Sm := (.for_ (.nm 1) (.rng (.bif .max2 (.cons (.con (.int 1)) (.cons (.bif .min2 (.cons (.con (.int 6)) (.cons (.bif .len (.cons (.var 0) .nil)) .nil))) .nil)))) l114_0)
def s114_2 : Sm := (.par [12, 13] (.cons (.mke 0 (.cons (.lst (.cons (.con (.str [101, 97, 115, 116])) .nil)) (.cons (.dsp [(.str [99, 111, 114, 110])] (.cons (.con (.str [102, 111, 111, 100])) .nil)) (.cons (.dsp [(.str [97, 110, 110])] (.cons (.con (.str [101, 97, 115, 116])) .nil)) .nil))) [] .nil) (.cons (.lst .nil) .nil)))
def l114_4 : Sms := (.cons (.set (.nm 11) (.mke 0 (.cons (.lst (.cons (.con (.str [101, 97, 115, 116])) .nil)) (.cons (.dsp [(.str [99, 111, 114, 110])] (.cons (.con (.str [102, 111, 111, 100])) .nil)) (.cons (.dsp [(.str [97, 110, 110])] (.cons (.con (.str [101, 97, 115, 116])) .nil)) .nil))) [4, 5, 6, 7, 8, 9] (.cons (.lst .nil) (.cons (.lst .nil) (.cons (.lst .nil) (.cons (.op2 .idx (.var 14) (.con (.int 0))) (.cons (.op2 .idx (.var 14) (.con (.int 1))) (.cons (.op2 .idx (.var 14) (.con (.int 2))) .nil)))))))) (.cons (.ex (.bme .append (.var 13) (.cons (.eqo false (.var 12) (.var 11)) .nil))) .nil))
def s114_3 : Sm := (.for_ (.nm 14) (.exp (.tup (.cons (.tup (.cons (.con (.int 0)) (.cons (.con (.int 2)) (.cons (.con (.int 2)) .nil)))) (.cons (.tup (.cons (.con (.int 1)) (.cons (.con (.int 2)) (.cons (.con (.int 2)) .nil)))) (.cons (.tup (.cons (.con (.int 0)) (.cons (.con (.int 1)) (.cons (.con (.int 2)) .nil)))) (.cons (.tup (.cons (.con (.int 0)) (.cons (.con (.int 2)) (.cons (.con (.int 1)) .nil)))) (.cons (.tup (.cons (.con (.int 0)) (.cons (.con (.int 3)) (.cons (.con (.int 2)) .nil)))) (.cons (.tup (.cons (.con (.int 0)) (.cons (.con (.int 2)) (.cons (.con (.int 3)) .nil)))) .nil)))))))) l114_4)
def s114_4 : Sm := (.ret (.op2 .eq (.var 13) (.op2 .add (.lst (.cons (.con (.bl true)) .nil)) (.op2 .mul (.lst (.cons (.con (.bl false)) .nil)) (.con (.int 5))))))
def b114 : Sms := (.cons s114_0 (.cons s114_1 (.cons s114_2 (.cons s114_3 (.cons s114_4 .nil)))))
def f114 : FnI := { at_ := ("law", none), ps := ["_law_script"], dv := [], N := ["_law_script", "_law_by", "_law_draws", "_law_parts_here", "_law_handed", "_law_world_here", "_law_land", "_law_kind", "_law_day", "_law_at", "_law_other", "_law_more", "_law_bare", "_law_full", "_law_one"], body := b114, kwo := false }
abbrev s114 : Stmt := top 43
def c0 : ClI := { nm := "World", fs := [0, 1, 2, 3, 4, 5, 6, 7], ms := [(0, 14), (1, 15)], ini := 12, eqf := 13, pats := [(3, [4, 5, 6, 7, 8, 9]), (3, [])] }
def prg : Prg := { fns := [f0, f1, f2, f3, f114, f5, f6, f7, f8, f114, f10, f11, f12, f13, f14, f15, f114, f114, f114, f114, f114, f114, f114, f114, f114, f114, f114, f114, f114, f114, f114, f114, f114, f114, f114, f114, f114, f114, f114, f114, f114, f114, f114, f114, f114, f114, f114, f114, f114, f114, f114, f114, f114, f114, f114, f114, f114, f114, f114, f114, f114, f114, f114, f114, f114, f114, f114, f114, f114, f114, f114, f114, f114, f114, f114, f114, f114, f114, f114, f114, f114, f114, f114, f114, f114, f114, f114, f114, f114, f114, f114, f114, f114, f114, f114, f114, f114, f114, f114, f114, f114, f114, f114, f114, f114, f114, f114, f107, f108, f109, f110, f111, f112, f113, f114], cls := [c0], fnm := [(Str.ofString "lands"), (Str.ofString "kinds"), (Str.ofString "homes"), (Str.ofString "carriers"), (Str.ofString "levies"), (Str.ofString "listed"), (Str.ofString "fee"), (Str.ofString "days"), (Str.ofString "seller"), (Str.ofString "buyer"), (Str.ofString "land"), (Str.ofString "whole"), (Str.ofString "tax"), (Str.ofString "levy"), (Str.ofString "number"), (Str.ofString "party"), (Str.ofString "side"), (Str.ofString "ware"), (Str.ofString "many"), (Str.ofString "price"), (Str.ofString "until"), (Str.ofString "state"), (Str.ofString "since"), (Str.ofString "deal"), (Str.ofString "rows"), (Str.ofString "carrier"), (Str.ofString "parcels"), (Str.ofString "words"), (Str.ofString "counted"), (Str.ofString "base"), (Str.ofString "now"), (Str.ofString "moves"), (Str.ofString "sums"), (Str.ofString "free"), (Str.ofString "open_offers"), (Str.ofString "offered"), (Str.ofString "deals"), (Str.ofString "posts"), (Str.ofString "made_with"), (Str.ofString "sheet"), (Str.ofString "done"), (Str.ofString "left"), (Str.ofString "dark"), (Str.ofString "row")], mnm := [(Str.ofString "rate"), (Str.ofString "rate_at"), (Str.ofString "rate_for"), (Str.ofString "move"), (Str.ofString "has"), (Str.ofString "free_of"), (Str.ofString "more_free"), (Str.ofString "bound_of"), (Str.ofString "offer"), (Str.ofString "best_for"), (Str.ofString "meet"), (Str.ofString "strike"), (Str.ofString "send"), (Str.ofString "goes"), (Str.ofString "word"), (Str.ofString "counts"), (Str.ofString "end"), (Str.ofString "pass_day"), (Str.ofString "again"), (Str.ofString "check_power"), (Str.ofString "write"), (Str.ofString "check_party"), (Str.ofString "check_ware"), (Str.ofString "trade_of"), (Str.ofString "power"), (Str.ofString "pay_in"), (Str.ofString "pay_out"), (Str.ofString "check_goods"), (Str.ofString "bring"), (Str.ofString "take"), (Str.ofString "check_carrier"), (Str.ofString "complain"), (Str.ofString "say"), (Str.ofString "pass_days"), (Str.ofString "do"), (Str.ofString "do_two"), (Str.ofString "do_three"), (Str.ofString "day"), (Str.ofString "account"), (Str.ofString "is_account"), (Str.ofString "accounts"), (Str.ofString "goods"), (Str.ofString "kept"), (Str.ofString "offers"), (Str.ofString "trades"), (Str.ofString "record"), (Str.ofString "movements"), (Str.ofString "statement"), (Str.ofString "waiting"), (Str.ofString "paper"), (Str.ofString "log"), (Str.ofString "quotes"), (Str.ofString "levied"), (Str.ofString "standing"), (Str.ofString "world")], glo := [(Str.ofString "LETTERS", ((.str [97, 98, 99, 100, 101, 102, 103, 104, 105, 106, 107, 108, 109, 110, 111, 112, 113, 114, 115, 116, 117, 118, 119, 120, 121, 122]) : LV)), (Str.ofString "LONGEST", ((.int 8) : LV)), (Str.ofString "LETTERS", ((.str [97, 98, 99, 100, 101, 102, 103, 104, 105, 106, 107, 108, 109, 110, 111, 112, 113, 114, 115, 116, 117, 118, 119, 120, 121, 122]) : LV)), (Str.ofString "MOST_RATE", ((.int 5000) : LV)), (Str.ofString "LETTERS", ((.str [97, 98, 99, 100, 101, 102, 103, 104, 105, 106, 107, 108, 109, 110, 111, 112, 113, 114, 115, 116, 117, 118, 119, 120, 121, 122]) : LV)), (Str.ofString "WHOLE_PART", ((.int 100) : LV)), (Str.ofString "LETTERS", ((.str [97, 98, 99, 100, 101, 102, 103, 104, 105, 106, 107, 108, 109, 110, 111, 112, 113, 114, 115, 116, 117, 118, 119, 120, 121, 122]) : LV)), (Str.ofString "LETTERS", ((.str [97, 98, 99, 100, 101, 102, 103, 104, 105, 106, 107, 108, 109, 110, 111, 112, 113, 114, 115, 116, 117, 118, 119, 120, 121, 122]) : LV)), (Str.ofString "LETTERS", ((.str [97, 98, 99, 100, 101, 102, 103, 104, 105, 106, 107, 108, 109, 110, 111, 112, 113, 114, 115, 116, 117, 118, 119, 120, 121, 122]) : LV)), (Str.ofString "MOST_RULES", ((.int 10) : LV)), (Str.ofString "MOST_SAID", ((.int 3) : LV)), (Str.ofString "MOST_DAYS_rules", ((.int 9) : LV)), (Str.ofString "SIDES", ((.ktu [(.str [98, 117, 121, 101, 114]), (.str [115, 101, 108, 108, 101, 114])]) : LV)), (Str.ofString "MOST_LANDS", ((.int 4) : LV)), (Str.ofString "MOST_WARES", ((.int 6) : LV)), (Str.ofString "MOST_PARTIES", ((.int 8) : LV)), (Str.ofString "MOST_CARRIERS", ((.int 3) : LV)), (Str.ofString "MOST_LEVIES", ((.int 20) : LV)), (Str.ofString "MOST_FEE", ((.int 2000) : LV)), (Str.ofString "MOST_DAYS_worlds", ((.int 9) : LV)), (Str.ofString "NOBODY", ((.str [109, 97, 114, 107, 101, 116]) : LV))], exc := [[0], [1, 0], [0], [0], [0], [0], [0], [0], [0], [0], [10, 0]], xnm := ["MarketError", "BadMarket", "MarketError", "MarketError", "MarketError", "MarketError", "MarketError", "MarketError", "MarketError", "MarketError", "BadDay"] }
theorem m0 : mSs prg { N := f0.N, nm := (defScope s0).names, raw := (defScope s0).names } f0.body (defBody s0) = true := by kernel_rfl
theorem m1 : mSs prg { N := f1.N, nm := (defScope s1).names, raw := (defScope s1).names } f1.body (defBody s1) = true := by kernel_rfl
theorem m2 : mSs prg { N := f2.N, nm := (defScope s2).names, raw := (defScope s2).names } f2.body (defBody s2) = true := by kernel_rfl
theorem m3 : mSs prg { N := f3.N, nm := (defScope s3).names, raw := (defScope s3).names } f3.body (defBody s3) = true := by kernel_rfl
theorem m5 : mSs prg { N := f5.N, nm := (defScope s5).names, raw := (defScope s5).names } f5.body (defBody s5) = true := by kernel_rfl
theorem m6 : mSs prg { N := f6.N, nm := (defScope s6).names, raw := (defScope s6).names } f6.body (defBody s6) = true := by kernel_rfl
theorem m7 : mSs prg { N := f7.N, nm := (defScope s7).names, raw := (defScope s7).names } f7.body (defBody s7) = true := by kernel_rfl
theorem m8 : mSs prg { N := f8.N, nm := (defScope s8).names, raw := (defScope s8).names } f8.body (defBody s8) = true := by kernel_rfl
theorem m10 : mSs prg { N := f10.N, nm := (defScope s10).names, raw := (defScope s10).names } f10.body (defBody s10) = true := by kernel_rfl
theorem m11 : mSs prg { N := f11.N, nm := (defScope s11).names, raw := (defScope s11).names } f11.body (defBody s11) = true := by kernel_rfl
theorem m12 : mSs prg { N := f12.N, nm := (defScope s12).names, raw := (defScope s12).names } f12.body (defBody s12) = true := by kernel_rfl
theorem m13 : mSs prg { N := f13.N, nm := (defScope s13).names, raw := (defScope s13).names } f13.body (defBody s13) = true := by kernel_rfl
theorem m14 : mSs prg { N := f14.N, nm := (defScope s14).names, raw := (defScope s14).names } f14.body (defBody s14) = true := by kernel_rfl
theorem m15 : mSs prg { N := f15.N, nm := (defScope s15).names, raw := (defScope s15).names } f15.body (defBody s15) = true := by kernel_rfl
theorem m107 : mSs prg { N := f107.N, nm := (defScope s107).names, raw := (defScope s107).names } f107.body (defBody s107) = true := by kernel_rfl
theorem m108 : mSs prg { N := f108.N, nm := (defScope s108).names, raw := (defScope s108).names } f108.body (defBody s108) = true := by kernel_rfl
theorem m109 : mSs prg { N := f109.N, nm := (defScope s109).names, raw := (defScope s109).names } f109.body (defBody s109) = true := by kernel_rfl
theorem m110 : mSs prg { N := f110.N, nm := (defScope s110).names, raw := (defScope s110).names } f110.body (defBody s110) = true := by kernel_rfl
theorem m111 : mSs prg { N := f111.N, nm := (defScope s111).names, raw := (defScope s111).names } f111.body (defBody s111) = true := by kernel_rfl
theorem m112 : mSs prg { N := f112.N, nm := (defScope s112).names, raw := (defScope s112).names } f112.body (defBody s112) = true := by kernel_rfl
theorem m113 : mSs prg { N := f113.N, nm := (defScope s113).names, raw := (defScope s113).names } f113.body (defBody s113) = true := by kernel_rfl
theorem m114 : mSs prg { N := f114.N, nm := (defScope s114).names, raw := (defScope s114).names } f114.body (defBody s114) = true := by kernel_rfl
def d0 : He.DefD := ⟨("is_name", none), "is_name", "is_name", defArgs s0, defBody s0, defScope s0, [], []⟩
def d1 : He.DefD := ⟨("is_number", none), "is_number", "is_number", defArgs s1, defBody s1, defScope s1, [.non], []⟩
def d2 : He.DefD := ⟨("are_names", none), "are_names", "are_names", defArgs s2, defBody s2, defScope s2, [], []⟩
def d3 : He.DefD := ⟨("is_one_of", none), "is_one_of", "is_one_of", defArgs s3, defBody s3, defScope s3, [], []⟩
def d5 : He.DefD := ⟨("is_levy", none), "is_levy", "is_levy", defArgs s5, defBody s5, defScope s5, [], []⟩
def d6 : He.DefD := ⟨("is_said", none), "is_said", "is_said", defArgs s6, defBody s6, defScope s6, [], []⟩
def d7 : He.DefD := ⟨("is_rule", none), "is_rule", "is_rule", defArgs s7, defBody s7, defScope s7, [], []⟩
def d8 : He.DefD := ⟨("are_rules", none), "are_rules", "are_rules", defArgs s8, defBody s8, defScope s8, [], []⟩
def d10 : He.DefD := ⟨("are_wares", none), "are_wares", "are_wares", defArgs s10, defBody s10, defScope s10, [], []⟩
def d11 : He.DefD := ⟨("are_parties", none), "are_parties", "are_parties", defArgs s11, defBody s11, defScope s11, [], []⟩
def d12 : He.DefD := ⟨("World", some "__init__"), "__init__", "World.__init__", defArgs s12, defBody s12, defScope s12, [], [("carriers", .adr (kwAt ("World", some "__init__") "carriers")), ("levies", .adr (kwAt ("World", some "__init__") "levies")), ("rules", .adr (kwAt ("World", some "__init__") "rules")), ("fee", .int 0), ("send", .int 2), ("complain", .int 2)]⟩
def d13 : He.DefD := ⟨("World", some "__eq__"), "__eq__", "World.__eq__", defArgs s13, defBody s13, defScope s13, [], []⟩
def d14 : He.DefD := ⟨("World", some "rate"), "rate", "World.rate", defArgs s14, defBody s14, defScope s14, [], []⟩
def d15 : He.DefD := ⟨("World", some "rate_at"), "rate_at", "World.rate_at", defArgs s15, defBody s15, defScope s15, [], []⟩
def d107 : He.DefD := ⟨("_law_draw", none), "_law_draw", "_law_draw", defArgs s107, defBody s107, defScope s107, [], []⟩
def d108 : He.DefD := ⟨("_law_cell_at", none), "_law_cell_at", "_law_cell_at", defArgs s108, defBody s108, defScope s108, [], []⟩
def d109 : He.DefD := ⟨("_law_digits", none), "_law_digits", "_law_digits", defArgs s109, defBody s109, defScope s109, [], []⟩
def d110 : He.DefD := ⟨("_law_take", none), "_law_take", "_law_take", defArgs s110, defBody s110, defScope s110, [], []⟩
def d111 : He.DefD := ⟨("_law_parts", none), "_law_parts", "_law_parts", defArgs s111, defBody s111, defScope s111, [], []⟩
def d112 : He.DefD := ⟨("_law_world", none), "_law_world", "_law_world", defArgs s112, defBody s112, defScope s112, [], []⟩
def d113 : He.DefD := ⟨("_law_rate", none), "_law_rate", "_law_rate", defArgs s113, defBody s113, defScope s113, [], []⟩
def d114 : He.DefD := ⟨("law", none), "law", "law", defArgs s114, defBody s114, defScope s114, [], []⟩
def dus : List He.DefD := [d0, d1, d2, d3, d5, d6, d7, d8, d10, d11, d12, d13, d14, d15, d107, d108, d109, d110, d111, d112, d113, d114]
def dfs : List He.DefD := [d0, d1, d2, d3, d114, d5, d6, d7, d8, d114, d10, d11, d12, d13, d14, d15, d114, d114, d114, d114, d114, d114, d114, d114, d114, d114, d114, d114, d114, d114, d114, d114, d114, d114, d114, d114, d114, d114, d114, d114, d114, d114, d114, d114, d114, d114, d114, d114, d114, d114, d114, d114, d114, d114, d114, d114, d114, d114, d114, d114, d114, d114, d114, d114, d114, d114, d114, d114, d114, d114, d114, d114, d114, d114, d114, d114, d114, d114, d114, d114, d114, d114, d114, d114, d114, d114, d114, d114, d114, d114, d114, d114, d114, d114, d114, d114, d114, d114, d114, d114, d114, d114, d114, d114, d114, d114, d114, d107, d108, d109, d110, d111, d112, d113, d114]
theorem e0 : Ent prg dus f0 d0 := ⟨⟨0, rfl⟩, rfl, by kernel_rfl, m0, fun K fd F _ => bindOk0 (FunD.bindsN F fun _ _ _ _ _ _ us hl => match us, hl with | [_], _ => rfl)⟩
theorem e1 : Ent prg dus f1 d1 := ⟨⟨1, rfl⟩, rfl, by kernel_rfl, m1, fun K fd F _ => bindOk1 (FunD.binds1 F 2 0 (by intro z; cases z) rfl fun _ _ _ _ _ _ _ us its h1 h2 => match us, its, h1, h2 with | [_, _], [_], _, _ => ⟨_, rfl, rfl⟩) (FunD.binds1 F 3 1 (by intro z; cases z) rfl fun _ _ _ _ _ _ _ us its h1 h2 => match us, its, h1, h2 with | [_, _, _], [_], _, _ => ⟨_, rfl, rfl⟩) (fun _ _ _ => vr_non)⟩
theorem e2 : Ent prg dus f2 d2 := ⟨⟨2, rfl⟩, rfl, by kernel_rfl, m2, fun K fd F _ => bindOk0 (FunD.bindsN F fun _ _ _ _ _ _ us hl => match us, hl with | [_, _, _], _ => rfl)⟩
theorem e3 : Ent prg dus f3 d3 := ⟨⟨3, rfl⟩, rfl, by kernel_rfl, m3, fun K fd F _ => bindOk0 (FunD.bindsN F fun _ _ _ _ _ _ us hl => match us, hl with | [_, _], _ => rfl)⟩
theorem e5 : Ent prg dus f5 d5 := ⟨⟨4, rfl⟩, rfl, by kernel_rfl, m5, fun K fd F _ => bindOk0 (FunD.bindsN F fun _ _ _ _ _ _ us hl => match us, hl with | [_, _, _], _ => rfl)⟩
theorem e6 : Ent prg dus f6 d6 := ⟨⟨5, rfl⟩, rfl, by kernel_rfl, m6, fun K fd F _ => bindOk0 (FunD.bindsN F fun _ _ _ _ _ _ us hl => match us, hl with | [_], _ => rfl)⟩
theorem e7 : Ent prg dus f7 d7 := ⟨⟨6, rfl⟩, rfl, by kernel_rfl, m7, fun K fd F _ => bindOk0 (FunD.bindsN F fun _ _ _ _ _ _ us hl => match us, hl with | [_], _ => rfl)⟩
theorem e8 : Ent prg dus f8 d8 := ⟨⟨7, rfl⟩, rfl, by kernel_rfl, m8, fun K fd F _ => bindOk0 (FunD.bindsN F fun _ _ _ _ _ _ us hl => match us, hl with | [_], _ => rfl)⟩
theorem e10 : Ent prg dus f10 d10 := ⟨⟨8, rfl⟩, rfl, by kernel_rfl, m10, fun K fd F _ => bindOk0 (FunD.bindsN F fun _ _ _ _ _ _ us hl => match us, hl with | [_], _ => rfl)⟩
theorem e11 : Ent prg dus f11 d11 := ⟨⟨9, rfl⟩, rfl, by kernel_rfl, m11, fun K fd F _ => bindOk0 (FunD.bindsN F fun _ _ _ _ _ _ us hl => match us, hl with | [_, _], _ => rfl)⟩
theorem e12 : Ent prg dus f12 d12 := ⟨⟨10, rfl⟩, rfl, by kernel_rfl, m12, fun K fd F hk => by cases hk⟩
theorem e13 : Ent prg dus f13 d13 := ⟨⟨11, rfl⟩, rfl, by kernel_rfl, m13, fun K fd F _ => bindOk0 (FunD.bindsN F fun _ _ _ _ _ _ us hl => match us, hl with | [_, _], _ => rfl)⟩
theorem e14 : Ent prg dus f14 d14 := ⟨⟨12, rfl⟩, rfl, by kernel_rfl, m14, fun K fd F _ => bindOk0 (FunD.bindsN F fun _ _ _ _ _ _ us hl => match us, hl with | [_, _, _, _], _ => rfl)⟩
theorem e15 : Ent prg dus f15 d15 := ⟨⟨13, rfl⟩, rfl, by kernel_rfl, m15, fun K fd F _ => bindOk0 (FunD.bindsN F fun _ _ _ _ _ _ us hl => match us, hl with | [_, _, _, _], _ => rfl)⟩
theorem e107 : Ent prg dus f107 d107 := ⟨⟨14, rfl⟩, rfl, by kernel_rfl, m107, fun K fd F _ => bindOk0 (FunD.bindsN F fun _ _ _ _ _ _ us hl => match us, hl with | [_, _, _], _ => rfl)⟩
theorem e108 : Ent prg dus f108 d108 := ⟨⟨15, rfl⟩, rfl, by kernel_rfl, m108, fun K fd F _ => bindOk0 (FunD.bindsN F fun _ _ _ _ _ _ us hl => match us, hl with | [_, _], _ => rfl)⟩
theorem e109 : Ent prg dus f109 d109 := ⟨⟨16, rfl⟩, rfl, by kernel_rfl, m109, fun K fd F _ => bindOk0 (FunD.bindsN F fun _ _ _ _ _ _ us hl => match us, hl with | [_, _, _, _], _ => rfl)⟩
theorem e110 : Ent prg dus f110 d110 := ⟨⟨17, rfl⟩, rfl, by kernel_rfl, m110, fun K fd F _ => bindOk0 (FunD.bindsN F fun _ _ _ _ _ _ us hl => match us, hl with | [_, _], _ => rfl)⟩
theorem e111 : Ent prg dus f111 d111 := ⟨⟨18, rfl⟩, rfl, by kernel_rfl, m111, fun K fd F _ => bindOk0 (FunD.bindsN F fun _ _ _ _ _ _ us hl => match us, hl with | [_], _ => rfl)⟩
theorem e112 : Ent prg dus f112 d112 := ⟨⟨19, rfl⟩, rfl, by kernel_rfl, m112, fun K fd F _ => bindOk0 (FunD.bindsN F fun _ _ _ _ _ _ us hl => match us, hl with | [_], _ => rfl)⟩
theorem e113 : Ent prg dus f113 d113 := ⟨⟨20, rfl⟩, rfl, by kernel_rfl, m113, fun K fd F _ => bindOk0 (FunD.bindsN F fun _ _ _ _ _ _ us hl => match us, hl with | [_, _, _, _], _ => rfl)⟩
theorem e114 : Ent prg dus f114 d114 := ⟨⟨21, rfl⟩, rfl, by kernel_rfl, m114, fun K fd F _ => bindOk0 (FunD.bindsN F fun _ _ _ _ _ _ us hl => match us, hl with | [_], _ => rfl)⟩
theorem ents : Ents prg dus prg.fns dfs := (.cons e0 (.cons e1 (.cons e2 (.cons e3 (.cons e114 (.cons e5 (.cons e6 (.cons e7 (.cons e8 (.cons e114 (.cons e10 (.cons e11 (.cons e12 (.cons e13 (.cons e14 (.cons e15 (.cons e114 (.cons e114 (.cons e114 (.cons e114 (.cons e114 (.cons e114 (.cons e114 (.cons e114 (.cons e114 (.cons e114 (.cons e114 (.cons e114 (.cons e114 (.cons e114 (.cons e114 (.cons e114 (.cons e114 (.cons e114 (.cons e114 (.cons e114 (.cons e114 (.cons e114 (.cons e114 (.cons e114 (.cons e114 (.cons e114 (.cons e114 (.cons e114 (.cons e114 (.cons e114 (.cons e114 (.cons e114 (.cons e114 (.cons e114 (.cons e114 (.cons e114 (.cons e114 (.cons e114 (.cons e114 (.cons e114 (.cons e114 (.cons e114 (.cons e114 (.cons e114 (.cons e114 (.cons e114 (.cons e114 (.cons e114 (.cons e114 (.cons e114 (.cons e114 (.cons e114 (.cons e114 (.cons e114 (.cons e114 (.cons e114 (.cons e114 (.cons e114 (.cons e114 (.cons e114 (.cons e114 (.cons e114 (.cons e114 (.cons e114 (.cons e114 (.cons e114 (.cons e114 (.cons e114 (.cons e114 (.cons e114 (.cons e114 (.cons e114 (.cons e114 (.cons e114 (.cons e114 (.cons e114 (.cons e114 (.cons e114 (.cons e114 (.cons e114 (.cons e114 (.cons e114 (.cons e114 (.cons e114 (.cons e114 (.cons e114 (.cons e114 (.cons e114 (.cons e114 (.cons e114 (.cons e114 (.cons e107 (.cons e108 (.cons e109 (.cons e110 (.cons e111 (.cons e112 (.cons e113 (.cons e114 .nil)))))))))))))))))))))))))))))))))))))))))))))))))))))))))))))))))))))))))))))))))))))))))))))))))))))))))))))))))))
end PG
end
section
set_option Elab.async false
set_option linter.all false
set_option maxRecDepth 100000
set_option maxHeartbeats 1000000
/-! LH1: k01, parts of its loop (printed by mk1.py) -/
namespace LD
open L2
local macro_rules
  | `(tactic| simp_arith [$as,*]) => `(tactic| simp only [bind_ok, bind_exc, bindN_ok, toS_ok, toS_exc, thn_nx, thn_rt, thn_ct, thn_exc, turn_nx, turn_ct, turn_rt, parK_some, par_nil, par_cons, kOp2_eq, kNot_eq, kNt_eq, kIte_eq, kTup_eq, kSl2_eq, kSl1_eq, kFld_eq, kMk_eq, kEq1_eq, kCs2_eq, kCs1_eq, kB1b_eq, kB1_eq, kBf_eq, kBt_eq, kSb3_eq, kSb2_eq, kSb1_eq, kEx_eq, kSet_eq, kPar_eq, kAg3_eq, kAg2_eq, kAg1_eq, kI1_eq, kIf_T, kIf_F, kBf2_T, kBf2_F, kBt2_T, kBt2_F, kI2_T, kI2_F, ev_var, ev_con, ev_op2, ev_neg, ev_isN, ev_bop, ev_nt, ev_ite, ev_tup, ev_lst, ev_dnw, ev_dsp, ev_slc, ev_fld, ev_cal, ev_mke, ev_bif, ev_isi, ev_lvl, ev_sst, ev_eqo, ev_nil, ev_cons, ev_B1, ev_O0, ev_O1, ev_Q0, ev_Q1, asg_nm, asg_tp, asg_kt, asg_sb, asgs_nil, asgs_cons, es_ex, es_set, es_par, es_agN, es_iff, es_ret, es_retN, es_rse, es_pass, es_cont, es_nil, es_cons, ev_B2f, ev_B2t, ite_T, ite_F, ite_TT, ite_FF, t_and, f_and, and_t, and_f, t_or, f_or, not_T, not_F, map1_, app_c, app_n, rep0, repS, len0, lenS, sub_n, slot0, slotS, fin_nx, fin_rt, fin_exc, p2_add, p2_sub, p2_mul, p2_fdiv, p2_mod, p2_pow, p2_eq, p2_ne, p2_lt, p2_le, p2_gt, p2_ge, p2_in, p2_nin, p2_idx, p2_eqd, kCh3_T, kCh3_F, kCh2b_eq, kCh2_eq, kCh1_eq, ev_chn, kBm_eq, pB_len, pB_abs, pB_sum, pB_list, pB_tuple, pB_dict, pB_max2, pB_min2, pM_app, pM_pop, pM_get, asB_bl, asI_int, isN_non, isN_int, isN_ref, isN_str, isN_tup, add_int, sub_int, neg_int, mul_l, mul_r, fdiv_int, mod_int, eq_int, eq_str, eq_bl, ne_int, ne_str, got_some, idx_tup, idx_ktu, idx_frl, len_tup, len_ktu, len_frl, ev_bme, newL_ok, list_tup, list_ktu, slice_tup, slice_frl, isi_str, isi_int, isi_intb, isi_blb, isi_intl, isi_tup, isi_tup2, isi_ktu2, atI_lit, get0, getS, set0, setS, kC2_eq, kC1_eq, kC1r_eq, kL2_eq, kL1_eq, kS4_eq, kS3_eq, kS2_eq, kS1_eq, ev_cmpE, ev_cmpR, ev_lscE, es_slcE, kF2_eq, kF1_eq, kF1r_eq, es_forE, es_forR, walk_tup, walk_ktu, walk_frl, walk_str, metK_some, kMe_eq, kMet_eq, ev_met, List.map_nil, List.map_append, List.length_append, List.map_cons, Nat.reduceAdd, Nat.reduceSub, Nat.reduceLeDiff, Nat.reduceEqDiff, Int.cast_ofNat_Int, Int.reduceBEq, Int.reduceLE, Int.reduceLT, Int.reduceNeg, Int.reduceAdd, Int.reduceSub, Int.reduceMul, Int.reduceToNat, decide_true, decide_false, $as,*])
structure K1 (P : Prg) : Prop where
  b0 : B0 P
  b1 : B1 P
  bw : BW P
  br : BR P
  be : BE P
  bd : BD P
  f111 : Fx P 111 PB.b111 1 21 [] false
  f112 : Fx P 112 PB.b112 1 1 [] false
  f113 : Fx P 113 PG.b113 4 10 [] false
  f114 : Fx P 114 PG.b114 1 15 [] false
  pat : ∀ ci, P.cls[0]? = some ci → (3, [4, 5, 6, 7, 8, 9]) ∈ ci.pats ∧ (3, []) ∈ ci.pats
theorem kw_all {fi : FnI} (h1 : fi.ps.length = 10) (h2 : fi.dv = [.ktu [], .ktu [], .ktu [], .int 0, .int 2, .int 2]) (a0 a1 a2 a3 w0 w1 w2 w3 w4 w5 : LV) : kwFill fi [a0, a1, a2, a3] [4, 5, 6, 7, 8, 9] [w0, w1, w2, w3, w4, w5] = some [a0, a1, a2, a3, w0, w1, w2, w3, w4, w5] := by
  unfold kwFill; rw [h1, h2]; rfl
theorem kw_none {fi : FnI} (h1 : fi.ps.length = 10) (h2 : fi.dv = [.ktu [], .ktu [], .ktu [], .int 0, .int 2, .int 2]) (a0 a1 a2 a3 : LV) : kwFill fi [a0, a1, a2, a3] [] [] = some [a0, a1, a2, a3, .ktu [], .ktu [], .ktu [], .int 0, .int 2, .int 2] := by
  unfold kwFill; rw [h1, h2]; rfl
section
variable {P : Prg}
theorem kw12 (k : K1 P) {fi : FnI} (e : P.fns[12]? = some fi) : fi.ps.length = 10 ∧ fi.dv = [.ktu [], .ktu [], .ktu [], .int 0, .int 2, .int 2] := by
  obtain ⟨fj, e2, _, h1, _, h2, _⟩ := k.bw.f12.ex
  rw [e] at e2; cases e2
  exact ⟨h1, h2⟩
theorem world_spec (k : K1 P) (a : WA) (ok : WOk a) (n r lo hi : Nat) (h : LH) (p : PIn lo hi h r a) : ∃ h', run P (n + 6) 112 [.ref r] h = .ok (.ref h.length) h' ∧ WIn h.length h'.length h' h.length a ∧ Fr noS h h' := by
  obtain ⟨b0, b1, b2, b3, b4, b5, e, e0, e1, e2, e3, e4, e5, _⟩ := p
  obtain ⟨h', em, wi, fr⟩ := make_world k.b0 k.b1 k.bw a ok n b0 b1 b2 (.ref b3) (.ref b4) (.ref b5) [4, 5, 6, 7, 8, 9] [.ref b3, .ref b4, .ref b5, .int a.fee, .int a.send, .int a.complain] h e0 e1 e2 (.inl ⟨_, rfl, e3⟩) (.inl ⟨_, rfl, e4⟩) (.inl ⟨_, rfl, e5⟩) (fun ci ec => (k.pat ci ec).1) rfl (fun fi ef => kw_all (kw12 k ef).1 (kw12 k ef).2 _ _ _ _ _ _ _ _ _ _)
  refine ⟨h', ?_, wi, fr⟩
  rw [k.f112.run _ _ _ rfl]
  unfold PB.b112
  simp_arith [idx_lst _ e, em]
theorem law_rate_spec (k : K1 P) (a : WA) (n r lo hi : Nat) (land kind : List Nat) (day : Int) (h : LH) (p : PIn lo hi h r a) : run P (n + 1) 113 [.ref r, .str land, .str kind, .int day] h = .ok (.int (rateF land kind day a.levies (-1) 0).2) h := by
  obtain ⟨b0, b1, b2, b3, b, b5, e, e0, e1, e2, e3, eb, e5, _⟩ := p
  rw [k.f113.run _ _ _ rfl]
  unfold PG.b113
  obtain ⟨ls', h', ef, hI⟩ := for_at (P := P) (F := run P n) (t := .tp (.cons (.nm 6) (.cons (.nm 7) (.cons (.nm 8) (.cons (.nm 9) .nil))))) (body := PG.l113_0) (m := b) (xs := a.levies.map levyV) (ls := [some (.ref r), some (.str land), some (.str kind), some (.int day), some (.int 0), some (.int (-1)), none, none, none, none]) (h := h)
    (fun i st h1 => h1 = h ∧ ∃ x6 x7 x8 x9, st = [some (.ref r), some (.str land), some (.str kind), some (.int day), some (.int (rateF land kind day (a.levies.take i) (-1) 0).2), some (.int (rateF land kind day (a.levies.take i) (-1) 0).1), x6, x7, x8, x9])
    (fun i st h1 hI => by rw [hI.1]; exact eb) ⟨rfl, none, none, none, none, rfl⟩ (fun i x st h1 ex hI => by
      obtain ⟨rfl, x6, x7, x8, x9, rfl⟩ := hI
      rw [List.getElem?_map] at ex
      obtain ⟨l, el, rfl⟩ := Option.map_eq_some_iff.mp ex
      refine ⟨_, _, by simp_arith [levyV, tgsLen]; rfl, ?_⟩
      have et : a.levies.take (i + 1) = a.levies.take i ++ [l] := by rw [List.take_add_one, el]; rfl
      rw [et, rateF_snoc]
      unfold PG.l113_0
      simp_arith []
      by_cases q1 : (l.1 == land) = true
      · simp_arith [q1]
        by_cases q2 : (l.2.1 == kind) = true
        · simp_arith [q2, q1]
          by_cases q3 : (rateF land kind day (a.levies.take i) (-1) 0).1 ≤ l.2.2.1
          · simp_arith [q3, q1, q2]
            by_cases q4 : l.2.2.1 ≤ day
            · simp_arith [q4, List.reverse_cons, List.reverse_nil, and_self, q1, q2, q3]
              exact ⟨_, _, .inl rfl, rfl, _, _, _, _, rfl⟩
            · simp_arith [q4, and_false, q1, q2, q3]
              exact ⟨_, _, .inl rfl, rfl, _, _, _, _, rfl⟩
          · simp_arith [q3, and_false, false_and, q1, q2]
            exact ⟨_, _, .inl rfl, rfl, _, _, _, _, rfl⟩
        · simp_arith [q2, and_false, false_and, q1]
          exact ⟨_, _, .inl rfl, rfl, _, _, _, _, rfl⟩
      · simp_arith [q1, and_false, false_and]
        exact ⟨_, _, .inl rfl, rfl, _, _, _, _, rfl⟩)
  obtain ⟨rfl, x6, x7, x8, x9, rfl⟩ := hI
  rw [List.length_map, List.take_length] at ef
  simp_arith [tgsLen, idx_lst _ e, walk_lst eb, List.length_map, ef]
/-- one turn of a comprehension that keeps -/
theorem comp_one {w : Wk} {t : LV → LSt → LH → Res LSt} {q : LSt → LH → Res Bool} {e : LSt → LH → Res LV} {ls ls1 : LSt} {k i : Nat} {acc : List LV} {h h' : LH} {x v : LV} (hx : nxW w i h = some (some x)) (ht : t x ls h = .ok ls1 h) (hq : q ls1 h = .ok true h) (he : e ls1 h = .ok v h') (hl : acc.length < 16777216) : compG w t q e ls (k + 1) i acc h = compG w t q e ls k (i + 1) (acc ++ [v]) h' := by
  rw [compG, hx]; dsimp only; rw [ht, bindN_ok, hq, bindN_ok, if_pos rfl, he, bindN_ok, if_pos hl]
end
end LD
end
section
set_option Elab.async false
set_option linter.all false
set_option maxRecDepth 100000
set_option maxHeartbeats 1000000
/-! LH2: k01, what is handed in (printed by mk2.py) -/
namespace LD
open L2
local macro_rules
  | `(tactic| simp_arith [$as,*]) => `(tactic| simp only [bind_ok, bind_exc, bindN_ok, toS_ok, toS_exc, thn_nx, thn_rt, thn_ct, thn_exc, turn_nx, turn_ct, turn_rt, parK_some, par_nil, par_cons, kOp2_eq, kNot_eq, kNt_eq, kIte_eq, kTup_eq, kSl2_eq, kSl1_eq, kFld_eq, kMk_eq, kEq1_eq, kCs2_eq, kCs1_eq, kB1b_eq, kB1_eq, kBf_eq, kBt_eq, kSb3_eq, kSb2_eq, kSb1_eq, kEx_eq, kSet_eq, kPar_eq, kAg3_eq, kAg2_eq, kAg1_eq, kI1_eq, kIf_T, kIf_F, kBf2_T, kBf2_F, kBt2_T, kBt2_F, kI2_T, kI2_F, ev_var, ev_con, ev_op2, ev_neg, ev_isN, ev_bop, ev_nt, ev_ite, ev_tup, ev_lst, ev_dnw, ev_dsp, ev_slc, ev_fld, ev_cal, ev_mke, ev_bif, ev_isi, ev_lvl, ev_sst, ev_eqo, ev_nil, ev_cons, ev_B1, ev_O0, ev_O1, ev_Q0, ev_Q1, asg_nm, asg_tp, asg_kt, asg_sb, asgs_nil, asgs_cons, es_ex, es_set, es_par, es_agN, es_iff, es_ret, es_retN, es_rse, es_pass, es_cont, es_nil, es_cons, ev_B2f, ev_B2t, ite_T, ite_F, ite_TT, ite_FF, t_and, f_and, and_t, and_f, t_or, f_or, not_T, not_F, map1_, app_c, app_n, rep0, repS, len0, lenS, sub_n, slot0, slotS, fin_nx, fin_rt, fin_exc, p2_add, p2_sub, p2_mul, p2_fdiv, p2_mod, p2_pow, p2_eq, p2_ne, p2_lt, p2_le, p2_gt, p2_ge, p2_in, p2_nin, p2_idx, p2_eqd, kCh3_T, kCh3_F, kCh2b_eq, kCh2_eq, kCh1_eq, ev_chn, kBm_eq, pB_len, pB_abs, pB_sum, pB_list, pB_tuple, pB_dict, pB_max2, pB_min2, pM_app, pM_pop, pM_get, asB_bl, asI_int, isN_non, isN_int, isN_ref, isN_str, isN_tup, add_int, sub_int, neg_int, mul_l, mul_r, fdiv_int, mod_int, eq_int, eq_str, eq_bl, ne_int, ne_str, got_some, idx_tup, idx_ktu, idx_frl, len_tup, len_ktu, len_frl, ev_bme, newL_ok, list_tup, list_ktu, slice_tup, slice_frl, isi_str, isi_int, isi_intb, isi_blb, isi_intl, isi_tup, isi_tup2, isi_ktu2, atI_lit, get0, getS, set0, setS, kC2_eq, kC1_eq, kC1r_eq, kL2_eq, kL1_eq, kS4_eq, kS3_eq, kS2_eq, kS1_eq, ev_cmpE, ev_cmpR, ev_lscE, es_slcE, kF2_eq, kF1_eq, kF1r_eq, es_forE, es_forR, walk_tup, walk_ktu, walk_frl, walk_str, metK_some, kMe_eq, kMet_eq, ev_met, List.map_nil, List.map_append, List.length_append, List.map_cons, Nat.reduceAdd, Nat.reduceSub, Nat.reduceLeDiff, Nat.reduceEqDiff, Int.cast_ofNat_Int, Int.reduceBEq, Int.reduceLE, Int.reduceLT, Int.reduceNeg, Int.reduceAdd, Int.reduceSub, Int.reduceMul, Int.reduceToNat, decide_true, decide_false, $as,*])
section
variable {P : Prg}
theorem get_ext (h g : LH) (j : Nat) : (h ++ g)[h.length + j]? = g[j]? := by rw [List.getElem?_append_right (by omega)]; simp
theorem get_ext0 (h g : LH) : (h ++ g)[h.length]? = g[0]? := get_ext h g 0
theorem set_ext (h g : LH) (j : Nat) (v : LO) : (h ++ g).set (h.length + j) v = h ++ g.set j v := (List.set_append_right _ _ (by omega)).trans (by simp)

theorem handed_comp (F : FT) (sc r2 r3 lo hi : Nat) (a : WA) (x1 x4 x5 x6 x7 x8 x9 x10 x11 x12 x13 x14 : Option LV) (h : LH) (p : PIn lo hi h r3 a) (ok : WOk a) :
    ∃ b0 b1 b2 b3 b4 b5, h[r3]? = some (.lst [.ref b0, .ref b1, .ref b2, .ref b3, .ref b4, .ref b5, .int a.fee, .int a.send, .int a.complain]) ∧ h[b1]? = some (.dK (dV a.wares)) ∧ h[b2]? = some (.dK (dV a.parties)) ∧ cmpW P F PG.c114_0 [14] (.nm 14) .none (.at_ r3 9) [some (.ref sc), x1, some (.ref r2), some (.ref r3), x4, x5, x6, x7, x8, x9, x10, x11, x12, x13, x14] h =
      .ok [.ref h.length, .ref b1, .ref b2, .ref (h.length + 1), .ref (h.length + 2), .ref (h.length + 3), .int a.fee, .int a.send, .int a.complain] (h ++ [.lst (a.lands.map .str), .lst (a.carriers.map .str), .lst (a.levies.map levyV), .lst (a.rules.map ruleV)]) := by
  obtain ⟨b0, b1, b2, b3, b4, b5, e, e0, e1, e2, e3, e4, e5, _⟩ := p
  refine ⟨b0, b1, b2, b3, b4, b5, e, e1, e2, ?_⟩
  have g : ∀ {i : Nat} {o : LO} (x : LH), h[i]? = some o → (h ++ x)[i]? = some o := fun x e => by rw [List.getElem?_append_left (lt_of e)]; exact e
  have n0 := ok.lands.2.1
  have n3 := ok.carriers.1
  have n4 := ok.levies.1
  have n5 := ok.rules.1
  unfold cmpW compOf
  show compG (.at_ r3 9) _ _ _ _ 9 0 [] h = _
  have ls : lwipe [some (.ref sc), x1, some (.ref r2), some (.ref r3), x4, x5, x6, x7, x8, x9, x10, x11, x12, x13, x14] [14] = [some (.ref sc), x1, some (.ref r2), some (.ref r3), x4, x5, x6, x7, x8, x9, x10, x11, x12, x13, none] := rfl
  rw [ls]
  rw [comp_one (x := .ref b0) (v := .ref h.length) (h' := h ++ [.lst (a.lands.map .str)]) (ls1 := [some (.ref sc), x1, some (.ref r2), some (.ref r3), x4, x5, x6, x7, x8, x9, x10, x11, x12, x13, some (.ref b0)]) (by simp only [nxW, e]; rfl) (by simp_arith []) (by simp_arith []) (by unfold PG.c114_0; simp_arith [isi_lst1 _ e0, list_lst _ e0]; rw [newL_ok _ (by simp; omega)]) (by simp)]
  rw [comp_one (x := .ref b1) (v := .ref b1) (h' := h ++ [.lst (a.lands.map .str)]) (ls1 := [some (.ref sc), x1, some (.ref r2), some (.ref r3), x4, x5, x6, x7, x8, x9, x10, x11, x12, x13, some (.ref b1)]) (by simp only [nxW, g _ e]; rfl) (by simp_arith []) (by simp_arith []) (by unfold PG.c114_0; simp_arith [isi_dKl _ (g _ e1)]) (by simp)]
  rw [comp_one (x := .ref b2) (v := .ref b2) (h' := h ++ [.lst (a.lands.map .str)]) (ls1 := [some (.ref sc), x1, some (.ref r2), some (.ref r3), x4, x5, x6, x7, x8, x9, x10, x11, x12, x13, some (.ref b2)]) (by simp only [nxW, g _ e]; rfl) (by simp_arith []) (by simp_arith []) (by unfold PG.c114_0; simp_arith [isi_dKl _ (g _ e2)]) (by simp)]
  rw [comp_one (x := .ref b3) (v := .ref (h.length + 1)) (h' := h ++ [.lst (a.lands.map .str), .lst (a.carriers.map .str)]) (ls1 := [some (.ref sc), x1, some (.ref r2), some (.ref r3), x4, x5, x6, x7, x8, x9, x10, x11, x12, x13, some (.ref b3)]) (by simp only [nxW, g _ e]; rfl) (by simp_arith []) (by simp_arith []) (by unfold PG.c114_0; simp_arith [isi_lst1 _ (g _ e3), list_lst _ (g _ e3)]; rw [newL_ok _ (by simp; omega)]; simp) (by simp)]
  rw [comp_one (x := .ref b4) (v := .ref (h.length + 2)) (h' := h ++ [.lst (a.lands.map .str), .lst (a.carriers.map .str), .lst (a.levies.map levyV)]) (ls1 := [some (.ref sc), x1, some (.ref r2), some (.ref r3), x4, x5, x6, x7, x8, x9, x10, x11, x12, x13, some (.ref b4)]) (by simp only [nxW, g _ e]; rfl) (by simp_arith []) (by simp_arith []) (by unfold PG.c114_0; simp_arith [isi_lst1 _ (g _ e4), list_lst _ (g _ e4)]; rw [newL_ok _ (by simp; omega)]; simp) (by simp)]
  rw [comp_one (x := .ref b5) (v := .ref (h.length + 3)) (h' := h ++ [.lst (a.lands.map .str), .lst (a.carriers.map .str), .lst (a.levies.map levyV), .lst (a.rules.map ruleV)]) (ls1 := [some (.ref sc), x1, some (.ref r2), some (.ref r3), x4, x5, x6, x7, x8, x9, x10, x11, x12, x13, some (.ref b5)]) (by simp only [nxW, g _ e]; rfl) (by simp_arith []) (by simp_arith []) (by unfold PG.c114_0; simp_arith [isi_lst1 _ (g _ e5), list_lst _ (g _ e5)]; rw [newL_ok _ (by simp; omega)]; simp) (by simp)]
  rw [comp_one (x := .int a.fee) (v := .int a.fee) (h' := h ++ [.lst (a.lands.map .str), .lst (a.carriers.map .str), .lst (a.levies.map levyV), .lst (a.rules.map ruleV)]) (ls1 := [some (.ref sc), x1, some (.ref r2), some (.ref r3), x4, x5, x6, x7, x8, x9, x10, x11, x12, x13, some (.int a.fee)]) (by simp only [nxW, g _ e]; rfl) (by simp_arith []) (by simp_arith []) (by unfold PG.c114_0; simp_arith []) (by simp)]
  rw [comp_one (x := .int a.send) (v := .int a.send) (h' := h ++ [.lst (a.lands.map .str), .lst (a.carriers.map .str), .lst (a.levies.map levyV), .lst (a.rules.map ruleV)]) (ls1 := [some (.ref sc), x1, some (.ref r2), some (.ref r3), x4, x5, x6, x7, x8, x9, x10, x11, x12, x13, some (.int a.send)]) (by simp only [nxW, g _ e]; rfl) (by simp_arith []) (by simp_arith []) (by unfold PG.c114_0; simp_arith []) (by simp)]
  rw [comp_one (x := .int a.complain) (v := .int a.complain) (h' := h ++ [.lst (a.lands.map .str), .lst (a.carriers.map .str), .lst (a.levies.map levyV), .lst (a.rules.map ruleV)]) (ls1 := [some (.ref sc), x1, some (.ref r2), some (.ref r3), x4, x5, x6, x7, x8, x9, x10, x11, x12, x13, some (.int a.complain)]) (by simp only [nxW, g _ e]; rfl) (by simp_arith []) (by simp_arith []) (by unfold PG.c114_0; simp_arith []) (by simp)]
  rw [compG]
  simp only [nxW, g _ e]
  rfl
theorem handed_spec (F : FT) (sc r2 r3 lo hi : Nat) (a : WA) (x1 x4 x5 x6 x7 x8 x9 x10 x11 x12 x13 x14 : Option LV) (h : LH) (p : PIn lo hi h r3 a) (ok : WOk a) (k : LSt → LH → SR) :
    ∃ (r4 : Nat) (h' : LH), ((evS P F PG.t114_0_2 [some (.ref sc), x1, some (.ref r2), some (.ref r3), x4, x5, x6, x7, x8, x9, x10, x11, x12, x13, x14] h).thn fun ls1 h1 => (evS P F PG.t114_0_3 ls1 h1).thn k) = k [some (.ref sc), x1, some (.ref r2), some (.ref r3), some (.ref r4), x5, x6, x7, x8, x9, x10, x11, x12, x13, x14] h' ∧ r4 = h.length + 4 ∧ h'.length = h.length + 7 ∧ h'[h.length + 4]? = some (.lst [.ref h.length, .ref (h.length + 5), .ref (h.length + 6), .ref (h.length + 1), .ref (h.length + 2), .ref (h.length + 3), .int a.fee, .int a.send, .int a.complain]) ∧ h'[h.length]? = some (.lst (a.lands.map .str)) ∧ h'[h.length + 5]? = some (.dK (dV a.wares)) ∧ h'[h.length + 6]? = some (.dK (dV a.parties)) ∧ h'[h.length + 1]? = some (.lst (a.carriers.map .str)) ∧ h'[h.length + 2]? = some (.lst (a.levies.map levyV)) ∧ h'[h.length + 3]? = some (.lst (a.rules.map ruleV)) ∧ Fr noS h h' := by
  obtain ⟨b0, b1, b2, b3, b4, b5, e, e1, e2, ec⟩ := handed_comp (P := P) F sc r2 r3 lo hi a x1 x4 x5 x6 x7 x8 x9 x10 x11 x12 x13 x14 h p ok
  have g : ∀ {i : Nat} {o : LO} (x : LH), h[i]? = some o → (h ++ x)[i]? = some o := fun x e => by rw [List.getElem?_append_left (lt_of e)]; exact e
  unfold PG.t114_0_2 PG.t114_0_3
  have wl : walkV (.ref r3) h = .ok (.at_ r3 9) h := walk_lst e
  simp_arith [wl, ec, List.append_assoc, idx_lst _ (g _ e), dict_dK _ (g _ e1), dict_dK _ (g _ e2), tgsLen]
  have i1 : ixN 9 1 = some 1 := rfl
  have i2 : ixN 9 2 = some 2 := rfl
  have p1 : pSet (.ref (h.length + 4)) (.int 1) (.ref (h.length + 5)) (h ++ [.lst (a.lands.map .str), .lst (a.carriers.map .str), .lst (a.levies.map levyV), .lst (a.rules.map ruleV), .lst [.ref h.length, .ref b1, .ref b2, .ref (h.length + 1), .ref (h.length + 2), .ref (h.length + 3), .int a.fee, .int a.send, .int a.complain], .dK (dV a.wares), .dK (dV a.parties)]) =
      .ok .non (h ++ [.lst (a.lands.map .str), .lst (a.carriers.map .str), .lst (a.levies.map levyV), .lst (a.rules.map ruleV), .lst [.ref h.length, .ref (h.length + 5), .ref b2, .ref (h.length + 1), .ref (h.length + 2), .ref (h.length + 3), .int a.fee, .int a.send, .int a.complain], .dK (dV a.wares), .dK (dV a.parties)]) := by
    rw [setL (xs := [.ref h.length, .ref b1, .ref b2, .ref (h.length + 1), .ref (h.length + 2), .ref (h.length + 3), .int a.fee, .int a.send, .int a.complain]) _ (by rw [get_ext]; rfl) i1, set_ext]; rfl
  have p2' : pSet (.ref (h.length + 4)) (.int 2) (.ref (h.length + 6)) (h ++ [.lst (a.lands.map .str), .lst (a.carriers.map .str), .lst (a.levies.map levyV), .lst (a.rules.map ruleV), .lst [.ref h.length, .ref (h.length + 5), .ref b2, .ref (h.length + 1), .ref (h.length + 2), .ref (h.length + 3), .int a.fee, .int a.send, .int a.complain], .dK (dV a.wares), .dK (dV a.parties)]) =
      .ok .non (h ++ [.lst (a.lands.map .str), .lst (a.carriers.map .str), .lst (a.levies.map levyV), .lst (a.rules.map ruleV), .lst [.ref h.length, .ref (h.length + 5), .ref (h.length + 6), .ref (h.length + 1), .ref (h.length + 2), .ref (h.length + 3), .int a.fee, .int a.send, .int a.complain], .dK (dV a.wares), .dK (dV a.parties)]) := by
    rw [setL (xs := [.ref h.length, .ref (h.length + 5), .ref b2, .ref (h.length + 1), .ref (h.length + 2), .ref (h.length + 3), .int a.fee, .int a.send, .int a.complain]) _ (by rw [get_ext]; rfl) i2, set_ext]; rfl
  simp_arith [p1, p2', wl, ec, List.append_assoc, idx_lst _ (g _ e), dict_dK _ (g _ e1), dict_dK _ (g _ e2), tgsLen]
  refine ⟨_, _, rfl, rfl, by simp, ?_⟩
  rw [get_ext, get_ext, get_ext, get_ext, get_ext, get_ext, get_ext0]
  exact ⟨rfl, rfl, rfl, rfl, rfl, rfl, rfl, Fr.app _ _ _⟩
end
end LD
end
section
set_option Elab.async false
set_option linter.all false
set_option maxRecDepth 100000
set_option maxHeartbeats 1000000
/-! LH3: k01, what was handed in is changed; the rates (printed by mk3.py) -/
namespace LD
open L2
local macro_rules
  | `(tactic| simp_arith [$as,*]) => `(tactic| simp only [bind_ok, bind_exc, bindN_ok, toS_ok, toS_exc, thn_nx, thn_rt, thn_ct, thn_exc, turn_nx, turn_ct, turn_rt, parK_some, par_nil, par_cons, kOp2_eq, kNot_eq, kNt_eq, kIte_eq, kTup_eq, kSl2_eq, kSl1_eq, kFld_eq, kMk_eq, kEq1_eq, kCs2_eq, kCs1_eq, kB1b_eq, kB1_eq, kBf_eq, kBt_eq, kSb3_eq, kSb2_eq, kSb1_eq, kEx_eq, kSet_eq, kPar_eq, kAg3_eq, kAg2_eq, kAg1_eq, kI1_eq, kIf_T, kIf_F, kBf2_T, kBf2_F, kBt2_T, kBt2_F, kI2_T, kI2_F, ev_var, ev_con, ev_op2, ev_neg, ev_isN, ev_bop, ev_nt, ev_ite, ev_tup, ev_lst, ev_dnw, ev_dsp, ev_slc, ev_fld, ev_cal, ev_mke, ev_bif, ev_isi, ev_lvl, ev_sst, ev_eqo, ev_nil, ev_cons, ev_B1, ev_O0, ev_O1, ev_Q0, ev_Q1, asg_nm, asg_tp, asg_kt, asg_sb, asgs_nil, asgs_cons, es_ex, es_set, es_par, es_agN, es_iff, es_ret, es_retN, es_rse, es_pass, es_cont, es_nil, es_cons, ev_B2f, ev_B2t, ite_T, ite_F, ite_TT, ite_FF, t_and, f_and, and_t, and_f, t_or, f_or, not_T, not_F, map1_, app_c, app_n, rep0, repS, len0, lenS, sub_n, slot0, slotS, fin_nx, fin_rt, fin_exc, p2_add, p2_sub, p2_mul, p2_fdiv, p2_mod, p2_pow, p2_eq, p2_ne, p2_lt, p2_le, p2_gt, p2_ge, p2_in, p2_nin, p2_idx, p2_eqd, kCh3_T, kCh3_F, kCh2b_eq, kCh2_eq, kCh1_eq, ev_chn, kBm_eq, pB_len, pB_abs, pB_sum, pB_list, pB_tuple, pB_dict, pB_max2, pB_min2, pM_app, pM_pop, pM_get, asB_bl, asI_int, isN_non, isN_int, isN_ref, isN_str, isN_tup, add_int, sub_int, neg_int, mul_l, mul_r, fdiv_int, mod_int, eq_int, eq_str, eq_bl, ne_int, ne_str, got_some, idx_tup, idx_ktu, idx_frl, len_tup, len_ktu, len_frl, ev_bme, newL_ok, list_tup, list_ktu, slice_tup, slice_frl, isi_str, isi_int, isi_intb, isi_blb, isi_intl, isi_tup, isi_tup2, isi_ktu2, atI_lit, get0, getS, set0, setS, kC2_eq, kC1_eq, kC1r_eq, kL2_eq, kL1_eq, kS4_eq, kS3_eq, kS2_eq, kS1_eq, ev_cmpE, ev_cmpR, ev_lscE, es_slcE, kF2_eq, kF1_eq, kF1r_eq, es_forE, es_forR, walk_tup, walk_ktu, walk_frl, walk_str, metK_some, kMe_eq, kMet_eq, ev_met, List.map_nil, List.map_append, List.length_append, List.map_cons, Nat.reduceAdd, Nat.reduceSub, Nat.reduceLeDiff, Nat.reduceEqDiff, Int.cast_ofNat_Int, Int.reduceBEq, Int.reduceLE, Int.reduceLT, Int.reduceNeg, Int.reduceAdd, Int.reduceSub, Int.reduceMul, Int.reduceToNat, decide_true, decide_false, $as,*])
section
variable {P : Prg}

theorem mutate_spec (F : FT) (sc r2 r3 lo hi b : Nat) (a : WA) (v5 : LV) (x1 x6 x7 x8 x9 x10 x11 x12 x13 x14 : Option LV) (h : LH) (p : PIn lo hi h r3 a) (ok : WOk a) (hb : hi ≤ b) (e : h[b + 4]? = some (.lst [.ref b, .ref (b + 5), .ref (b + 6), .ref (b + 1), .ref (b + 2), .ref (b + 3), .int a.fee, .int a.send, .int a.complain])) (e0 : h[b]? = some (.lst (a.lands.map .str))) (e1 : h[b + 5]? = some (.dK (dV a.wares))) (e2 : h[b + 6]? = some (.dK (dV a.parties))) (e3 : h[b + 1]? = some (.lst (a.carriers.map .str))) (e4 : h[b + 2]? = some (.lst (a.levies.map levyV))) (e5 : h[b + 3]? = some (.lst (a.rules.map ruleV))) (k : LSt → LH → SR) :
    ∃ (h' : LH), ((evS P F PG.t114_0_5 [some (.ref sc), x1, some (.ref r2), some (.ref r3), some (.ref (b + 4)), some v5, x6, x7, x8, x9, x10, x11, x12, x13, x14] h).thn fun ls1 h1 => (evS P F PG.t114_0_6 ls1 h1).thn fun ls1 h1 => (evS P F PG.t114_0_7 ls1 h1).thn fun ls1 h1 => (evS P F PG.t114_0_8 ls1 h1).thn fun ls1 h1 => (evS P F PG.t114_0_9 ls1 h1).thn fun ls1 h1 => (evS P F PG.t114_0_10 ls1 h1).thn k) = k [some (.ref sc), x1, some (.ref r2), some (.ref r3), some (.ref (b + 4)), some v5, x6, x7, x8, x9, x10, x11, x12, x13, x14] h' ∧ Fr (fun i => b ≤ i ∧ i < b + 7) h h' := by
  obtain ⟨b0, b1, b2, b3, b4, b5, g, g0, _, _, _, _, _, lr, l0, _⟩ := p
  have n0 := ok.lands.2.1
  have n0' := ok.lands.1
  have n1 := ok.wares.2.1
  have n2 := ok.parties.2.1
  have n3 := ok.carriers.1
  have n4 := ok.levies.1
  have n5 := ok.rules.1
  unfold PG.t114_0_5 PG.t114_0_6 PG.t114_0_7 PG.t114_0_8 PG.t114_0_9 PG.t114_0_10
  simp_arith [idx_lst _ e, bmT_lst _ e0 .append (.inl rfl), app_lst _ e0 (by simp; omega)]
  generalize q1 : h.set b _ = h1
  have f1 : Fr (fun i => i = b) h h1 := by rw [← q1]; exact Fr.set _ rfl
  have d1 := f1.get e1 (by omega)
  simp_arith [idx_lst _ (f1.get e (by omega)), setD _ d1 (k := .str [122, 122]) rfl (by simp [dV]; omega), idx_lst _ e, bmT_lst _ e0 .append (.inl rfl), app_lst _ e0 (by simp; omega)]
  generalize q2 : h1.set (b + 5) _ = h2
  have f2 : Fr (fun i => i = b + 5) h1 h2 := by rw [← q2]; exact Fr.set _ rfl
  have d2 := f2.get (f1.get e2 (by omega)) (by omega)
  obtain ⟨y, hy, ey⟩ := idx_strs (r := 0) (f2.get (f1.get g0 (by omega)) (by omega)) (by decide) (by omega)
  simp_arith [idx_lst _ (f2.get (f1.get g (by omega)) (by omega)), ey, idx_lst _ (f2.get (f1.get e (by omega)) (by omega)), setD _ d2 (k := .str [122, 122]) rfl (by simp [dV]; omega), idx_lst _ e, bmT_lst _ e0 .append (.inl rfl), app_lst _ e0 (by simp; omega), idx_lst _ (f1.get e (by omega)), setD _ d1 (k := .str [122, 122]) rfl (by simp [dV]; omega)]
  generalize q3 : h2.set (b + 6) _ = h3
  have f3 : Fr (fun i => i = b + 6) h2 h3 := by rw [← q3]; exact Fr.set _ rfl
  have d3 := f3.get (f2.get (f1.get e3 (by omega)) (by omega)) (by omega)
  simp_arith [idx_lst _ (f3.get (f2.get (f1.get e (by omega)) (by omega)) (by omega)), bmT_lst _ d3 .append (.inl rfl), app_lst _ d3 (by simp; omega), idx_lst _ e, bmT_lst _ e0 .append (.inl rfl), app_lst _ e0 (by simp; omega), idx_lst _ (f1.get e (by omega)), setD _ d1 (k := .str [122, 122]) rfl (by simp [dV]; omega), idx_lst _ (f2.get (f1.get g (by omega)) (by omega)), ey, idx_lst _ (f2.get (f1.get e (by omega)) (by omega)), setD _ d2 (k := .str [122, 122]) rfl (by simp [dV]; omega)]
  generalize q4 : h3.set (b + 1) _ = h4
  have f4 : Fr (fun i => i = b + 1) h3 h4 := by rw [← q4]; exact Fr.set _ rfl
  have d4 := f4.get (f3.get (f2.get (f1.get e4 (by omega)) (by omega)) (by omega)) (by omega)
  simp_arith [idx_lst _ (f4.get (f3.get (f2.get (f1.get e (by omega)) (by omega)) (by omega)) (by omega)), bmT_lst _ d4 .append (.inl rfl), app_lst _ d4 (by simp; omega), idx_lst _ e, bmT_lst _ e0 .append (.inl rfl), app_lst _ e0 (by simp; omega), idx_lst _ (f1.get e (by omega)), setD _ d1 (k := .str [122, 122]) rfl (by simp [dV]; omega), idx_lst _ (f2.get (f1.get g (by omega)) (by omega)), ey, idx_lst _ (f2.get (f1.get e (by omega)) (by omega)), setD _ d2 (k := .str [122, 122]) rfl (by simp [dV]; omega), idx_lst _ (f3.get (f2.get (f1.get e (by omega)) (by omega)) (by omega)), bmT_lst _ d3 .append (.inl rfl), app_lst _ d3 (by simp; omega)]
  generalize q5 : h4.set (b + 2) _ = h5
  have f5 : Fr (fun i => i = b + 2) h4 h5 := by rw [← q5]; exact Fr.set _ rfl
  have d5 := f5.get (f4.get (f3.get (f2.get (f1.get e5 (by omega)) (by omega)) (by omega)) (by omega)) (by omega)
  simp_arith [idx_lst _ (f5.get (f4.get (f3.get (f2.get (f1.get e (by omega)) (by omega)) (by omega)) (by omega)) (by omega)), bmT_lst _ d5 .append (.inl rfl), app_lst _ d5 (by simp; omega), idx_lst _ e, bmT_lst _ e0 .append (.inl rfl), app_lst _ e0 (by simp; omega), idx_lst _ (f1.get e (by omega)), setD _ d1 (k := .str [122, 122]) rfl (by simp [dV]; omega), idx_lst _ (f2.get (f1.get g (by omega)) (by omega)), ey, idx_lst _ (f2.get (f1.get e (by omega)) (by omega)), setD _ d2 (k := .str [122, 122]) rfl (by simp [dV]; omega), idx_lst _ (f3.get (f2.get (f1.get e (by omega)) (by omega)) (by omega)), bmT_lst _ d3 .append (.inl rfl), app_lst _ d3 (by simp; omega), idx_lst _ (f4.get (f3.get (f2.get (f1.get e (by omega)) (by omega)) (by omega)) (by omega)), bmT_lst _ d4 .append (.inl rfl), app_lst _ d4 (by simp; omega)]
  refine ⟨_, rfl, ?_⟩
  have m : ∀ {x : Nat} {u v : LH}, b ≤ x → x < b + 7 → Fr (fun i => i = x) u v → Fr (fun i => b ≤ i ∧ i < b + 7) u v := fun h1 h2 f => f.mono fun i _ z => by omega
  exact (m (by omega) (by omega) f1).trans ((m (by omega) (by omega) f2).trans ((m (by omega) (by omega) f3).trans ((m (by omega) (by omega) f4).trans ((m (by omega) (by omega) f5).trans (Fr.set _ (by omega))))))
end
end LD
end
section
set_option Elab.async false
set_option linter.all false
set_option maxRecDepth 100000
set_option maxHeartbeats 1000000
/-! LH4: k01, the rates (printed by mk4.py) -/
namespace LD
open L2
local macro_rules
  | `(tactic| simp_arith [$as,*]) => `(tactic| simp only [bind_ok, bind_exc, bindN_ok, toS_ok, toS_exc, thn_nx, thn_rt, thn_ct, thn_exc, turn_nx, turn_ct, turn_rt, parK_some, par_nil, par_cons, kOp2_eq, kNot_eq, kNt_eq, kIte_eq, kTup_eq, kSl2_eq, kSl1_eq, kFld_eq, kMk_eq, kEq1_eq, kCs2_eq, kCs1_eq, kB1b_eq, kB1_eq, kBf_eq, kBt_eq, kSb3_eq, kSb2_eq, kSb1_eq, kEx_eq, kSet_eq, kPar_eq, kAg3_eq, kAg2_eq, kAg1_eq, kI1_eq, kIf_T, kIf_F, kBf2_T, kBf2_F, kBt2_T, kBt2_F, kI2_T, kI2_F, ev_var, ev_con, ev_op2, ev_neg, ev_isN, ev_bop, ev_nt, ev_ite, ev_tup, ev_lst, ev_dnw, ev_dsp, ev_slc, ev_fld, ev_cal, ev_mke, ev_bif, ev_isi, ev_lvl, ev_sst, ev_eqo, ev_nil, ev_cons, ev_B1, ev_O0, ev_O1, ev_Q0, ev_Q1, asg_nm, asg_tp, asg_kt, asg_sb, asgs_nil, asgs_cons, es_ex, es_set, es_par, es_agN, es_iff, es_ret, es_retN, es_rse, es_pass, es_cont, es_nil, es_cons, ev_B2f, ev_B2t, ite_T, ite_F, ite_TT, ite_FF, t_and, f_and, and_t, and_f, t_or, f_or, not_T, not_F, map1_, app_c, app_n, rep0, repS, len0, lenS, sub_n, slot0, slotS, fin_nx, fin_rt, fin_exc, p2_add, p2_sub, p2_mul, p2_fdiv, p2_mod, p2_pow, p2_eq, p2_ne, p2_lt, p2_le, p2_gt, p2_ge, p2_in, p2_nin, p2_idx, p2_eqd, kCh3_T, kCh3_F, kCh2b_eq, kCh2_eq, kCh1_eq, ev_chn, kBm_eq, pB_len, pB_abs, pB_sum, pB_list, pB_tuple, pB_dict, pB_max2, pB_min2, pM_app, pM_pop, pM_get, asB_bl, asI_int, isN_non, isN_int, isN_ref, isN_str, isN_tup, add_int, sub_int, neg_int, mul_l, mul_r, fdiv_int, mod_int, eq_int, eq_str, eq_bl, ne_int, ne_str, got_some, idx_tup, idx_ktu, idx_frl, len_tup, len_ktu, len_frl, ev_bme, newL_ok, list_tup, list_ktu, slice_tup, slice_frl, isi_str, isi_int, isi_intb, isi_blb, isi_intl, isi_tup, isi_tup2, isi_ktu2, atI_lit, get0, getS, set0, setS, kC2_eq, kC1_eq, kC1r_eq, kL2_eq, kL1_eq, kS4_eq, kS3_eq, kS2_eq, kS1_eq, ev_cmpE, ev_cmpR, ev_lscE, es_slcE, kF2_eq, kF1_eq, kF1r_eq, es_forE, es_forR, walk_tup, walk_ktu, walk_frl, walk_str, metK_some, kMe_eq, kMet_eq, ev_met, List.map_nil, List.map_append, List.length_append, List.map_cons, Nat.reduceAdd, Nat.reduceSub, Nat.reduceLeDiff, Nat.reduceEqDiff, Int.cast_ofNat_Int, Int.reduceBEq, Int.reduceLE, Int.reduceLT, Int.reduceNeg, Int.reduceAdd, Int.reduceSub, Int.reduceMul, Int.reduceToNat, decide_true, decide_false, $as,*])
section
variable {P : Prg}

theorem day_loop (k : K1 P) (n sc r2 r3 s lo hi lo2 hi2 : Nat) (a : WA) (land kind : List Nat) (x1 x4 x8 x9 x10 x11 x12 x13 x14 : Option LV) (h : LH) (ok : WOk a) (w : WIn lo hi h s a) (p : PIn lo2 hi2 h r3 a) (hl : land ∈ a.lands) (hk : kind ∈ a.kinds) :
    ∃ (x8' : Option LV) (h' : LH), forW P (run P (n + 3)) (.nm 8) PG.l114_3 (.told [.int 0, .int 1, .int 2, .int 3, .int 7, .int 8, .int 9, .int 1000]) [some (.ref sc), x1, some (.ref r2), some (.ref r3), x4, some (.ref s), some (.str land), some (.str kind), x8, x9, x10, x11, x12, x13, x14] h = .nx [some (.ref sc), x1, some (.ref r2), some (.ref r3), x4, some (.ref s), some (.str land), some (.str kind), x8', x9, x10, x11, x12, x13, x14] h' ∧ Fr noS h h' := by
  obtain ⟨ls', h', ef, x8', rfl, fr⟩ := for_told (P := P) (F := run P (n + 3)) (t := .nm 8) (body := PG.l114_3) (xs := [.int 0, .int 1, .int 2, .int 3, .int 7, .int 8, .int 9, .int 1000]) (ls := [some (.ref sc), x1, some (.ref r2), some (.ref r3), x4, some (.ref s), some (.str land), some (.str kind), x8, x9, x10, x11, x12, x13, x14]) (h := h)
    (fun i st h' => ∃ x8' : Option LV, st = [some (.ref sc), x1, some (.ref r2), some (.ref r3), x4, some (.ref s), some (.str land), some (.str kind), x8', x9, x10, x11, x12, x13, x14] ∧ Fr noS h h') ⟨x8, rfl, Fr.refl _ _⟩ (fun i x st hh ex hI => by
      obtain ⟨x8', rfl, fr⟩ := hI
      have hx : ∃ day : Int, x = .int day ∧ 0 ≤ day := by
        have : x ∈ [LV.int 0, .int 1, .int 2, .int 3, .int 7, .int 8, .int 9, .int 1000] := List.mem_of_getElem? ex
        simp only [List.mem_cons, List.not_mem_nil, or_false] at this
        rcases this with rfl | rfl | rfl | rfl | rfl | rfl | rfl | rfl <;> exact ⟨_, rfl, by decide⟩
      obtain ⟨day, rfl, hd⟩ := hx
      refine ⟨_, _, by simp_arith []; rfl, ?_⟩
      unfold PG.l114_3
      have w' := w.keep (h' := hh) fun i o _ _ e => fr.get0 e
      have er := rate_spec k.b0 k.br a (n + 1) s lo hi land kind day hh w' hl hk hd (by have := ok.wares.2.1; omega)
      have p' := p.keep (h' := hh ++ [LO.lst (a.kinds.map .str)]) fun i o _ _ e => (Fr.app noS hh _).get0 (fr.get0 e)
      have el := law_rate_spec k a (n + 2) r3 lo2 hi2 land kind day _ p'
      have hpos : ∀ l ∈ a.levies, 0 ≤ l.2.2.1 := fun l hl => by
        have := ok.levies.2 l hl
        unfold isLevy at this
        simp only [Bool.and_eq_true, decide_eq_true_eq] at this
        exact this.2.2.1
      rw [← rateF_same land kind day a.levies 0 hpos] at el
      obtain ⟨ci, ec, ef, em0, em1⟩ := k.br.cl
      obtain ⟨b0, b1, b2, b3, b4, b5, ew, _⟩ := w'
      simp_arith [meth_at ew ec em0, k.br.f14.call4, er, k.f113.call4, el, beq_self_eq_true]
      exact ⟨_, _, .inl rfl, _, rfl, fr.trans (Fr.app _ _ _)⟩)
  exact ⟨x8', h', ef, fr⟩

theorem kind_loop (k : K1 P) (n sc r2 r3 s lo hi lo2 hi2 m : Nat) (a : WA) (land : List Nat) (ks : List (List Nat)) (x1 x4 x7 x8 x9 x10 x11 x12 x13 x14 : Option LV) (h : LH) (ok : WOk a) (w : WIn lo hi h s a) (p : PIn lo2 hi2 h r3 a) (hl : land ∈ a.lands) (hk : ∀ x ∈ ks, x ∈ a.kinds) (em : h[m]? = some (.lst (ks.map .str))) :
    ∃ (x7' x8' : Option LV) (h' : LH), forW P (run P (n + 3)) (.nm 7) PG.l114_2 (.at_ m (ks.map LV.str).length) [some (.ref sc), x1, some (.ref r2), some (.ref r3), x4, some (.ref s), some (.str land), x7, x8, x9, x10, x11, x12, x13, x14] h = .nx [some (.ref sc), x1, some (.ref r2), some (.ref r3), x4, some (.ref s), some (.str land), x7', x8', x9, x10, x11, x12, x13, x14] h' ∧ Fr noS h h' := by
  obtain ⟨ls', h', ef, x7', x8', rfl, fr⟩ := for_at (P := P) (F := run P (n + 3)) (t := .nm 7) (body := PG.l114_2) (m := m) (xs := ks.map .str) (ls := [some (.ref sc), x1, some (.ref r2), some (.ref r3), x4, some (.ref s), some (.str land), x7, x8, x9, x10, x11, x12, x13, x14]) (h := h)
    (fun i st h' => ∃ x7' x8' : Option LV, st = [some (.ref sc), x1, some (.ref r2), some (.ref r3), x4, some (.ref s), some (.str land), x7', x8', x9, x10, x11, x12, x13, x14] ∧ Fr noS h h') (fun i st h' hI => by obtain ⟨_, _, _, fr⟩ := hI; exact fr.get0 em) ⟨x7, x8, rfl, Fr.refl _ _⟩ (fun i x st hh ex hI => by
      obtain ⟨x7', x8', rfl, fr⟩ := hI
      rw [List.getElem?_map] at ex
      obtain ⟨kind, ey, rfl⟩ := Option.map_eq_some_iff.mp ex
      refine ⟨_, _, by simp_arith []; rfl, ?_⟩
      unfold PG.l114_2
      have w' := w.keep (h' := hh) fun i o _ _ e => fr.get0 e
      have p' := p.keep (h' := hh) fun i o _ _ e => fr.get0 e
      obtain ⟨y8, h2, e2, f2⟩ := day_loop k n sc r2 r3 s lo hi lo2 hi2 a land kind x1 x4 x8' x9 x10 x11 x12 x13 x14 hh ok w' p' hl (hk kind (List.mem_of_getElem? ey))
      simp_arith [e2]
      exact ⟨_, _, .inl rfl, _, _, rfl, fr.trans f2⟩)
  exact ⟨x7', x8', h', ef, fr⟩

theorem rates_spec (k : K1 P) (n sc r2 r3 s lo hi lo2 hi2 : Nat) (a : WA) (x1 x4 x6 x7 x8 x9 x10 x11 x12 x13 x14 : Option LV) (h : LH) (ok : WOk a) (w : WIn lo hi h s a) (p : PIn lo2 hi2 h r3 a) :
    ∃ (x6' x7' x8' : Option LV) (h' : LH), evS P (run P (n + 3)) PG.t114_0_11 [some (.ref sc), x1, some (.ref r2), some (.ref r3), x4, some (.ref s), x6, x7, x8, x9, x10, x11, x12, x13, x14] h = .nx [some (.ref sc), x1, some (.ref r2), some (.ref r3), x4, some (.ref s), x6', x7', x8', x9, x10, x11, x12, x13, x14] h' ∧ Fr noS h h' := by
  have p0 := p
  obtain ⟨b0, b1, b2, b3, b4, b5, e, e0, e1, _⟩ := p0
  unfold PG.t114_0_11
  simp_arith [idx_lst _ e, walk_lst e0]
  obtain ⟨ls', h', ef, x6', x7', x8', rfl, fr⟩ := for_at (P := P) (F := run P (n + 3)) (t := .nm 6) (body := PG.l114_1) (m := b0) (xs := a.lands.map .str) (ls := [some (.ref sc), x1, some (.ref r2), some (.ref r3), x4, some (.ref s), x6, x7, x8, x9, x10, x11, x12, x13, x14]) (h := h)
    (fun i st h' => ∃ x6' x7' x8' : Option LV, st = [some (.ref sc), x1, some (.ref r2), some (.ref r3), x4, some (.ref s), x6', x7', x8', x9, x10, x11, x12, x13, x14] ∧ Fr noS h h') (fun i st h' hI => by obtain ⟨_, _, _, _, fr⟩ := hI; exact fr.get0 e0) ⟨x6, x7, x8, rfl, Fr.refl _ _⟩ (fun i x st hh ex hI => by
      obtain ⟨x6', x7', x8', rfl, fr⟩ := hI
      rw [List.getElem?_map] at ex
      obtain ⟨land, ey, rfl⟩ := Option.map_eq_some_iff.mp ex
      refine ⟨_, _, by simp_arith []; rfl, ?_⟩
      unfold PG.l114_1
      have ek : (dV a.wares).map (·.2) = a.kinds.map .str := by simp [dV, WA.kinds]
      have hwl := ok.wares.2.1
      have hkl : a.kinds.length ≤ 6 := by simp [WA.kinds]; omega
      have n0 : newL (a.kinds.map LV.str) hh = .ok (.ref hh.length) (hh ++ [LO.lst (a.kinds.map .str)]) := newL_ok _ (by simp; omega)
      have g1 : (hh ++ [LO.lst (a.kinds.map .str)])[hh.length]? = some (.lst (a.kinds.map .str)) := by simp
      simp_arith [idx_lst _ (fr.get0 e), lvl_dK _ (fr.get0 e1), ek, n0, sst_lst g1 (by omega), idx_lst _ e, walk_lst e0]
      have F2 : Fr noS h ((hh ++ [LO.lst (a.kinds.map .str)]) ++ [LO.lst ((kindsL a.kinds).map .str)]) := fr.trans ((Fr.app _ _ _).trans (Fr.app _ _ _))
      have g2 : ((hh ++ [LO.lst (a.kinds.map .str)]) ++ [LO.lst ((kindsL a.kinds).map .str)])[hh.length + 1]? = some (.lst ((kindsL a.kinds).map .str)) := by rw [List.getElem?_append_right (by simp)]; simp
      simp_arith [walk_lst g2, idx_lst _ e, walk_lst e0, idx_lst _ (fr.get0 e), lvl_dK _ (fr.get0 e1), ek, n0, sst_lst g1 (by omega)]
      obtain ⟨y7, y8, h2, e2, f2⟩ := kind_loop k n sc r2 r3 s lo hi lo2 hi2 (hh.length + 1) a land (kindsL a.kinds) x1 x4 x7' x8' x9 x10 x11 x12 x13 x14 _ ok (w.keep fun i o _ _ e => F2.get0 e) (p.keep fun i o _ _ e => F2.get0 e) (List.mem_of_getElem? ey) (fun x hx => mem_kinds.mp hx) g2
      simp_arith [e2, idx_lst _ e, walk_lst e0, idx_lst _ (fr.get0 e), lvl_dK _ (fr.get0 e1), ek, n0, sst_lst g1 (by omega), walk_lst g2]
      exact ⟨_, _, .inl rfl, _, _, _, rfl, F2.trans f2⟩)
  rw [ef]
  exact ⟨x6', x7', x8', h', rfl, fr⟩
end
end LD
end
section
set_option Elab.async false
set_option linter.all false
set_option maxRecDepth 100000
set_option maxHeartbeats 1000000
/-! LH5: k01, worlds are likened (printed by mk5.py) -/
namespace LD
open L2
local macro_rules
  | `(tactic| simp_arith [$as,*]) => `(tactic| simp only [bind_ok, bind_exc, bindN_ok, toS_ok, toS_exc, thn_nx, thn_rt, thn_ct, thn_exc, turn_nx, turn_ct, turn_rt, parK_some, par_nil, par_cons, kOp2_eq, kNot_eq, kNt_eq, kIte_eq, kTup_eq, kSl2_eq, kSl1_eq, kFld_eq, kMk_eq, kEq1_eq, kCs2_eq, kCs1_eq, kB1b_eq, kB1_eq, kBf_eq, kBt_eq, kSb3_eq, kSb2_eq, kSb1_eq, kEx_eq, kSet_eq, kPar_eq, kAg3_eq, kAg2_eq, kAg1_eq, kI1_eq, kIf_T, kIf_F, kBf2_T, kBf2_F, kBt2_T, kBt2_F, kI2_T, kI2_F, ev_var, ev_con, ev_op2, ev_neg, ev_isN, ev_bop, ev_nt, ev_ite, ev_tup, ev_lst, ev_dnw, ev_dsp, ev_slc, ev_fld, ev_cal, ev_mke, ev_bif, ev_isi, ev_lvl, ev_sst, ev_eqo, ev_nil, ev_cons, ev_B1, ev_O0, ev_O1, ev_Q0, ev_Q1, asg_nm, asg_tp, asg_kt, asg_sb, asgs_nil, asgs_cons, es_ex, es_set, es_par, es_agN, es_iff, es_ret, es_retN, es_rse, es_pass, es_cont, es_nil, es_cons, ev_B2f, ev_B2t, ite_T, ite_F, ite_TT, ite_FF, t_and, f_and, and_t, and_f, t_or, f_or, not_T, not_F, map1_, app_c, app_n, rep0, repS, len0, lenS, sub_n, slot0, slotS, fin_nx, fin_rt, fin_exc, p2_add, p2_sub, p2_mul, p2_fdiv, p2_mod, p2_pow, p2_eq, p2_ne, p2_lt, p2_le, p2_gt, p2_ge, p2_in, p2_nin, p2_idx, p2_eqd, kCh3_T, kCh3_F, kCh2b_eq, kCh2_eq, kCh1_eq, ev_chn, kBm_eq, pB_len, pB_abs, pB_sum, pB_list, pB_tuple, pB_dict, pB_max2, pB_min2, pM_app, pM_pop, pM_get, asB_bl, asI_int, isN_non, isN_int, isN_ref, isN_str, isN_tup, add_int, sub_int, neg_int, mul_l, mul_r, fdiv_int, mod_int, eq_int, eq_str, eq_bl, ne_int, ne_str, got_some, idx_tup, idx_ktu, idx_frl, len_tup, len_ktu, len_frl, ev_bme, newL_ok, list_tup, list_ktu, slice_tup, slice_frl, isi_str, isi_int, isi_intb, isi_blb, isi_intl, isi_tup, isi_tup2, isi_ktu2, atI_lit, get0, getS, set0, setS, kC2_eq, kC1_eq, kC1r_eq, kL2_eq, kL1_eq, kS4_eq, kS3_eq, kS2_eq, kS1_eq, ev_cmpE, ev_cmpR, ev_lscE, es_slcE, kF2_eq, kF1_eq, kF1r_eq, es_forE, es_forR, walk_tup, walk_ktu, walk_frl, walk_str, metK_some, kMe_eq, kMet_eq, ev_met, List.map_nil, List.map_append, List.length_append, List.map_cons, Nat.reduceAdd, Nat.reduceSub, Nat.reduceLeDiff, Nat.reduceEqDiff, Int.cast_ofNat_Int, Int.reduceBEq, Int.reduceLE, Int.reduceLT, Int.reduceNeg, Int.reduceAdd, Int.reduceSub, Int.reduceMul, Int.reduceToNat, decide_true, decide_false, $as,*])
section
variable {P : Prg}
/-- a world of parts r is likened with the world s -/
theorem like_spec (k : K1 P) (a b : WA) (n s r lo hi lo2 hi2 : Nat) (ng : Bool) (h : LH) (w : WIn lo hi h s a) (p : PIn lo2 hi2 h r b) (ok : WOk b) (nd : a.nd) (h1 : b.lands = a.lands) (h2 : b.wares = a.wares) (h3 : b.parties = a.parties) (h4 : b.carriers = a.carriers) (h5 : b.levies = a.levies ∨ b.levies.length ≠ a.levies.length) (h6 : b.rules = a.rules) :
    ∃ h', run P (n + 6) 112 [.ref r] h = .ok (.ref h.length) h' ∧ Fr noS h h' ∧ eqoM P (run P (n + 6)) ng (.ref s) (.ref h.length) h' = .ok (.bl (decide (b.levies.length = a.levies.length ∧ b.fee = a.fee ∧ b.send = a.send ∧ b.complain = a.complain) != ng)) h' := by
  obtain ⟨h', e, wi, fr⟩ := world_spec k b ok n r lo2 hi2 h p
  refine ⟨h', e, fr, ?_⟩
  have w' := w.keep (h' := h') fun i o _ _ e => fr.get0 e
  have eq := weq_spec k.be a b (n + 5) s h.length lo hi h.length h'.length h' w' wi nd h1 h2 h3 h4 h5 h6
  obtain ⟨_, _, _, _, _, _, ew, _⟩ := w'
  obtain ⟨_, _, _, _, _, _, ei, _⟩ := wi
  exact eqo_of k.be ew (by simp [othB, ei]) eq ng

theorem like_self (k : K1 P) (n sc r2 r3 s lo hi lo2 hi2 : Nat) (a : WA) (x1 x4 x6 x7 x8 x9 x10 x11 x12 x13 x14 : Option LV) (h : LH) (ok : WOk a) (nd : a.nd) (w : WIn lo hi h s a) (p : PIn lo2 hi2 h r3 a) :
    ∃ h' : LH, evS P (run P (n + 6)) PG.t114_0_12 [some (.ref sc), x1, some (.ref r2), some (.ref r3), x4, some (.ref s), x6, x7, x8, x9, x10, x11, x12, x13, x14] h = .nx [some (.ref sc), x1, some (.ref r2), some (.ref r3), x4, some (.ref s), x6, x7, x8, x9, x10, x11, x12, x13, x14] h' ∧ Fr noS h h' := by
  unfold PG.t114_0_12
  obtain ⟨h', e, fr, eq⟩ := like_spec k a a n s r3 lo hi lo2 hi2 true h w p ok nd rfl rfl rfl rfl (.inl rfl) rfl
  have w' := w.keep (h' := h') fun i o _ _ e => fr.get0 e
  have p' := p.keep (h' := h') fun i o _ _ e => fr.get0 e
  obtain ⟨b0, b1, b2, b3, b4, b5, ep, _⟩ := p'
  have el := weq_list k.be a (n + 5) s r3 lo hi _ h' w' ep
  obtain ⟨_, _, _, _, _, _, ew, _⟩ := w'
  have eo := eqo_of k.be ew (by simp [othB, ep]) el false
  simp_arith [k.f112.call1, e, eq, and_self, bne_self_eq_false, eo]
  exact ⟨_, rfl, fr⟩

/-- one number otherwise: another world -/
theorem like_other (k : K1 P) (n sc r2 r3 s lo hi lo2 hi2 : Nat) (a : WA) (ds : List Int) (x1 x4 x6 x7 x8 x9 x10 x11 x12 x13 x14 : Option LV) (h : LH) (dr : Drawn a) (w : WIn lo hi h s a) (p : PIn lo2 hi2 h r3 a) (hd : h[r2]? = some (.lst (ds.map .int))) (h2 : r2 < lo2) (h3 : r2 < lo) (kk : LSt → LH → SR) :
    ∃ (y9 y10 y11 : Option LV) (h' : LH), ((evS P (run P (n + 6)) PG.t114_0_13 [some (.ref sc), x1, some (.ref r2), some (.ref r3), x4, some (.ref s), x6, x7, x8, x9, x10, x11, x12, x13, x14] h).thn fun ls1 h1 => (evS P (run P (n + 6)) PG.t114_0_14 ls1 h1).thn fun ls1 h1 => (evS P (run P (n + 6)) PG.t114_0_15 ls1 h1).thn fun ls1 h1 => (evS P (run P (n + 6)) PG.t114_0_16 ls1 h1).thn kk) = kk [some (.ref sc), x1, some (.ref r2), some (.ref r3), x4, some (.ref s), x6, x7, x8, y9, y10, y11, x12, x13, x14] h' ∧ Fr (fun i => i = r2) h h' := by
  have ok := dr.ok
  obtain ⟨r, ds1, h1, er, r0, r1, ed, fr⟩ := take_fr k.bd (n + 5) r2 ds 3 (by decide) h hd
  have w1 := w.keep (h' := h1) fun i o hi _ e => fr.get e (by omega)
  have p1 := p.keep (h' := h1) fun i o hi _ e => fr.get e (by omega)
  have p1' := p1
  obtain ⟨b0, b1, b2, b3, b4, b5, ep, e0, e1, e2, e3, e4, e5, bs⟩ := p1'
  have el : pList [.ref r3] h1 = .ok (.ref h1.length) (h1 ++ [LO.lst [.ref b0, .ref b1, .ref b2, .ref b3, .ref b4, .ref b5, .int a.fee, .int a.send, .int a.complain]]) := by rw [list_lst _ ep, newL_ok _ (by simp)]
  have g : ∀ {i : Nat} {o : LO} (x : LH), h1[i]? = some o → (h1 ++ x)[i]? = some o := fun x e => by rw [List.getElem?_append_left (lt_of e)]; exact e
  unfold PG.t114_0_13 PG.t114_0_14 PG.t114_0_15 PG.t114_0_16
  have fee0 := ok.fee
  have s0 := ok.send
  have c0 := ok.complain
  have s3 := dr.send
  have c3 := dr.complain
  have done : ∀ (b : WA) (xs : List LV), xs = [.ref b0, .ref b1, .ref b2, .ref b3, .ref b4, .ref b5, .int b.fee, .int b.send, .int b.complain] → WOk b → b.lands = a.lands → b.wares = a.wares → b.parties = a.parties → b.carriers = a.carriers → b.levies = a.levies → b.rules = a.rules → ¬ (b.fee = a.fee ∧ b.send = a.send ∧ b.complain = a.complain) →
      ∃ h', run P (n + 6) 112 [.ref h1.length] (h1 ++ [LO.lst xs]) = .ok (.ref (h1.length + 1)) h' ∧ Fr (fun i => i = r2) h h' ∧ eqoM P (run P (n + 6)) false (.ref s) (.ref (h1.length + 1)) h' = .ok (.bl false) h' := fun b xs hxs okb q1 q2 q3 q4 q5 q6 hne => by
    have w2 := w1.keep (h' := h1 ++ [LO.lst xs]) fun i o _ _ e => g _ e
    have p2' : PIn 0 (h1.length + 1) (h1 ++ [LO.lst xs]) h1.length b := by
      refine ⟨b0, b1, b2, b3, b4, b5, by rw [hxs]; simp, ?_, ?_, ?_, ?_, ?_, ?_, by omega, ?_⟩
      · rw [q1]; exact g _ e0
      · rw [q2]; exact g _ e1
      · rw [q3]; exact g _ e2
      · rw [q4]; exact g _ e3
      · rw [q5]; exact g _ e4
      · rw [q6]; exact g _ e5
      · have := lt_of e0; have := lt_of e1; have := lt_of e2; have := lt_of e3; have := lt_of e4; have := lt_of e5; omega
    obtain ⟨h', e, f2, eq⟩ := like_spec k a b n s h1.length lo hi 0 (h1.length + 1) false _ w2 p2' okb dr.nd q1 q2 q3 q4 (.inl q5) q6
    have hl : (h1 ++ [LO.lst xs]).length = h1.length + 1 := by simp
    rw [hl] at e eq
    refine ⟨h', e, (fr.trans (Fr.app _ _ _)).trans f2.any, ?_⟩
    rw [eq]
    have : decide (b.levies.length = a.levies.length ∧ b.fee = a.fee ∧ b.send = a.send ∧ b.complain = a.complain) = false := decide_eq_false fun z => hne z.2
    rw [this]; rfl
  have i6 : ixN 9 6 = some 6 := rfl
  have i7 : ixN 9 7 = some 7 := rfl
  have i8 : ixN 9 8 = some 8 := rfl
  have hr : r = 0 ∨ r = 1 ∨ r = 2 := by omega
  have st : ∀ (v : Int) (j : Nat) (iv : Int) (hj : ixN 9 iv = some j), pSet (.ref h1.length) (.int iv) (.int v) (h1 ++ [LO.lst [.ref b0, .ref b1, .ref b2, .ref b3, .ref b4, .ref b5, .int a.fee, .int a.send, .int a.complain]]) = .ok .non (h1 ++ [LO.lst ([LV.ref b0, .ref b1, .ref b2, .ref b3, .ref b4, .ref b5, .int a.fee, .int a.send, .int a.complain].set j (.int v))]) := fun v j iv hj => by
    have e := get_ext0 h1 [LO.lst [.ref b0, .ref b1, .ref b2, .ref b3, .ref b4, .ref b5, .int a.fee, .int a.send, .int a.complain]]
    rw [setL _ e hj]
    congr 1
    exact set_ext h1 _ 0 _
  rcases hr with rfl | rfl | rfl
  · obtain ⟨h', e, f, eq⟩ := done { a with fee := (a.fee + 1) % 2000 } _ rfl ⟨ok.lands, ok.wares, ok.parties, ok.carriers, ok.levies, ok.rules, ⟨Int.emod_nonneg _ (by decide), by have := Int.emod_lt_of_pos (a.fee + 1) (show (0 : Int) < 2000 by decide); show (a.fee + 1) % 2000 ≤ 2000; omega⟩, ok.send, ok.complain⟩ rfl rfl rfl rfl rfl rfl (fun z => by
      have z1 : (a.fee + 1) % 2000 = a.fee := z.1
      rcases dr.fee with q | q | q | q <;> rw [q] at z1 <;> exact absurd z1 (by decide))
    simp_arith [k.bd.f110.call2, er, el, List.reverse_cons, List.reverse_nil, idx_lst _ (g _ ep), st _ 6 6 i6, k.f112.call1, e, eq]
    exact ⟨_, _, _, _, rfl, f⟩
  · obtain ⟨h', e, f, eq⟩ := done { a with send := (a.send + 1) % 9 + 1 } _ rfl ⟨ok.lands, ok.wares, ok.parties, ok.carriers, ok.levies, ok.rules, ok.fee, ⟨by show 1 ≤ (a.send + 1) % 9 + 1; omega, by show (a.send + 1) % 9 + 1 ≤ 9; omega⟩, ok.complain⟩ rfl rfl rfl rfl rfl rfl (fun z => by
      have z1 : (a.send + 1) % 9 + 1 = a.send := z.2.1
      omega)
    simp_arith [k.bd.f110.call2, er, el, List.reverse_cons, List.reverse_nil, idx_lst _ (g _ ep), st _ 7 7 i7, k.f112.call1, e, eq]
    exact ⟨_, _, _, _, rfl, f⟩
  · obtain ⟨h', e, f, eq⟩ := done { a with complain := (a.complain + 1) % 9 + 1 } _ rfl ⟨ok.lands, ok.wares, ok.parties, ok.carriers, ok.levies, ok.rules, ok.fee, ok.send, ⟨by show 1 ≤ (a.complain + 1) % 9 + 1; omega, by show (a.complain + 1) % 9 + 1 ≤ 9; omega⟩⟩ rfl rfl rfl rfl rfl rfl (fun z => by
      have z1 : (a.complain + 1) % 9 + 1 = a.complain := z.2.2
      omega)
    simp_arith [k.bd.f110.call2, er, el, List.reverse_cons, List.reverse_nil, idx_lst _ (g _ ep), st _ 8 8 i8, k.f112.call1, e, eq]
    exact ⟨_, _, _, _, rfl, f⟩
end
end LD
end
section
set_option Elab.async false
set_option linter.all false
set_option maxRecDepth 100000
set_option maxHeartbeats 1000000
/-! LH6: k01, a turn of its loop (printed by mk6.py) -/
namespace LD
open L2
local macro_rules
  | `(tactic| simp_arith [$as,*]) => `(tactic| simp only [bind_ok, bind_exc, bindN_ok, toS_ok, toS_exc, thn_nx, thn_rt, thn_ct, thn_exc, turn_nx, turn_ct, turn_rt, parK_some, par_nil, par_cons, kOp2_eq, kNot_eq, kNt_eq, kIte_eq, kTup_eq, kSl2_eq, kSl1_eq, kFld_eq, kMk_eq, kEq1_eq, kCs2_eq, kCs1_eq, kB1b_eq, kB1_eq, kBf_eq, kBt_eq, kSb3_eq, kSb2_eq, kSb1_eq, kEx_eq, kSet_eq, kPar_eq, kAg3_eq, kAg2_eq, kAg1_eq, kI1_eq, kIf_T, kIf_F, kBf2_T, kBf2_F, kBt2_T, kBt2_F, kI2_T, kI2_F, ev_var, ev_con, ev_op2, ev_neg, ev_isN, ev_bop, ev_nt, ev_ite, ev_tup, ev_lst, ev_dnw, ev_dsp, ev_slc, ev_fld, ev_cal, ev_mke, ev_bif, ev_isi, ev_lvl, ev_sst, ev_eqo, ev_nil, ev_cons, ev_B1, ev_O0, ev_O1, ev_Q0, ev_Q1, asg_nm, asg_tp, asg_kt, asg_sb, asgs_nil, asgs_cons, es_ex, es_set, es_par, es_agN, es_iff, es_ret, es_retN, es_rse, es_pass, es_cont, es_nil, es_cons, ev_B2f, ev_B2t, ite_T, ite_F, ite_TT, ite_FF, t_and, f_and, and_t, and_f, t_or, f_or, not_T, not_F, map1_, app_c, app_n, rep0, repS, len0, lenS, sub_n, slot0, slotS, fin_nx, fin_rt, fin_exc, p2_add, p2_sub, p2_mul, p2_fdiv, p2_mod, p2_pow, p2_eq, p2_ne, p2_lt, p2_le, p2_gt, p2_ge, p2_in, p2_nin, p2_idx, p2_eqd, kCh3_T, kCh3_F, kCh2b_eq, kCh2_eq, kCh1_eq, ev_chn, kBm_eq, pB_len, pB_abs, pB_sum, pB_list, pB_tuple, pB_dict, pB_max2, pB_min2, pM_app, pM_pop, pM_get, asB_bl, asI_int, isN_non, isN_int, isN_ref, isN_str, isN_tup, add_int, sub_int, neg_int, mul_l, mul_r, fdiv_int, mod_int, eq_int, eq_str, eq_bl, ne_int, ne_str, got_some, idx_tup, idx_ktu, idx_frl, len_tup, len_ktu, len_frl, ev_bme, newL_ok, list_tup, list_ktu, slice_tup, slice_frl, isi_str, isi_int, isi_intb, isi_blb, isi_intl, isi_tup, isi_tup2, isi_ktu2, atI_lit, get0, getS, set0, setS, kC2_eq, kC1_eq, kC1r_eq, kL2_eq, kL1_eq, kS4_eq, kS3_eq, kS2_eq, kS1_eq, ev_cmpE, ev_cmpR, ev_lscE, es_slcE, kF2_eq, kF1_eq, kF1r_eq, es_forE, es_forR, walk_tup, walk_ktu, walk_frl, walk_str, metK_some, kMe_eq, kMet_eq, ev_met, List.map_nil, List.map_append, List.length_append, List.map_cons, Nat.reduceAdd, Nat.reduceSub, Nat.reduceLeDiff, Nat.reduceEqDiff, Int.cast_ofNat_Int, Int.reduceBEq, Int.reduceLE, Int.reduceLT, Int.reduceNeg, Int.reduceAdd, Int.reduceSub, Int.reduceMul, Int.reduceToNat, decide_true, decide_false, $as,*])
section
variable {P : Prg}

theorem like_more (k : K1 P) (n sc r2 r3 s lo hi lo2 hi2 : Nat) (a : WA) (x1 x4 x6 x7 x8 x9 x10 x11 x12 x13 x14 : Option LV) (h : LH) (dr : Drawn a) (w : WIn lo hi h s a) (p : PIn lo2 hi2 h r3 a) (kk : LSt → LH → SR) :
    ∃ (y10 : Option LV) (h' : LH), ((evS P (run P (n + 6)) PG.t114_0_17 [some (.ref sc), x1, some (.ref r2), some (.ref r3), x4, some (.ref s), x6, x7, x8, x9, x10, x11, x12, x13, x14] h).thn fun ls1 h1 => (evS P (run P (n + 6)) PG.t114_0_18 ls1 h1).thn fun ls1 h1 => (evS P (run P (n + 6)) PG.t114_0_19 ls1 h1).thn kk) = kk [some (.ref sc), x1, some (.ref r2), some (.ref r3), x4, some (.ref s), x6, x7, x8, x9, y10, x11, x12, x13, x14] h' ∧ Fr noS h h' := by
  have ok := dr.ok
  obtain ⟨b0, b1, b2, b3, b4, b5, ep, e0, e1, e2, e3, e4, e5, bs⟩ := p
  have n0 := ok.lands.1
  have n1 := ok.wares.1
  have n1' := ok.wares.2.1
  have n4 := ok.levies.1
  have n5 := dr.levies
  have hkl : a.kinds.length = a.wares.length := by simp [WA.kinds]
  have g : ∀ {i : Nat} {o : LO} (x : LH), h[i]? = some o → (h ++ x)[i]? = some o := fun x e => by rw [List.getElem?_append_left (lt_of e)]; exact e
  have el : pList [.ref r3] h = .ok (.ref h.length) (h ++ [LO.lst [.ref b0, .ref b1, .ref b2, .ref b3, .ref b4, .ref b5, .int a.fee, .int a.send, .int a.complain]]) := by rw [list_lst _ ep, newL_ok _ (by simp)]
  unfold PG.t114_0_17 PG.t114_0_18 PG.t114_0_19
  obtain ⟨y, hy, ey⟩ := idx_strs (r := 0) (g [LO.lst [.ref b0, .ref b1, .ref b2, .ref b3, .ref b4, .ref b5, .int a.fee, .int a.send, .int a.complain]] e0) (by decide) (by omega)
  have ek : (dV a.wares).map (·.2) = a.kinds.map .str := by simp [dV, WA.kinds]
  have nv : newL (a.kinds.map LV.str) (h ++ [LO.lst [.ref b0, .ref b1, .ref b2, .ref b3, .ref b4, .ref b5, .int a.fee, .int a.send, .int a.complain]]) = .ok (.ref (h.length + 1)) (h ++ [LO.lst [.ref b0, .ref b1, .ref b2, .ref b3, .ref b4, .ref b5, .int a.fee, .int a.send, .int a.complain], LO.lst (a.kinds.map .str)]) := by rw [newL_ok _ (by simp; omega)]; simp
  have gk : (h ++ [LO.lst [.ref b0, .ref b1, .ref b2, .ref b3, .ref b4, .ref b5, .int a.fee, .int a.send, .int a.complain], LO.lst (a.kinds.map .str)])[h.length + 1]? = some (.lst (a.kinds.map .str)) := get_ext h _ 1
  obtain ⟨z, hz, ez⟩ := idx_strs (r := 0) gk (by decide) (by omega)
  have ad : pAdd (.ref b4) (.ref (h.length + 2)) (h ++ [LO.lst [.ref b0, .ref b1, .ref b2, .ref b3, .ref b4, .ref b5, .int a.fee, .int a.send, .int a.complain], LO.lst (a.kinds.map .str), LO.lst [.tup [.str y, .str z, .int 3, .int 77]]]) = .ok (.ref (h.length + 3)) (h ++ [LO.lst [.ref b0, .ref b1, .ref b2, .ref b3, .ref b4, .ref b5, .int a.fee, .int a.send, .int a.complain], LO.lst (a.kinds.map .str), LO.lst [.tup [.str y, .str z, .int 3, .int 77]], LO.lst (a.levies.map levyV ++ [levyV (y, z, 3, 77)])]) := by
    rw [add_lst (g _ e4) (get_ext h _ 2), newL_ok _ (by simp; omega)]
    simp [levyV]
  have i4 : ixN 9 4 = some 4 := rfl
  have st : pSet (.ref h.length) (.int 4) (.ref (h.length + 3)) (h ++ [LO.lst [.ref b0, .ref b1, .ref b2, .ref b3, .ref b4, .ref b5, .int a.fee, .int a.send, .int a.complain], LO.lst (a.kinds.map .str), LO.lst [.tup [.str y, .str z, .int 3, .int 77]], LO.lst (a.levies.map levyV ++ [levyV (y, z, 3, 77)])]) =
      .ok .non (h ++ [LO.lst [.ref b0, .ref b1, .ref b2, .ref b3, .ref (h.length + 3), .ref b5, .int a.fee, .int a.send, .int a.complain], LO.lst (a.kinds.map .str), LO.lst [.tup [.str y, .str z, .int 3, .int 77]], LO.lst (a.levies.map levyV ++ [levyV (y, z, 3, 77)])]) := by
    have e := get_ext0 h [LO.lst [.ref b0, .ref b1, .ref b2, .ref b3, .ref b4, .ref b5, .int a.fee, .int a.send, .int a.complain], LO.lst (a.kinds.map .str), LO.lst [.tup [.str y, .str z, .int 3, .int 77]], LO.lst (a.levies.map levyV ++ [levyV (y, z, 3, 77)])]
    rw [setL _ e i4]
    congr 1
    exact set_ext h _ 0 _
  have ep' : (h ++ [LO.lst [.ref b0, .ref b1, .ref b2, .ref b3, .ref b4, .ref b5, .int a.fee, .int a.send, .int a.complain], LO.lst (a.kinds.map .str)])[r3]? = _ := g _ ep
  have hw : WIn lo hi (h ++ [LO.lst [.ref b0, .ref b1, .ref b2, .ref b3, .ref (h.length + 3), .ref b5, .int a.fee, .int a.send, .int a.complain], LO.lst (a.kinds.map .str), LO.lst [.tup [.str y, .str z, .int 3, .int 77]], LO.lst (a.levies.map levyV ++ [levyV (y, z, 3, 77)])]) s a := w.keep fun i o _ _ e => g _ e
  have okb : WOk { a with levies := a.levies ++ [(y, z, 3, 77)] } := by
    refine ⟨ok.lands, ok.wares, ok.parties, ok.carriers, ⟨by simp; omega, fun l hl => ?_⟩, ok.rules, ok.fee, ok.send, ok.complain⟩
    rcases List.mem_append.mp hl with hl | hl
    · exact ok.levies.2 l hl
    · have : l = (y, z, 3, 77) := by simpa using hl
      subst this
      have hz' : z ∈ WA.kinds { a with levies := a.levies ++ [(y, z, 3, 77)] } := hz
      simp [isLevy, hy, hz']
  have hp : PIn 0 (h.length + 4) (h ++ [LO.lst [.ref b0, .ref b1, .ref b2, .ref b3, .ref (h.length + 3), .ref b5, .int a.fee, .int a.send, .int a.complain], LO.lst (a.kinds.map .str), LO.lst [.tup [.str y, .str z, .int 3, .int 77]], LO.lst (a.levies.map levyV ++ [levyV (y, z, 3, 77)])]) h.length { a with levies := a.levies ++ [(y, z, 3, 77)] } := by
    refine ⟨b0, b1, b2, b3, h.length + 3, b5, get_ext0 h _, g _ e0, g _ e1, g _ e2, g _ e3, by rw [List.map_append]; exact get_ext h _ 3, g _ e5, by omega, ?_⟩
    have := lt_of e0; have := lt_of e1; have := lt_of e2; have := lt_of e3; have := lt_of e5; omega
  obtain ⟨h', e, f2, eq⟩ := like_spec k a { a with levies := a.levies ++ [(y, z, 3, 77)] } n s h.length lo hi 0 (h.length + 4) false _ hw hp okb dr.nd rfl rfl rfl rfl (.inr (by simp)) rfl
  have hl : (h ++ [LO.lst [.ref b0, .ref b1, .ref b2, .ref b3, .ref (h.length + 3), .ref b5, .int a.fee, .int a.send, .int a.complain], LO.lst (a.kinds.map .str), LO.lst [.tup [.str y, .str z, .int 3, .int 77]], LO.lst (a.levies.map levyV ++ [levyV (y, z, 3, 77)])]).length = h.length + 4 := by simp
  rw [hl] at e eq
  have hd : (decide ((a.levies ++ [(y, z, (3 : Int), (77 : Int))]).length = a.levies.length ∧ a.fee = a.fee ∧ a.send = a.send ∧ a.complain = a.complain) != false) = false := by simp
  dsimp only at eq
  rw [hd] at eq
  simp_arith [el, idx_lst _ (g [LO.lst [.ref b0, .ref b1, .ref b2, .ref b3, .ref b4, .ref b5, .int a.fee, .int a.send, .int a.complain]] ep), ey, lvl_dK _ (g [LO.lst [.ref b0, .ref b1, .ref b2, .ref b3, .ref b4, .ref b5, .int a.fee, .int a.send, .int a.complain]] e1), ek, nv, ez, List.append_assoc, ad, st, k.f112.call1, e, eq]
  exact ⟨_, _, rfl, (Fr.app _ _ _).trans f2⟩

/-- some statements, told together -/
theorem thn2 {F : FT} {s1 s2 : Sm} {ss : Sms} {ls ls' : LSt} {h h' : LH} (e : ((evS P F s1 ls h).thn fun l h => (evS P F s2 l h).thn SR.nx) = .nx ls' h') : evSs P F (.cons s1 (.cons s2 ss)) ls h = evSs P F ss ls' h' := by
  rw [es_cons]
  cases q : evS P F s1 ls h with
  | nx l1 h1 =>
    rw [q, thn_nx] at e
    rw [thn_nx, es_cons]
    cases q2 : evS P F s2 l1 h1 with
    | nx l2 h2 => rw [q2, thn_nx] at e; rw [thn_nx]; cases e; rfl
    | _ => rw [q2] at e; cases e
  | _ => rw [q] at e; cases e
theorem thn1 {F : FT} {s1 : Sm} {ss : Sms} {ls ls' : LSt} {h h' : LH} (e : ((evS P F s1 ls h).thn SR.nx) = .nx ls' h') : evSs P F (.cons s1 ss) ls h = evSs P F ss ls' h' := by
  rw [es_cons]
  cases q : evS P F s1 ls h with
  | nx l1 h1 => rw [q, thn_nx] at e; rw [thn_nx]; cases e; rfl
  | _ => rw [q] at e; cases e
theorem thnS {F : FT} {s1 : Sm} {ss ss' : Sms} {ls : LSt} {h : LH} {ls' : LSt} {h' : LH} {k : LSt → LH → SR} (e : (evS P F s1 ls h).thn k = .nx ls' h') (step : ∀ l1 h1, k l1 h1 = .nx ls' h' → evSs P F ss l1 h1 = evSs P F ss' ls' h') : evSs P F (.cons s1 ss) ls h = evSs P F ss' ls' h' := by
  rw [es_cons]
  cases q : evS P F s1 ls h with
  | nx l1 h1 => rw [q, thn_nx] at e; rw [thn_nx]; exact step l1 h1 e
  | _ => rw [q] at e; cases e
theorem thn3 {F : FT} {s1 s2 s3 : Sm} {ss : Sms} {ls ls' : LSt} {h h' : LH} (e : ((evS P F s1 ls h).thn fun l h => (evS P F s2 l h).thn fun l h => (evS P F s3 l h).thn SR.nx) = .nx ls' h') : evSs P F (.cons s1 (.cons s2 (.cons s3 ss))) ls h = evSs P F ss ls' h' := thnS e fun _ _ e => thn2 e
theorem thn4 {F : FT} {s1 s2 s3 s4 : Sm} {ss : Sms} {ls ls' : LSt} {h h' : LH} (e : ((evS P F s1 ls h).thn fun l h => (evS P F s2 l h).thn fun l h => (evS P F s3 l h).thn fun l h => (evS P F s4 l h).thn SR.nx) = .nx ls' h') : evSs P F (.cons s1 (.cons s2 (.cons s3 (.cons s4 ss)))) ls h = evSs P F ss ls' h' := thnS e fun _ _ e => thn3 e
theorem thn6 {F : FT} {s1 s2 s3 s4 s5 s6 : Sm} {ss : Sms} {ls ls' : LSt} {h h' : LH} (e : ((evS P F s1 ls h).thn fun l h => (evS P F s2 l h).thn fun l h => (evS P F s3 l h).thn fun l h => (evS P F s4 l h).thn fun l h => (evS P F s5 l h).thn fun l h => (evS P F s6 l h).thn SR.nx) = .nx ls' h') : evSs P F (.cons s1 (.cons s2 (.cons s3 (.cons s4 (.cons s5 (.cons s6 ss)))))) ls h = evSs P F ss ls' h' := thnS e fun _ _ e => thnS e fun _ _ e => thn4 e

/-- a turn of the law's loop -/
theorem turn_spec (k : K1 P) (F : FT) (hF : F = run P 11) (sc : Nat) (by_ : Nat) (ns : List Int) (x2 x3 x4 x5 x6 x7 x8 x9 x10 x11 x12 x13 x14 : Option LV) (h : LH) (hs : h[sc]? = some (.lst (ns.map .int))) :
    ∃ (y1 y2 y3 y4 y5 y6 y7 y8 y9 y10 y11 y12 y13 y14 : Option LV) (h' : LH), evSs P F PG.l114_0 [some (.ref sc), some (.int by_), x2, x3, x4, x5, x6, x7, x8, x9, x10, x11, x12, x13, x14] h = .nx [some (.ref sc), y1, y2, y3, y4, y5, y6, y7, y8, y9, y10, y11, y12, y13, y14] h' ∧ h'[sc]? = some (.lst (ns.map .int)) := by
  obtain ⟨r2, ds, h1, e1, g1, l1, f1⟩ := digits_spec k.bd 8 sc by_ 90 1000003 (by omega) (by decide) (by decide) (by decide) (by decide) ns h hs
  replace e1 : F 109 [.ref sc, .int by_, .int 90, .int 1000003] h = .ok (.ref r2) h1 := by rw [hF]; exact e1
  obtain ⟨r3, a, ds2, h2, e2, dr, p2', g2, f2⟩ := parts_spec k.bd k.f111 9 r2 ds h1 g1
  replace e2 : F 111 [.ref r2] h1 = .ok (.ref r3) h2 := by rw [hF]; exact e2
  have lr2 := lt_of g1
  have lsc := lt_of hs
  have F2 := f2.1
  have F1 := f1.1
  obtain ⟨r4, h3, e3, rfl, L3, q4, q0, q1, q2, q3, q4', q5, f3⟩ := handed_spec (P := P) F sc r2 r3 h1.length h2.length a (some (.int by_)) x4 x5 x6 x7 x8 x9 x10 x11 x12 x13 x14 h2 p2' dr.ok SR.nx
  have p3 : PIn h1.length h2.length h3 r3 a := p2'.keep fun i o _ _ e => f3.get0 e
  have p4 : PIn h2.length h3.length h3 (h2.length + 4) a := by
    refine ⟨_, _, _, _, _, _, q4, q0, q1, q2, q3, q4', q5, ?_⟩
    rw [L3]; omega
  obtain ⟨h4, e4, w4, f4⟩ := world_spec k a dr.ok 5 (h2.length + 4) h2.length h3.length h3 p4
  replace e4 : F 112 [.ref (h2.length + 4)] h3 = .ok (.ref h3.length) h4 := by rw [hF]; exact e4
  have F4 := f4.1
  have g := @Fr.get0 h3 h4 f4
  obtain ⟨h5, e5, f5⟩ := mutate_spec (P := P) F sc r2 r3 h1.length h2.length h2.length a (.ref h3.length) (some (.int by_)) x6 x7 x8 x9 x10 x11 x12 x13 x14 h4 (p3.keep fun i o _ _ e => f4.get0 e) dr.ok (Nat.le_refl _) (g q4) (g q0) (g q1) (g q2) (g q3) (g q4') (g q5) SR.nx
  have F5 := f5.1
  have p5 : PIn h1.length h2.length h5 r3 a := (p3.keep fun i o _ _ e => f4.get0 e).keep fun i o _ hi e => f5.get e (by omega)
  have w5 : WIn h3.length h4.length h5 h3.length a := w4.keep fun i o hi _ e => f5.get e (by omega)
  have d5 : h5[r2]? = some (.lst (ds2.map .int)) := f5.get (f4.get0 (f3.get0 g2)) (by have := lt_of g2; omega)
  have s5 : h5[sc]? = some (.lst (ns.map .int)) := f5.get (f4.get0 (f3.get0 (f2.get (f1.get0 hs) (by omega)))) (by omega)
  obtain ⟨y6, y7, y8, h6, e6, f6⟩ := rates_spec k 8 sc r2 r3 h3.length h3.length h4.length h1.length h2.length a (some (.int by_)) (some (.ref (h2.length + 4))) x6 x7 x8 x9 x10 x11 x12 x13 x14 h5 dr.ok w5 p5
  rw [show run P (8 + 3) = F from hF.symm] at e6
  have w6 := w5.keep (h' := h6) fun i o _ _ e => f6.get0 e
  have p6 := p5.keep (h' := h6) fun i o _ _ e => f6.get0 e
  obtain ⟨h7, e7, f7⟩ := like_self k 5 sc r2 r3 h3.length h3.length h4.length h1.length h2.length a (some (.int by_)) (some (.ref (h2.length + 4))) y6 y7 y8 x9 x10 x11 x12 x13 x14 h6 dr.ok dr.nd w6 p6
  rw [show run P (5 + 6) = F from hF.symm] at e7
  have w7 := w6.keep (h' := h7) fun i o _ _ e => f7.get0 e
  have p7 := p6.keep (h' := h7) fun i o _ _ e => f7.get0 e
  obtain ⟨y9, y10, y11, h8, e8, f8⟩ := like_other k 5 sc r2 r3 h3.length h3.length h4.length h1.length h2.length a ds2 (some (.int by_)) (some (.ref (h2.length + 4))) y6 y7 y8 x9 x10 x11 x12 x13 x14 h7 dr w7 p7 (f7.get0 (f6.get0 d5)) (by omega) (by omega) SR.nx
  rw [show run P (5 + 6) = F from hF.symm] at e8
  have w8 := w7.keep (h' := h8) fun i o hi _ e => f8.get e (by omega)
  have p8 := p7.keep (h' := h8) fun i o hi _ e => f8.get e (by omega)
  obtain ⟨z10, h9, e9, f9⟩ := like_more k 5 sc r2 r3 h3.length h3.length h4.length h1.length h2.length a (some (.int by_)) (some (.ref (h2.length + 4))) y6 y7 y8 y9 y10 y11 x12 x13 x14 h8 dr w8 p8 SR.nx
  rw [show run P (5 + 6) = F from hF.symm] at e9
  refine ⟨some (.int by_), some (.ref r2), some (.ref r3), some (.ref (h2.length + 4)), some (.ref h3.length), y6, y7, y8, y9, z10, y11, x12, x13, x14, h9, ?_, f9.get0 (f8.get (f7.get0 (f6.get0 s5)) (by omega))⟩
  unfold PG.l114_0
  rw [es_cons, show evS P F PG.t114_0_0 [some (.ref sc), some (.int by_), x2, x3, x4, x5, x6, x7, x8, x9, x10, x11, x12, x13, x14] h = .nx [some (.ref sc), some (.int by_), some (.ref r2), x3, x4, x5, x6, x7, x8, x9, x10, x11, x12, x13, x14] h1 by unfold PG.t114_0_0; simp_arith [k.bd.f109.call4, e1], thn_nx]
  rw [es_cons, show evS P F PG.t114_0_1 [some (.ref sc), some (.int by_), some (.ref r2), x3, x4, x5, x6, x7, x8, x9, x10, x11, x12, x13, x14] h1 = .nx [some (.ref sc), some (.int by_), some (.ref r2), some (.ref r3), x4, x5, x6, x7, x8, x9, x10, x11, x12, x13, x14] h2 by unfold PG.t114_0_1; simp_arith [k.f111.call1, e2], thn_nx]
  rw [thn2 e3]
  rw [es_cons, show evS P F PG.t114_0_4 [some (.ref sc), some (.int by_), some (.ref r2), some (.ref r3), some (.ref (h2.length + 4)), x5, x6, x7, x8, x9, x10, x11, x12, x13, x14] h3 = .nx [some (.ref sc), some (.int by_), some (.ref r2), some (.ref r3), some (.ref (h2.length + 4)), some (.ref h3.length), x6, x7, x8, x9, x10, x11, x12, x13, x14] h4 by unfold PG.t114_0_4; simp_arith [k.f112.call1, e4], thn_nx]
  rw [thn6 e5]
  rw [es_cons, e6, thn_nx, es_cons, e7, thn_nx]
  rw [thn4 e8]
  rw [thn3 e9]
  rw [es_nil]
end
end LD
end
section
set_option Elab.async false
set_option linter.all false
set_option maxRecDepth 100000
set_option maxHeartbeats 1000000
/-! LH7: k01, its end (printed by mk7.py) -/
namespace LD
open L2
local macro_rules
  | `(tactic| simp_arith [$as,*]) => `(tactic| simp only [bind_ok, bind_exc, bindN_ok, toS_ok, toS_exc, thn_nx, thn_rt, thn_ct, thn_exc, turn_nx, turn_ct, turn_rt, parK_some, par_nil, par_cons, kOp2_eq, kNot_eq, kNt_eq, kIte_eq, kTup_eq, kSl2_eq, kSl1_eq, kFld_eq, kMk_eq, kEq1_eq, kCs2_eq, kCs1_eq, kB1b_eq, kB1_eq, kBf_eq, kBt_eq, kSb3_eq, kSb2_eq, kSb1_eq, kEx_eq, kSet_eq, kPar_eq, kAg3_eq, kAg2_eq, kAg1_eq, kI1_eq, kIf_T, kIf_F, kBf2_T, kBf2_F, kBt2_T, kBt2_F, kI2_T, kI2_F, ev_var, ev_con, ev_op2, ev_neg, ev_isN, ev_bop, ev_nt, ev_ite, ev_tup, ev_lst, ev_dnw, ev_dsp, ev_slc, ev_fld, ev_cal, ev_mke, ev_bif, ev_isi, ev_lvl, ev_sst, ev_eqo, ev_nil, ev_cons, ev_B1, ev_O0, ev_O1, ev_Q0, ev_Q1, asg_nm, asg_tp, asg_kt, asg_sb, asgs_nil, asgs_cons, es_ex, es_set, es_par, es_agN, es_iff, es_ret, es_retN, es_rse, es_pass, es_cont, es_nil, es_cons, ev_B2f, ev_B2t, ite_T, ite_F, ite_TT, ite_FF, t_and, f_and, and_t, and_f, t_or, f_or, not_T, not_F, map1_, app_c, app_n, rep0, repS, len0, lenS, sub_n, slot0, slotS, fin_nx, fin_rt, fin_exc, p2_add, p2_sub, p2_mul, p2_fdiv, p2_mod, p2_pow, p2_eq, p2_ne, p2_lt, p2_le, p2_gt, p2_ge, p2_in, p2_nin, p2_idx, p2_eqd, kCh3_T, kCh3_F, kCh2b_eq, kCh2_eq, kCh1_eq, ev_chn, kBm_eq, pB_len, pB_abs, pB_sum, pB_list, pB_tuple, pB_dict, pB_max2, pB_min2, pM_app, pM_pop, pM_get, asB_bl, asI_int, isN_non, isN_int, isN_ref, isN_str, isN_tup, add_int, sub_int, neg_int, mul_l, mul_r, fdiv_int, mod_int, eq_int, eq_str, eq_bl, ne_int, ne_str, got_some, idx_tup, idx_ktu, idx_frl, len_tup, len_ktu, len_frl, ev_bme, newL_ok, list_tup, list_ktu, slice_tup, slice_frl, isi_str, isi_int, isi_intb, isi_blb, isi_intl, isi_tup, isi_tup2, isi_ktu2, atI_lit, get0, getS, set0, setS, kC2_eq, kC1_eq, kC1r_eq, kL2_eq, kL1_eq, kS4_eq, kS3_eq, kS2_eq, kS1_eq, ev_cmpE, ev_cmpR, ev_lscE, es_slcE, kF2_eq, kF1_eq, kF1r_eq, es_forE, es_forR, walk_tup, walk_ktu, walk_frl, walk_str, metK_some, kMe_eq, kMet_eq, ev_met, List.map_nil, List.map_append, List.length_append, List.map_cons, Nat.reduceAdd, Nat.reduceSub, Nat.reduceLeDiff, Nat.reduceEqDiff, Int.cast_ofNat_Int, Int.reduceBEq, Int.reduceLE, Int.reduceLT, Int.reduceNeg, Int.reduceAdd, Int.reduceSub, Int.reduceMul, Int.reduceToNat, decide_true, decide_false, $as,*])
section
variable {P : Prg}
/-- the small world -/
def wa (f s c : Int) : WA := ⟨[[101, 97, 115, 116]], [([99, 111, 114, 110], [102, 111, 111, 100])], [([97, 110, 110], [101, 97, 115, 116])], [], [], [], f, s, c⟩
theorem wa_ok {f s c : Int} (h1 : 0 ≤ f ∧ f ≤ 2000) (h2 : 1 ≤ s ∧ s ≤ 9) (h3 : 1 ≤ c ∧ c ≤ 9) : WOk (wa f s c) := by
  refine ⟨⟨by show 1 ≤ [[101, 97, 115, 116]].length; decide, by show [[101, 97, 115, 116]].length ≤ 4; decide, ?_, by show (ddL [[101, 97, 115, 116]] []).length = 1; decide⟩, ⟨by show 1 ≤ [([99, 111, 114, 110], [102, 111, 111, 100])].length; decide, by show [([99, 111, 114, 110], [102, 111, 111, 100])].length ≤ 6; decide, ?_⟩, ⟨by show 1 ≤ [([97, 110, 110], [101, 97, 115, 116])].length; decide, by show [([97, 110, 110], [101, 97, 115, 116])].length ≤ 8; decide, ?_⟩, ⟨by show 0 ≤ 3; decide, (fun x hx => by cases hx), rfl, (fun x hx => by cases hx)⟩, ⟨by show 0 ≤ 20; decide, fun x hx => by cases hx⟩, ⟨by show 0 ≤ 10; decide, fun x hx => by cases hx⟩, h1, h2, h3⟩
  · intro x hx
    have : x = [101, 97, 115, 116] := by simpa [wa] using hx
    rw [this]; decide
  · intro p hp
    have : p = ([99, 111, 114, 110], [102, 111, 111, 100]) := by simpa [wa] using hp
    rw [this]; decide
  · intro p hp
    have : p = ([97, 110, 110], [101, 97, 115, 116]) := by simpa [wa] using hp
    rw [this]
    exact ⟨by decide, by decide, by simp [wa]⟩
theorem wa_nd (f s c : Int) : (wa f s c).nd := ⟨by show [[99, 111, 114, 110]].Nodup; decide, by show [[97, 110, 110]].Nodup; decide⟩
def g3 : LH := [.lst [.str [101, 97, 115, 116]], .dK (dV [([99, 111, 114, 110], [102, 111, 111, 100])]), .dK (dV [([97, 110, 110], [101, 97, 115, 116])])]
theorem dsp1 (x y : List Nat) (h : LH) : pDsp [.str x] [.str y] h = .ok (.ref h.length) (h ++ [.dK (dV [(x, y)])]) := by
  simp [pDsp, dmerge, dput, keyOf, dV]
theorem bare_spec (k : K1 P) (F : FT) (hF : F = run P 11) (h : LH) : ∃ h', makeC P F 0 [.ref h.length, .ref (h.length + 1), .ref (h.length + 2)] [] [] (h ++ g3) = .ok (.ref (h.length + 3)) h' ∧ WIn (h.length + 3) h'.length h' (h.length + 3) (wa 0 2 2) ∧ Fr noS h h' := by
  obtain ⟨h', e, w, f⟩ := make_world k.b0 k.b1 k.bw (wa 0 2 2) (wa_ok (by decide) (by decide) (by decide)) 6 h.length (h.length + 1) (h.length + 2) (.ktu []) (.ktu []) (.ktu []) [] [] (h ++ g3) (get_ext0 h g3) (get_ext h g3 1) (get_ext h g3 2) (.inr rfl) (.inr rfl) (.inr rfl) (fun ci ec => (k.pat ci ec).2) rfl (fun fi ef => kw_none (kw12 k ef).1 (kw12 k ef).2 _ _ _ _)
  have hl : (h ++ g3).length = h.length + 3 := by simp [g3]
  rw [hl] at e w
  exact ⟨h', by rw [hF]; exact e, w, (Fr.app _ _ _).trans f⟩
theorem full_spec (k : K1 P) (F : FT) (hF : F = run P 11) (f s c : Int) (h1 : 0 ≤ f ∧ f ≤ 2000) (h2 : 1 ≤ s ∧ s ≤ 9) (h3 : 1 ≤ c ∧ c ≤ 9) (h : LH) : ∃ h', makeC P F 0 [.ref h.length, .ref (h.length + 1), .ref (h.length + 2)] [4, 5, 6, 7, 8, 9] [.ref (h.length + 3), .ref (h.length + 4), .ref (h.length + 5), .int f, .int s, .int c] (h ++ (g3 ++ [.lst [], .lst [], .lst []])) = .ok (.ref (h.length + 6)) h' ∧ WIn (h.length + 6) h'.length h' (h.length + 6) (wa f s c) ∧ Fr noS h h' := by
  obtain ⟨h', e, w, fr⟩ := make_world k.b0 k.b1 k.bw (wa f s c) (wa_ok h1 h2 h3) 6 h.length (h.length + 1) (h.length + 2) (.ref (h.length + 3)) (.ref (h.length + 4)) (.ref (h.length + 5)) [4, 5, 6, 7, 8, 9] [.ref (h.length + 3), .ref (h.length + 4), .ref (h.length + 5), .int f, .int s, .int c] (h ++ (g3 ++ [.lst [], .lst [], .lst []])) (get_ext0 h _) (get_ext h _ 1) (get_ext h _ 2) (.inl ⟨_, rfl, get_ext h _ 3⟩) (.inl ⟨_, rfl, get_ext h _ 4⟩) (.inl ⟨_, rfl, get_ext h _ 5⟩) (fun ci ec => (k.pat ci ec).1) rfl (fun fi ef => kw_all (kw12 k ef).1 (kw12 k ef).2 _ _ _ _ _ _ _ _ _ _)
  have hl : (h ++ (g3 ++ [LO.lst [], LO.lst [], LO.lst []])).length = h.length + 6 := by simp [g3]
  rw [hl] at e w
  exact ⟨h', by rw [hF]; exact e, w, (Fr.app _ _ _).trans fr⟩

def trip : List (Int × Int × Int) := [(0, 2, 2), (1, 2, 2), (0, 1, 2), (0, 2, 1), (0, 3, 2), (0, 2, 3)]
def tripV (x : Int × Int × Int) : LV := .tup [.int x.1, .int x.2.1, .int x.2.2]
theorem trip_ok : ∀ x ∈ trip, (0 ≤ x.1 ∧ x.1 ≤ 2000) ∧ (1 ≤ x.2.1 ∧ x.2.1 ≤ 9) ∧ (1 ≤ x.2.2 ∧ x.2.2 ≤ 9) := by decide
def same2 (x : Int × Int × Int) : Bool := decide (x.1 = 0 ∧ x.2.1 = 2 ∧ x.2.2 = 2)
theorem full_loop (k : K1 P) (F : FT) (hF : F = run P 11) (b u lo hi : Nat) (x0 x1 x2 x3 x4 x5 x6 x7 x8 x9 x10 x11 x14 : Option LV) (h : LH) (w : WIn lo hi h b (wa 0 2 2)) (hu : h[u]? = some (.lst [])) (nu : ¬ (lo ≤ u ∧ u < hi)) :
    ∃ (y11 y14 : Option LV) (h' : LH), evS P F PG.s114_3 [x0, x1, x2, x3, x4, x5, x6, x7, x8, x9, x10, x11, some (.ref b), some (.ref u), x14] h = .nx [x0, x1, x2, x3, x4, x5, x6, x7, x8, x9, x10, y11, some (.ref b), some (.ref u), y14] h' ∧ h'[u]? = some (.lst (trip.map fun x => LV.bl (same2 x))) := by
  unfold PG.s114_3
  simp_arith []
  obtain ⟨ls', h', ef, y11, y14, rfl, w', eu⟩ := for_told (P := P) (F := F) (t := .nm 14) (body := PG.l114_4) (xs := trip.map tripV) (ls := [x0, x1, x2, x3, x4, x5, x6, x7, x8, x9, x10, x11, some (.ref b), some (.ref u), x14]) (h := h)
    (fun i st h' => ∃ y11 y14 : Option LV, st = [x0, x1, x2, x3, x4, x5, x6, x7, x8, x9, x10, y11, some (.ref b), some (.ref u), y14] ∧ WIn lo hi h' b (wa 0 2 2) ∧ h'[u]? = some (.lst ((trip.take i).map fun x => LV.bl (same2 x)))) ⟨x11, x14, rfl, w, hu⟩ (fun i x st hh ex hI => by
      obtain ⟨y11, y14, rfl, w1, eu⟩ := hI
      rw [List.getElem?_map] at ex
      obtain ⟨⟨f, s, c⟩, ey, rfl⟩ := Option.map_eq_some_iff.mp ex
      obtain ⟨t1, t2, t3⟩ := trip_ok _ (List.mem_of_getElem? ey)
      refine ⟨_, _, by simp_arith []; rfl, ?_⟩
      unfold PG.l114_4
      obtain ⟨h2, e2, w2, f2⟩ := full_spec k F hF f s c t1 t2 t3 hh
      have w3 := w1.keep (h' := h2) fun i o _ _ e => f2.get0 e
      have eq := weq_spec k.be (wa 0 2 2) (wa f s c) 10 b (hh.length + 6) lo hi (hh.length + 6) h2.length h2 w3 w2 (wa_nd _ _ _) rfl rfl rfl rfl (.inl rfl) rfl
      have eb : decide ((wa f s c).levies.length = (wa 0 2 2).levies.length ∧ (wa f s c).fee = (wa 0 2 2).fee ∧ (wa f s c).send = (wa 0 2 2).send ∧ (wa f s c).complain = (wa 0 2 2).complain) = same2 (f, s, c) := by
        simp [same2, wa]
      rw [eb] at eq
      have w3' := w3
      obtain ⟨_, _, _, _, _, _, ew, _⟩ := w3'
      obtain ⟨_, _, _, _, _, _, ei, _⟩ := w2
      have eo := eqo_of k.be ew (by simp [othB, ei]) eq false
      rw [show run P (10 + 1) = F from hF.symm] at eo
      have eu2 := f2.get0 eu
      have hlen : ((trip.take i).map fun x => LV.bl (same2 x)).length < 16777216 := by rw [List.length_map, List.length_take]; have : trip.length = 6 := rfl; omega
      have e2' : makeC P F 0 [.ref hh.length, .ref (hh.length + 1), .ref (hh.length + 2)] [4, 5, 6, 7, 8, 9] [.ref (hh.length + 3), .ref (hh.length + 4), .ref (hh.length + 5), .int f, .int s, .int c] (hh ++ [.lst [.str [101, 97, 115, 116]], .dK (dV [([99, 111, 114, 110], [102, 111, 111, 100])]), .dK (dV [([97, 110, 110], [101, 97, 115, 116])]), .lst [], .lst [], .lst []]) = .ok (.ref (hh.length + 6)) h2 := e2
      have ev : evSs P F (.cons (.set (.nm 11) (.mke 0 (.cons (.lst (.cons (.con (.str [101, 97, 115, 116])) .nil)) (.cons (.dsp [(.str [99, 111, 114, 110])] (.cons (.con (.str [102, 111, 111, 100])) .nil)) (.cons (.dsp [(.str [97, 110, 110])] (.cons (.con (.str [101, 97, 115, 116])) .nil)) .nil))) [4, 5, 6, 7, 8, 9] (.cons (.lst .nil) (.cons (.lst .nil) (.cons (.lst .nil) (.cons (.op2 .idx (.var 14) (.con (.int 0))) (.cons (.op2 .idx (.var 14) (.con (.int 1))) (.cons (.op2 .idx (.var 14) (.con (.int 2))) .nil)))))))) (.cons (.ex (.bme .append (.var 13) (.cons (.eqo false (.var 12) (.var 11)) .nil))) .nil)) [x0, x1, x2, x3, x4, x5, x6, x7, x8, x9, x10, y11, some (.ref b), some (.ref u), some (tripV (f, s, c))] hh = .nx [x0, x1, x2, x3, x4, x5, x6, x7, x8, x9, x10, some (.ref (hh.length + 6)), some (.ref b), some (.ref u), some (tripV (f, s, c))] (h2.set u (.lst (((trip.take i).map fun x => LV.bl (same2 x)) ++ [.bl (same2 (f, s, c) != false)]))) := by
        simp_arith [Nat.zero_le, dsp1, List.append_assoc, tripV, e2', bmT_lst _ eu2 .append (.inl rfl), eo, app_lst _ eu2 hlen]
      rw [ev]
      refine ⟨_, _, .inl rfl, _, _, rfl, w3.keep fun i o h1 h2 e => by rw [List.getElem?_set_ne (by omega)]; exact e, ?_⟩
      rw [List.getElem?_set_self (lt_of eu2), List.take_add_one, ey]
      simp)
  have ef' : forW P F (.nm 14) PG.l114_4 (.told [.tup [.int 0, .int 2, .int 2], .tup [.int 1, .int 2, .int 2], .tup [.int 0, .int 1, .int 2], .tup [.int 0, .int 2, .int 1], .tup [.int 0, .int 3, .int 2], .tup [.int 0, .int 2, .int 3]]) [x0, x1, x2, x3, x4, x5, x6, x7, x8, x9, x10, x11, some (.ref b), some (.ref u), x14] h = .nx [x0, x1, x2, x3, x4, x5, x6, x7, x8, x9, x10, y11, some (.ref b), some (.ref u), y14] h' := ef
  rw [ef']
  exact ⟨y11, y14, h', rfl, eu⟩
end
end LD
end
section
set_option Elab.async false
set_option linter.all false
set_option maxRecDepth 100000
set_option maxHeartbeats 1000000
/-! LH8: k01: the law answers True (printed by mk8.py) -/
namespace LD
open L2
local macro_rules
  | `(tactic| simp_arith [$as,*]) => `(tactic| simp only [bind_ok, bind_exc, bindN_ok, toS_ok, toS_exc, thn_nx, thn_rt, thn_ct, thn_exc, turn_nx, turn_ct, turn_rt, parK_some, par_nil, par_cons, kOp2_eq, kNot_eq, kNt_eq, kIte_eq, kTup_eq, kSl2_eq, kSl1_eq, kFld_eq, kMk_eq, kEq1_eq, kCs2_eq, kCs1_eq, kB1b_eq, kB1_eq, kBf_eq, kBt_eq, kSb3_eq, kSb2_eq, kSb1_eq, kEx_eq, kSet_eq, kPar_eq, kAg3_eq, kAg2_eq, kAg1_eq, kI1_eq, kIf_T, kIf_F, kBf2_T, kBf2_F, kBt2_T, kBt2_F, kI2_T, kI2_F, ev_var, ev_con, ev_op2, ev_neg, ev_isN, ev_bop, ev_nt, ev_ite, ev_tup, ev_lst, ev_dnw, ev_dsp, ev_slc, ev_fld, ev_cal, ev_mke, ev_bif, ev_isi, ev_lvl, ev_sst, ev_eqo, ev_nil, ev_cons, ev_B1, ev_O0, ev_O1, ev_Q0, ev_Q1, asg_nm, asg_tp, asg_kt, asg_sb, asgs_nil, asgs_cons, es_ex, es_set, es_par, es_agN, es_iff, es_ret, es_retN, es_rse, es_pass, es_cont, es_nil, es_cons, ev_B2f, ev_B2t, ite_T, ite_F, ite_TT, ite_FF, t_and, f_and, and_t, and_f, t_or, f_or, not_T, not_F, map1_, app_c, app_n, rep0, repS, len0, lenS, sub_n, slot0, slotS, fin_nx, fin_rt, fin_exc, p2_add, p2_sub, p2_mul, p2_fdiv, p2_mod, p2_pow, p2_eq, p2_ne, p2_lt, p2_le, p2_gt, p2_ge, p2_in, p2_nin, p2_idx, p2_eqd, kCh3_T, kCh3_F, kCh2b_eq, kCh2_eq, kCh1_eq, ev_chn, kBm_eq, pB_len, pB_abs, pB_sum, pB_list, pB_tuple, pB_dict, pB_max2, pB_min2, pM_app, pM_pop, pM_get, asB_bl, asI_int, isN_non, isN_int, isN_ref, isN_str, isN_tup, add_int, sub_int, neg_int, mul_l, mul_r, fdiv_int, mod_int, eq_int, eq_str, eq_bl, ne_int, ne_str, got_some, idx_tup, idx_ktu, idx_frl, len_tup, len_ktu, len_frl, ev_bme, newL_ok, list_tup, list_ktu, slice_tup, slice_frl, isi_str, isi_int, isi_intb, isi_blb, isi_intl, isi_tup, isi_tup2, isi_ktu2, atI_lit, get0, getS, set0, setS, kC2_eq, kC1_eq, kC1r_eq, kL2_eq, kL1_eq, kS4_eq, kS3_eq, kS2_eq, kS1_eq, ev_cmpE, ev_cmpR, ev_lscE, es_slcE, kF2_eq, kF1_eq, kF1r_eq, es_forE, es_forR, walk_tup, walk_ktu, walk_frl, walk_str, metK_some, kMe_eq, kMet_eq, ev_met, List.map_nil, List.map_append, List.length_append, List.map_cons, Nat.reduceAdd, Nat.reduceSub, Nat.reduceLeDiff, Nat.reduceEqDiff, Int.cast_ofNat_Int, Int.reduceBEq, Int.reduceLE, Int.reduceLT, Int.reduceNeg, Int.reduceAdd, Int.reduceSub, Int.reduceMul, Int.reduceToNat, decide_true, decide_false, $as,*])
section
variable {P : Prg}
theorem rp (n : Nat) (x : LV) : (List.replicate n [x]).flatten = List.replicate n x := by
  induction n with
  | zero => rfl
  | succ n ih => rw [List.replicate_succ, List.flatten_cons, ih]; rfl
theorem end_spec (F : FT) (b u : Nat) (x0 x1 x2 x3 x4 x5 x6 x7 x8 x9 x10 x11 x14 : Option LV) (h : LH) (hu : h[u]? = some (.lst (trip.map fun x => LV.bl (same2 x)))) : ∃ h', evS P F PG.s114_4 [x0, x1, x2, x3, x4, x5, x6, x7, x8, x9, x10, x11, some (.ref b), some (.ref u), x14] h = .rt (.bl true) h' := by
  have et : (trip.map fun x => LV.bl (same2 x)) = [.bl true, .bl false, .bl false, .bl false, .bl false, .bl false] := by simp [trip, same2]
  rw [et] at hu
  unfold PG.s114_4
  have g0 : (h ++ [LO.lst [.bl true], LO.lst [.bl false]])[h.length + 1]? = some (.lst [.bl false]) := get_ext h _ 1
  have m : pMul (.ref (h.length + 1)) (.int 5) (h ++ [LO.lst [.bl true], LO.lst [.bl false]]) = .ok (.ref (h.length + 2)) (h ++ [LO.lst [.bl true], LO.lst [.bl false], LO.lst [.bl false, .bl false, .bl false, .bl false, .bl false]]) := by
    simp only [pMul, g0]
    rw [if_pos (by decide), rp, newL_ok _ (by decide)]
    simp [List.replicate]
  have a : pAdd (.ref h.length) (.ref (h.length + 2)) (h ++ [LO.lst [.bl true], LO.lst [.bl false], LO.lst [.bl false, .bl false, .bl false, .bl false, .bl false]]) = .ok (.ref (h.length + 3)) (h ++ [LO.lst [.bl true], LO.lst [.bl false], LO.lst [.bl false, .bl false, .bl false, .bl false, .bl false], LO.lst [.bl true, .bl false, .bl false, .bl false, .bl false, .bl false]]) := by
    rw [add_lst (get_ext0 h _) (get_ext h _ 2), newL_ok _ (by decide)]
    simp
  have q : pEq (.ref u) (.ref (h.length + 3)) (h ++ [LO.lst [.bl true], LO.lst [.bl false], LO.lst [.bl false, .bl false, .bl false, .bl false, .bl false], LO.lst [.bl true, .bl false, .bl false, .bl false, .bl false, .bl false]]) = .ok (.bl true) (h ++ [LO.lst [.bl true], LO.lst [.bl false], LO.lst [.bl false, .bl false, .bl false, .bl false, .bl false], LO.lst [.bl true, .bl false, .bl false, .bl false, .bl false, .bl false]]) := by
    have e1 : (h ++ [LO.lst [.bl true], LO.lst [.bl false], LO.lst [.bl false, .bl false, .bl false, .bl false, .bl false], LO.lst [.bl true, .bl false, .bl false, .bl false, .bl false, .bl false]])[u]? = some (.lst [.bl true, .bl false, .bl false, .bl false, .bl false, .bl false]) := by rw [List.getElem?_append_left (lt_of hu)]; exact hu
    have e2 : (h ++ [LO.lst [.bl true], LO.lst [.bl false], LO.lst [.bl false, .bl false, .bl false, .bl false, .bl false], LO.lst [.bl true, .bl false, .bl false, .bl false, .bl false, .bl false]])[h.length + 3]? = some (.lst [.bl true, .bl false, .bl false, .bl false, .bl false, .bl false]) := get_ext h _ 3
    unfold pEq
    rw [eqV_lst e1 e2]
    rfl
  simp_arith [List.append_assoc, m, a, q]
  exact ⟨_, rfl⟩
/-- the law answers True -/
theorem law_true (k : K1 P) (ns : List Int) : ∃ h', run P 12 114 [.frl (ns.map LV.int)] [] = .ok (.bl true) h' := by
  rw [k.f114.run _ _ _ rfl]
  obtain ⟨F, hF⟩ : ∃ F, F = run P 11 := ⟨_, rfl⟩
  rw [← hF]
  have e0 : evS P F PG.s114_0 [some (.frl (ns.map LV.int)), none, none, none, none, none, none, none, none, none, none, none, none, none, none] [] = .nx [some (.ref 0), none, none, none, none, none, none, none, none, none, none, none, none, none, none] [.lst ((ns.take 63).map .int)] := by
    unfold PG.s114_0
    simp_arith [cutL_hi _ 63 (by decide), ← List.map_take]
    rw [newL_ok _ (by simp; omega)]
    simp_arith [cutL_hi _ 63 (by decide), ← List.map_take]
  have hl : ((ns.take 63).length : Int) ≤ 63 := by rw [List.length_take]; omega
  generalize ns.take 63 = ms at e0 hl
  have gm : ([LO.lst (ms.map LV.int)] : LH)[0]? = some (.lst (ms.map .int)) := rfl
  have e1 : ∃ (y1 y2 y3 y4 y5 y6 y7 y8 y9 y10 y11 y12 y13 y14 : Option LV) (h' : LH), evS P F PG.s114_1 [some (.ref 0), none, none, none, none, none, none, none, none, none, none, none, none, none, none] [.lst (ms.map .int)] = .nx [some (.ref 0), y1, y2, y3, y4, y5, y6, y7, y8, y9, y10, y11, y12, y13, y14] h' := by
    unfold PG.s114_1
    generalize hv : (if (if (ms.length : Int) < 6 then (ms.length : Int) else 6) > 1 then (if (ms.length : Int) < 6 then (ms.length : Int) else 6) else 1) = v
    have v1 : -4611686018427387904 ≤ v ∧ v < 4611686018427387904 := by rw [← hv]; split <;> split <;> omega
    obtain ⟨ls', h', ef, y1, y2, y3, y4, y5, y6, y7, y8, y9, y10, y11, y12, y13, y14, rfl, _⟩ := for_told (P := P) (F := F) (t := .nm 1) (body := PG.l114_0) (xs := (List.range v.toNat).map fun (i : Nat) => LV.int i) (ls := [some (.ref 0), none, none, none, none, none, none, none, none, none, none, none, none, none, none]) (h := [.lst (ms.map .int)])
      (fun i st h' => ∃ (y1 y2 y3 y4 y5 y6 y7 y8 y9 y10 y11 y12 y13 y14 : Option LV), st = [some (.ref 0), y1, y2, y3, y4, y5, y6, y7, y8, y9, y10, y11, y12, y13, y14] ∧ h'[0]? = some (.lst (ms.map .int)))
      ⟨none, none, none, none, none, none, none, none, none, none, none, none, none, none, rfl, rfl⟩ (fun i x st hh ex hI => by
        obtain ⟨y1, y2, y3, y4, y5, y6, y7, y8, y9, y10, y11, y12, y13, y14, rfl, g⟩ := hI
        rw [List.getElem?_map] at ex
        obtain ⟨j, ej, rfl⟩ := Option.map_eq_some_iff.mp ex
        refine ⟨_, _, by simp only [asg_nm]; rfl, ?_⟩
        obtain ⟨z1, z2, z3, z4, z5, z6, z7, z8, z9, z10, z11, z12, z13, z14, h', e, g'⟩ := turn_spec k F hF 0 j ms y2 y3 y4 y5 y6 y7 y8 y9 y10 y11 y12 y13 y14 hh g
        exact ⟨_, _, .inl e, z1, z2, z3, z4, z5, z6, z7, z8, z9, z10, z11, z12, z13, z14, rfl, g'⟩)
    refine ⟨y1, y2, y3, y4, y5, y6, y7, y8, y9, y10, y11, y12, y13, y14, h', ?_⟩
    simp_arith [len_lst _ gm, List.length_map, hv, walk_rng v1.1 v1.2, ef]
  obtain ⟨y1, y2, y3, y4, y5, y6, y7, y8, y9, y10, y11, y12, y13, y14, h1, e1⟩ := e1
  obtain ⟨h2, eb, w2, f2⟩ := bare_spec k F hF h1
  have eb' : makeC P F 0 [.ref h1.length, .ref (h1.length + 1), .ref (h1.length + 2)] [] [] (h1 ++ [.lst [.str [101, 97, 115, 116]], .dK (dV [([99, 111, 114, 110], [102, 111, 111, 100])]), .dK (dV [([97, 110, 110], [101, 97, 115, 116])])]) = .ok (.ref (h1.length + 3)) h2 := eb
  have e2 : evS P F PG.s114_2 [some (.ref 0), y1, y2, y3, y4, y5, y6, y7, y8, y9, y10, y11, y12, y13, y14] h1 = .nx [some (.ref 0), y1, y2, y3, y4, y5, y6, y7, y8, y9, y10, y11, some (.ref (h1.length + 3)), some (.ref h2.length), y14] (h2 ++ [.lst []]) := by
    unfold PG.s114_2
    simp_arith [dsp1, List.append_assoc, eb', Nat.zero_le, List.reverse_cons, List.reverse_nil]
  obtain ⟨z11, z14, h3, e3, g3'⟩ := full_loop k F hF (h1.length + 3) h2.length (h1.length + 3) h2.length (some (.ref 0)) y1 y2 y3 y4 y5 y6 y7 y8 y9 y10 y11 y14 (h2 ++ [.lst []]) (w2.keep fun i o _ _ e => (Fr.app noS h2 _).get0 e) (by simp) (by omega)
  obtain ⟨h4, e4⟩ := end_spec (P := P) F (h1.length + 3) h2.length (some (.ref 0)) y1 y2 y3 y4 y5 y6 y7 y8 y9 y10 z11 z14 h3 g3'
  refine ⟨h4, ?_⟩
  have es : evSs P F PG.b114 [some (.frl (ns.map LV.int)), none, none, none, none, none, none, none, none, none, none, none, none, none, none] [] = .rt (.bl true) h4 := by
    unfold PG.b114
    rw [es_cons, e0, thn_nx, es_cons, e1, thn_nx, es_cons, e2, thn_nx, es_cons, e3, thn_nx, es_cons, e4, thn_rt]
  show fin (evSs P F PG.b114 [some (.frl (ns.map LV.int)), none, none, none, none, none, none, none, none, none, none, none, none, none, none] []) = _
  rw [es]; rfl
end
end LD
end
section
set_option Elab.async false
set_option linter.all false
set_option maxRecDepth 100000
set_option maxHeartbeats 0
/-! H01: the head of k01 -/
namespace PG
open PySem PySem.Spec PyProof.Rows L2 LD
abbrev R : PySem.W.OpenRow := PySem.W.OpenLaw.row PySem.Challenge.rw_marketden_k01_whole_worlds
def at12 : Str × Option Str := ("World", some "__init__")
def bX (K : PySem.W.Frag) : Bool := vrB K 1 (.ktu []) (.ref (kwAt at12 "carriers" K)) && (vrB K 1 (.ktu []) (.ref (kwAt at12 "levies" K)) && vrB K 1 (.ktu []) (.ref (kwAt at12 "rules" K)))
def bA (K : PySem.W.Frag) : Bool := linkB prg K && bX K
abbrev hk : PySem.W.Hook := hookX 5 bA dus
def ob (s : PySem.W.SharedT) : He.AlD := obsXG 5 bA dus (HandSHeadRun.getT s)
theorem ob_eq (s : PySem.W.SharedT) : ob s = hk.obs s.abs := obsXG_eq (HandSHeadRun.getT_eq s)
def names : List Str := (["_wall", "LETTERS", "LONGEST", "MOST_RATE", "WHOLE_PART", "is_name", "is_number", "are_names", "is_one_of", "MarketError", "BadMarket", "BadDay", "MOST_RULES", "MOST_SAID", "MOST_DAYS_rules", "SIDES", "is_levy", "is_said", "is_rule", "are_rules", "MOST_LANDS", "MOST_WARES", "MOST_PARTIES", "MOST_CARRIERS", "MOST_LEVIES", "MOST_FEE", "MOST_DAYS_worlds", "NOBODY", "are_wares", "are_parties"] : List Str) ++ (["World", "_law_draw", "_law_cell_at", "_law_digits", "_law_take", "_law_parts", "_law_world", "_law_rate"] : List Str)
theorem run0 (w : World) : HandSHeadRun.RunEq R (PySem.W.view R.prog [43]) hk ob 100000 names (w.withFollow "special-get-raises" false) := by
  intro os
  kernel_rfl
theorem run1 (w : World) : HandSHeadRun.RunEq R (PySem.W.view R.prog [43]) hk ob 100000 names (w.withFollow "special-get-raises" true) := by
  intro os
  kernel_rfl
theorem run_ (w : World) : HandSHeadRun.RunEq R (PySem.W.view R.prog [43]) hk ob 100000 names w := PySem.W.byRow2 "special-get-raises" run0 run1 w
end PG
end
section
set_option Elab.async false
set_option linter.all false
set_option maxRecDepth 100000
set_option maxHeartbeats 0
/-! H01b: from the evaluator's answer to the row -/
namespace PG
open PySem PySem.Spec PyProof.Rows L2 LD
theorem vr_kt {K : PySem.W.Frag} {a : Addr} (h : vrB K 1 (.ktu []) (.ref a) = true) (φ : Nat → Addr) (n : Nat) (H : Hp) : VR K φ n H (.ktu []) (.ref a) := by
  obtain ⟨v, r1, r2⟩ := vrB_ok 1 _ _ h
  have : v = .ref a := by
    cases v <;> first | (cases r1; rfl) | (obtain ⟨t, z⟩ := r1; cases z) | cases r1
  rw [← this]; exact r2 φ n H
theorem pt_all {K : PySem.W.Frag} (L : Lk) (_ : ∀ i fi, prg.fns[i]? = some fi → L.fA i = He.fAd K fi.at_) (hF : ∀ (i : Nat) (d : He.DefD), dfs[i]? = some d → FunD K d.name d.qual d.params d.body d.scope (d.dvs K) (d.kws K) (L.fA i) (L.fD i)) (hb : bX K = true)
    (c : Nat) (ci : ClI) (ec : prg.cls[c]? = some ci) (p : Nat × List Nat) (hp : p ∈ ci.pats) (fi : FnI) (ei : prg.fns[ci.ini]? = some fi) : MkOk K (L.fD ci.ini) fi p.1 p.2 := by
  obtain ⟨b1, b⟩ := He.ba hb
  obtain ⟨b2, b3⟩ := He.ba b
  have hc : c = 0 := by
    match c, ec with
    | 0, _ => rfl
    | c + 1, ec => exact nomatch ec
  subst hc
  have e1 : c0 = ci := Option.some.inj ec
  subst e1
  have e2 : f12 = fi := Option.some.inj ei
  subst e2
  have F := hF 12 d12 rfl
  have hp' : p = (3, [4, 5, 6, 7, 8, 9]) ∨ p = (3, []) := by
    have : p ∈ [(3, [4, 5, 6, 7, 8, 9]), (3, ([] : List Nat))] := hp
    simpa using this
  rcases hp' with rfl | rfl
  · obtain ⟨mv, kb⟩ := FunD.kbinds0 (ps := f12.ps) F 4 ["carriers", "levies", "rules", "fee", "send", "complain"] [] (fun us _ ws => us ++ ws) (by intro z; cases z) (by intro q hq; cases hq) (fun r1 _ r3 => r1.append r3)
      (fun D doc pm an cdv ct us mv ws h1 h2 h3 => match us, mv, ws, h1, h2, h3 with
        | [_, _, _, _], [], [_, _, _, _, _, _], _, _, _ => rfl)
    refine ⟨_, _, kb, fun φ m H as ws bs vs zs hl r1 r2 hw e => ?_⟩
    match as, ws, hl, hw, e with
    | [a0, a1, a2, a3], [w0, w1, w2, w3, w4, w5], _, _, e =>
      have : bs = [a0, a1, a2, a3] ++ [w0, w1, w2, w3, w4, w5] := (Option.some.inj e).symm
      subst this
      exact VRs.append r1 r2
  · obtain ⟨mv, kb⟩ := FunD.kbinds0 (ps := f12.ps) F 4 [] (d12.kws K) (fun us mv _ => us ++ mv) (by intro z; cases z) (by intro q hq; exact hq) (fun r1 r2 _ => r1.append r2)
      (fun D doc pm an cdv ct us mv ws h1 h2 h3 => match us, mv, ws, h1, h2, h3 with
        | [_, _, _, _], [_, _, _, _, _, _], [], _, _, _ => ⟨_, _, _, _, _, _, rfl, rfl, _, _, _, _, _, _, rfl, rfl, _, _, _, _, _, _, rfl, rfl, _, _, _, _, _, _, rfl, rfl, _, _, _, _, _, _, rfl, rfl, _, _, _, _, _, _, rfl, rfl, rfl⟩)
    refine ⟨_, _, kb, fun φ m H as ws bs vs zs hl r1 r2 hw e => ?_⟩
    match as, ws, hl, hw, e with
    | [a0, a1, a2, a3], [], _, _, e =>
      have : bs = [a0, a1, a2, a3] ++ [.ktu [], .ktu [], .ktu [], .int 0, .int 2, .int 2] := (Option.some.inj e).symm
      subst this
      exact VRs.append r1 (VRs.cons (vr_kt b1 _ _ _) (VRs.cons (vr_kt b2 _ _ _) (VRs.cons (vr_kt b3 _ _ _) (VRs.cons vr_int (VRs.cons vr_int (VRs.cons vr_int VRs.nil))))))
theorem facts {w : World} {K : PySem.W.Frag} {h : Heap} {mg : Str → Option Value} {f : Addr} {n : Nat} (X : K.In h) (G : h.Ns mainGlobals mg) (hfa : mg ("law" : Str) = some (.ref f)) (c : SaysX bA dus K) :
    ∃ fd : FuncData, (∀ (s : Shared) (v : Value), BindsTo s fd ⟨[v], []⟩ [("_law_script", v)]) ∧ ∀ base : Heap, FnOk R.prog w K mg base (CX R.prog w) (2 * n) f fd ["_law_script"] (spF (clOf prg K) K 1 (run prg n 114)) := by
  obtain ⟨fd, F, ok⟩ := law_says (prog := R.prog) (w := w) X G c ents pt_all n 114 (fi := f114) (d := d114) rfl rfl
  have hl : (He.Fa.glo "law").ok K = true := by
    have := List.all_eq_true.mp (He.ba (He.ba (He.ba c.bool).1).2).1 f114 (by exact List.mem_of_getElem? (i := 114) rfl)
    exact this
  have e := hfa.symm.trans (He.glo_ok X G hl)
  cases e
  have b := FunD.bindsA (ps := ["_law_script"]) F fun _ _ _ _ _ _ us hl => match us, hl with | [_], _ => rfl
  exact ⟨fd, fun s v => b s [v] rfl, ok⟩
end PG
open PySem PySem.W PySem.Calls PyProof.Rows
theorem PG.holds_of (hf : ∀ ns : List Int, ns.length ≤ 63 → ∃ h', LD.run PG.prg 12 114 [.frl (ns.map LD.LV.int)] [] = .ok (.bl true) h') : PySem.Challenge.rw_marketden_k01_whole_worlds.Holds := by
  w_on; o_law
  refine HandSHeadRun.head_any (r := OpenLaw.row PySem.Challenge.rw_marketden_k01_whole_worlds) (q := view (OpenLaw.row PySem.Challenge.rw_marketden_k01_whole_worlds).prog [43]) (H := PG.hk) (ob := PG.ob) (M := 100000) (loose := PG.names) (d := HandSHeadRun.topDef (OpenLaw.row PySem.Challenge.rw_marketden_k01_whole_worlds).prog 43) (kwd := []) PG.ob_eq
    (by kernel_rfl) (fun s => by kernel_rfl) PG.run_ (by kernel_rfl) (by kernel_rfl) (by kernel_rfl) (by rfl) (by first | assumption | decide +kernel) (by decide +kernel) ⟨rfl, rfl, rfl, rfl, rfl, by decide +kernel⟩ ?hw ?hc
  case hw => w_witness2
  case hc =>
    refine LD.walk_ofX (l := PySem.Challenge.rw_marketden_k01_whole_worlds) (n := 63) (k := 24) (x := "_law_script") rfl (by decide) (by kernel_rfl) ⟨rfl, by decide, by decide⟩ ?F
    intro w mg fa h Y G hmg0
    obtain ⟨K, KX, c⟩ := Y
    have hmg : mg ("law" : PySem.Str) = some (.ref fa) := by
      have e : (HandSHeadRun.topDef (OpenLaw.row PySem.Challenge.rw_marketden_k01_whole_worlds).prog 43).name = ("law" : PySem.Str) := by kernel_rfl
      rw [← e]
      exact hmg0
    obtain ⟨fd, hb, hF⟩ := PG.facts (w := w) (n := 12) KX G hmg c
    exact ⟨K, fd, _, KX, hb, fun H a ns hl hO hS => LD.law_sp hf H a ns hl hO hS, hF⟩
end
section
set_option Elab.async false
set_option linter.all false
set_option maxRecDepth 100000
/-! C01: k01 -/
namespace PG
open LD
theorem k1 : K1 prg where
  b0 := ⟨⟨f0, rfl, rfl, rfl, rfl, rfl, rfl⟩, ⟨f1, rfl, rfl, rfl, rfl, rfl, rfl⟩, ⟨f2, rfl, rfl, rfl, rfl, rfl, rfl⟩, ⟨f3, rfl, rfl, rfl, rfl, rfl, rfl⟩, rfl, rfl⟩
  b1 := ⟨⟨f5, rfl, rfl, rfl, rfl, rfl, rfl⟩, ⟨f6, rfl, rfl, rfl, rfl, rfl, rfl⟩, ⟨f7, rfl, rfl, rfl, rfl, rfl, rfl⟩, ⟨f8, rfl, rfl, rfl, rfl, rfl, rfl⟩, rfl, rfl, rfl, rfl, rfl, rfl⟩
  bw := ⟨⟨f10, rfl, rfl, rfl, rfl, rfl, rfl⟩, ⟨f11, rfl, rfl, rfl, rfl, rfl, rfl⟩, ⟨f12, rfl, rfl, rfl, rfl, rfl, rfl⟩, rfl, rfl, rfl, rfl, rfl, rfl, rfl, rfl, ⟨c0, rfl, rfl, rfl⟩⟩
  br := ⟨⟨f14, rfl, rfl, rfl, rfl, rfl, rfl⟩, ⟨f15, rfl, rfl, rfl, rfl, rfl, rfl⟩, ⟨c0, rfl, rfl, rfl, rfl⟩⟩
  be := ⟨⟨f13, rfl, rfl, rfl, rfl, rfl, rfl⟩, ⟨c0, rfl, rfl, rfl⟩⟩
  bd := ⟨⟨f107, rfl, rfl, rfl, rfl, rfl, rfl⟩, ⟨f108, rfl, rfl, rfl, rfl, rfl, rfl⟩, ⟨f109, rfl, rfl, rfl, rfl, rfl, rfl⟩, ⟨f110, rfl, rfl, rfl, rfl, rfl, rfl⟩⟩
  f111 := ⟨f111, rfl, rfl, rfl, rfl, rfl, rfl⟩
  f112 := ⟨f112, rfl, rfl, rfl, rfl, rfl, rfl⟩
  f113 := ⟨f113, rfl, rfl, rfl, rfl, rfl, rfl⟩
  f114 := ⟨f114, rfl, rfl, rfl, rfl, rfl, rfl⟩
  pat := fun ci e => by
    have : c0 = ci := Option.some.inj e
    subst this
    exact ⟨by decide, by decide⟩
end PG
end
theorem PySem.Challenge.cw_marketden_k01_whole_worlds_holds : PySem.Challenge.rw_marketden_k01_whole_worlds.Holds := by
  exact PG.holds_of fun ns _ => LD.law_true PG.k1 ns
