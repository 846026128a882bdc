import PyProof.Rows.All
import Wide.All
import OpenK.AllK
import Wide.FinOn
import HandS.ForMost
import HandS.ForExc
import HandS.IsInst
import HandS.Small
import HandS.ExcCtx
import HandS.CallSlots
import HandS.Walk
import HandS.Zip
import HandS.TupAny
import HandS.TupMul
import HandS.Flow
import HandS.Deep
import HandS.TupLe
import HandS.Sort
import HandS.SortInts
import HandS.Conv
import HandS.More
import HandS.SetFor
import HandS.Rev
import KE.GoesEnum
import HandS.Defaults
import HandS.Words
import HandS.SortRule
import HandS.NamedTupSort
import PyProof.TupleOfSeq
import HandS.ExcValue
import KE.KSortTup
import HandS.Style
import HandS.Head0
import HandS.Head1
import HandS.Head2
import HandS.HeadEnd
import HandS.HeadHook1
import HandS.HeadHook2
import HandS.DictComp
import HandS.ExcIs
import HandS.Lambda
import PySem.Challenge.RW_chesthours_k65_whole_forfeits_flow
set_option Elab.async false
set_option linter.all false
set_option maxRecDepth 100000
set_option maxHeartbeats 0
noncomputable section
/-! S1: plain data D, how it lies in the abstract heap (Rp), plain results (R), the relation of slots to plain data (Rel), and the plain judgements Pu.. over the hand layer's readings. -/
namespace G
open PySem L2
/-- sizes are told by no reckoning (so that the kernel never counts up to the line) -/
instance fitsLe (n : Nat) : Decidable (n ≤ sizeLine) := Classical.propDecidable _
instance fitsLt (n : Nat) : Decidable (n < sizeLine) := Classical.propDecidable _
instance bigI1 (a : Int) (n : Nat) : Decidable (a < 2 ^ n) := Classical.propDecidable _
instance bigI2 (a : Int) (n : Nat) : Decidable (-(2 ^ n) ≤ a) := Classical.propDecidable _
instance bigI3 (a : Int) (n : Nat) : Decidable (-(2 ^ n) < a) := Classical.propDecidable _
instance bigN1 (a n : Nat) : Decidable (a < 2 ^ n) := Classical.propDecidable _
instance bigN2 (a n : Nat) : Decidable (a ≤ 2 ^ n) := Classical.propDecidable _
instance bigN3 (a : Nat) : Decidable (a < 1073741824) := Classical.propDecidable _

/-- a dict's key -/
inductive DK where
  | i (k : Int) | s (x : Str) | t (ks : List Key)
  deriving DecidableEq
/-- plain data -/
inductive D where
  | non | bl (b : Bool) | int (i : Int) | str (x : Str) | tup (ds : List D) | lst (ds : List D)
  | dic (tk : Bool) (ks : List DK) (ds : List D) | iset (xs : List Int) | fn (n : Str)
  /-- a list that is only read (the script), a tuple of the module -/
  | scr (ds : List D) | ktup (ds : List D)
  /-- a built-in type -/
  | ty (n : String)
def dkK : Key → DK
  | .inl i => .i i
  | .inr x => .s x
structure Gc where
  K : PySem.W.Frag
  mg : Str → Option Value

mutual
inductive Rp (G : Gc) (F : Hp) : D → V → Prop
  | non : Rp G F .non .non
  | bl (b : Bool) : Rp G F (.bl b) (.bl b)
  | int (i : Int) : Rp G F (.int i) (.int i)
  | str (x : Str) : Rp G F (.str x) (.str x)
  | tup {a : Addr} {vs : List V} {ds : List D} : F a = some (.tup vs) → RpL G F ds vs → Rp G F (.tup ds) (.ref a)
  | lst {a : Addr} {vs : List V} {ds : List D} : F a = some (.lst vs) → RpL G F ds vs → Rp G F (.lst ds) (.ref a)
  | scr {a : Addr} {vs : List V} {ds : List D} : SqL G.K F a vs → RpL G F ds vs → Rp G F (.scr ds) (.ref a)
  | ktup {a : Addr} {vs : List V} {ds : List D} : SqT G.K F a vs → RpL G F ds vs → Rp G F (.ktup ds) (.ref a)
  | dicK {a : Addr} {ks : List Key} {vs : List V} {ds : List D} : Rd F a (.dK (ks.zip vs)) → ks.length = vs.length → RpL G F ds vs → Rp G F (.dic false (ks.map dkK) ds) (.ref a)
  | dicT {a : Addr} {ks : List (List Key)} {vs : List V} {ds : List D} : Rd F a (.dT (ks.zip vs)) → ks.length = vs.length → RpL G F ds vs → Rp G F (.dic true (ks.map DK.t) ds) (.ref a)
  | iset {a : Addr} {xs : List Int} : F a = some (.set (fun i => decide (i ∈ xs)) xs.length) → xs.Nodup → Rp G F (.iset xs) (.ref a)
  | fn {n : Str} {a : Addr} : G.mg n = some (.ref a) → Rp G F (.fn n) (.ref a)
  | ty (n : String) : Rp G F (.ty n) (.ty n)
inductive RpL (G : Gc) (F : Hp) : List D → List V → Prop
  | nil : RpL G F [] []
  | cons {d : D} {v : V} {ds : List D} {vs : List V} : Rp G F d v → RpL G F ds vs → RpL G F (d :: ds) (v :: vs)
end

/-- what never is locked -/
def plainO : HO → Bool
  | .lst _ => true
  | .tup _ => true
  | .set _ _ => true
  | _ => false
def isFrz : HO → Bool
  | .frz _ _ => true
  | _ => false
/-- what F knows to be read, F' knows too -/
structure Le0 (F F' : Hp) : Prop where
  rd : ∀ a u, isFrz u = false → Rd F a u → Rd F' a u
  ex : ∀ a u, plainO u = true → F a = some u → F' a = some u
/-- moreover what is locked stays so -/
structure Le (F F' : Hp) : Prop extends Le0 F F' where
  fz : ∀ a o u, F a = some (.frz o u) → F' a = some (.frz o u)
theorem Le.refl (F : Hp) : Le F F := ⟨⟨fun _ _ _ h => h, fun _ _ _ h => h⟩, fun _ _ _ h => h⟩
theorem Le.trans {F F1 F2 : Hp} (a : Le F F1) (b : Le F1 F2) : Le F F2 := ⟨⟨fun x u p h => b.rd x u p (a.rd x u p h), fun x u p h => b.ex x u p (a.ex x u p h)⟩, fun x o u h => b.fz x o u (a.fz x o u h)⟩
theorem Le.of {F F' : Hp} (h : ∀ a u, F a = some u → F' a = some u) : Le F F' := ⟨⟨fun a u _ r => by
  rcases r with r | ⟨o, r⟩
  · exact .inl (h a u r)
  · exact .inr ⟨o, h a _ r⟩, fun a u _ r => h a u r⟩, fun a _ _ r => h a _ r⟩
theorem Le.upd {F : Hp} {a : Addr} {u : HO} (h : F a = none) : Le F (upd F a u) := .of fun b w e => by
  rw [upd_ne (ne_of_none e h)]
  exact e
theorem Le0.l {G : Gc} {F F' : Hp} {a : Addr} {vs : List V} (e : Le0 F F') (h : SqL G.K F a vs) : SqL G.K F' a vs := h.elim (fun q => .inl (e.rd _ _ rfl q)) .inr
theorem Le0.t {G : Gc} {F F' : Hp} {a : Addr} {vs : List V} (e : Le0 F F') (h : SqT G.K F a vs) : SqT G.K F' a vs := h.elim (fun q => .inl (e.rd _ _ rfl q)) .inr
section
variable {G : Gc} {F F' : Hp}
mutual
theorem Rp.mono0 (e : Le0 F F') : ∀ {d : D} {v : V}, Rp G F d v → Rp G F' d v
  | _, _, .non => .non
  | _, _, .bl b => .bl b
  | _, _, .int i => .int i
  | _, _, .str x => .str x
  | _, _, .tup h r => .tup (e.ex _ _ rfl h) (RpL.mono0 e r)
  | _, _, .lst h r => .lst (e.ex _ _ rfl h) (RpL.mono0 e r)
  | _, _, .scr h r => .scr (e.l h) (RpL.mono0 e r)
  | _, _, .ktup h r => .ktup (e.t h) (RpL.mono0 e r)
  | _, _, .dicK h l r => .dicK (e.rd _ _ rfl h) l (RpL.mono0 e r)
  | _, _, .dicT h l r => .dicT (e.rd _ _ rfl h) l (RpL.mono0 e r)
  | _, _, .iset h n => .iset (e.ex _ _ rfl h) n
  | _, _, .fn h => .fn h
  | _, _, .ty n => .ty n
theorem RpL.mono0 (e : Le0 F F') : ∀ {ds : List D} {vs : List V}, RpL G F ds vs → RpL G F' ds vs
  | _, _, .nil => .nil
  | _, _, .cons h r => .cons (Rp.mono0 e h) (RpL.mono0 e r)
end
theorem Rp.mono (e : Le F F') {d : D} {v : V} (h : Rp G F d v) : Rp G F' d v := h.mono0 e.toLe0
theorem RpL.mono (e : Le F F') {ds : List D} {vs : List V} (h : RpL G F ds vs) : RpL G F' ds vs := h.mono0 e.toLe0
theorem RpL.length : ∀ {ds : List D} {vs : List V}, RpL G F ds vs → ds.length = vs.length
  | _, _, .nil => rfl
  | _, _, .cons _ r => congrArg Nat.succ (RpL.length r)
theorem RpL.get : ∀ {ds : List D} {vs : List V} {i : Nat} {d : D}, RpL G F ds vs → ds[i]? = some d → ∃ v, vs[i]? = some v ∧ Rp G F d v
  | _, _, _, _, .nil, e => by simp at e
  | _, _, 0, _, .cons h _, e => by simp at e; subst e; exact ⟨_, rfl, h⟩
  | _, _, i + 1, _, .cons _ r, e => by
    obtain ⟨v, h1, h2⟩ := RpL.get (i := i) r (by simpa using e)
    exact ⟨v, by simpa using h1, h2⟩
theorem RpL.getV : ∀ {ds : List D} {vs : List V} {i : Nat} {v : V}, RpL G F ds vs → vs[i]? = some v → ∃ d, ds[i]? = some d ∧ Rp G F d v
  | _, _, _, _, .nil, e => by simp at e
  | _, _, 0, _, .cons h _, e => by simp at e; subst e; exact ⟨_, rfl, h⟩
  | _, _, i + 1, _, .cons _ r, e => by
    obtain ⟨d, h1, h2⟩ := RpL.getV (i := i) r (by simpa using e)
    exact ⟨d, by simpa using h1, h2⟩
theorem RpL.append : ∀ {ds es : List D} {vs ws : List V}, RpL G F ds vs → RpL G F es ws → RpL G F (ds ++ es) (vs ++ ws)
  | _, _, _, _, .nil, s => s
  | _, _, _, _, .cons h r, s => .cons h (RpL.append r s)
theorem RpL.drop : ∀ {ds : List D} {vs : List V} (n : Nat), RpL G F ds vs → RpL G F (ds.drop n) (vs.drop n)
  | _, _, 0, h => h
  | _, _, _ + 1, .nil => .nil
  | _, _, n + 1, .cons _ r => RpL.drop n r
theorem RpL.take : ∀ {ds : List D} {vs : List V} (n : Nat), RpL G F ds vs → RpL G F (ds.take n) (vs.take n)
  | _, _, 0, _ => .nil
  | _, _, _ + 1, .nil => .nil
  | _, _, n + 1, .cons h r => .cons h (RpL.take n r)
theorem RpL.set : ∀ {ds : List D} {vs : List V} {d : D} {v : V} (i : Nat), RpL G F ds vs → Rp G F d v → RpL G F (ds.set i d) (vs.set i v)
  | _, _, _, _, _, .nil, _ => .nil
  | _, _, _, _, 0, .cons _ r, q => .cons q r
  | _, _, _, _, i + 1, .cons h r, q => .cons h (RpL.set i r q)
theorem RpL.reverse : ∀ {ds : List D} {vs : List V}, RpL G F ds vs → RpL G F ds.reverse vs.reverse
  | _, _, .nil => .nil
  | _, _, .cons h r => by rw [List.reverse_cons, List.reverse_cons]; exact RpL.append (RpL.reverse r) (.cons h .nil)
theorem RpL.ints : ∀ (xs : List Int), RpL G F (xs.map D.int) (xs.map V.int)
  | [] => .nil
  | x :: xs => .cons (.int x) (RpL.ints xs)
theorem RpL.eraseIdx : ∀ {ds : List D} {vs : List V} (i : Nat), RpL G F ds vs → RpL G F (ds.eraseIdx i) (vs.eraseIdx i)
  | _, _, _, .nil => .nil
  | _, _, 0, .cons _ r => r
  | _, _, i + 1, .cons h r => .cons h (RpL.eraseIdx i r)
theorem RpL.insert {ds : List D} {vs : List V} {d : D} {v : V} (i : Nat) (h : RpL G F ds vs) (q : Rp G F d v) : RpL G F (ds.take i ++ d :: ds.drop i) (vs.take i ++ v :: vs.drop i) :=
  RpL.append (RpL.take i h) (.cons q (RpL.drop i h))
end

/-! ### plain results -/
inductive R (α : Type) where
  | ok (a : α) | exc (c : Str) (p : Option (Str × D)) | bad
def R.bind {α β : Type} (r : R α) (f : α → R β) : R β := match r with
  | .ok a => f a
  | .exc c p => .exc c p
  | .bad => .bad
@[simp] theorem R.bind_ok {α β : Type} (a : α) (f : α → R β) : (R.ok a).bind f = f a := rfl
@[simp] theorem R.bind_bad {α β : Type} (f : α → R β) : (R.bad : R α).bind f = .bad := rfl
@[simp] theorem R.bind_exc {α β : Type} (c : Str) (p : Option (Str × D)) (f : α → R β) : (R.exc c p : R α).bind f = .exc c p := rfl
abbrev Env := List (Option D)
/-- how a statement ends -/
inductive Out where
  | nx (ρ : Env) | rt (d : D) | bk (ρ : Env) | ct (ρ : Env) | exc (c : Str) (p : Option (Str × D)) (ρ : Env) | bad

/-! ### slots and plain data -/
/-- an object that this frame alone holds: a list, a dict, a set at a -/
inductive Own (G : Gc) (F H : Hp) : D → Addr → Prop
  | lst {a : Addr} {vs : List V} {ds : List D} : H a = some (.lst vs) → RpL G F ds vs → Own G F H (.lst ds) a
  | dicK {a : Addr} {ks : List Key} {vs : List V} {ds : List D} : H a = some (.dK (ks.zip vs)) → ks.length = vs.length → RpL G F ds vs → Own G F H (.dic false (ks.map dkK) ds) a
  | dicT {a : Addr} {ks : List (List Key)} {vs : List V} {ds : List D} : H a = some (.dT (ks.zip vs)) → ks.length = vs.length → RpL G F ds vs → Own G F H (.dic true (ks.map DK.t) ds) a
  | iset {a : Addr} {xs : List Int} : H a = some (.set (fun i => decide (i ∈ xs)) xs.length) → xs.Nodup → Own G F H (.iset xs) a
theorem Own.there {G : Gc} {F H : Hp} {d : D} {a : Addr} (h : Own G F H d a) : ∃ u, H a = some u := by
  cases h with
  | lst e _ => exact ⟨_, e⟩
  | dicK e _ _ => exact ⟨_, e⟩
  | dicT e _ _ => exact ⟨_, e⟩
  | iset e _ => exact ⟨_, e⟩
theorem Own.mono {G : Gc} {F F' H H' : Hp} {d : D} {a : Addr} (h : Own G F H d a) (e : Le F F') (k : ∀ u, H a = some u → H' a = some u) : Own G F' H' d a := by
  cases h with
  | lst h r => exact .lst (k _ h) (r.mono e)
  | dicK h l r => exact .dicK (k _ h) l (r.mono e)
  | dicT h l r => exact .dicT (k _ h) l (r.mono e)
  | iset h n => exact .iset (k _ h) n
/-- the same object, now one that everybody may read -/
theorem Own.rp {G : Gc} {F H : Hp} {d : D} {a : Addr} {u : HO} (h : Own G F H d a) (hu : H a = some u) (hf : F a = none) : Rp G (upd F a u) d (.ref a) := by
  have e : Le F (upd F a u) := Le.upd hf
  cases h with
  | lst h r => rw [hu] at h; cases h; exact .lst upd_same (r.mono e)
  | dicK h l r => rw [hu] at h; cases h; exact .dicK (.inl upd_same) l (r.mono e)
  | dicT h l r => rw [hu] at h; cases h; exact .dicT (.inl upd_same) l (r.mono e)
  | iset h n => rw [hu] at h; cases h; exact .iset upd_same n

/-- nothing stands there, or a tuple -/
def Gn (H : Hp) (a : Addr) : Prop := H a = none ∨ ∃ xs, H a = some (.tup xs)
theorem Gn.anti {B H : Hp} {a : Addr} (h : ∀ a u, B a = some u → H a = some u) (z : Gn H a) : Gn B a := by
  cases w : B a with
  | none => exact .inl w
  | some u =>
    have e := h a u w
    rcases z with z | ⟨xs, z⟩
    · rw [e] at z; cases z
    · rw [e] at z; cases z; exact .inr ⟨xs, w⟩
theorem Own.gn {G : Gc} {F H : Hp} {d : D} {a : Addr} (h : Own G F H d a) (z : Gn H a) : False := by
  rcases z with z | ⟨xs, z⟩
  · obtain ⟨u, e⟩ := h.there
    rw [e] at z; cases z
  · cases h with
    | lst e _ => rw [e] at z; cases z
    | dicK e _ _ => rw [e] at z; cases z
    | dicT e _ _ => rw [e] at z; cases z
    | iset e _ => rw [e] at z; cases z
/-- B: what the caller's heap held, F0: what was known at the entry, F: what may be read now, H: the heap -/
structure Core (B F0 F H : Hp) : Prop where
  fh : ∀ a u, F a = some u → H a = some u
  bh : ∀ a u, B a = some u → H a = some u
  nf : ∀ a, F a ≠ none → F0 a ≠ none ∨ Gn B a
  f0 : ∀ a, F0 a ≠ none → B a ≠ none
/-- slots σ hold the plain data ρ; those of o are held by this frame alone -/
structure Rel (G : Gc) (B F0 F H : Hp) (o : List Nat) (σ : St) (ρ : Env) : Prop where
  core : Core B F0 F H
  len : σ.length = ρ.length
  sh : ∀ i d, ρ[i]? = some (some d) → i ∉ o → ∃ v, σ[i]? = some (some v) ∧ Rp G F d v
  ow : ∀ i d, ρ[i]? = some (some d) → i ∈ o → ∃ a, σ[i]? = some (some (.ref a)) ∧ Own G F H d a ∧ F a = none ∧ B a = none
  dj : ∀ i j d e a, i ≠ j → i ∈ o → j ∈ o → ρ[i]? = some (some d) → ρ[j]? = some (some e) → σ[i]? = some (some (.ref a)) → σ[j]? = some (some (.ref a)) → False
section
variable {G : Gc} {B F0 F H : Hp} {o : List Nat} {σ : St} {ρ : Env}
/-- a is none of the objects held alone -/
def Apart (o : List Nat) (σ : St) (ρ : Env) (a : Addr) : Prop := ∀ i d, i ∈ o → ρ[i]? = some (some d) → σ[i]? = some (some (.ref a)) → False
/-- the heap and what may be read grow -/
theorem Rel.grow {F' H' : Hp} (r : Rel G B F0 F H o σ ρ) (e : Le F F') (fh : ∀ a u, F' a = some u → H' a = some u) (k : ∀ a u, H a = some u → H' a = some u) (nf : ∀ a, F' a ≠ none → F a ≠ none ∨ Gn H a) : Rel G B F0 F' H' o σ ρ where
  core := ⟨fh, fun a u q => k a u (r.core.bh a u q), fun a q => (nf a q).elim (r.core.nf a) fun z => .inr (z.anti r.core.bh), r.core.f0⟩
  len := r.len
  sh := fun i d h1 h2 => let ⟨v, a, b⟩ := r.sh i d h1 h2; ⟨v, a, b.mono e⟩
  ow := fun i d h1 h2 => by
    obtain ⟨a, q1, q2, q3, q4⟩ := r.ow i d h1 h2
    refine ⟨a, q1, q2.mono e (k a), ?_, q4⟩
    obtain ⟨u, hu⟩ := q2.there
    cases w : F' a with
    | none => rfl
    | some y =>
      rcases nf a (by rw [w]; simp) with z | z
      · exact absurd q3 z
      · exact (q2.gn z).elim
  dj := r.dj
/-- something new is laid, for everybody to read -/
theorem Rel.laid {a : Addr} {u : HO} (r : Rel G B F0 F H o σ ρ) (ha : H a = none) : Le F (upd F a u) ∧ Rel G B F0 (upd F a u) (upd H a u) o σ ρ := by
  have fa : F a = none := by
    cases w : F a with
    | none => rfl
    | some y => rw [r.core.fh a y w] at ha; cases ha
  refine ⟨Le.upd fa, r.grow (Le.upd fa) (fun b w e => ?_) (fun b w e => ?_) fun b e => ?_⟩
  · by_cases hb : b = a
    · subst hb; rw [upd_same] at e ⊢; exact e
    · rw [upd_ne hb] at e ⊢; exact r.core.fh b w e
  · rw [upd_ne (ne_of_none e ha)]; exact e
  · by_cases hb : b = a
    · subst hb; exact .inr (.inl ha)
    · rw [upd_ne hb] at e; exact .inl e
/-- something new is laid that nobody else knows -/
theorem Rel.laidOwn {a : Addr} {u : HO} (r : Rel G B F0 F H o σ ρ) (ha : H a = none) : Rel G B F0 F (upd H a u) o σ ρ ∧ F a = none ∧ B a = none ∧ Apart o σ ρ a := by
  have fa : F a = none := by
    cases w : F a with
    | none => rfl
    | some y => rw [r.core.fh a y w] at ha; cases ha
  have ba : B a = none := by
    cases w : B a with
    | none => rfl
    | some y => rw [r.core.bh a y w] at ha; cases ha
  refine ⟨r.grow (Le.refl F) (fun b w e => ?_) (fun b w e => ?_) fun b e => .inl e, fa, ba, fun i d hi hd hs => ?_⟩
  · have h1 := r.core.fh b w e
    rw [upd_ne (ne_of_none h1 ha)]; exact h1
  · rw [upd_ne (ne_of_none e ha)]; exact e
  · obtain ⟨b, q1, q2, _, _⟩ := r.ow i d hd hi
    rw [hs] at q1; cases q1
    obtain ⟨w, hw⟩ := q2.there
    rw [ha] at hw; cases hw
/-- an object that was held alone (by no slot) may be read by everybody -/
theorem Rel.share {a : Addr} {u : HO} (r : Rel G B F0 F H o σ ρ) (hu : H a = some u) (fa : F a = none) (ba : B a = none) (ap : Apart o σ ρ a) : Le F (upd F a u) ∧ Rel G B F0 (upd F a u) H o σ ρ := by
  have e := Le.upd (u := u) fa
  refine ⟨e, ⟨⟨fun b w q => ?_, r.core.bh, fun b q => ?_, r.core.f0⟩, r.len, fun i d h1 h2 => let ⟨v, x, y⟩ := r.sh i d h1 h2; ⟨v, x, y.mono e⟩, fun i d h1 h2 => ?_, r.dj⟩⟩
  · by_cases hb : b = a
    · subst hb; rw [upd_same] at q; cases q; exact hu
    · rw [upd_ne hb] at q; exact r.core.fh b w q
  · by_cases hb : b = a
    · subst hb; exact .inr (.inl ba)
    · rw [upd_ne hb] at q; exact r.core.nf b q
  · obtain ⟨b, q1, q2, q3, q4⟩ := r.ow i d h1 h2
    have hb : b ≠ a := fun z => ap i d h2 h1 (by rw [← z]; exact q1)
    exact ⟨b, q1, q2.mono e fun _ z => z, by rw [upd_ne hb]; exact q3, q4⟩
/-- a slot's object that was held alone is given to everybody -/
theorem Rel.give {i : Nat} {d : D} (r : Rel G B F0 F H o σ ρ) (hd : ρ[i]? = some (some d)) (hi : i ∈ o) : ∃ F' v, Le F F' ∧ Rel G B F0 F' H (o.filter (· != i)) σ ρ ∧ σ[i]? = some (some v) ∧ Rp G F' d v := by
  obtain ⟨a, q1, q2, q3, q4⟩ := r.ow i d hd hi
  obtain ⟨u, hu⟩ := q2.there
  have mem : ∀ {j}, j ∈ o.filter (· != i) → j ∈ o ∧ j ≠ i := fun {j} h => by
    rw [List.mem_filter] at h; exact ⟨h.1, by simpa using h.2⟩
  have r1 : Rel G B F0 F H (o.filter (· != i)) σ ρ → Apart (o.filter (· != i)) σ ρ a := fun _ j e hj he hs => r.dj j i e d a (mem hj).2 (mem hj).1 hi he hd hs q1
  have e := Le.upd (u := u) q3
  refine ⟨upd F a u, .ref a, e, ⟨⟨fun b w q => ?_, r.core.bh, fun b q => ?_, r.core.f0⟩, r.len, fun j f h1 h2 => ?_, fun j f h1 h2 => ?_, fun j k f g b h1 h2 h3 => r.dj j k f g b h1 (mem h2).1 (mem h3).1⟩, q1, q2.rp hu q3⟩
  · by_cases hb : b = a
    · subst hb; rw [upd_same] at q; cases q; exact hu
    · rw [upd_ne hb] at q; exact r.core.fh b w q
  · by_cases hb : b = a
    · subst hb; exact .inr (.inl q4)
    · rw [upd_ne hb] at q; exact r.core.nf b q
  · by_cases hj : j = i
    · subst hj
      rw [hd] at h1; cases h1
      exact ⟨_, q1, q2.rp hu q3⟩
    · have h3 : j ∉ o := fun z => h2 (List.mem_filter.mpr ⟨z, by simpa using hj⟩)
      obtain ⟨v, x, y⟩ := r.sh j f h1 h3
      exact ⟨v, x, y.mono e⟩
  · obtain ⟨b, x1, x2, x3, x4⟩ := r.ow j f h1 (mem h2).1
    have hb : b ≠ a := fun z => r.dj j i f d a (mem h2).2 (mem h2).1 hi h1 hd (by rw [← z]; exact x1) q1
    exact ⟨b, x1, x2.mono e fun _ z => z, by rw [upd_ne hb]; exact x3, x4⟩
/-- o may shrink to any part (the others are given to everybody) -/
theorem Rel.giveAll : ∀ (l : List Nat) {F : Hp} {o : List Nat}, Rel G B F0 F H o σ ρ → ∃ F', Le F F' ∧ Rel G B F0 F' H (o.filter fun j => !l.contains j) σ ρ
  | [], F, o, r => by
    have e : (o.filter fun j => !([] : List Nat).contains j) = o := by rw [List.filter_eq_self]; intro j _; rfl
    exact ⟨F, Le.refl F, by rw [e]; exact r⟩
  | i :: l, F, o, r => by
    have e : (o.filter fun j => !(i :: l).contains j) = ((o.filter (· != i)).filter fun j => !l.contains j) := by
      rw [List.filter_filter]
      congr 1
      funext j
      simp only [List.contains_cons]
      cases h1 : (j == i) <;> cases h2 : l.contains j <;> simp [bne, h1]
    rw [e]
    have key : ∃ F1, Le F F1 ∧ Rel G B F0 F1 H (o.filter (· != i)) σ ρ := by
      by_cases hi : i ∈ o
      · cases hρ : ρ[i]? with
        | some q =>
          cases q with
          | some d =>
            obtain ⟨F1, v, e1, r1, _, _⟩ := r.give hρ hi
            exact ⟨F1, e1, r1⟩
          | none =>
            have mem : ∀ {j}, j ∈ o.filter (· != i) → j ∈ o := fun {j} h => (List.mem_filter.mp h).1
            refine ⟨F, Le.refl F, ⟨r.core, r.len, fun j f h1 h2 => r.sh j f h1 fun z => h2 (List.mem_filter.mpr ⟨z, ?_⟩), fun j f h1 h2 => r.ow j f h1 (mem h2), fun j k f g b h1 h2 h3 => r.dj j k f g b h1 (mem h2) (mem h3)⟩⟩
            have : j ≠ i := fun q => by rw [q, hρ] at h1; cases h1
            simpa using this
        | none =>
          have mem : ∀ {j}, j ∈ o.filter (· != i) → j ∈ o := fun {j} h => (List.mem_filter.mp h).1
          refine ⟨F, Le.refl F, ⟨r.core, r.len, fun j f h1 h2 => r.sh j f h1 fun z => h2 (List.mem_filter.mpr ⟨z, ?_⟩), fun j f h1 h2 => r.ow j f h1 (mem h2), fun j k f g b h1 h2 h3 => r.dj j k f g b h1 (mem h2) (mem h3)⟩⟩
          have : j ≠ i := fun q => by rw [q, hρ] at h1; cases h1
          simpa using this
      · have e2 : o.filter (· != i) = o := by rw [List.filter_eq_self]; intro j hj; have : j ≠ i := fun q => hi (q ▸ hj); simpa using this
        exact ⟨F, Le.refl F, by rw [e2]; exact r⟩
    obtain ⟨F1, e1, r1⟩ := key
    obtain ⟨F2, e2, r2⟩ := Rel.giveAll l r1
    exact ⟨F2, e1.trans e2, r2⟩
theorem Rel.bare (r : Rel G B F0 F H o σ ρ) : ∃ F', Le F F' ∧ Rel G B F0 F' H [] σ ρ := by
  obtain ⟨F', e, r'⟩ := Rel.giveAll o r
  have z : (o.filter fun j => !o.contains j) = [] := by
    rw [List.filter_eq_nil_iff]
    intro j hj
    simp [hj]
  rw [z] at r'
  exact ⟨F', e, r'⟩
/-- a slot takes a value -/
theorem Rel.set {i : Nat} {d : D} {v : V} (r : Rel G B F0 F H o σ ρ) (h : Rp G F d v) : Rel G B F0 F H (o.filter (· != i)) (σ.set i (some v)) (ρ.set i (some d)) := by
  have mem : ∀ {j}, j ∈ o.filter (· != i) → j ∈ o ∧ j ≠ i := fun {j} h => by
    rw [List.mem_filter] at h; exact ⟨h.1, by simpa using h.2⟩
  refine ⟨r.core, by rw [List.length_set, List.length_set]; exact r.len, fun j f h1 h2 => ?_, fun j f h1 h2 => ?_, fun j k f g b h1 h2 h3 h4 h5 h6 h7 => ?_⟩
  · by_cases hj : i = j
    · subst hj
      have hl : i < ρ.length := by
        rcases Nat.lt_or_ge i ρ.length with q | q
        · exact q
        · rw [List.getElem?_eq_none (by rw [List.length_set]; exact q)] at h1; cases h1
      rw [List.getElem?_set_self hl] at h1
      cases h1
      exact ⟨v, List.getElem?_set_self (by rw [r.len]; exact hl), h⟩
    · rw [List.getElem?_set_ne hj] at h1
      have h3 : j ∉ o := fun z => h2 (List.mem_filter.mpr ⟨z, by simpa using fun q : j = i => hj q.symm⟩)
      rw [List.getElem?_set_ne hj]
      exact r.sh j f h1 h3
  · have hj : i ≠ j := fun q => (mem h2).2 q.symm
    rw [List.getElem?_set_ne hj] at h1 ⊢
    exact r.ow j f h1 (mem h2).1
  · have hj : i ≠ j := fun q => (mem h2).2 q.symm
    have hk : i ≠ k := fun q => (mem h3).2 q.symm
    rw [List.getElem?_set_ne hj] at h4 h6
    rw [List.getElem?_set_ne hk] at h5 h7
    exact r.dj j k f g b h1 (mem h2).1 (mem h3).1 h4 h5 h6 h7
/-- a slot takes an object that nobody else holds -/
theorem Rel.setOwn {i : Nat} {d : D} {a : Addr} (r : Rel G B F0 F H o σ ρ) (h : Own G F H d a) (fa : F a = none) (ba : B a = none) (ap : Apart o σ ρ a) : Rel G B F0 F H (i :: o.filter (· != i)) (σ.set i (some (.ref a))) (ρ.set i (some d)) := by
  have mem : ∀ {j}, j ∈ o.filter (· != i) → j ∈ o ∧ j ≠ i := fun {j} h => by
    rw [List.mem_filter] at h; exact ⟨h.1, by simpa using h.2⟩
  have mem2 : ∀ {j}, j ∈ i :: o.filter (· != i) → j ≠ i → j ∈ o := fun {j} h hn => by
    rcases List.mem_cons.mp h with q | q
    · exact absurd q hn
    · exact (mem q).1
  have lt : ∀ {f : D}, (ρ.set i (some d))[i]? = some (some f) → i < ρ.length ∧ f = d := fun {f} h1 => by
    have hl : i < ρ.length := by
      rcases Nat.lt_or_ge i ρ.length with q | q
      · exact q
      · rw [List.getElem?_eq_none (by rw [List.length_set]; exact q)] at h1; cases h1
    rw [List.getElem?_set_self hl] at h1
    cases h1
    exact ⟨hl, rfl⟩
  have at_ : i < ρ.length → (σ.set i (some (V.ref a)))[i]? = some (some (.ref a)) := fun hl => List.getElem?_set_self (by rw [r.len]; exact hl)
  refine ⟨r.core, by rw [List.length_set, List.length_set]; exact r.len, fun j f h1 h2 => ?_, fun j f h1 h2 => ?_, fun j k f g b h1 h2 h3 h4 h5 h6 h7 => ?_⟩
  · have hj : i ≠ j := fun q => h2 (by rw [q]; exact List.mem_cons_self)
    rw [List.getElem?_set_ne hj] at h1 ⊢
    exact r.sh j f h1 fun z => h2 (List.mem_cons_of_mem _ (List.mem_filter.mpr ⟨z, by simpa using fun q : j = i => hj q.symm⟩))
  · by_cases hj : j = i
    · subst hj
      obtain ⟨hl, rfl⟩ := lt h1
      exact ⟨a, at_ hl, h, fa, ba⟩
    · rw [List.getElem?_set_ne (Ne.symm hj)] at h1 ⊢
      exact r.ow j f h1 (mem2 h2 hj)
  · by_cases hj : j = i
    · subst hj
      have hk : k ≠ j := fun q => h1 q.symm
      rw [List.getElem?_set_ne (Ne.symm hk)] at h5 h7
      rw [at_ (lt h4).1] at h6
      cases h6
      exact ap k g (mem2 h3 hk) h5 h7
    · rw [List.getElem?_set_ne (Ne.symm hj)] at h4 h6
      by_cases hk : k = i
      · subst hk
        rw [at_ (lt h5).1] at h7
        cases h7
        exact ap j f (mem2 h2 hj) h4 h6
      · rw [List.getElem?_set_ne (Ne.symm hk)] at h5 h7
        exact r.dj j k f g b h1 (mem2 h2 hj) (mem2 h3 hk) h4 h5 h6 h7
/-- a slot's own object changes -/
theorem Rel.mut {i : Nat} {d e : D} {a : Addr} {u : HO} (r : Rel G B F0 F H o σ ρ) (hi : i ∈ o) (hd : ρ[i]? = some (some d)) (hs : σ[i]? = some (some (.ref a))) (h : Own G F (upd H a u) e a) : Rel G B F0 F (upd H a u) o σ (ρ.set i (some e)) := by
  obtain ⟨b, q1, q2, q3, q4⟩ := r.ow i d hd hi
  rw [hs] at q1; cases q1
  have hl : i < ρ.length := by
    rcases Nat.lt_or_ge i ρ.length with q | q
    · exact q
    · rw [List.getElem?_eq_none q] at hd; cases hd
  refine ⟨⟨fun c w q => ?_, fun c w q => ?_, r.core.nf, r.core.f0⟩, by rw [List.length_set]; exact r.len, fun j f h1 h2 => ?_, fun j f h1 h2 => ?_, fun j k f g c h1 h2 h3 h4 h5 h6 h7 => ?_⟩
  · rw [upd_ne (ne_of_none q q3)]; exact r.core.fh c w q
  · rw [upd_ne (ne_of_none q q4)]; exact r.core.bh c w q
  · have hj : i ≠ j := fun q => h2 (q ▸ hi)
    rw [List.getElem?_set_ne hj] at h1
    exact r.sh j f h1 h2
  · by_cases hj : j = i
    · subst hj
      rw [List.getElem?_set_self hl] at h1
      cases h1
      exact ⟨a, hs, h, q3, q4⟩
    · rw [List.getElem?_set_ne (Ne.symm hj)] at h1
      obtain ⟨c, x1, x2, x3, x4⟩ := r.ow j f h1 h2
      have hc : c ≠ a := fun z => r.dj j i f d a hj h2 hi h1 hd (by rw [← z]; exact x1) hs
      exact ⟨c, x1, x2.mono (Le.refl F) fun w q => by rw [upd_ne hc]; exact q, x3, x4⟩
  · have old : ∀ {m : Nat} {x : D}, m ∈ o → (ρ.set i (some e))[m]? = some (some x) → ∃ y, ρ[m]? = some (some y) := fun {m x} hm hx => by
      by_cases q : m = i
      · subst q; exact ⟨d, hd⟩
      · rw [List.getElem?_set_ne (Ne.symm q)] at hx; exact ⟨x, hx⟩
    obtain ⟨f', h4'⟩ := old h2 h4
    obtain ⟨g', h5'⟩ := old h3 h5
    exact r.dj j k f' g' c h1 h2 h3 h4' h5' h6 h7
/-- a slot is forgotten -/
theorem Rel.forget {i : Nat} (r : Rel G B F0 F H o σ ρ) (x : Option V) : Rel G B F0 F H o (σ.set i x) (ρ.set i none) := by
  have lt : ∀ {j : Nat} {f : D}, (ρ.set i none)[j]? = some (some f) → i ≠ j ∧ ρ[j]? = some (some f) := fun {j f} h => by
    by_cases q : i = j
    · subst q
      rcases Nat.lt_or_ge i ρ.length with l | l
      · rw [List.getElem?_set_self l] at h; cases h
      · rw [List.getElem?_eq_none (by rw [List.length_set]; exact l)] at h; cases h
    · rw [List.getElem?_set_ne q] at h; exact ⟨q, h⟩
  refine ⟨r.core, by rw [List.length_set, List.length_set]; exact r.len, fun j f h1 h2 => ?_, fun j f h1 h2 => ?_, fun j k f g c h1 h2 h3 h4 h5 h6 h7 => ?_⟩
  · obtain ⟨q, h⟩ := lt h1
    rw [List.getElem?_set_ne q]
    exact r.sh j f h h2
  · obtain ⟨q, h⟩ := lt h1
    rw [List.getElem?_set_ne q]
    exact r.ow j f h h2
  · obtain ⟨q4, e4⟩ := lt h4
    obtain ⟨q5, e5⟩ := lt h5
    rw [List.getElem?_set_ne q4] at h6
    rw [List.getElem?_set_ne q5] at h7
    exact r.dj j k f g c h1 h2 h3 e4 e5 h6 h7
/-- less is known -/
theorem Rel.less {ρ' : Env} (r : Rel G B F0 F H o σ ρ) (hl : ρ'.length = ρ.length) (h : ∀ (i : Nat) (d : D), ρ'[i]? = some (some d) → ρ[i]? = some (some d)) : Rel G B F0 F H o σ ρ' :=
  ⟨r.core, r.len.trans hl.symm, fun i d q => r.sh i d (h i d q), fun i d q => r.ow i d (h i d q), fun i j d e a n h1 h2 h3 h4 => r.dj i j d e a n h1 h2 (h i d h3) (h j e h4)⟩
end
end G
/-! S2: the plain judgements (ME, MT, MA, MS): a piece of syntax, its reading, and the plain function that it computes. -/
namespace G
open PySem L2

/-- an exception of the own class c, with at most one field -/
def ExcRep (G : Gc) (F H : Hp) (c : Str) (p : Option (Str × D)) (cls : Value) (dd : Option Addr) : Prop :=
  ∃ C, G.mg c = some (.ref C) ∧ cls = .ref C ∧ match p with
    | none => dd = none
    | some (f, d) => ∃ a v, dd = some a ∧ H a = some (.xd [(f, v)]) ∧ Rp G F d v
/-- an expression only lays new things -/
structure Gr (F H F' H' : Hp) : Prop where
  le : Le F F'
  same : Same H H'
theorem Gr.refl (F H : Hp) : Gr F H F H := ⟨Le.refl F, Same.refl H⟩
theorem Gr.trans {F H F1 H1 F2 H2 : Hp} (a : Gr F H F1 H1) (b : Gr F1 H1 F2 H2) : Gr F H F2 H2 := ⟨a.le.trans b.le, a.same.trans b.same⟩
def ExcEnd (G : Gc) (W : WX) (B F0 F : Hp) (σ : L2.St) (ρ : Env) (c : Str) (p : Option (Str × D)) : Prop :=
  ∀ F' H' cls dd, Le F F' → Rel G B F0 F' H' [] σ ρ → ExcRep G F' H' c p cls dd → W cls dd σ H'
/-- what a plain result asks of the end: k where it is a value -/
def Res (G : Gc) (W : WX) (B F0 F H : Hp) (o : List Nat) (σ : L2.St) (ρ : Env) {α : Type} (k : α → Hp → Hp → Prop) : R α → Prop
  | .ok a => ∀ F' H', Gr F H F' H' → Rel G B F0 F' H' o σ ρ → k a F' H'
  | .exc c p => ExcEnd G W B F0 F σ ρ c p
  | .bad => False
section
variable {G : Gc} {W : WX} {B F0 F F1 H H1 : Hp} {o o1 o2 : List Nat} {σ : L2.St} {ρ : Env} {α β : Type} {k k' : α → Hp → Hp → Prop}
theorem Res.mono {r : R α} (e : Gr F H F1 H1) (h : Res G W B F0 F H o σ ρ k r) : Res G W B F0 F1 H1 o σ ρ k r := by
  cases r with
  | ok a => exact fun F' H' le rel => h F' H' (e.trans le) rel
  | exc c p => exact fun F' H' cls dd le rel x => h F' H' cls dd (e.le.trans le) rel x
  | bad => exact h
theorem Res.imp {r : R α} (h : Res G W B F0 F H o σ ρ k r) (hk : ∀ a F' H', Gr F H F' H' → Rel G B F0 F' H' o σ ρ → k a F' H' → k' a F' H') : Res G W B F0 F H o σ ρ k' r := by
  cases r with
  | ok a => exact fun F' H' le rel => hk a F' H' le rel (h F' H' le rel)
  | exc c p => exact h
  | bad => exact h
theorem Res.bnd {r : R α} {f : α → R β} {k2 : β → Hp → Hp → Prop} (h : Res G W B F0 F H o2 σ ρ k2 (r.bind f)) : Res G W B F0 F H o1 σ ρ (fun a F' H' => Res G W B F0 F' H' o2 σ ρ k2 (f a)) r := by
  cases r with
  | ok a => exact fun F' H' le _ => Res.mono le h
  | exc c p => exact h
  | bad => exact h
end
abbrev kE (G : Gc) (Q : VK) : D → Hp → Hp → Prop := fun d F' H' => ∀ v, Rp G F' d v → Q v H'
abbrev kT (Q : Bool → Hp → Prop) : Bool → Hp → Hp → Prop := fun b _ H' => Q b H'
abbrev kA (G : Gc) (Q : List V → Hp → Prop) : List D → Hp → Hp → Prop := fun ds F' H' => ∀ vs, RpL G F' ds vs → Q vs H'
abbrev kO (G : Gc) (B : Hp) (o : List Nat) (σ : L2.St) (ρ : Env) (Q : VK) : D → Hp → Hp → Prop := fun d F' H' => ∀ a, Own G F' H' d a → F' a = none → B a = none → Apart o σ ρ a → Q (.ref a) H'
def PuE (G : Gc) (W : WX) (o : List Nat) (t : TE) (o' : List Nat) (m : Env → R D) : Prop :=
  ∀ {B F0 F H : Hp} {σ : L2.St} {ρ : Env} {Q : VK}, Rel G B F0 F H o σ ρ → Res G W B F0 F H o' σ ρ (kE G Q) (m ρ) → t σ H Q
/-- a new object that nobody else holds -/
def PuO (G : Gc) (W : WX) (o : List Nat) (t : TE) (o' : List Nat) (m : Env → R D) : Prop :=
  ∀ {B F0 F H : Hp} {σ : L2.St} {ρ : Env} {Q : VK}, Rel G B F0 F H o σ ρ → Res G W B F0 F H o' σ ρ (kO G B o' σ ρ Q) (m ρ) → t σ H Q
def PuT (G : Gc) (W : WX) (o : List Nat) (t : TT) (o' : List Nat) (m : Env → R Bool) : Prop :=
  ∀ {B F0 F H : Hp} {σ : L2.St} {ρ : Env} {Q : Bool → Hp → Prop}, Rel G B F0 F H o σ ρ → Res G W B F0 F H o' σ ρ (kT Q) (m ρ) → t σ H Q
def PuA (G : Gc) (W : WX) (o : List Nat) (t : TA) (o' : List Nat) (m : Env → R (List D)) : Prop :=
  ∀ {B F0 F H : Hp} {σ : L2.St} {ρ : Env} {Q : List V → Hp → Prop}, Rel G B F0 F H o σ ρ → Res G W B F0 F H o' σ ρ (kA G Q) (m ρ) → t σ H Q
/-- what a statement's plain end asks -/
def Post (G : Gc) (W : WX) (B F0 F : Hp) (oL o' : List Nat) (X : Ends) : Out → Prop
  | .nx ρ' => ∀ F' H' σ', Le F F' → Rel G B F0 F' H' o' σ' ρ' → X.nx σ' H'
  | .rt d => ∀ F' H' v, Le F F' → Core B F0 F' H' → Rp G F' d v → X.rt v H'
  | .bk ρ' => ∀ F' H' σ', Le F F' → Rel G B F0 F' H' oL σ' ρ' → X.bk σ' H'
  | .ct ρ' => ∀ F' H' σ', Le F F' → Rel G B F0 F' H' oL σ' ρ' → X.ct σ' H'
  | .exc c p ρ' => ∀ F' H' σ' cls dd, Le F F' → Rel G B F0 F' H' [] σ' ρ' → ExcRep G F' H' c p cls dd → W cls dd σ' H'
  | .bad => False
def PuS (G : Gc) (W : WX) (oL o : List Nat) (t : TS) (o' : List Nat) (m : Env → Out) : Prop :=
  ∀ {B F0 F H : Hp} {σ : L2.St} {ρ : Env} {X : Ends}, Rel G B F0 F H o σ ρ → Post G W B F0 F oL o' X (m ρ) → t X σ H
/-- a two-place operation, a one-place one, a call on values -/
def PuR2 (G : Gc) (W : WX) (r : R2) (f : D → D → R D) : Prop :=
  ∀ {B F0 F H : Hp} {o : List Nat} {σ : L2.St} {ρ : Env} {Q : VK} {v w : V} {a b : D}, Rel G B F0 F H o σ ρ → Rp G F a v → Rp G F b w → Res G W B F0 F H o σ ρ (kE G Q) (f a b) → r v w H Q
def PuR1 (G : Gc) (W : WX) (r : V → Hp → VK → Prop) (f : D → R D) : Prop :=
  ∀ {B F0 F H : Hp} {o : List Nat} {σ : L2.St} {ρ : Env} {Q : VK} {v : V} {a : D}, Rel G B F0 F H o σ ρ → Rp G F a v → Res G W B F0 F H o σ ρ (kE G Q) (f a) → r v H Q
def PuC (G : Gc) (W : WX) (r : List V → Hp → VK → Prop) (f : List D → R D) : Prop :=
  ∀ {B F0 F H : Hp} {o : List Nat} {σ : L2.St} {ρ : Env} {Q : VK} {vs : List V} {ds : List D}, Rel G B F0 F H o σ ρ → RpL G F ds vs → Res G W B F0 F H o σ ρ (kE G Q) (f ds) → r vs H Q
/-- a call on values that gives a new object -/
def PuCO (G : Gc) (W : WX) (r : List V → Hp → VK → Prop) (f : List D → R D) : Prop :=
  ∀ {B F0 F H : Hp} {o : List Nat} {σ : L2.St} {ρ : Env} {Q : VK} {vs : List V} {ds : List D}, Rel G B F0 F H o σ ρ → RpL G F ds vs → Res G W B F0 F H o σ ρ (kO G B o σ ρ Q) (f ds) → r vs H Q

/-! ### the plain functions -/
def mVar (i : Nat) : Env → R D := fun ρ => match ρ[i]? with
  | some (some d) => .ok d
  | _ => .bad
def mC (d : D) : Env → R D := fun _ => .ok d
def m2 (f : D → D → R D) (a b : Env → R D) : Env → R D := fun ρ => (a ρ).bind fun x => (b ρ).bind fun y => f x y
def m1 (f : D → R D) (a : Env → R D) : Env → R D := fun ρ => (a ρ).bind f
def mNil : Env → R (List D) := fun _ => .ok []
def mCons (a : Env → R D) (r : Env → R (List D)) : Env → R (List D) := fun ρ => (a ρ).bind fun x => (r ρ).bind fun xs => .ok (x :: xs)
def mCall (f : List D → R D) (a : Env → R (List D)) : Env → R D := fun ρ => (a ρ).bind f
def D.toB : D → R Bool
  | .bl b => .ok b
  | _ => .bad
def mB (a : Env → R D) : Env → R Bool := fun ρ => (a ρ).bind D.toB
def mOfB (a : Env → R Bool) : Env → R D := fun ρ => (a ρ).bind fun b => .ok (.bl b)
def mAnd (a b : Env → R Bool) : Env → R Bool := fun ρ => (a ρ).bind fun x => bif x then b ρ else .ok false
def mOr (a b : Env → R Bool) : Env → R Bool := fun ρ => (a ρ).bind fun x => bif x then .ok true else b ρ
def mNot (a : Env → R Bool) : Env → R Bool := fun ρ => (a ρ).bind fun x => .ok (!x)
def mAndV (a b : Env → R D) : Env → R D := fun ρ => (a ρ).bind fun x => x.toB.bind fun c => bif c then b ρ else .ok (.bl false)
def mOrV (a b : Env → R D) : Env → R D := fun ρ => (a ρ).bind fun x => x.toB.bind fun c => bif c then .ok (.bl true) else b ρ
def mNotV (a : Env → R D) : Env → R D := fun ρ => (a ρ).bind fun x => x.toB.bind fun c => .ok (.bl (!c))
def mIte (c : Env → R Bool) (a b : Env → R D) : Env → R D := fun ρ => (c ρ).bind fun x => bif x then a ρ else b ρ
def mChain (f g : D → D → R D) (a b c : Env → R D) : Env → R D := fun ρ => (a ρ).bind fun x => (b ρ).bind fun y => (f x y).bind fun z => z.toB.bind fun k => bif k then (c ρ).bind fun w => g y w else .ok (.bl false)
/-- a statement's function that starts with an expression -/
def oBind {α : Type} (r : R α) (ρ : Env) (f : α → Out) : Out := match r with
  | .ok a => f a
  | .exc c p => .exc c p ρ
  | .bad => .bad
@[simp] theorem oBind_ok {α : Type} (a : α) (ρ : Env) (f : α → Out) : oBind (.ok a) ρ f = f a := rfl
@[simp] theorem oBind_bad {α : Type} (ρ : Env) (f : α → Out) : oBind (.bad : R α) ρ f = .bad := rfl
@[simp] theorem oBind_exc {α : Type} (c : Str) (p : Option (Str × D)) (ρ : Env) (f : α → Out) : oBind (.exc c p : R α) ρ f = .exc c p ρ := rfl
def mNext : Env → Out := fun ρ => .nx ρ
def Out.seq (r : Out) (f : Env → Out) : Out := match r with
  | .nx ρ => f ρ
  | x => x
@[simp] theorem Out.seq_nx (ρ : Env) (f : Env → Out) : (Out.nx ρ).seq f = f ρ := rfl
@[simp] theorem Out.seq_rt (d : D) (f : Env → Out) : (Out.rt d).seq f = .rt d := rfl
@[simp] theorem Out.seq_bk (ρ : Env) (f : Env → Out) : (Out.bk ρ).seq f = .bk ρ := rfl
@[simp] theorem Out.seq_ct (ρ : Env) (f : Env → Out) : (Out.ct ρ).seq f = .ct ρ := rfl
@[simp] theorem Out.seq_exc (c : Str) (p : Option (Str × D)) (ρ : Env) (f : Env → Out) : (Out.exc c p ρ).seq f = .exc c p ρ := rfl
@[simp] theorem Out.seq_bad (f : Env → Out) : Out.bad.seq f = .bad := rfl
def mSeq (a b : Env → Out) : Env → Out := fun ρ => (a ρ).seq b
def mSet (i : Nat) (a : Env → R D) : Env → Out := fun ρ => oBind (a ρ) ρ fun d => .nx (ρ.set i (some d))
def mDrop (a : Env → R D) : Env → Out := fun ρ => oBind (a ρ) ρ fun _ => .nx ρ
def mRet (a : Env → R D) : Env → Out := fun ρ => oBind (a ρ) ρ fun d => .rt d
def mRetN : Env → Out := fun _ => .rt .non
def mIf (c : Env → R Bool) (a b : Env → Out) : Env → Out := fun ρ => oBind (c ρ) ρ fun x => bif x then a ρ else b ρ
def mBrk : Env → Out := fun ρ => .bk ρ
def mCnt : Env → Out := fun ρ => .ct ρ
def mBad : Env → Out := fun _ => .bad

section
variable {G : Gc} {W : WX} {o o1 o2 o3 oL : List Nat} {ta tb tc : TE} {ma mb mc : Env → R D} {t u : TT} {mt mu : Env → R Bool} {ts : TA} {ms : Env → R (List D)}
theorem Rel.at {B F0 F H : Hp} {σ : L2.St} {ρ : Env} {i : Nat} {d : D} (r : Rel G B F0 F H o σ ρ) (hd : ρ[i]? = some (some d)) (hi : i ∉ o) : ∃ v, σ[i]? = some (some v) ∧ Rp G F d v := r.sh i d hd hi
theorem PuE.var {i : Nat} (hi : i ∉ o) : PuE G W o (tVar i) o (mVar i) := by
  intro B F0 F H σ ρ Q r h
  unfold mVar at h
  split at h
  · rename_i d hd
    obtain ⟨v, h1, h2⟩ := r.at hd hi
    exact ⟨v, h1, h F H (Gr.refl F H) r v h2⟩
  · exact h.elim
/-- the object of a slot of its own is read as a value: from then on everybody holds it -/
theorem PuE.give {i : Nat} (hi : i ∈ o) : PuE G W o (tVar i) (o.filter (· != i)) (mVar i) := by
  intro B F0 F H σ ρ Q r h
  unfold mVar at h
  split at h
  · rename_i d hd
    obtain ⟨F', v, e, r', h1, h2⟩ := r.give hd hi
    exact ⟨v, h1, h F' H ⟨e, Same.refl H⟩ r' v h2⟩
  · exact h.elim
theorem PuE.c {d : D} {v : V} (h : ∀ F, Rp G F d v) : PuE G W o (tC v) o (mC d) := fun {_ _ F H _ _ _} r q => q F H (Gr.refl F H) r v (h F)
theorem PuE.op2 {r : R2} {f : D → D → R D} (hr : PuR2 G W r f) (ha : PuE G W o ta o1 ma) (hb : PuE G W o1 tb o2 mb) : PuE G W o (tOp r ta tb) o2 (m2 f ma mb) := by
  intro B F0 F H σ ρ Q rel h
  refine ha rel ((Res.bnd h).imp fun a F1 H1 e1 r1 h1 v rv => ?_)
  refine hb r1 ((Res.bnd h1).imp fun b F2 H2 e2 r2 h2 w rw => ?_)
  exact hr r2 (rv.mono e2.le) rw h2
theorem PuE.op1 {r : V → Hp → VK → Prop} {f : D → R D} (hr : PuR1 G W r f) (ha : PuE G W o ta o1 ma) : PuE G W o (tUn r ta) o1 (m1 f ma) := by
  intro B F0 F H σ ρ Q rel h
  exact ha rel ((Res.bnd h).imp fun a F1 H1 e1 r1 h1 v rv => hr r1 rv h1)
theorem PuA.nil : PuA G W o tNil o mNil := fun {_ _ F H _ _ _} r q => q F H (Gr.refl F H) r [] .nil
theorem PuA.cons (ha : PuE G W o ta o1 ma) (hs : PuA G W o1 ts o2 ms) : PuA G W o (tCons ta ts) o2 (mCons ma ms) := by
  intro B F0 F H σ ρ Q rel h
  refine ha rel ((Res.bnd h).imp fun a F1 H1 e1 r1 h1 v rv => ?_)
  refine hs r1 ((Res.bnd h1).imp fun as F2 H2 e2 r2 h2 vs rvs => ?_)
  exact h2 F2 H2 (Gr.refl F2 H2) r2 (v :: vs) (.cons (rv.mono e2.le) rvs)
theorem PuE.cb {r : List V → Hp → VK → Prop} {f : List D → R D} (hr : PuC G W r f) (hs : PuA G W o ts o1 ms) : PuE G W o (tCB r ts) o1 (mCall f ms) := by
  intro B F0 F H σ ρ Q rel h
  exact hs rel ((Res.bnd h).imp fun a F1 H1 e1 r1 h1 v rv => hr r1 rv h1)
theorem PuO.cb {r : List V → Hp → VK → Prop} {f : List D → R D} (hr : PuCO G W r f) (hs : PuA G W o ts o1 ms) : PuO G W o (tCB r ts) o1 (mCall f ms) := by
  intro B F0 F H σ ρ Q rel h
  exact hs rel ((Res.bnd h).imp fun a F1 H1 e1 r1 h1 v rv => hr r1 rv h1)
/-- a new object as a plain value -/
theorem PuO.e (ha : PuO G W o ta o1 ma) : PuE G W o ta o1 ma := by
  intro B F0 F H σ ρ Q rel h
  refine ha rel ?_
  cases hm : ma ρ with
  | ok d =>
    rw [hm] at h
    intro F1 H1 e1 r1 a ow fa ba ap
    obtain ⟨x, hx⟩ := ow.there
    obtain ⟨e2, r2⟩ := r1.share hx fa ba ap
    exact h _ _ (e1.trans ⟨e2, Same.refl _⟩) r2 _ (ow.rp hx fa)
  | exc c p => rw [hm] at h; exact h
  | bad => rw [hm] at h; exact h
/-! ### tests -/
theorem PuT.val (ha : PuE G W o ta o1 ma) : PuT G W o (tTest ta) o1 (mB ma) := by
  intro B F0 F H σ ρ Q rel h
  refine ha rel ((Res.bnd h).imp fun a F1 H1 e1 r1 h1 v rv => ?_)
  cases rv with
  | bl b => exact ⟨b, rfl, h1 F1 H1 (Gr.refl F1 H1) r1⟩
  | _ => exact h1.elim
theorem PuT.and (h1 : PuT G W o t o1 mt) (h2 : PuT G W o1 u o1 mu) : PuT G W o (tAnd t u) o1 (mAnd mt mu) := by
  intro B F0 F H σ ρ Q rel h
  refine h1 rel ((Res.bnd h).imp fun a F1 H1 e1 r1 q => ?_)
  cases a with
  | true => exact h2 r1 q
  | false => exact q F1 H1 (Gr.refl F1 H1) r1
theorem PuT.or (h1 : PuT G W o t o1 mt) (h2 : PuT G W o1 u o1 mu) : PuT G W o (tOr t u) o1 (mOr mt mu) := by
  intro B F0 F H σ ρ Q rel h
  refine h1 rel ((Res.bnd h).imp fun a F1 H1 e1 r1 q => ?_)
  cases a with
  | true => exact q F1 H1 (Gr.refl F1 H1) r1
  | false => exact h2 r1 q
theorem PuT.not (h1 : PuT G W o t o1 mt) : PuT G W o (tNot t) o1 (mNot mt) := by
  intro B F0 F H σ ρ Q rel h
  exact h1 rel ((Res.bnd h).imp fun a F1 H1 e1 r1 q => q F1 H1 (Gr.refl F1 H1) r1)
theorem PuE.ite (h1 : PuT G W o t o1 mt) (ha : PuE G W o1 ta o2 ma) (hb : PuE G W o1 tb o2 mb) : PuE G W o (tIf t ta tb) o2 (mIte mt ma mb) := by
  intro B F0 F H σ ρ Q rel h
  refine h1 rel ((Res.bnd h).imp fun a F1 H1 e1 r1 q => ?_)
  cases a with
  | true => exact ha r1 q
  | false => exact hb r1 q
/-- and, or of truth values, as a value -/
theorem PuE.andV (ha : PuE G W o ta o1 ma) (hb : PuE G W o1 tb o1 mb) : PuE G W o (tAndV ta tb) o1 (mAndV ma mb) := by
  intro B F0 F H σ ρ Q rel h
  refine ha rel ((Res.bnd h).imp fun a F1 H1 e1 r1 q v rv => ?_)
  cases rv with
  | bl c =>
    refine ⟨c, rfl, ?_⟩
    cases c with
    | true => exact hb r1 q
    | false => exact q F1 H1 (Gr.refl F1 H1) r1 _ (.bl false)
  | _ => exact q.elim
theorem PuE.orV (ha : PuE G W o ta o1 ma) (hb : PuE G W o1 tb o1 mb) : PuE G W o (tOrV ta tb) o1 (mOrV ma mb) := by
  intro B F0 F H σ ρ Q rel h
  refine ha rel ((Res.bnd h).imp fun a F1 H1 e1 r1 q v rv => ?_)
  cases rv with
  | bl c =>
    refine ⟨c, rfl, ?_⟩
    cases c with
    | true => exact q F1 H1 (Gr.refl F1 H1) r1 _ (.bl true)
    | false => exact hb r1 q
  | _ => exact q.elim
theorem PuE.notV (ha : PuE G W o ta o1 ma) : PuE G W o (tNotV ta) o1 (mNotV ma) := by
  intro B F0 F H σ ρ Q rel h
  refine ha rel ((Res.bnd h).imp fun a F1 H1 e1 r1 q v rv => ?_)
  cases rv with
  | bl c => exact ⟨c, rfl, q F1 H1 (Gr.refl F1 H1) r1 _ (.bl (!c))⟩
  | _ => exact q.elim
/-- a op b op' c -/
theorem PuE.chain {r r' : R2} {f g : D → D → R D} (hr : PuR2 G W r f) (hr' : PuR2 G W r' g) (ha : PuE G W o ta o1 ma) (hb : PuE G W o1 tb o2 mb) (hc : PuE G W o2 tc o2 mc) : PuE G W o (tChain r r' ta tb tc) o2 (mChain f g ma mb mc) := by
  intro B F0 F H σ ρ Q rel h
  refine ha rel ((Res.bnd h).imp fun a F1 H1 e1 r1 h1 v rv => ?_)
  refine hb r1 ((Res.bnd h1).imp fun b F2 H2 e2 r2 h2 w rw => ?_)
  refine hr r2 (rv.mono e2.le) rw ((Res.bnd h2).imp fun z F3 H3 e3 r3 h3 zv rz => ?_)
  cases rz with
  | bl k =>
    refine ⟨k, rfl, ?_⟩
    cases k with
    | true => exact hc r3 ((Res.bnd (r := mc ρ) (f := fun w => g b w) h3).imp fun y F4 H4 e4 r4 h4 yv ry => hr' r4 ((rw.mono e3.le).mono e4.le) ry h4)
    | false => exact h3 F3 H3 (Gr.refl F3 H3) r3 _ (.bl false)
  | _ => exact h3.elim
/-- a value's truth -/
theorem PuT.tru {r : V → Hp → (Bool → Hp → Prop) → Prop} {f : D → R Bool} (hr : ∀ {B F0 F H : Hp} {o : List Nat} {σ : L2.St} {ρ : Env} {Q : Bool → Hp → Prop} {v : V} {a : D}, Rel G B F0 F H o σ ρ → Rp G F a v → Res G W B F0 F H o σ ρ (kT Q) (f a) → r v H Q)
    (ha : PuE G W o ta o1 ma) : PuT G W o (fun σ H Q => ta σ H fun x H' => r x H' Q) o1 (fun ρ => (ma ρ).bind f) := by
  intro B F0 F H σ ρ Q rel h
  exact ha rel ((Res.bnd h).imp fun a F1 H1 e1 r1 h1 v rv => hr r1 rv h1)
end

/-! ### statements -/
section
variable {G : Gc} {W : WX} {B F0 F F1 : Hp} {oL o o1 o2 o3 : List Nat} {X : Ends}
theorem Post.mono {m : Out} (e : Le F F1) (h : Post G W B F0 F oL o X m) : Post G W B F0 F1 oL o X m := by
  cases m with
  | nx ρ => exact fun F' H' σ' le => h F' H' σ' (e.trans le)
  | rt d => exact fun F' H' v le => h F' H' v (e.trans le)
  | bk ρ => exact fun F' H' σ' le => h F' H' σ' (e.trans le)
  | ct ρ => exact fun F' H' σ' le => h F' H' σ' (e.trans le)
  | exc c p ρ => exact fun F' H' σ' cls dd le => h F' H' σ' cls dd (e.trans le)
  | bad => exact h
/-- from a statement's end to the end of the expression that it starts with -/
theorem Post.res {α : Type} {H : Hp} {r : R α} {f : α → Out} {σ : L2.St} {ρ : Env} (h : Post G W B F0 F oL o X (oBind r ρ f)) : Res G W B F0 F H o1 σ ρ (fun a F' _ => Post G W B F0 F' oL o X (f a)) r := by
  cases r with
  | ok a => exact fun F' H' le _ => Post.mono le.le h
  | exc c p => exact fun F' H' cls dd le rel x => h F' H' σ cls dd le rel x
  | bad => exact h
variable {t u : TS} {m n : Env → Out} {ta : TE} {ma : Env → R D} {tt : TT} {mt : Env → R Bool}
theorem PuS.next : PuS G W oL o tNext o mNext := fun {_ _ F H σ _ _} r h => h F H σ (Le.refl F) r
theorem PuS.seq (h1 : PuS G W oL o t o1 m) (h2 : PuS G W oL o1 u o2 n) : PuS G W oL o (tSeq t u) o2 (mSeq m n) := by
  intro B F0 F H σ ρ X rel h
  refine h1 rel ?_
  unfold mSeq at h
  cases hm : m ρ with
  | nx ρ' =>
    rw [hm] at h
    exact fun F' H' σ' le r' => h2 r' (Post.mono le h)
  | rt d => rw [hm] at h; exact h
  | bk ρ' => rw [hm] at h; exact h
  | ct ρ' => rw [hm] at h; exact h
  | exc c p ρ' => rw [hm] at h; exact h
  | bad => rw [hm] at h; exact h
/-- some own objects are given to everybody behind a statement -/
theorem PuS.weak (l : List Nat) (h1 : PuS G W oL o t o1 m) : PuS G W oL o t (o1.filter fun j => !l.contains j) m := by
  intro B F0 F H σ ρ X rel h
  refine h1 rel ?_
  cases hm : m ρ with
  | nx ρ' =>
    rw [hm] at h
    exact fun F' H' σ' le r' => by
      obtain ⟨F2, e2, r2⟩ := Rel.giveAll l r'
      exact h F2 H' σ' (le.trans e2) r2
  | rt d => rw [hm] at h; exact h
  | bk ρ' => rw [hm] at h; exact h
  | ct ρ' => rw [hm] at h; exact h
  | exc c p ρ' => rw [hm] at h; exact h
  | bad => rw [hm] at h; exact h
/-- .. ahead of it -/
theorem PuS.weak0 (l : List Nat) (h1 : PuS G W oL (o.filter fun j => !l.contains j) t o1 m) : PuS G W oL o t o1 m := by
  intro B F0 F H σ ρ X rel h
  obtain ⟨F2, e2, r2⟩ := Rel.giveAll l rel
  exact h1 r2 (Post.mono e2 h)
theorem PuS.set {i : Nat} (ha : PuE G W o ta o1 ma) : PuS G W oL o (tAsg ta (gName i)) (o1.filter (· != i)) (mSet i ma) := by
  intro B F0 F H σ ρ X rel h
  exact ha rel ((Post.res h).imp fun d F1 H1 e1 r1 q v rv => q F1 H1 _ (Le.refl F1) (r1.set rv))
theorem PuS.setO {i : Nat} (ha : PuO G W o ta o1 ma) : PuS G W oL o (tAsg ta (gName i)) (i :: o1.filter (· != i)) (mSet i ma) := by
  intro B F0 F H σ ρ X rel h
  exact ha rel ((Post.res h).imp fun d F1 H1 e1 r1 q a ow fa ba ap => q F1 H1 _ (Le.refl F1) (r1.setOwn ow fa ba ap))
theorem PuS.drop (ha : PuE G W o ta o1 ma) : PuS G W oL o (tDrop ta) o1 (mDrop ma) := by
  intro B F0 F H σ ρ X rel h
  exact ha rel ((Post.res h).imp fun d F1 H1 e1 r1 q v rv => q F1 H1 _ (Le.refl F1) r1)
theorem PuS.ret (ha : PuE G W o ta o1 ma) : PuS G W oL o (tRet ta) o2 (mRet ma) := by
  intro B F0 F H σ ρ X rel h
  exact ha rel ((Post.res h).imp fun d F1 H1 e1 r1 q v rv => q F1 H1 v (Le.refl F1) r1.core rv)
theorem PuS.retN : PuS G W oL o tRetN o2 mRetN := fun {_ _ F H _ _ _} r h => h F H .non (Le.refl F) r.core .non
theorem PuS.ifS (hc : PuT G W o tt o1 mt) (h1 : PuS G W oL o1 t o2 m) (h2 : PuS G W oL o1 u o2 n) : PuS G W oL o (tIfS tt t u) o2 (mIf mt m n) := by
  intro B F0 F H σ ρ X rel h
  refine hc rel ((Post.res h).imp fun b F1 H1 e1 r1 q => ?_)
  cases b with
  | true => exact h1 r1 q
  | false => exact h2 r1 q
theorem PuS.bad : PuS G W oL o tNever o2 mBad := fun _ h => h
theorem PuS.brk (hs : oL = o) : PuS G W oL o tBreak o2 mBrk := fun {_ _ F H σ _ _} r h => h F H σ (Le.refl F) (by rw [hs]; exact r)
theorem PuS.cnt (hs : oL = o) : PuS G W oL o tCont o2 mCnt := fun {_ _ F H σ _ _} r h => h F H σ (Le.refl F) (by rw [hs]; exact r)
end

/-! ### targets -/
def PuG (G : Gc) (o : List Nat) (g : TG) (o' : List Nat) (mg : D → Env → R Env) : Prop :=
  ∀ {B F0 F H : Hp} {σ : L2.St} {ρ : Env} {K : L2.St → Hp → Prop} {v : V} {d : D}, Rel G B F0 F H o σ ρ → Rp G F d v → (∃ ρ', mg d ρ = .ok ρ' ∧ ∀ σ', Rel G B F0 F H o' σ' ρ' → K σ' H) → g v σ H K
def PuGs (G : Gc) (o : List Nat) (g : TGs) (o' : List Nat) (mg : List D → Env → R Env) : Prop :=
  ∀ {B F0 F H : Hp} {σ : L2.St} {ρ : Env} {K : L2.St → Hp → Prop} {vs : List V} {ds : List D}, Rel G B F0 F H o σ ρ → RpL G F ds vs → (∃ ρ', mg ds ρ = .ok ρ' ∧ ∀ σ', Rel G B F0 F H o' σ' ρ' → K σ' H) → g vs σ H K
def gnName (i : Nat) : D → Env → R Env := fun d ρ => .ok (ρ.set i (some d))
def gnNil : List D → Env → R Env := fun ds ρ => match ds with
  | [] => .ok ρ
  | _ => .bad
def gnCons (g : D → Env → R Env) (r : List D → Env → R Env) : List D → Env → R Env := fun ds ρ => match ds with
  | d :: ds => (g d ρ).bind fun ρ' => r ds ρ'
  | [] => .bad
def gnTup (n : Nat) (g : List D → Env → R Env) : D → Env → R Env := fun d ρ => match d with
  | .tup ds => if ds.length = n then g ds ρ else .bad
  | .ktup ds => if ds.length = n then g ds ρ else .bad
  | _ => .bad
section
variable {G : Gc} {o o1 o2 : List Nat} {g : TG} {gs : TGs} {mg : D → Env → R Env} {mgs : List D → Env → R Env}
theorem PuG.name {i : Nat} : PuG G o (gName i) (o.filter (· != i)) (gnName i) := by
  intro B F0 F H σ ρ K v d rel rv h
  obtain ⟨ρ', e, k⟩ := h
  cases e
  exact k _ (rel.set rv)
theorem PuGs.nil : PuGs G o gNil o gnNil := by
  intro B F0 F H σ ρ K vs ds rel rv h
  obtain ⟨ρ', e, k⟩ := h
  cases rv with
  | nil => cases e; exact ⟨rfl, k _ rel⟩
  | cons _ _ => cases e
theorem PuGs.cons (h1 : PuG G o g o1 mg) (h2 : PuGs G o1 gs o2 mgs) : PuGs G o (gCons g gs) o2 (gnCons mg mgs) := by
  intro B F0 F H σ ρ K vs ds rel rv h
  obtain ⟨ρ', e, k⟩ := h
  cases rv with
  | nil => cases e
  | @cons d v ds vs h3 h4 =>
    refine ⟨v, vs, rfl, h1 rel h3 ?_⟩
    show ∃ ρ1, mg d ρ = .ok ρ1 ∧ _
    have e' : (mg d ρ).bind (fun ρ' => mgs ds ρ') = .ok ρ' := e
    cases q : mg d ρ with
    | ok ρ1 =>
      rw [q] at e'
      exact ⟨ρ1, rfl, fun σ1 r1 => h2 r1 h4 ⟨ρ', e', k⟩⟩
    | exc c p => rw [q] at e'; cases e'
    | bad => rw [q] at e'; cases e'
theorem PuG.tup {K : PySem.W.Frag} {n : Nat} (hK : G.K = K) (h : PuGs G o gs o1 mgs) : PuG G o (gTup K n gs) o1 (gnTup n mgs) := by
  subst hK
  intro B F0 F H σ ρ K v d rel rv hh
  obtain ⟨ρ', e, k⟩ := hh
  cases rv with
  | @tup a vs ds h1 h2 =>
    have e' : (if ds.length = n then mgs ds ρ else .bad) = .ok ρ' := e
    split at e'
    · rename_i hl
      exact ⟨a, vs, rfl, .inl (.inl (rel.core.fh _ _ h1)), by rw [← h2.length]; exact hl, h rel h2 ⟨ρ', e', k⟩⟩
    · cases e'
  | @ktup a vs ds h1 h2 =>
    have e' : (if ds.length = n then mgs ds ρ else .bad) = .ok ρ' := e
    split at e'
    · rename_i hl
      have hq : SqT G.K H a vs := h1.elim (fun q => .inl (q.elim (fun q => .inl (rel.core.fh _ _ q)) fun ⟨o, q⟩ => .inr ⟨o, rel.core.fh _ _ q⟩)) .inr
      exact ⟨a, vs, rfl, hq, by rw [← h2.length]; exact hl, h rel h2 ⟨ρ', e', k⟩⟩
    · cases e'
  | _ => cases e
end
end G
/-! S3: borrowing, loops, comprehensions, calls. -/
namespace G
open PySem L2

/-! ### borrowing: an own object is read, the answer holds nothing of it -/
def D.scal : D → Bool
  | .non => true
  | .bl _ => true
  | .int _ => true
  | .str _ => true
  | .fn _ => true
  | _ => false
theorem Rp.scal {G : Gc} {F F' : Hp} {d : D} {v : V} (h : Rp G F d v) (hs : d.scal = true) : Rp G F' d v := by
  cases h with
  | non => exact .non
  | bl b => exact .bl b
  | int i => exact .int i
  | str x => exact .str x
  | fn e => exact .fn e
  | _ => cases hs
theorem RpL.scal {G : Gc} {F F' : Hp} : ∀ {ds : List D} {vs : List V}, RpL G F ds vs → ds.all D.scal = true → RpL G F' ds vs
  | _, _, .nil, _ => .nil
  | _, _, .cons h r, e => by
    rw [List.all_cons, Bool.and_eq_true] at e
    exact .cons (h.scal e.1) (RpL.scal r e.2)
def mScal (m : Env → R D) : Env → R D := fun ρ => (m ρ).bind fun d => if d.scal = true then .ok d else .bad
def mScalL (m : Env → R D) : Env → R D := fun ρ => (m ρ).bind fun d => match d with
  | .lst ds => if ds.all D.scal = true then .ok d else .bad
  | .iset xs => .ok d
  | _ => .bad
section
variable {G : Gc} {W : WX} {B F0 F F' H H' : Hp} {o o1 o2 oL oI : List Nat} {σ : L2.St} {ρ : Env} {i : Nat}
/-- F without a -/
def cutA (F : Hp) (a : Addr) : Hp := fun b => if b = a then none else F b
theorem cutA_ne {F : Hp} {a b : Addr} (h : b ≠ a) : cutA F a b = F b := if_neg h
theorem cutA_same {F : Hp} {a : Addr} : cutA F a a = none := if_pos rfl
theorem cutA_some {F : Hp} {a b : Addr} {u : HO} (h : cutA F a b = some u) : b ≠ a ∧ F b = some u := by
  unfold cutA at h
  split at h
  · cases h
  · rename_i hb; exact ⟨hb, h⟩
/-- what holds again behind the borrowing -/
theorem Rel.back {a : Addr} {d : D} {u : HO} (r : Rel G B F0 F H o σ ρ) (hi : i ∈ o) (hd : ρ[i]? = some (some d)) (hs : σ[i]? = some (some (.ref a))) (e : Gr (upd F a u) H F' H') (r' : Rel G B F0 F' H' (o.filter (· != i)) σ ρ) :
    Gr F H (cutA F' a) H' ∧ Rel G B F0 (cutA F' a) H' o σ ρ := by
  obtain ⟨b, q1, q2, q3, q4⟩ := r.ow i d hd hi
  rw [hs] at q1; cases q1
  have ne : ∀ {b u}, F b = some u → b ≠ a := fun {b u} q => ne_of_none q q3
  have le : Le F (cutA F' a) := by
    refine ⟨⟨fun b u p q => ?_, fun b u p q => ?_⟩, fun b x u q => ?_⟩
    · have hb : b ≠ a := by rcases q with q | ⟨x, q⟩ <;> exact ne q
      have q' := e.le.rd b u p (by
        rcases q with q | ⟨x, q⟩
        · exact .inl (by rw [upd_ne hb]; exact q)
        · exact .inr ⟨x, by rw [upd_ne hb]; exact q⟩)
      rcases q' with z | ⟨x, z⟩
      · exact .inl (by rw [cutA_ne hb]; exact z)
      · exact .inr ⟨x, by rw [cutA_ne hb]; exact z⟩
    · rw [cutA_ne (ne q)]
      exact e.le.ex b u p (by rw [upd_ne (ne q)]; exact q)
    · rw [cutA_ne (ne q)]
      exact e.le.fz b x u (by rw [upd_ne (ne q)]; exact q)
  refine ⟨⟨le, e.same⟩, ⟨⟨fun b w q => r'.core.fh b w (cutA_some q).2, r'.core.bh, fun b q => r'.core.nf b fun z => q ?_, r'.core.f0⟩, r.len, fun j f h1 h2 => let ⟨v, x, y⟩ := r.sh j f h1 h2; ⟨v, x, y.mono le⟩, fun j f h1 h2 => ?_, r.dj⟩⟩
  · unfold cutA; split
    · rfl
    · exact z
  · obtain ⟨b, x1, x2, x3, x4⟩ := r.ow j f h1 h2
    refine ⟨b, x1, x2.mono le (e.same b), ?_, x4⟩
    by_cases hj : j = i
    · subst hj
      rw [hs] at x1; cases x1
      exact cutA_same
    · have hb : b ≠ a := fun z => r.dj j i f d a hj h2 hi h1 hd (by rw [← z]; exact x1) hs
      obtain ⟨b', y1, y2, y3, y4⟩ := r'.ow j f h1 (List.mem_filter.mpr ⟨h2, by simpa using hj⟩)
      rw [x1] at y1; cases y1
      rw [cutA_ne hb]
      exact y3
/-- what is lent: the slot's object may be read by everybody -/
theorem Rel.lend {d : D} (r : Rel G B F0 F H o σ ρ) (hi : i ∈ o) (hd : ρ[i]? = some (some d)) : ∃ a u, σ[i]? = some (some (.ref a)) ∧ F a = none ∧ H a = some u ∧ Le F (upd F a u) ∧ Rel G B F0 (upd F a u) H (o.filter (· != i)) σ ρ := by
  obtain ⟨a, q1, q2, q3, q4⟩ := r.ow i d hd hi
  obtain ⟨u, hu⟩ := q2.there
  have mem : ∀ {j}, j ∈ o.filter (· != i) → j ∈ o ∧ j ≠ i := fun {j} h => by
    rw [List.mem_filter] at h; exact ⟨h.1, by simpa using h.2⟩
  have e := Le.upd (u := u) q3
  refine ⟨a, u, q1, q3, hu, e, ⟨⟨fun b w q => ?_, r.core.bh, fun b q => ?_, r.core.f0⟩, r.len, fun j f h1 h2 => ?_, fun j f h1 h2 => ?_, fun j k f g b h1 h2 h3 => r.dj j k f g b h1 (mem h2).1 (mem h3).1⟩⟩
  · by_cases hb : b = a
    · subst hb; rw [upd_same] at q; cases q; exact hu
    · rw [upd_ne hb] at q; exact r.core.fh b w q
  · by_cases hb : b = a
    · subst hb; exact .inr (.inl q4)
    · rw [upd_ne hb] at q; exact r.core.nf b q
  · by_cases hj : j = i
    · subst hj
      rw [hd] at h1; cases h1
      exact ⟨_, q1, q2.rp hu q3⟩
    · have h3 : j ∉ o := fun z => h2 (List.mem_filter.mpr ⟨z, by simpa using hj⟩)
      obtain ⟨v, x, y⟩ := r.sh j f h1 h3
      exact ⟨v, x, y.mono e⟩
  · obtain ⟨b, x1, x2, x3, x4⟩ := r.ow j f h1 (mem h2).1
    have hb : b ≠ a := fun z => r.dj j i f d a (mem h2).2 (mem h2).1 hi h1 hd (by rw [← z]; exact x1) q1
    exact ⟨b, x1, x2.mono e fun _ z => z, by rw [upd_ne hb]; exact x3, x4⟩
variable {t : TE} {m : Env → R D} {tt : TT} {mt : Env → R Bool}
theorem ExcEnd.back {u : HO} {a : Addr} {c : Str} {p : Option (Str × D)} (e : Le F (upd F a u)) (h : ExcEnd G W B F0 F σ ρ c p) : ExcEnd G W B F0 (upd F a u) σ ρ c p := fun F' H' cls dd le rel x => h F' H' cls dd (e.trans le) rel x
theorem mScal_res {r : R D} {f : D → R D} {G W} {B F0 F H : Hp} {o σ ρ} {k : D → Hp → Hp → Prop} (h : Res G W B F0 F H o σ ρ k (r.bind f)) : (∃ d, r = .ok d) ∨ ∃ c p, r = .exc c p ∧ ExcEnd G W B F0 F σ ρ c p := by
  cases r with
  | ok d => exact .inl ⟨d, rfl⟩
  | exc c p => exact .inr ⟨c, p, rfl, h⟩
  | bad => exact h.elim
theorem Rel.unk (r : Rel G B F0 F H o σ ρ) (h : ∀ d, ρ[i]? ≠ some (some d)) : Rel G B F0 F H (o.filter (· != i)) σ ρ := by
  have mem : ∀ {j}, j ∈ o.filter (· != i) → j ∈ o := fun {j} h => (List.mem_filter.mp h).1
  refine ⟨r.core, r.len, fun j f h1 h2 => r.sh j f h1 fun z => h2 (List.mem_filter.mpr ⟨z, ?_⟩), fun j f h1 h2 => r.ow j f h1 (mem h2), fun j k f g b h1 h2 h3 => r.dj j k f g b h1 (mem h2) (mem h3)⟩
  have : j ≠ i := fun q => h f (q ▸ h1)
  simpa using this
theorem Rel.unk' (r : Rel G B F0 F H (o.filter (· != i)) σ ρ) (h : ∀ d, ρ[i]? ≠ some (some d)) : Rel G B F0 F H o σ ρ := by
  have mem : ∀ {j f}, ρ[j]? = some (some f) → j ∈ o → j ∈ o.filter (· != i) := fun {j f} h1 h2 => List.mem_filter.mpr ⟨h2, by have : j ≠ i := fun q => h f (q ▸ h1); simpa using this⟩
  exact ⟨r.core, r.len, fun j f h1 h2 => r.sh j f h1 fun z => h2 (List.mem_filter.mp z).1, fun j f h1 h2 => r.ow j f h1 (mem h1 h2), fun j k f g b h1 h2 h3 h4 h5 => r.dj j k f g b h1 (mem h4 h2) (mem h5 h3) h4 h5⟩
theorem known_or (ρ : Env) (i : Nat) : (∃ d, ρ[i]? = some (some d)) ∨ ∀ d, ρ[i]? ≠ some (some d) := by
  cases h : ρ[i]? with
  | none => exact .inr fun d q => by cases q
  | some z =>
    cases z with
    | none => exact .inr fun d q => by cases q
    | some d => exact .inl ⟨d, rfl⟩
/-- an own slot is only read on the way to a scalar -/
theorem PuE.borrow (i : Nat) (hi : i ∈ o) (h : PuE G W (o.filter (· != i)) t (o.filter (· != i)) m) : PuE G W o t o (mScal m) := by
  intro B F0 F H σ ρ Q rel q
  unfold mScal at q
  rcases known_or ρ i with ⟨e, hρ⟩ | hρ
  · obtain ⟨a, u, h1, h2, h3, h4, h5⟩ := rel.lend hi hρ
    refine h h5 ?_
    cases hm : m ρ with
    | ok d =>
      rw [hm] at q
      have q' : Res G W B F0 F H o σ ρ (kE G Q) (if d.scal = true then .ok d else .bad) := q
      split at q'
      · rename_i hs
        intro F' H' gr r' v rv
        obtain ⟨g2, r2⟩ := rel.back hi hρ h1 gr r'
        exact q' _ H' g2 r2 v (rv.scal hs)
      · exact q'.elim
    | exc c p => rw [hm] at q; exact ExcEnd.back h4 q
    | bad => rw [hm] at q; exact q
  · refine h (rel.unk hρ) ?_
    cases hm : m ρ with
    | ok d =>
      rw [hm] at q
      have q' : Res G W B F0 F H o σ ρ (kE G Q) (if d.scal = true then .ok d else .bad) := q
      split at q'
      · exact fun F' H' gr r' v rv => q' F' H' gr (r'.unk' hρ) v rv
      · exact q'.elim
    | exc c p => rw [hm] at q; exact q
    | bad => rw [hm] at q; exact q
theorem PuT.borrow (i : Nat) (hi : i ∈ o) (h : PuT G W (o.filter (· != i)) tt (o.filter (· != i)) mt) : PuT G W o tt o mt := by
  intro B F0 F H σ ρ Q rel q
  rcases known_or ρ i with ⟨e, hρ⟩ | hρ
  · obtain ⟨a, u, h1, h2, h3, h4, h5⟩ := rel.lend hi hρ
    refine h h5 ?_
    cases hm : mt ρ with
    | ok d =>
      rw [hm] at q
      intro F' H' gr r'
      obtain ⟨g2, r2⟩ := rel.back hi hρ h1 gr r'
      exact q (cutA F' a) H' g2 r2
    | exc c p => rw [hm] at q; exact ExcEnd.back h4 q
    | bad => rw [hm] at q; exact q
  · refine h (rel.unk hρ) ?_
    cases hm : mt ρ with
    | ok d => rw [hm] at q; exact fun F' H' gr r' => q F' H' gr (r'.unk' hρ)
    | exc c p => rw [hm] at q; exact q
    | bad => rw [hm] at q; exact q
/-- .. on the way to a new list of scalars -/
theorem PuO.borrow (i : Nat) (hi : i ∈ o) (h : PuO G W (o.filter (· != i)) t (o.filter (· != i)) m) : PuO G W o t o (mScalL m) := by
  intro B F0 F H σ ρ Q rel q
  unfold mScalL at q
  have own : ∀ {d : D} {F' F2 H' : Hp} {a : Addr}, (∀ ds, d = .lst ds → ds.all D.scal = true) → (∀ tk ks ds, d ≠ .dic tk ks ds) → Own G F' H' d a → Own G F2 H' d a := fun {d F' F2 H' a} h1 h2 ow => by
    cases ow with
    | lst e r => exact .lst e (r.scal (h1 _ rfl))
    | iset e n => exact .iset e n
    | dicK _ _ _ => exact absurd rfl (h2 _ _ _)
    | dicT _ _ _ => exact absurd rfl (h2 _ _ _)
  have cond : ∀ {d : D}, Res G W B F0 F H o σ ρ (kO G B o σ ρ Q) (match d with
      | .lst ds => if ds.all D.scal = true then .ok d else .bad
      | .iset xs => .ok d
      | _ => .bad) → (∀ ds, d = .lst ds → ds.all D.scal = true) ∧ (∀ tk ks ds, d ≠ .dic tk ks ds) ∧ Res G W B F0 F H o σ ρ (kO G B o σ ρ Q) (.ok d) := fun {d} q => by
    cases d with
    | lst ds =>
      have q' : Res G W B F0 F H o σ ρ (kO G B o σ ρ Q) (if ds.all D.scal = true then .ok (.lst ds) else .bad) := q
      split at q'
      · rename_i hs
        exact ⟨fun _ e => (by cases e; exact hs), fun _ _ _ e => (by cases e), q'⟩
      · exact q'.elim
    | iset xs => exact ⟨fun _ e => (by cases e), fun _ _ _ e => (by cases e), q⟩
    | _ => exact q.elim
  rcases known_or ρ i with ⟨e, hρ⟩ | hρ
  · obtain ⟨a, u, h1, h2, h3, h4, h5⟩ := rel.lend hi hρ
    refine h h5 ?_
    cases hm : m ρ with
    | ok d =>
      rw [hm] at q
      obtain ⟨c1, c2, q'⟩ := cond q
      intro F' H' gr r' b ow fb bb ap
      obtain ⟨g2, r2⟩ := rel.back hi hρ h1 gr r'
      have hb : b ≠ a := fun z => by
        have y := gr.le.rd a u
        subst z
        have k1 : F' b = none := fb
        have k2 : (upd F b u) b = some u := upd_same
        cases u with
        | frz o' u' => rw [gr.le.fz b o' u' k2] at k1; cases k1
        | _ =>
          rcases y rfl (.inl k2) with z | ⟨o', z⟩
          · rw [z] at k1; cases k1
          · rw [z] at k1; cases k1
      refine q' _ H' g2 r2 b (own c1 c2 ow) (by rw [cutA_ne hb]; exact fb) bb fun j f hj hf hs => ?_
      by_cases hij : j = i
      · subst hij
        rw [h1] at hs; cases hs
        exact hb rfl
      · exact ap j f (List.mem_filter.mpr ⟨hj, by simpa using hij⟩) hf hs
    | exc c p => rw [hm] at q; exact ExcEnd.back h4 q
    | bad => rw [hm] at q; exact q
  · refine h (rel.unk hρ) ?_
    cases hm : m ρ with
    | ok d =>
      rw [hm] at q
      obtain ⟨c1, c2, q'⟩ := cond q
      intro F' H' gr r' b ow fb bb ap
      refine q' F' H' gr (r'.unk' hρ) b ow fb bb fun j f hj hf hs => ?_
      by_cases hij : j = i
      · subst hij; exact hρ f hf
      · exact ap j f (List.mem_filter.mpr ⟨hj, by simpa using hij⟩) hf hs
    | exc c p => rw [hm] at q; exact q
    | bad => rw [hm] at q; exact q
/-- own objects are given away ahead of an expression -/
theorem PuE.weak0 (l : List Nat) (h : PuE G W (o.filter fun j => !l.contains j) t o1 m) : PuE G W o t o1 m := by
  intro B F0 F H σ ρ Q rel q
  obtain ⟨F2, e2, r2⟩ := Rel.giveAll l rel
  exact h r2 (q.mono ⟨e2, Same.refl H⟩)
theorem PuT.weak0 (l : List Nat) (h : PuT G W (o.filter fun j => !l.contains j) tt o1 mt) : PuT G W o tt o1 mt := by
  intro B F0 F H σ ρ Q rel q
  obtain ⟨F2, e2, r2⟩ := Rel.giveAll l rel
  exact h r2 (q.mono ⟨e2, Same.refl H⟩)
theorem PuO.weak0 (l : List Nat) (h : PuO G W (o.filter fun j => !l.contains j) t o1 m) : PuO G W o t o1 m := by
  intro B F0 F H σ ρ Q rel q
  obtain ⟨F2, e2, r2⟩ := Rel.giveAll l rel
  exact h r2 (q.mono ⟨e2, Same.refl H⟩)
end

/-! ### what is walked -/
/-- the iterator J gives the plain values ds, one behind another, whatever is laid meanwhile -/
def Yields (G : Gc) (F1 : Hp) (J : It) (ds : List D) : Prop := ∀ F2 H2, Le F1 F2 → (∀ a u, F2 a = some u → H2 a = some u) →
  (∀ i, i < ds.length → J.go i H2) ∧ J.stop ds.length H2 ∧ ∀ (i : Nat) d x H3, ds[i]? = some d → J.yld i H2 x H3 →
    ∃ F3, Gr F2 H2 F3 H3 ∧ (∀ a u, F3 a = some u → H3 a = some u) ∧ (∀ a, F3 a ≠ none → F2 a ≠ none ∨ Gn H2 a) ∧ Rp G F3 d x
def PuI (G : Gc) (W : WX) (o : List Nat) (wi : TI) (o' : List Nat) (mi : Env → R (List D)) : Prop :=
  ∀ {B F0 F H : Hp} {σ : L2.St} {ρ : Env} {K : It → Hp → Prop}, Rel G B F0 F H o σ ρ → Res G W B F0 F H o' σ ρ (fun ds F' H' => ∀ J, Yields G F' J ds → K J H') (mi ρ) → wi σ H K
def loopD (f : D → Env → Out) : List D → Env → Out
  | [], ρ => .nx ρ
  | d :: ds, ρ => match f d ρ with
    | .nx ρ' => loopD f ds ρ'
    | .ct ρ' => loopD f ds ρ'
    | .bk ρ' => .nx ρ'
    | x => x
def stepD (mg : D → Env → R Env) (mb : Env → Out) : D → Env → Out := fun d ρ => match mg d ρ with
  | .ok ρ' => mb ρ'
  | _ => .bad
def mFor (mi : Env → R (List D)) (mg : D → Env → R Env) (mb : Env → Out) : Env → Out := fun ρ => oBind (mi ρ) ρ fun ds => loopD (stepD mg mb) ds ρ
def whileN (c : Env → R Bool) (b : Env → Out) : Nat → Env → Out
  | 0, _ => .bad
  | n + 1, ρ => oBind (c ρ) ρ fun x => bif x then (match b ρ with
    | .nx ρ' => whileN c b n ρ'
    | .ct ρ' => whileN c b n ρ'
    | .bk ρ' => .nx ρ'
    | x => x) else .nx ρ
def bigN : Nat := 1000000000
def mWhile (c : Env → R Bool) (b : Env → Out) : Env → Out := whileN c b bigN
section
variable {G : Gc} {W : WX} {o o1 oL oI : List Nat} {wi : TI} {g : TG} {tb : TS} {tc : TT} {mi : Env → R (List D)} {mg : D → Env → R Env} {mb : Env → Out} {mc : Env → R Bool}
theorem PuS.forS (hi : PuI G W o wi oI mi) (hg : PuG G oI g oI mg) (hb : PuS G W oI oI tb oI mb) : PuS G W oL o (tFor wi g tb) oI (mFor mi mg mb) := by
  intro B F0 F H σ ρ X rel h
  refine hi rel ((Post.res h).imp fun ds F1 H1 e1 r1 q J Y => ?_)
  let Inv : Nat → L2.St → Hp → Prop := fun i σ' H' => ∃ F' ρ', Le F1 F' ∧ Rel G B F0 F' H' oI σ' ρ' ∧ Post G W B F0 F' oL oI X (loopD (stepD mg mb) (ds.drop i) ρ')
  refine ⟨fun i m σ' H' => m = ds.length - i ∧ i ≤ ds.length ∧ Inv i σ' H', ⟨ds.length, by simp, Nat.zero_le _, F1, ρ, Le.refl F1, r1, by simpa using q⟩, ?_⟩
  rintro i m σ' H' ⟨rfl, hle, F', ρ', le, r', p⟩
  obtain ⟨y1, y2, y3⟩ := Y F' H' le r'.core.fh
  by_cases hlt : i < ds.length
  · have hd : ds[i]? = some ds[i] := List.getElem?_eq_getElem hlt
    rw [List.drop_eq_getElem_cons hlt] at p
    refine .inr ⟨y1 i hlt, Inv (i + 1), fun σ2 H2 I2 => ⟨ds.length - (i + 1), by omega, rfl, hlt, I2⟩, fun x H3 hy => ?_⟩
    obtain ⟨F3, g3, f3, n3, rv⟩ := y3 i ds[i] x H3 hd hy
    have r3 := r'.grow g3.le f3 g3.same n3
    have p3 := Post.mono g3.le p
    have p4 : Post G W B F0 F3 oL oI X (match stepD mg mb ds[i] ρ' with
      | .nx ρ' => loopD (stepD mg mb) (ds.drop (i + 1)) ρ'
      | .ct ρ' => loopD (stepD mg mb) (ds.drop (i + 1)) ρ'
      | .bk ρ' => .nx ρ'
      | x => x) := p3
    unfold stepD at p4
    cases hm : mg ds[i] ρ' with
    | ok ρ2 =>
      rw [hm] at p4
      refine hg r3 rv ⟨ρ2, hm, fun σ2 r2 => hb r2 ?_⟩
      change Post G W B F0 F3 oL oI X (match mb ρ2 with
        | .nx ρ' => loopD (stepD mg mb) (ds.drop (i + 1)) ρ'
        | .ct ρ' => loopD (stepD mg mb) (ds.drop (i + 1)) ρ'
        | .bk ρ' => .nx ρ'
        | x => x) at p4
      cases hb2 : mb ρ2 with
      | nx ρ5 => rw [hb2] at p4; exact fun F5 H5 σ5 l5 r5 => ⟨F5, ρ5, (le.trans g3.le).trans l5, r5, Post.mono l5 p4⟩
      | ct ρ5 => rw [hb2] at p4; exact fun F5 H5 σ5 l5 r5 => ⟨F5, ρ5, (le.trans g3.le).trans l5, r5, Post.mono l5 p4⟩
      | bk ρ5 => rw [hb2] at p4; exact fun F5 H5 σ5 l5 r5 => p4 F5 H5 σ5 l5 r5
      | rt d => rw [hb2] at p4; exact p4
      | exc c q ρ5 => rw [hb2] at p4; exact p4
      | bad => rw [hb2] at p4; exact p4.elim
    | exc c q => rw [hm] at p4; exact p4.elim
    | bad => rw [hm] at p4; exact p4.elim
  · have e : i = ds.length := by omega
    subst e
    rw [List.drop_length] at p
    exact .inl ⟨y2, p F' H' σ' (Le.refl F') r'⟩
theorem PuS.whileS (hc : PuT G W o tc o mc) (hb : PuS G W o o tb o mb) : PuS G W oL o (tWhile tc tb) o (mWhile mc mb) := by
  intro B F0 F H σ ρ X rel h
  let Inv : Nat → L2.St → Hp → Prop := fun n σ' H' => ∃ F' ρ', Le F F' ∧ Rel G B F0 F' H' o σ' ρ' ∧ Post G W B F0 F' oL o X (whileN mc mb n ρ')
  refine ⟨Inv, ⟨bigN, F, ρ, Le.refl F, rel, h⟩, ?_⟩
  rintro n σ' H' ⟨F', ρ', le, r', p⟩
  cases n with
  | zero => exact p.elim
  | succ n =>
    have p' : Post G W B F0 F' oL o X (oBind (mc ρ') ρ' fun x => bif x then (match mb ρ' with
      | .nx ρ' => whileN mc mb n ρ'
      | .ct ρ' => whileN mc mb n ρ'
      | .bk ρ' => .nx ρ'
      | x => x) else .nx ρ') := p
    refine hc r' ((Post.res p').imp fun b F1 H1 e1 r1 q => ?_)
    cases b with
    | false => exact q F1 H1 σ' (Le.refl F1) r1
    | true =>
      refine ⟨Inv n, fun σ2 H2 I2 => ⟨n, Nat.lt_succ_self n, I2⟩, hb r1 ?_⟩
      have q' : Post G W B F0 F1 oL o X (match mb ρ' with
        | .nx ρ' => whileN mc mb n ρ'
        | .ct ρ' => whileN mc mb n ρ'
        | .bk ρ' => .nx ρ'
        | x => x) := q
      cases hb2 : mb ρ' with
      | nx ρ5 => rw [hb2] at q'; exact fun F5 H5 σ5 l5 r5 => ⟨F5, ρ5, (le.trans e1.le).trans l5, r5, Post.mono l5 q'⟩
      | ct ρ5 => rw [hb2] at q'; exact fun F5 H5 σ5 l5 r5 => ⟨F5, ρ5, (le.trans e1.le).trans l5, r5, Post.mono l5 q'⟩
      | bk ρ5 => rw [hb2] at q'; exact q'
      | rt d => rw [hb2] at q'; exact q'
      | exc c z ρ5 => rw [hb2] at q'; exact q'
      | bad => rw [hb2] at q'; exact q'.elim
end
end G
/-! S4: comprehensions, defs and their calls. -/
namespace G
open PySem L2

/-! ### slots forgotten -/
def wipeD (ρ : Env) : List Nat → Env
  | [] => ρ
  | v :: vs => (wipeD ρ vs).set v none
section
variable {G : Gc} {W W1 : WX} {B F0 F F' H H' : Hp} {o o1 o2 oL oI : List Nat} {σ σ2 : L2.St} {ρ ρ2 : Env}
theorem wipe_get (σ : L2.St) (j : Nat) : ∀ vs : List Nat, (wipe σ vs)[j]? = if j ∈ vs ∧ j < σ.length then some none else σ[j]?
  | [] => by simp [wipe]
  | v :: vs => by
    have ih := wipe_get σ j vs
    unfold wipe
    by_cases hj : v = j
    · subst hj
      by_cases hl : v < σ.length
      · rw [List.getElem?_set_self (by rw [wipe_length]; exact hl)]
        simp [hl]
      · rw [List.getElem?_eq_none (by rw [List.length_set, wipe_length]; omega)]
        simp [hl]
    · rw [List.getElem?_set_ne hj, ih]
      have : j ≠ v := fun q => hj q.symm
      simp [this]
theorem wipe_ext {σ σ2 : L2.St} (h : ∀ j : Nat, σ[j]? = σ2[j]?) : σ = σ2 := List.ext_getElem? h
theorem wipe_wipe (σ : L2.St) (vs : List Nat) : wipe (wipe σ vs) vs = wipe σ vs := wipe_ext fun j => by
  rw [wipe_get, wipe_get, wipe_length]
  split
  · rfl
  · rfl
theorem wipe_set {σ : L2.St} {i : Nat} {x : Option V} {vs : List Nat} (h : i ∈ vs) : wipe (σ.set i x) vs = wipe σ vs := wipe_ext fun j => by
  rw [wipe_get, wipe_get, List.length_set]
  by_cases hj : i = j
  · subst hj
    by_cases hl : i < σ.length
    · simp [h, hl]
    · simp [hl]
  · rw [List.getElem?_set_ne hj]
theorem wipeD_length (ρ : Env) : ∀ vs : List Nat, (wipeD ρ vs).length = ρ.length
  | [] => rfl
  | v :: vs => by unfold wipeD; rw [List.length_set, wipeD_length ρ vs]
theorem wipeD_get (σ : Env) (j : Nat) : ∀ vs : List Nat, (wipeD σ vs)[j]? = if j ∈ vs ∧ j < σ.length then some none else σ[j]?
  | [] => by simp [wipeD]
  | v :: vs => by
    have ih := wipeD_get σ j vs
    unfold wipeD
    by_cases hj : v = j
    · subst hj
      by_cases hl : v < σ.length
      · rw [List.getElem?_set_self (by rw [wipeD_length]; exact hl)]
        simp [hl]
      · rw [List.getElem?_eq_none (by rw [List.length_set, wipeD_length]; omega)]
        simp [hl]
    · rw [List.getElem?_set_ne hj, ih]
      have : j ≠ v := fun q => hj q.symm
      simp [this]
theorem wipeD_set {σ : Env} {i : Nat} {x : Option D} {vs : List Nat} (h : i ∈ vs) : wipeD (σ.set i x) vs = wipeD σ vs := List.ext_getElem? fun j => by
  rw [wipeD_get, wipeD_get, List.length_set]
  by_cases hj : i = j
  · subst hj
    by_cases hl : i < σ.length
    · simp [h, hl]
    · simp [hl]
  · rw [List.getElem?_set_ne hj]
theorem wipeD_wipeD (ρ : Env) (vs : List Nat) : wipeD (wipeD ρ vs) vs = wipeD ρ vs := List.ext_getElem? fun j => by
  rw [wipeD_get, wipeD_get, wipeD_length]
  split
  · rfl
  · rfl
theorem Rel.wiped (r : Rel G B F0 F H o σ ρ) : ∀ vs : List Nat, Rel G B F0 F H o (wipe σ vs) (wipeD ρ vs)
  | [] => r
  | v :: vs => (Rel.wiped r vs).forget none
/-- a target keeps to the block's own names -/
def GW (g : TG) (mg : D → Env → R Env) (vs : List Nat) : Prop := (∀ v σ H (K : L2.St → Hp → Prop), g v σ H (fun σ2 H2 => wipe σ2 vs = wipe σ vs → K σ2 H2) → g v σ H fun σ2 H2 => wipe σ2 vs = wipe σ vs ∧ K σ2 H2) ∧ ∀ d ρ ρ', mg d ρ = .ok ρ' → wipeD ρ' vs = wipeD ρ vs
def GWs (g : TGs) (mg : List D → Env → R Env) (vs : List Nat) : Prop := (∀ v σ H (K : L2.St → Hp → Prop), g v σ H (fun σ2 H2 => wipe σ2 vs = wipe σ vs → K σ2 H2) → g v σ H fun σ2 H2 => wipe σ2 vs = wipe σ vs ∧ K σ2 H2) ∧ ∀ d ρ ρ', mg d ρ = .ok ρ' → wipeD ρ' vs = wipeD ρ vs
theorem GW.name {i : Nat} {vs : List Nat} (h : i ∈ vs) : GW (gName i) (gnName i) vs := ⟨fun _ _ _ _ k => ⟨wipe_set h, k (wipe_set h)⟩, fun _ _ _ e => by cases e; exact wipeD_set h⟩
theorem GWs.nil {vs : List Nat} : GWs gNil gnNil vs := ⟨fun _ _ _ _ ⟨e, k⟩ => ⟨e, rfl, k rfl⟩, fun d ρ ρ' e => by
  cases d with
  | nil => cases e; rfl
  | cons _ _ => cases e⟩
theorem GWs.cons {vs : List Nat} {g : TG} {gs : TGs} {mg : D → Env → R Env} {mgs : List D → Env → R Env} (h1 : GW g mg vs) (h2 : GWs gs mgs vs) (hm : ∀ v σ H (K K' : L2.St → Hp → Prop), (∀ σ' H', K σ' H' → K' σ' H') → g v σ H K → g v σ H K') : GWs (gCons g gs) (gnCons mg mgs) vs := by
  refine ⟨fun v σ H K ⟨x, r, e, k⟩ => ⟨x, r, e, ?_⟩, fun d ρ ρ' e => ?_⟩
  · refine hm _ _ _ _ _ (fun σ' H' q => q.2) (h1.1 _ _ _ (fun σ' H' => gs r σ' H' fun σ2 H2 => wipe σ2 vs = wipe σ vs ∧ K σ2 H2) (hm _ _ _ _ _ (fun σ' H' q eq => ?_) k))
    have q' : gs r σ' H' fun σ2 H2 => wipe σ2 vs = wipe σ' vs → K σ2 H2 := by rw [eq]; exact q
    have z := h2.1 _ _ _ _ q'
    rw [eq] at z
    exact z
  · cases d with
    | nil => cases e
    | cons d ds =>
      have e' : (mg d ρ).bind (fun ρ' => mgs ds ρ') = .ok ρ' := e
      cases q : mg d ρ with
      | ok ρ1 => rw [q] at e'; exact (h2.2 _ _ _ e').trans (h1.2 _ _ _ q)
      | exc c p => rw [q] at e'; cases e'
      | bad => rw [q] at e'; cases e'
theorem gName_mono {i : Nat} : ∀ (v : V) (σ : L2.St) (H : Hp) (K K' : L2.St → Hp → Prop), (∀ σ' H', K σ' H' → K' σ' H') → gName i v σ H K → gName i v σ H K' := fun _ _ _ _ _ h k => h _ _ k
theorem GW.tup {vs : List Nat} {K : PySem.W.Frag} {n : Nat} {gs : TGs} {mgs : List D → Env → R Env} (h : GWs gs mgs vs) : GW (gTup K n gs) (gnTup n mgs) vs := by
  refine ⟨fun v σ H K ⟨a, xs, e, s, l, k⟩ => ⟨a, xs, e, s, l, h.1 _ _ _ _ k⟩, fun d ρ ρ' e => ?_⟩
  cases d with
  | tup ds =>
    have e' : (if ds.length = n then mgs ds ρ else .bad) = .ok ρ' := e
    split at e'
    · exact h.2 _ _ _ e'
    · cases e'
  | ktup ds =>
    have e' : (if ds.length = n then mgs ds ρ else .bad) = .ok ρ' := e
    split at e'
    · exact h.2 _ _ _ e'
    · cases e'
  | _ => cases e
/-! ### an object that the construct itself holds -/
theorem Rel.guard {a : Addr} {u : HO} (r : Rel G B F0 F H o σ ρ) (hu : H a = some u) (hf : F a = none) (ap : Apart o σ ρ a) : Rel G (upd B a u) F0 F H o σ ρ := by
  refine ⟨⟨r.core.fh, fun b w q => ?_, fun b q => ?_, fun b q => ?_⟩, r.len, r.sh, fun i d h1 h2 => ?_, r.dj⟩
  · by_cases hb : b = a
    · subst hb; rw [upd_same] at q; cases q; exact hu
    · rw [upd_ne hb] at q; exact r.core.bh b w q
  · have hb : b ≠ a := fun z => q (by rw [z]; exact hf)
    unfold Gn
    rw [upd_ne hb]
    exact r.core.nf b q
  · by_cases hb : b = a
    · subst hb; rw [upd_same]; simp
    · rw [upd_ne hb]; exact r.core.f0 b q
  · obtain ⟨b, q1, q2, q3, q4⟩ := r.ow i d h1 h2
    have hb : b ≠ a := fun z => ap i d h2 h1 (by rw [← z]; exact q1)
    exact ⟨b, q1, q2, q3, by rw [upd_ne hb]; exact q4⟩
theorem Rel.unguard {a : Addr} {u : HO} (r : Rel G (upd B a u) F0 F H o σ ρ) (hb : B a = none) (h0 : F0 a = none) (hB : ∀ b, F0 b ≠ none → B b ≠ none) (hu : ∀ xs, u ≠ HO.tup xs) : Rel G B F0 F H o σ ρ ∧ H a = some u ∧ F a = none ∧ Apart o σ ρ a := by
  have fa : F a = none := by
    cases q : F a with
    | none => rfl
    | some w =>
      rcases r.core.nf a (by rw [q]; simp) with z | z | ⟨xs, z⟩
      · exact absurd h0 z
      · rw [upd_same] at z; cases z
      · rw [upd_same] at z; cases z; exact absurd rfl (hu xs)
  refine ⟨⟨⟨r.core.fh, fun b w q => r.core.bh b w (by rw [upd_ne (ne_of_none q hb)]; exact q), fun b q => ?_, hB⟩, r.len, r.sh, fun i d h1 h2 => ?_, r.dj⟩, r.core.bh a u upd_same, fa, fun i d h1 h2 h3 => ?_⟩
  · rcases r.core.nf b q with z | z
    · exact .inl z
    · by_cases hba : b = a
      · subst hba; exact .inr (.inl hb)
      · unfold Gn at z; rw [upd_ne hba] at z; exact .inr z
  · obtain ⟨b, q1, q2, q3, q4⟩ := r.ow i d h1 h2
    refine ⟨b, q1, q2, q3, ?_⟩
    by_cases hba : b = a
    · subst hba; exact hb
    · rw [upd_ne hba] at q4; exact q4
  · obtain ⟨b, q1, q2, q3, q4⟩ := r.ow i d h2 h1
    rw [h3] at q1; cases q1
    rw [upd_same] at q4; cases q4
theorem Rel.chg {a : Addr} {u : HO} (r : Rel G B F0 F H o σ ρ) (hf : F a = none) (hb : B a = none) (ap : Apart o σ ρ a) : Rel G B F0 F (upd H a u) o σ ρ := by
  refine ⟨⟨fun b w q => ?_, fun b w q => ?_, r.core.nf, r.core.f0⟩, r.len, r.sh, fun i d h1 h2 => ?_, r.dj⟩
  · rw [upd_ne (ne_of_none q hf)]; exact r.core.fh b w q
  · rw [upd_ne (ne_of_none q hb)]; exact r.core.bh b w q
  · obtain ⟨b, q1, q2, q3, q4⟩ := r.ow i d h1 h2
    have hba : b ≠ a := fun z => ap i d h2 h1 (by rw [← z]; exact q1)
    exact ⟨b, q1, q2.mono (Le.refl F) fun w q => by rw [upd_ne hba]; exact q, q3, q4⟩
theorem Rel.unwipe {vs : List Nat} (r : Rel G B F0 F H o σ ρ) (r' : Rel G B F0 F' H' o (wipe σ vs) (wipeD ρ vs)) (le : Le F F') (hv : ∀ i, i ∈ vs → i ∉ o) : Rel G B F0 F' H' o σ ρ := by
  refine ⟨r'.core, r.len, fun i d h1 h2 => let ⟨v, x, y⟩ := r.sh i d h1 h2; ⟨v, x, y.mono le⟩, fun i d h1 h2 => ?_, r.dj⟩
  have hi : i ∉ vs := fun z => hv i z h2
  obtain ⟨a, q1, q2, q3, q4⟩ := r'.ow i d (by rw [wipeD_get, if_neg fun z => hi z.1]; exact h1) h2
  rw [wipe_get, if_neg fun z => hi z.1] at q1
  exact ⟨a, q1, q2, q3, q4⟩
/-! ### a list comprehension -/
def R.val {α : Type} (r : R α) : R α := match r with
  | .ok a => .ok a
  | _ => .bad
def lcD (mg : D → Env → R Env) (mt : Env → R Bool) (me : Env → R D) : List D → Env → R (List D)
  | [], _ => .ok []
  | d :: ds, ρ => (mg d ρ).val.bind fun ρ' => (mt ρ').val.bind fun b => bif b then (me ρ').val.bind fun x => (lcD mg mt me ds ρ).bind fun xs => .ok (x :: xs) else lcD mg mt me ds ρ
def mLc (vs : List Nat) (mi : Env → R (List D)) (mg : D → Env → R Env) (mt : Env → R Bool) (me : Env → R D) : Env → R D := fun ρ =>
  (mi ρ).bind fun ds => (lcD mg mt me ds (wipeD ρ vs)).val.bind fun xs => if xs.length ≤ sizeLine then .ok (.lst xs) else .bad
def mYes : Env → R Bool := fun _ => .ok true
theorem PuT.yes : PuT G W o tYes o mYes := fun {_ _ F H _ _ _} r h => h F H (Gr.refl F H) r
theorem R.val_ok {α : Type} {r : R α} {a : α} (h : r.val = .ok a) : r = .ok a := by
  cases r with
  | ok b => exact h
  | exc c p => cases h
  | bad => cases h
theorem R.bind_eq {α β : Type} {r : R α} {f : α → R β} {b : β} (h : r.bind f = .ok b) : ∃ a, r = .ok a ∧ f a = .ok b := by
  cases r with
  | ok a => exact ⟨a, rfl, h⟩
  | exc c p => cases h
  | bad => cases h
variable {wi : TI} {g : TG} {tt : TT} {te : TE} {mi : Env → R (List D)} {mg : D → Env → R Env} {mt : Env → R Bool} {me : Env → R D}
theorem PuO.lc {vs : List Nat} (hi : PuI G W o wi o mi) (hv : ∀ i, i ∈ vs → i ∉ o) (hw : GW g mg vs) (hg : PuG G o g o mg) (ht : PuT G W1 o tt o mt) (he : PuE G W1 o te o me) : PuO G W o (tLc wi g tt te vs) o (mLc vs mi mg mt me) := by
  intro B F0 F H σ ρ Q rel h
  refine hi rel ((Res.bnd h).imp fun ds F1 H1 e1 r1 q J Y D hD => ?_)
  -- the whole list
  obtain ⟨xs, hxs, hlen, q⟩ : ∃ xs, lcD mg mt me ds (wipeD ρ vs) = .ok xs ∧ xs.length ≤ sizeLine ∧ Res G W B F0 F1 H1 o σ ρ (kO G B o σ ρ Q) (.ok (.lst xs)) := by
    cases hl : lcD mg mt me ds (wipeD ρ vs) with
    | ok xs =>
      rw [hl] at q
      have q' : Res G W B F0 F1 H1 o σ ρ (kO G B o σ ρ Q) (if xs.length ≤ sizeLine then .ok (.lst xs) else .bad) := q
      split at q'
      · rename_i hz; exact ⟨xs, rfl, hz, q'⟩
      · exact q'.elim
    | exc c p => rw [hl] at q; exact q.elim
    | bad => rw [hl] at q; exact q.elim
  obtain ⟨r1D, fD, bD, apD⟩ := r1.laidOwn (u := .lst []) hD
  have f0D : F0 D = none := by
    cases z : F0 D with
    | none => rfl
    | some w => exact absurd bD (r1.core.f0 D (by rw [z]; simp))
  have sD : Same H1 (upd H1 D (.lst [])) := fun b u z => by rw [upd_ne (ne_of_none z hD)]; exact z
  let Inv : Nat → Hp → Prop := fun i H' => ∃ F' acc accD rest, Le F1 F' ∧ Same H1 H' ∧ Rel G B F0 F' H' o (wipe σ vs) (wipeD ρ vs) ∧ H' D = some (.lst acc) ∧ RpL G F' accD acc ∧ F' D = none ∧ Apart o (wipe σ vs) (wipeD ρ vs) D ∧
    lcD mg mt me (ds.drop i) (wipeD ρ vs) = .ok rest ∧ accD ++ rest = xs
  have apW : Apart o (wipe σ vs) (wipeD ρ vs) D := fun i d h1 h2 h3 => by
    have hi : i ∉ vs := fun z => hv i z h1
    rw [wipeD_get, if_neg fun z => hi z.1] at h2
    rw [wipe_get, if_neg fun z => hi z.1] at h3
    exact apD i d h1 h2 h3
  refine ⟨fun i m H' => m = ds.length - i ∧ i ≤ ds.length ∧ Inv i H', ⟨ds.length, by simp, Nat.zero_le _, F1, [], [], xs, Le.refl F1, sD, r1D.wiped vs, upd_same, .nil, fD, apW, by simpa using hxs, rfl⟩, ?_⟩
  rintro i m H' ⟨rfl, hle, F', acc, accD, rest, le, sm, r', hacc, racc, fD', ap', hrest, happ⟩
  obtain ⟨y1, y2, y3⟩ := Y F' H' le r'.core.fh
  by_cases hlt : i < ds.length
  · have hd : ds[i]? = some ds[i] := List.getElem?_eq_getElem hlt
    rw [List.drop_eq_getElem_cons hlt] at hrest
    have hrest' : (mg ds[i] (wipeD ρ vs)).val.bind (fun ρ' => (mt ρ').val.bind fun b => bif b then (me ρ').val.bind fun x => (lcD mg mt me (ds.drop (i + 1)) (wipeD ρ vs)).bind fun xs => .ok (x :: xs) else lcD mg mt me (ds.drop (i + 1)) (wipeD ρ vs)) = .ok rest := hrest
    obtain ⟨ρ2, hm1, hm2⟩ := R.bind_eq hrest'
    obtain ⟨b, hb1, hb2⟩ := R.bind_eq hm2
    have hm1 := R.val_ok hm1
    have hb1 := R.val_ok hb1
    have hwd : wipeD ρ2 vs = wipeD ρ vs := (hw.2 _ _ _ hm1).trans (wipeD_wipeD ρ vs)
    refine .inr ⟨y1 i hlt, Inv (i + 1), fun H2 I2 => ⟨ds.length - (i + 1), by omega, rfl, hlt, I2⟩, fun x H3 hy => ?_⟩
    obtain ⟨F3, g3, f3, n3, rv⟩ := y3 i ds[i] x H3 hd hy
    have r3 := r'.grow g3.le f3 g3.same n3
    have h3D := g3.same D _ hacc
    have fD3 : F3 D = none := by
      cases z : F3 D with
      | none => rfl
      | some w =>
        rcases n3 D (by rw [z]; simp) with z | z | ⟨xs, z⟩
        · exact absurd fD' z
        · rw [hacc] at z; cases z
        · rw [hacc] at z; cases z
    have r3g := r3.guard h3D fD3 ap'
    have rw1 : wipe (wipe σ vs) vs = wipe σ vs := wipe_wipe σ vs
    have key := hw.1 x (wipe σ vs) H3 (fun σ2 H2 => tt σ2 H2 fun b H3 => if b = true then te σ2 H3 fun y H4 => ∃ acc, H4 D = some (.lst acc) ∧ acc.length < sizeLine ∧ Inv (i + 1) (upd H4 D (.lst (acc ++ [y]))) else Inv (i + 1) H3)
    rw [rw1] at key
    refine key (hg r3g rv ⟨ρ2, hm1, fun σ2 r2 hwip => ht r2 ?_⟩)
    rw [hb1]
    intro F4 H4 g4 r4
    -- what the invariant wants behind the turn, acc or one more
    have back : ∀ {F5 H5 : Hp}, Gr F3 H3 F5 H5 → Rel G (upd B D (.lst acc)) F0 F5 H5 o σ2 ρ2 → Le F1 F5 ∧ Same H1 H5 ∧ Rel G B F0 F5 H5 o (wipe σ vs) (wipeD ρ vs) ∧ H5 D = some (.lst acc) ∧ F5 D = none ∧ Apart o (wipe σ vs) (wipeD ρ vs) D := fun {F5 H5} g5 r5 => by
      obtain ⟨x1, x2, x3, x4⟩ := r5.unguard bD f0D r3.core.f0 (fun _ z => by cases z)
      have w1 := x1.wiped vs
      rw [hwip, hwd] at w1
      refine ⟨(le.trans g3.le).trans g5.le, (sm.trans g3.same).trans g5.same, w1, x2, x3, fun j f z1 z2 z3 => ?_⟩
      exact ap' j f z1 z2 z3
    cases b with
    | false =>
      obtain ⟨z1, z2, z3, z4, z5, z6⟩ := back g4 r4
      exact ⟨F4, acc, accD, rest, z1, z2, z3, z4, (racc.mono g3.le).mono g4.le, z5, z6, hb2, happ⟩
    | true =>
      have hb2' : (me ρ2).val.bind (fun x => (lcD mg mt me (ds.drop (i + 1)) (wipeD ρ vs)).bind fun xs => .ok (x :: xs)) = .ok rest := hb2
      obtain ⟨y, hy1, hy2⟩ := R.bind_eq hb2'
      obtain ⟨rest', hr1, hr2⟩ := R.bind_eq hy2
      cases hr2
      have hy1 := R.val_ok hy1
      refine he r4 ?_
      rw [hy1]
      intro F5 H5 g5 r5 yv ry
      obtain ⟨z1, z2, z3, z4, z5, z6⟩ := back (g4.trans g5) r5
      have hl : acc.length < sizeLine := by
        have h1 := racc.length
        have h2 : accD.length + (rest'.length + 1) ≤ sizeLine := by
          rw [← happ] at hlen
          simpa using hlen
        omega
      refine ⟨acc, z4, hl, F5, acc ++ [yv], accD ++ [y], rest', z1, fun c u q => ?_, z3.chg z5 bD z6, upd_same, RpL.append (((racc.mono g3.le).mono g4.le).mono g5.le) (.cons ry .nil), z5, z6, hr1, by rw [List.append_assoc]; exact happ⟩
      have hc : c ≠ D := ne_of_none q hD
      rw [upd_ne hc]
      exact z2 c u q
  · have e : i = ds.length := by omega
    subst e
    rw [List.drop_length] at hrest
    cases hrest
    rw [List.append_nil] at happ
    subst happ
    refine .inl ⟨y2, q F' H' ⟨le, sm⟩ (r1.unwipe r' le hv) D (.lst hacc racc) fD' bD apD⟩
end
end G
/-! S5: defs, their plain functions, their calls. -/
namespace G
open PySem L2

/-- a def as plain data: n parameters, k further slots, its body's function -/
structure DefM where
  n : Nat
  k : Nat
  body : Env → Out
def Out.res : Out → R D
  | .nx _ => .ok .non
  | .rt d => .ok d
  | .exc c p _ => .exc c p
  | _ => .bad
def DefM.fn (d : DefM) : List D → R D := fun ds => if ds.length = d.n then (d.body (ds.map some ++ List.replicate d.k none)).res else .bad
/-- what a call's plain result asks -/
def FEnd (G : Gc) (F H : Hp) (Q : VK) (E : XK) : R D → Prop
  | .ok d => ∀ F' H' v, Le F F' → Same H H' → (∀ a u, F' a = some u → H' a = some u) → (∀ a, F' a ≠ none → F a ≠ none ∨ Gn H a) → Rp G F' d v → Q v H'
  | .exc c p => ∀ F' H' cls dd, Le F F' → Same H H' → (∀ a u, F' a = some u → H' a = some u) → (∀ a, F' a ≠ none → F a ≠ none ∨ Gn H a) → ExcRep G F' H' c p cls dd → E cls dd H'
  | .bad => False
/-- the promise of a def: it computes fn -/
def spM (G : Gc) (n : Nat) (fn : List D → R D) : Sp := fun vs H Q E => ∃ F ds, (∀ a u, F a = some u → H a = some u) ∧ RpL G F ds vs ∧ ds.length = n ∧ FEnd G F H Q E (fn ds)
theorem spM_len {G : Gc} {n : Nat} {fn : List D → R D} {ps : List Str} (hn : ps.length = n) : ∀ vs H Q E, spM G n fn vs H Q E → vs.length = ps.length := fun vs H Q E ⟨F, ds, _, r, l, _⟩ => by rw [hn, ← l, r.length]
section
variable {G : Gc} {W : WX} {o o1 o2 : List Nat}
theorem rel_start {F H : Hp} {N : List Str} {vs : List V} {ds : List D} {k : Nat} (hf : ∀ a u, F a = some u → H a = some u) (r : RpL G F ds vs) (hk : N.length - vs.length = k) : Rel G H F F H [] (L2.start N vs) (ds.map some ++ List.replicate k none) := by
  refine ⟨⟨hf, fun _ _ q => q, fun _ q => .inl q, fun a q => ?_⟩, ?_, fun i d h1 _ => ?_, fun i d _ h => (by cases h), fun i j d e a _ h => (by cases h)⟩
  · cases z : F a with
    | none => exact absurd z q
    | some u => rw [hf a u z]; simp
  · unfold L2.start
    rw [List.length_append, List.length_append, List.length_map, List.length_map, List.length_replicate, List.length_replicate, hk, r.length]
  · have hl := r.length
    rcases Nat.lt_or_ge i ds.length with q | q
    · rw [List.getElem?_append_left (by rw [List.length_map]; exact q), List.getElem?_map] at h1
      cases z : ds[i]? with
      | none => rw [z] at h1; cases h1
      | some e =>
        rw [z] at h1; cases h1
        obtain ⟨v, h3, h4⟩ := r.get z
        refine ⟨v, ?_, h4⟩
        unfold L2.start
        rw [List.getElem?_append_left (by rw [List.length_map, ← hl]; exact q), List.getElem?_map, h3]
        rfl
    · rw [List.getElem?_append_right (by rw [List.length_map]; exact q)] at h1
      rw [List.getElem?_replicate] at h1
      split at h1 <;> cases h1
/-- a body's reading at the entry -/
theorem body_start {F H : Hp} {N : List Str} {vs : List V} {Q : VK} {E : XK} {t : TS} {o' : List Nat} {d : DefM} {ps : List Str} (hN : N.length - ps.length = d.k) (hp : ps.length = d.n) (hb : PuS G (fun cls dd _ H => E cls dd H) [] [] t o' d.body) (h : spM G d.n d.fn vs H Q E) :
    t { nx := fun _ H' => Q .non H', rt := Q } (L2.start N vs) H := by
  obtain ⟨F, ds, hf, r, hl, h⟩ := h
  have hv : vs.length = ps.length := by rw [← r.length, hl, hp]
  refine hb (rel_start (k := d.k) hf r (by rw [hv]; exact hN)) ?_
  have h' : FEnd G F H Q E (d.body (ds.map some ++ List.replicate d.k none)).res := by
    unfold DefM.fn at h
    rw [if_pos hl] at h
    exact h
  have nf : ∀ {F' H' : Hp}, Core H F F' H' → ∀ a, F' a ≠ none → F a ≠ none ∨ Gn H a := fun {F' H'} c a q => c.nf a q
  cases hm : d.body (ds.map some ++ List.replicate d.k none) with
  | nx ρ' => rw [hm] at h'; exact fun F' H' σ' le r' => h' F' H' .non le r'.core.bh r'.core.fh (nf r'.core) .non
  | rt e => rw [hm] at h'; exact fun F' H' v le c rv => h' F' H' v le c.bh c.fh (nf c) rv
  | exc c p ρ' => rw [hm] at h'; exact fun F' H' σ' cls dd le r' x => h' F' H' cls dd le r'.core.bh r'.core.fh (nf r'.core) x
  | bk ρ' => rw [hm] at h'; exact h'.elim
  | ct ρ' => rw [hm] at h'; exact h'.elim
  | bad => rw [hm] at h'; exact h'.elim
/-- what is asked of a def behind the top -/
structure Fd (P : Program) (w : World) (K : PySem.W.Frag) (mg : Str → Option Value) (base : Heap) (k : Nat) (x : Str) (ps : List Str) (f : Addr) (fd : FuncData) (fn : List D → R D) : Prop where
  ok : FnOk P w K mg base (L2N.CX P w) k f fd ps (spM ⟨K, mg⟩ ps.length fn)
  g : mg x = some (.ref f)
  kp : PySem.W.keepIn K (.ref f) = true
  b : Binds K fd ps []
/-- nothing is let out where nothing is wished -/
theorem FnOk.quiet {P : Program} {w : World} {K : PySem.W.Frag} {mg : Str → Option Value} {base : Heap} {k : Nat} {f : Addr} {fd : FuncData} {ps : List Str} {sp : Sp} (F : FnOk P w K mg base (L2N.CX P w) k f fd ps sp) :
    FnOk P w K mg base CX0 k f fd ps (fun vs H Q _ => sp vs H Q fun _ _ _ => False) := by
  refine ⟨fun vs H Q E h => F.len vs H Q _ h, fun A outer s H args us vs Q E hr e0 hb r h => ?_⟩
  refine codeAny_mono (F.run A outer s H args us vs Q (fun _ _ _ => False) hr e0 hb r h) fun r s' hq => ?_
  cases r with
  | ok fl => cases fl <;> exact hq
  | error e =>
    obtain ⟨_, _, _, _, _, _, _, _, _, _, _, _, z⟩ := hq
    exact z.elim
theorem FEnd.of_res {B F0 F H : Hp} {σ : L2.St} {ρ : Env} {Q : VK} {r : R D} (rel : Rel G B F0 F H o σ ρ) (h : Res G W B F0 F H o σ ρ (kE G Q) r) : FEnd G F H Q (fun cls dd H' => W cls dd σ H') r := by
  cases r with
  | ok d => exact fun F' H' v le sm fh nf rv => h F' H' ⟨le, sm⟩ (rel.grow le fh sm nf) v rv
  | exc c p =>
    exact fun F' H' cls dd le sm fh nf x => by
      obtain ⟨F2, e2, r2⟩ := (rel.grow le fh sm nf).bare
      refine h F2 H' cls dd (le.trans e2) r2 ?_
      obtain ⟨C, h1, h2, h3⟩ := x
      refine ⟨C, h1, h2, ?_⟩
      cases p with
      | none => exact h3
      | some q =>
        obtain ⟨a, v, y1, y2, y3⟩ := h3
        exact ⟨a, v, y1, y2, y3.mono e2⟩
  | bad => exact h.elim
variable {ts : TA} {ms : Env → R (List D)} {n : Nat} {fn : List D → R D}
/-- the callee wants just n values -/
def mCallN (n : Nat) (fn : List D → R D) (ms : Env → R (List D)) : Env → R D := fun ρ => (ms ρ).bind fun ds => if ds.length = n then fn ds else .bad
theorem PuE.call (hs : PuA G W o ts o1 ms) : PuE G W o (tCallS (spM G n fn) (WE W) ts) o1 (mCallN n fn ms) := by
  intro B F0 F H σ ρ Q rel h
  refine hs rel ((Res.bnd h).imp fun ds F1 H1 e1 r1 q vs rv => ?_)
  split at q
  · rename_i hl
    exact ⟨F1, ds, r1.core.fh, rv, hl, FEnd.of_res r1 q⟩
  · exact q.elim
/-- .. where nothing may be let out (a comprehension's block) -/
theorem PuE.call0 (hs : PuA G W o ts o1 ms) : PuE G W o (tCall (fun vs H Q _ => spM G n fn vs H Q fun _ _ _ => False) [] E0 ts) o1 (fun ρ => (ms ρ).bind fun ds => if ds.length = n then (fn ds).val else .bad) := by
  intro B F0 F H σ ρ Q rel h
  refine hs rel ((Res.bnd h).imp fun ds F1 H1 e1 r1 q vs rv => ?_)
  split at q
  · rename_i hl
    refine ⟨F1, ds, r1.core.fh, by rw [List.append_nil]; exact rv, hl, ?_⟩
    cases hf : fn ds with
    | ok d => rw [hf] at q; exact fun F' H' v le sm fh nf rv => q F' H' ⟨le, sm⟩ (r1.grow le fh sm nf) v rv
    | exc c p => rw [hf] at q; exact q.elim
    | bad => rw [hf] at q; exact q.elim
  · exact q.elim
end
end G
/-! E3: a tuple, once or not at all (tuple * 1, tuple * 0). -/
namespace TpM
open PySem PySem.Spec PyProof.Rows L2
abbrev Tob (xs : Array Value) (k : Nat) (e : Option Addr) (z : Array (Option Value)) : Obj := { cls := .type "tuple", dict := e, data := .seq xs k, slots := z }
theorem once (l : Addr) (xs : Array Value) (k : Nat) (e : Option Addr) (z : Array (Option Value)) (u : Tok) :
    Meets (Builtin.«tuple.__mul__» ⟨[.ref l, .int 1 u], []⟩) (fun _ R s => s.heap.get? l = some (Tob xs k e z) ∧ R (.ok (.ret (.ref l))) s) :=
  .of_wp fun prog w A R s h => by
    obtain ⟨hp, g, d, tk, os⟩ := s
    obtain ⟨hl, h⟩ := h
    have f1 := AutoSeq1.idx_int
    wp_walk using wpAny_loadPart' hl
    exact ⟨_, rfl, h⟩
theorem naught (l : Addr) (xs : Array Value) (hx : xs.isEmpty = false) (k : Nat) (e : Option Addr) (z : Array (Option Value)) (u : Tok) :
    Meets (Builtin.«tuple.__mul__» ⟨[.ref l, .int 0 u], []⟩) (fun _ R s => s.heap.get? l = some (Tob xs k e z) ∧ R (.ok (.ret (Value.ref s.heap.objs.size))) { s with heap := s.heap.push { cls := Value.type "tuple", data := Data.seq #[] }, toks := s.toks }) :=
  .of_wp fun prog w A R s h => by
    obtain ⟨hp, g, d, tk, os⟩ := s
    obtain ⟨hl, h⟩ := h
    have f1 := AutoSeq1.idx_int
    wp_walk using wpAny_loadPart' hl
    exact ⟨_, rfl, h⟩
def rTimes (K : PySem.W.Frag) : R2 := fun x y H Q => ∃ l k vs, x = .ref l ∧ y = .int k ∧ SqT K H l vs ∧ vs ≠ [] ∧ ((k = 1 ∧ Q (.ref l) H) ∨ (k = 0 ∧ ∀ p, H p = none → Q (.ref p) (upd H p (.tup []))))
theorem op_times {X : Cx} : OpR X (binaryOp .Mult) (rTimes X.K) := by
  intro pins s σ H x y v u Q I rx ry h
  obtain ⟨l, k, vs, rfl, rfl, hT, hne, hk⟩ := h
  cases rx
  obtain ⟨t, rfl⟩ := ry
  obtain ⟨its, r, ⟨⟨cls, dd, data, sl⟩, ho, hc, n, hd⟩, hs⟩ := I.tuple hT
  simp only at hc hd
  subst hc hd
  have hi : its.toArray.isEmpty = false := by
    cases its with
    | nil =>
      cases vs with
      | nil => exact absurd rfl hne
      | cons _ _ => cases r
    | cons a b => rfl
  rcases hk with ⟨rfl, q⟩ | ⟨rfl, q⟩
  · refine wpAny_binaryOp_repeat_ref (T := "tuple") (U := "int") (by decide) ⟨_, ho, rfl⟩ (fun s' => typeIs_int s' 1 t) noFill_tuple_mul F.fills_int_mul F.slot_int_rmul repeat_tuple F.slot_int_index.lookup ?_
    refine call_meets F.slot_int_rmul (typeIs_int s 1 t) F.entry_int_rmul (F.args_int_rmul_2 _ _) (int_rmul_tuple 1 t l its.toArray n dd sl) ⟨ho, rfl, ⟨_, ho, rfl⟩, ?_⟩
    refine call_meets F.slot_tuple_mul ⟨_, ho, rfl⟩ F.entry_tuple_mul (F.args_tuple_mul_2 _ _) (once l its.toArray n dd sl t) ⟨ho, ?_⟩
    exact ⟨.ref l, _, I, rfl, q⟩
  · refine wpAny_binaryOp_repeat_ref (T := "tuple") (U := "int") (by decide) ⟨_, ho, rfl⟩ (fun s' => typeIs_int s' 0 t) noFill_tuple_mul F.fills_int_mul F.slot_int_rmul repeat_tuple F.slot_int_index.lookup ?_
    refine call_meets F.slot_int_rmul (typeIs_int s 0 t) F.entry_int_rmul (F.args_int_rmul_2 _ _) (int_rmul_tuple 0 t l its.toArray n dd sl) ⟨ho, rfl, ⟨_, ho, rfl⟩, ?_⟩
    refine call_meets F.slot_tuple_mul ⟨_, ho, rfl⟩ F.entry_tuple_mul (F.args_tuple_mul_2 _ _) (naught l its.toArray hi n dd sl t) ⟨ho, ?_⟩
    refine ⟨.ref s.heap.objs.size, _, I.laid (t' := s.toks) (o := .tup []) (fun b ob w => Heap.get?_push_of_some _ w) (Nat.le_refl _) ?_, rfl, q _ (I.hok.fresh (Nat.le_refl _))⟩
    exact ⟨Nat.zero_le _, [], .nil, IsTup.new _ _⟩
end TpM
/-! S6: the operations on plain data, and the hand layer's rules for them. -/
namespace G
open PySem L2

section
variable {G : Gc} {W : WX} {B F0 F H : Hp} {o : List Nat} {σ : L2.St} {ρ : Env} {Q : VK}
theorem Res.here {d : D} {v : V} (h : Res G W B F0 F H o σ ρ (kE G Q) (.ok d)) (rel : Rel G B F0 F H o σ ρ) (rv : Rp G F d v) : Q v H := h F H (Gr.refl F H) rel v rv
theorem Res.new {d : D} {p : Addr} {u : HO} (h : Res G W B F0 F H o σ ρ (kE G Q) (.ok d)) (rel : Rel G B F0 F H o σ ρ) (hp : H p = none) (rv : ∀ F', Le F F' → F' p = some u → Rp G F' d (.ref p)) : Q (.ref p) (upd H p u) := by
  obtain ⟨e, r⟩ := rel.laid (u := u) hp
  exact h _ _ ⟨e, fun b w q => by rw [upd_ne (ne_of_none q hp)]; exact q⟩ r _ (rv _ e upd_same)
theorem Res.newO {d : D} {p : Addr} {u : HO} (h : Res G W B F0 F H o σ ρ (kO G B o σ ρ Q) (.ok d)) (rel : Rel G B F0 F H o σ ρ) (hp : H p = none) (rv : Own G F (upd H p u) d p) : Q (.ref p) (upd H p u) := by
  obtain ⟨r, f, b, ap⟩ := rel.laidOwn (u := u) hp
  exact h _ _ ⟨Le.refl F, fun c w q => by rw [upd_ne (ne_of_none q hp)]; exact q⟩ r p rv f b ap
/-- where a plain list, tuple stands -/
theorem Rel.lst {a : Addr} {vs : List V} (rel : Rel G B F0 F H o σ ρ) (h : F a = some (.lst vs)) : H a = some (.lst vs) := rel.core.fh _ _ h
theorem Rel.sqL {a : Addr} {vs : List V} (rel : Rel G B F0 F H o σ ρ) (h : SqL G.K F a vs) : SqL G.K H a vs := h.elim (fun q => .inl (q.elim (fun q => .inl (rel.core.fh _ _ q)) fun ⟨x, q⟩ => .inr ⟨x, rel.core.fh _ _ q⟩)) .inr
theorem Rel.sqT {a : Addr} {vs : List V} (rel : Rel G B F0 F H o σ ρ) (h : SqT G.K F a vs) : SqT G.K H a vs := h.elim (fun q => .inl (q.elim (fun q => .inl (rel.core.fh _ _ q)) fun ⟨x, q⟩ => .inr ⟨x, rel.core.fh _ _ q⟩)) .inr
theorem Rel.rd {a : Addr} {u : HO} (rel : Rel G B F0 F H o σ ρ) (h : Rd F a u) : Rd H a u := h.elim (fun q => .inl (rel.core.fh _ _ q)) fun ⟨x, q⟩ => .inr ⟨x, rel.core.fh _ _ q⟩
end

/-! ### numbers, texts, sequences put together -/
def D.add : D → D → R D
  | .int i, .int j => .ok (.int (i + j))
  | .str a, .str b => if a.length + b.length ≤ sizeLine then .ok (.str (a ++ b)) else .bad
  | .tup a, .tup b => if a.length + b.length ≤ sizeLine then .ok (.tup (a ++ b)) else .bad
  | .lst a, .lst b => if a.length + b.length ≤ sizeLine then .ok (.lst (a ++ b)) else .bad
  | _, _ => .bad
abbrev rAddAll (K : PySem.W.Frag) : R2 := fun x y H Q => (rI0 fun i j => V.int (i + j)) x y H Q ∨ ((∃ i j, x = V.str i ∧ y = V.str j ∧ i.length + j.length ≤ sizeLine ∧ Q (.str (i ++ j)) H) ∨ (rCatA K x y H Q ∨ rCat x y H Q))
theorem R.ifOk {α : Type} {c : Prop} [Decidable c] {r : R α} {a : α} (h : (if c then r else .bad) = .ok a) : c ∧ r = .ok a := by
  split at h
  · rename_i hc; exact ⟨hc, h⟩
  · cases h
theorem Res.ifP {G : Gc} {W : WX} {B F0 F H : Hp} {o : List Nat} {σ : L2.St} {ρ : Env} {α : Type} {k : α → Hp → Hp → Prop} {c : Prop} [Decidable c] {r : R α} (h : Res G W B F0 F H o σ ρ k (if c then r else .bad)) : c ∧ Res G W B F0 F H o σ ρ k r := by
  split at h
  · rename_i hc; exact ⟨hc, h⟩
  · exact h.elim
section
variable {X : Cx} {G : Gc} {W : WX}
theorem op_addAll : OpR X (binaryOp .Add) (rAddAll X.K) := OpR.or op_add (OpR.or op_add_str (OpR.or op_catA op_cat))
theorem pu_add : PuR2 G W (rAddAll G.K) D.add := by
  intro B F0 F H o σ ρ Q v w a b rel ra rb h
  cases ra with
  | int i =>
    cases rb with
    | int j => exact .inl ⟨i, j, rfl, rfl, h.here rel (.int _)⟩
    | _ => exact h.elim
  | str x =>
    cases rb with
    | str y => exact .inr (.inl ⟨x, y, rfl, rfl, (Res.ifP h).1, (Res.ifP h).2.here rel (.str _)⟩)
    | _ => exact h.elim
  | @tup p vs ds h1 r1 =>
    cases rb with
    | @tup q ws es h2 r2 =>
      obtain ⟨hl, h⟩ := Res.ifP h
      have nilD : vs = [] → ds = [] := fun e => by subst e; cases r1; rfl
      have nilE : ws = [] → es = [] := fun e => by subst e; cases r2; rfl
      refine .inr (.inr (.inl ⟨p, q, vs, ws, rfl, rfl, .inl (.inl (rel.core.fh _ _ h1)), .inl (.inl (rel.core.fh _ _ h2)), by rw [← r1.length, ← r2.length]; exact hl, fun e => ?_, fun _ e => ?_, fun _ _ z hz => h.new rel hz fun F' le e => .tup e ((r1.mono le).append (r2.mono le))⟩))
      · rw [nilD e] at h; exact h.here rel (.tup h2 r2)
      · rw [nilE e, List.append_nil] at h; exact h.here rel (.tup h1 r1)
    | _ => exact h.elim
  | @lst p vs ds h1 r1 =>
    cases rb with
    | @lst q ws es h2 r2 =>
      obtain ⟨hl, h⟩ := Res.ifP h
      exact .inr (.inr (.inr ⟨p, q, vs, ws, rfl, rfl, rel.core.fh _ _ h1, rel.core.fh _ _ h2, by rw [← r1.length, ← r2.length]; exact hl, fun z hz => h.new rel hz fun F' le e => .lst e ((r1.mono le).append (r2.mono le))⟩))
    | _ => exact h.elim
  | _ => cases rb <;> exact h.elim
/-- an operation on two ints that gives an int under a condition -/
def dI (c : Int → Int → Bool) (f : Int → Int → Int) : D → D → R D
  | .int i, .int j => if c i j = true then .ok (.int (f i j)) else .bad
  | _, _ => .bad
theorem pu_I {C : Int → Int → Prop} {c : Int → Int → Bool} {f : Int → Int → Int} (hc : ∀ i j, c i j = true → C i j) : PuR2 G W (rI C fun i j => .int (f i j)) (dI c f) := by
  intro B F0 F H o σ ρ Q v w a b rel ra rb h
  cases ra with
  | int i =>
    cases rb with
    | int j => exact ⟨i, j, rfl, rfl, hc i j (Res.ifP h).1, (Res.ifP h).2.here rel (.int _)⟩
    | _ => exact h.elim
  | _ => cases rb <;> exact h.elim
def dI0 (f : Int → Int → Int) : D → D → R D
  | .int i, .int j => .ok (.int (f i j))
  | _, _ => .bad
theorem pu_I0 {f : Int → Int → Int} : PuR2 G W (rI0 fun i j => .int (f i j)) (dI0 f) := by
  intro B F0 F H o σ ρ Q v w a b rel ra rb h
  cases ra with
  | int i =>
    cases rb with
    | int j => exact ⟨i, j, rfl, rfl, h.here rel (.int _)⟩
    | _ => exact h.elim
  | _ => cases rb <;> exact h.elim
def dB0 (f : Int → Int → Bool) : D → D → R D
  | .int i, .int j => .ok (.bl (f i j))
  | _, _ => .bad
theorem pu_B0 {f : Int → Int → Bool} : PuR2 G W (rI0 fun i j => .bl (f i j)) (dB0 f) := by
  intro B F0 F H o σ ρ Q v w a b rel ra rb h
  cases ra with
  | int i =>
    cases rb with
    | int j => exact ⟨i, j, rfl, rfl, h.here rel (.bl _)⟩
    | _ => exact h.elim
  | _ => cases rb <;> exact h.elim
def D.sub : D → D → R D := dI0 fun i j => i - j
def mulC (i j : Int) : Bool := (decide (-(2 ^ 64) < i) && decide (i < 2 ^ 64)) || (decide (-(2 ^ 64) < j) && decide (j < 2 ^ 64))
theorem mulC_ok (i j : Int) (h : mulC i j = true) : CMul i j := by
  unfold mulC at h
  rw [Bool.or_eq_true, Bool.and_eq_true, Bool.and_eq_true] at h
  rcases h with ⟨a, b⟩ | ⟨a, b⟩
  · exact .inl ⟨of_decide_eq_true a, of_decide_eq_true b⟩
  · exact .inr ⟨of_decide_eq_true a, of_decide_eq_true b⟩
/-- a list or tuple, so many times -/
def repD (ds : List D) (k : Int) : List D := (List.replicate k.toNat ds).flatten
def D.mul : D → D → R D
  | .int i, .int j => if mulC i j = true then .ok (.int (i * j)) else .bad
  | .lst ds, .int k => if -(2 ^ 63) ≤ k ∧ k < 2 ^ 63 ∧ ds.length * k.toNat ≤ sizeLine then .ok (.lst (repD ds k)) else .bad
  | .tup ds, .int k => if ds ≠ [] ∧ 2 ≤ k ∧ k ≤ 1000 ∧ ds.length ≤ 1000 then .ok (.tup (repD ds k)) else if ds ≠ [] ∧ k = 1 then .ok (.tup ds) else if ds ≠ [] ∧ k = 0 then .ok (.tup []) else .bad
  | _, _ => .bad
abbrev rMulAll (K : PySem.W.Frag) : R2 := fun x y H Q => (rI CMul fun i j => V.int (i * j)) x y H Q ∨ (rRep x y H Q ∨ (rRepT K x y H Q ∨ TpM.rTimes K x y H Q))
theorem op_mulAll : OpR X (binaryOp .Mult) (rMulAll X.K) := OpR.or op_mul (OpR.or op_rep (OpR.or op_repT TpM.op_times))
theorem RpL.rep {F : Hp} {ds : List D} {vs : List V} (h : RpL G F ds vs) : ∀ n : Nat, RpL G F (List.replicate n ds).flatten (List.replicate n vs).flatten
  | 0 => .nil
  | n + 1 => by rw [List.replicate_succ, List.replicate_succ, List.flatten_cons, List.flatten_cons]; exact h.append (RpL.rep h n)
theorem pu_mul : PuR2 G W (rMulAll G.K) D.mul := by
  intro B F0 F H o σ ρ Q v w a b rel ra rb h
  cases ra with
  | int i =>
    cases rb with
    | int j => exact .inl ⟨i, j, rfl, rfl, mulC_ok _ _ (Res.ifP h).1, (Res.ifP h).2.here rel (.int _)⟩
    | _ => exact h.elim
  | @lst p vs ds h1 r1 =>
    cases rb with
    | int k =>
      obtain ⟨⟨c1, c2, c3⟩, h⟩ := Res.ifP h
      exact .inr (.inl ⟨p, k, vs, rfl, rfl, rel.core.fh _ _ h1, c1, c2, by rw [← r1.length]; exact c3, fun z hz => h.new rel hz fun F' le e => .lst e ((r1.mono le).rep k.toNat)⟩)
    | _ => exact h.elim
  | @tup p vs ds h1 r1 =>
    cases rb with
    | int k =>
      have hne : ds ≠ [] → vs ≠ [] := fun c e => c (by subst e; cases r1; rfl)
      have hT : SqT G.K H p vs := .inl (.inl (rel.core.fh _ _ h1))
      unfold D.mul at h
      dsimp only at h
      by_cases q1 : ds ≠ [] ∧ 2 ≤ k ∧ k ≤ 1000 ∧ ds.length ≤ 1000
      · rw [if_pos q1] at h
        exact .inr (.inr (.inl ⟨p, k, vs, rfl, rfl, hT, hne q1.1, q1.2.1, q1.2.2.1, by rw [← r1.length]; exact q1.2.2.2, fun z hz => h.new rel hz fun F' le e => .tup e ((r1.mono le).rep k.toNat)⟩))
      · rw [if_neg q1] at h
        by_cases q2 : ds ≠ [] ∧ k = 1
        · rw [if_pos q2] at h
          exact .inr (.inr (.inr ⟨p, k, vs, rfl, rfl, hT, hne q2.1, .inl ⟨q2.2, h.here rel (.tup h1 r1)⟩⟩))
        · rw [if_neg q2] at h
          by_cases q3 : ds ≠ [] ∧ k = 0
          · rw [if_pos q3] at h
            exact .inr (.inr (.inr ⟨p, k, vs, rfl, rfl, hT, hne q3.1, .inr ⟨q3.2, fun z hz => h.new rel hz fun F' le e => .tup e .nil⟩⟩))
          · rw [if_neg q3] at h
            exact h.elim
    | _ => exact h.elim
  | _ => cases rb <;> exact h.elim
def divC (i j : Int) : Bool := decide (j ≠ 0) && decide (j.natAbs < 1073741824)
theorem divC_ok (i j : Int) (h : divC i j = true) : CDivN i j := by
  unfold divC at h
  rw [Bool.and_eq_true] at h
  exact ⟨of_decide_eq_true h.1, of_decide_eq_true h.2⟩
def D.fdiv : D → D → R D := dI divC fun i j => i.fdiv j
def modC (i j : Int) : Bool := decide (j ≠ 0)
def D.mod : D → D → R D := dI modC fun i j => i.fmod j
theorem pu_sub : PuR2 G W (rI0 fun i j => .int (i - j)) D.sub := pu_I0
theorem pu_fdiv : PuR2 G W (rI CDivN fun i j => .int (i.fdiv j)) D.fdiv := pu_I divC_ok
theorem pu_mod : PuR2 G W (rI (fun _ j => j ≠ 0) fun i j => .int (i.fmod j)) D.mod := pu_I fun _ _ h => of_decide_eq_true h
def powC (i j : Int) : Bool := decide (0 ≤ j) && (decide (j ≤ 1000000) && decide (i.natAbs < 2 ^ 64))
def D.pow : D → D → R D := dI powC fun i j => i ^ j.toNat
theorem pu_pow : PuR2 G W (rI CPow fun i j => .int (i ^ j.toNat)) D.pow := pu_I fun i j h => by
  unfold powC at h
  rw [Bool.and_eq_true, Bool.and_eq_true] at h
  exact ⟨of_decide_eq_true h.1, of_decide_eq_true h.2.1, of_decide_eq_true h.2.2⟩
def D.neg : D → R D
  | .int i => .ok (.int (-i))
  | _ => .bad
theorem pu_neg : PuR1 G W (rU fun i => .int (-i)) D.neg := by
  intro B F0 F H o σ ρ Q v a rel ra h
  cases ra with
  | int i => exact ⟨i, rfl, h.here rel (.int _)⟩
  | _ => exact h.elim
/-! ### comparisons -/
def D.ge : D → D → R D := dB0 fun i j => decide (j ≤ i)
def D.gt : D → D → R D := dB0 fun i j => decide (j < i)
def D.le : D → D → R D := dB0 fun i j => decide (i ≤ j)
def D.lt : D → D → R D := dB0 fun i j => decide (i < j)
theorem pu_ge : PuR2 G W (rI0 fun i j => .bl (decide (j ≤ i))) D.ge := pu_B0
theorem pu_gt : PuR2 G W (rI0 fun i j => .bl (decide (j < i))) D.gt := pu_B0
theorem pu_le : PuR2 G W (rI0 fun i j => .bl (decide (i ≤ j))) D.le := pu_B0
theorem pu_lt : PuR2 G W (rI0 fun i j => .bl (decide (i < j))) D.lt := pu_B0
/-! data that == takes -/
mutual
def D.py : D → Option PyData
  | .non => some .none
  | .bl b => some (.bool b)
  | .int i => some (.int i)
  | .str x => some (.str x)
  | .tup ds => (D.pyL ds).map .tuple
  | .lst ds => (D.pyL ds).map .list
  | _ => none
def D.pyL : List D → Option (List PyData)
  | [] => some []
  | d :: ds => match d.py, D.pyL ds with
    | some x, some xs => some (x :: xs)
    | _, _ => none
end
mutual
theorem dp_of {B F0 F H : Hp} {o : List Nat} {σ : L2.St} {ρ : Env} (rel : Rel G B F0 F H o σ ρ) : ∀ (d : D) (v : V) (p : PyData), Rp G F d v → d.py = some p → Dp G.K H v p
  | .non, v, p, h, e => by cases h; cases e; exact .non
  | .bl b, v, p, h, e => by cases h; cases e; exact .bl b
  | .int i, v, p, h, e => by cases h; cases e; exact .int i
  | .str x, v, p, h, e => by cases h; cases e; exact .str x
  | .tup ds, v, p, h, e => by
    cases h with
    | tup hh r =>
      unfold D.py at e
      cases q : D.pyL ds with
      | none => rw [q] at e; cases e
      | some ps => rw [q] at e; cases e; exact .tup (.inl (.inl (rel.core.fh _ _ hh))) (dpL_of rel ds _ ps r q)
  | .lst ds, v, p, h, e => by
    cases h with
    | lst hh r =>
      unfold D.py at e
      cases q : D.pyL ds with
      | none => rw [q] at e; cases e
      | some ps => rw [q] at e; cases e; exact .lst (.inl (.inl (rel.core.fh _ _ hh))) (dpL_of rel ds _ ps r q)
  | .dic _ _ _, v, p, h, e => by unfold D.py at e; cases e
  | .iset _, v, p, h, e => by unfold D.py at e; cases e
  | .fn _, v, p, h, e => by unfold D.py at e; cases e
  | .scr _, v, p, h, e => by unfold D.py at e; cases e
  | .ktup _, v, p, h, e => by unfold D.py at e; cases e
  | .ty _, v, p, h, e => by unfold D.py at e; cases e
theorem dpL_of {B F0 F H : Hp} {o : List Nat} {σ : L2.St} {ρ : Env} (rel : Rel G B F0 F H o σ ρ) : ∀ (ds : List D) (vs : List V) (ps : List PyData), RpL G F ds vs → D.pyL ds = some ps → DpAll G.K H vs ps
  | [], vs, ps, h, e => by cases h; unfold D.pyL at e; cases e; exact .nil
  | d :: ds, vs, ps, h, e => by
    cases h with
    | cons hh r =>
      unfold D.pyL at e
      cases q1 : d.py with
      | none => rw [q1] at e; cases e
      | some x =>
        cases q2 : D.pyL ds with
        | none => rw [q1, q2] at e; cases e
        | some xs => rw [q1, q2] at e; cases e; exact .cons (dp_of rel d _ x hh q1) (dpL_of rel ds _ xs r q2)
end
def D.eq2 (a b : D) (f : Bool → Bool) : R D := match a.py, b.py with
  | some x, some y => if SeqAt.shaped x = true ∧ SeqAt.shaped y = true then .ok (.bl (f (PyData.eqv x y))) else .bad
  | _, _ => .bad
def D.eq : D → D → R D := fun a b => D.eq2 a b id
def D.ne : D → D → R D := fun a b => D.eq2 a b not
theorem eq2_of {B F0 F H : Hp} {o : List Nat} {σ : L2.St} {ρ : Env} {Q : VK} {f : Bool → Bool} {v w : V} {a b : D} (rel : Rel G B F0 F H o σ ρ) (ra : Rp G F a v) (rb : Rp G F b w) (h : Res G W B F0 F H o σ ρ (kE G Q) (D.eq2 a b f)) :
    ∃ d e, Dp G.K H v d ∧ Dp G.K H w e ∧ SeqAt.shaped d = true ∧ SeqAt.shaped e = true ∧ Q (.bl (f (PyData.eqv d e))) H := by
  unfold D.eq2 at h
  cases q1 : a.py with
  | none => rw [q1] at h; exact h.elim
  | some x =>
    cases q2 : b.py with
    | none => rw [q1, q2] at h; exact h.elim
    | some y =>
      rw [q1, q2] at h
      obtain ⟨⟨s1, s2⟩, h⟩ := Res.ifP h
      exact ⟨x, y, dp_of rel _ _ _ ra q1, dp_of rel _ _ _ rb q2, s1, s2, h.here rel (.bl _)⟩
theorem pu_eq : PuR2 G W (rEqD G.K) D.eq := fun rel ra rb h => eq2_of rel ra rb h
theorem pu_ne : PuR2 G W (rNeD G.K) D.ne := fun rel ra rb h => eq2_of rel ra rb h
end
end G
/-! S7: in, is, subscripts, calls of builtins, truth. -/
namespace G
open PySem L2
section
variable {X : Cx} {G : Gc} {W : WX}
/-! ### in -/
def rInDT (K : PySem.W.Frag) : R2 := fun x y H Q => ∃ d ds, Dp K H x d ∧ Dp K H y (.tuple ds) ∧ SeqAt.shaped d = true ∧ SeqAt.shaped (.tuple ds) = true ∧ Q (.bl (ds.any fun z => PyData.eqv z d)) H
def rNotInDT (K : PySem.W.Frag) : R2 := fun x y H Q => ∃ d ds, Dp K H x d ∧ Dp K H y (.tuple ds) ∧ SeqAt.shaped d = true ∧ SeqAt.shaped (.tuple ds) = true ∧ Q (.bl (!ds.any fun z => PyData.eqv z d)) H
theorem roomT {A : Around} {d : PyData} {ds : List PyData} (sd : SeqAt.shaped d = true) (hu : A.units + 65 < cLine) : A.units + 1 + min (PyData.depthAll ds) d.depth < cLine := by
  have h1 := SeqAt.depth_of_shaped sd
  have h2 : min (PyData.depthAll ds) d.depth ≤ d.depth := Nat.min_le_right _ _
  omega
theorem op_inDT (hu : X.A.units + 65 < cLine) : OpR X (compareOp .In) (rInDT X.K) := by
  intro pins s σ H x y v u Q I rx ry h
  obtain ⟨d, ds, hd, he, sd, se, q⟩ := h
  obtain ⟨as, r1⟩ := Dp.reads I d x v hd rx
  obtain ⟨bs, r2⟩ := Dp.reads I (.tuple ds) y u he ry
  have c1 := SeqAt.canLay_of_shaped se
  exact SeqAt.in_tuple_reads r2 r1 c1 (SeqAt.canLay_of_shaped sd) (roomT sd hu) ⟨.bl _, H, I, rfl, q⟩
theorem op_notInDT (hu : X.A.units + 65 < cLine) : OpR X (compareOp .NotIn) (rNotInDT X.K) := by
  intro pins s σ H x y v u Q I rx ry h
  obtain ⟨d, ds, hd, he, sd, se, q⟩ := h
  obtain ⟨as, r1⟩ := Dp.reads I d x v hd rx
  obtain ⟨bs, r2⟩ := Dp.reads I (.tuple ds) y u he ry
  have c1 := SeqAt.canLay_of_shaped se
  exact SeqAt.notIn_tuple_reads r2 r1 c1 (SeqAt.canLay_of_shaped sd) (roomT sd hu) ⟨.bl _, H, I, rfl, q⟩
def rInDic : R2 := fun x y H Q => ∃ a r, y = .ref a ∧ DGet H a x r ∧ Q (.bl r.isSome) H
def rNotInDic : R2 := fun x y H Q => ∃ a r, y = .ref a ∧ DGet H a x r ∧ Q (.bl (!r.isSome)) H
theorem op_inDic (hu : X.A.units + 1 < cLine) : OpR X (compareOp .In) rInDic := by
  intro pins s σ H x y v u Q I rx ry h
  obtain ⟨a, r, rfl, g, q⟩ := h
  cases (show u = Value.ref a from ry)
  exact d_in hu I g rx fun s' I' => ⟨.bl _, H, I', rfl, q⟩
theorem op_notInDic (hu : X.A.units + 1 < cLine) : OpR X (compareOp .NotIn) rNotInDic := by
  intro pins s σ H x y v u Q I rx ry h
  obtain ⟨a, r, rfl, g, q⟩ := h
  cases (show u = Value.ref a from ry)
  exact d_notIn hu I g rx fun s' I' => ⟨.bl _, H, I', rfl, q⟩
def D.keyL : List D → Option (List Key)
  | [] => some []
  | .int i :: ds => (D.keyL ds).map (Sum.inl i :: ·)
  | .str x :: ds => (D.keyL ds).map (Sum.inr x :: ·)
  | _ :: _ => none
/-- a value as a dict's key -/
def D.key : D → Option DK
  | .int i => some (.i i)
  | .str x => some (.s x)
  | .tup ds => (D.keyL ds).map .t
  | _ => none
/-- what a dict's pairs hold at a key -/
def dget : List DK → List D → DK → Option D
  | k :: ks, d :: ds, j => if k = j then some d else dget ks ds j
  | _, _, _ => none
/-- flat things, told apart as Python does -/
def D.flatB : D → Bool
  | .non => true
  | .bl _ => true
  | .int _ => true
  | .str _ => true
  | _ => false
def D.eqF : D → D → Bool
  | .non, .non => true
  | .bl a, .bl b => a == b
  | .bl a, .int b => (if a then 1 else 0) == b
  | .int a, .bl b => a == (if b then 1 else 0)
  | .int a, .int b => a == b
  | .str a, .str b => a == b
  | _, _ => false
def isKind (t : Bool) : DK → Bool
  | .t _ => t
  | _ => !t
def D.in2 (a b : D) (f : Bool → Bool) : R D := match b with
  | .lst ds => (match a.py, D.pyL ds with
    | some x, some ys => if SeqAt.shaped x = true ∧ SeqAt.shaped (.list ys) = true then .ok (.bl (f (ys.any fun z => PyData.eqv z x))) else .bad
    | _, _ => .bad)
  | .tup ds => (match a.py, D.pyL ds with
    | some x, some ys => if SeqAt.shaped x = true ∧ SeqAt.shaped (.tuple ys) = true then .ok (.bl (f (ys.any fun z => PyData.eqv z x))) else .bad
    | _, _ => .bad)
  | .ktup ds => if a.flatB = true ∧ ds.all D.flatB = true then .ok (.bl (f (ds.any fun z => D.eqF z a))) else .bad
  | .dic t ks ds => (match a.key with
    | some k => if isKind t k = true then .ok (.bl (f (dget ks ds k).isSome)) else .bad
    | none => .bad)
  | _ => .bad
def D.isIn (a b : D) : R D := D.in2 a b id
def D.notIn (a b : D) : R D := D.in2 a b not
theorem flat_of {F : Hp} {d : D} {v : V} (r : Rp G F d v) (h : d.flatB = true) : flatV v = true := by
  cases r with
  | non => rfl
  | bl b => rfl
  | int i => rfl
  | str x => rfl
  | _ => cases h
theorem eqF_of {F : Hp} {d e : D} {v w : V} (r : Rp G F d v) (q : Rp G F e w) (h1 : d.flatB = true) (h2 : e.flatB = true) : eqV v w = D.eqF d e := by
  cases r <;> first | (cases h1; done) | (cases q <;> first | (cases h2; done) | rfl)
theorem flatL_of {F : Hp} : ∀ {ds : List D} {vs : List V}, RpL G F ds vs → ds.all D.flatB = true → vs.all flatV = true
  | _, _, .nil, _ => rfl
  | _, _, .cons h r, e => by
    rw [List.all_cons, Bool.and_eq_true] at e
    rw [List.all_cons, Bool.and_eq_true]
    exact ⟨flat_of h e.1, flatL_of r e.2⟩
theorem inV_of {F : Hp} {d : D} {v : V} (r : Rp G F d v) (h1 : d.flatB = true) : ∀ {ds : List D} {vs : List V}, RpL G F ds vs → ds.all D.flatB = true → inV v vs = ds.any fun z => D.eqF z d
  | _, _, .nil, _ => rfl
  | _, _, .cons h q, e => by
    rw [List.all_cons, Bool.and_eq_true] at e
    have ih := inV_of r h1 q e.2
    unfold inV at ih ⊢
    rw [List.any_cons, List.any_cons, ih, eqF_of h r e.1 h1]
theorem key_rel {F : Hp} : ∀ {ds : List D} {vs : List V} {ks : List Key}, RpL G F ds vs → D.keyL ds = some ks → vs = ks.map kV
  | [], _, ks, .nil, e => by unfold D.keyL at e; cases e; rfl
  | .int i :: ds, _, ks, .cons (.int _) r, e => by
    unfold D.keyL at e
    cases q : D.keyL ds with
    | none => rw [q] at e; cases e
    | some ks' => rw [q] at e; cases e; rw [key_rel r q]; rfl
  | .str x :: ds, _, ks, .cons (.str _) r, e => by
    unfold D.keyL at e
    cases q : D.keyL ds with
    | none => rw [q] at e; cases e
    | some ks' => rw [q] at e; cases e; rw [key_rel r q]; rfl
  | .non :: _, _, _, _, e => by unfold D.keyL at e; cases e
  | .bl _ :: _, _, _, _, e => by unfold D.keyL at e; cases e
  | .tup _ :: _, _, _, _, e => by unfold D.keyL at e; cases e
  | .lst _ :: _, _, _, _, e => by unfold D.keyL at e; cases e
  | .dic _ _ _ :: _, _, _, _, e => by unfold D.keyL at e; cases e
  | .iset _ :: _, _, _, _, e => by unfold D.keyL at e; cases e
  | .fn _ :: _, _, _, _, e => by unfold D.keyL at e; cases e
  | .scr _ :: _, _, _, _, e => by unfold D.keyL at e; cases e
  | .ktup _ :: _, _, _, _, e => by unfold D.keyL at e; cases e
  | .ty _ :: _, _, _, _, e => by unfold D.keyL at e; cases e

theorem dk_get {F : Hp} {k : Key} : ∀ {ks : List Key} {vs : List V} {ds : List D}, ks.length = vs.length → RpL G F ds vs → valV (ks.zip vs) k = none ∧ dget (ks.map dkK) ds (dkK k) = none ∨ ∃ v d, valV (ks.zip vs) k = some v ∧ dget (ks.map dkK) ds (dkK k) = some d ∧ Rp G F d v
  | [], [], [], _, _ => .inl ⟨rfl, rfl⟩
  | j :: ks, v :: vs, d :: ds, hl, .cons h r => by
    by_cases e : j = k
    · subst e
      refine .inr ⟨v, d, ?_, ?_, h⟩
      · rw [List.zip_cons_cons]; exact valV_pos (p := (j, v)) rfl
      · show (if dkK j = dkK j then some d else _) = some d
        rw [if_pos rfl]
    · have e2 : dkK j ≠ dkK k := fun q => e (by cases j <;> cases k <;> simp [dkK] at q <;> simp [q])
      have hl' : ks.length = vs.length := by simpa using hl
      rw [List.zip_cons_cons, valV_neg (p := (j, v)) e]
      show valV (ks.zip vs) k = none ∧ (if dkK j = dkK k then some d else dget (ks.map dkK) ds (dkK k)) = none ∨ ∃ v' d', valV (ks.zip vs) k = some v' ∧ (if dkK j = dkK k then some d else dget (ks.map dkK) ds (dkK k)) = some d' ∧ Rp G F d' v'
      rw [if_neg e2]
      exact dk_get hl' r
theorem dt_get {F : Hp} {k : List Key} : ∀ {ks : List (List Key)} {vs : List V} {ds : List D}, ks.length = vs.length → RpL G F ds vs → valV (ks.zip vs) k = none ∧ dget (ks.map DK.t) ds (.t k) = none ∨ ∃ v d, valV (ks.zip vs) k = some v ∧ dget (ks.map DK.t) ds (.t k) = some d ∧ Rp G F d v
  | [], [], [], _, _ => .inl ⟨rfl, rfl⟩
  | j :: ks, v :: vs, d :: ds, hl, .cons h r => by
    by_cases e : j = k
    · subst e
      refine .inr ⟨v, d, ?_, ?_, h⟩
      · rw [List.zip_cons_cons]; exact valV_pos (p := (j, v)) rfl
      · show (if DK.t j = DK.t j then some d else _) = some d
        rw [if_pos rfl]
    · have e2 : DK.t j ≠ DK.t k := fun q => e (by injection q)
      have hl' : ks.length = vs.length := by simpa using hl
      rw [List.zip_cons_cons, valV_neg (p := (j, v)) e]
      show valV (ks.zip vs) k = none ∧ (if DK.t j = DK.t k then some d else dget (ks.map DK.t) ds (.t k)) = none ∨ ∃ v' d', valV (ks.zip vs) k = some v' ∧ (if DK.t j = DK.t k then some d else dget (ks.map DK.t) ds (.t k)) = some d' ∧ Rp G F d' v'
      rw [if_neg e2]
      exact dt_get hl' r
/-- the key's own value -/
theorem key_of {F H : Hp} {d : D} {v : V} {k : DK} (hf : ∀ a u, F a = some u → H a = some u) (r : Rp G F d v) (h : d.key = some k) : (∃ j, k = dkK j ∧ v = kV j) ∨ ∃ ks b, k = .t ks ∧ v = .ref b ∧ H b = some (.tup (ks.map kV)) := by
  cases r with
  | int i => cases h; exact .inl ⟨.inl i, rfl, rfl⟩
  | str x => cases h; exact .inl ⟨.inr x, rfl, rfl⟩
  | @tup a vs ds h1 r1 =>
    unfold D.key at h
    dsimp only at h
    cases q : D.keyL ds with
    | none => rw [q] at h; cases h
    | some ks =>
      rw [q] at h; cases h
      rw [key_rel r1 q] at h1
      exact .inr ⟨ks, a, rfl, rfl, hf _ _ h1⟩
  | _ => cases h
/-- what the dict holds at a value -/
theorem dget_of {B F0 F H : Hp} {o : List Nat} {σ : L2.St} {ρ : Env} {t : Bool} {ks : List DK} {ds : List D} {p w : V} {e : D} {k : DK} (rel : Rel G B F0 F H o σ ρ) (rd : Rp G F (.dic t ks ds) p) (re : Rp G F e w) (hk : e.key = some k) (ht : isKind t k = true) :
    ∃ a, p = .ref a ∧ ((DGet H a w none ∧ dget ks ds k = none) ∨ ∃ v d, DGet H a w (some v) ∧ dget ks ds k = some d ∧ Rp G F d v) := by
  cases rd with
  | @dicK a js vs _ h1 hl r1 =>
    rcases key_of rel.core.fh re hk with ⟨j, rfl, rfl⟩ | ⟨js', b, rfl, _⟩
    · refine ⟨a, rfl, ?_⟩
      rcases dk_get (k := j) hl r1 with ⟨x1, x2⟩ | ⟨v, d, x1, x2, x3⟩
      · exact .inl ⟨.inl ⟨_, j, rel.rd h1, rfl, x1.symm⟩, x2⟩
      · exact .inr ⟨v, d, .inl ⟨_, j, rel.rd h1, rfl, x1.symm⟩, x2, x3⟩
    · cases ht
  | @dicT a js vs _ h1 hl r1 =>
    rcases key_of rel.core.fh re hk with ⟨j, rfl, rfl⟩ | ⟨js', b, rfl, rfl, hb⟩
    · cases j <;> cases ht
    · refine ⟨a, rfl, ?_⟩
      rcases dt_get (k := js') hl r1 with ⟨x1, x2⟩ | ⟨v, d, x1, x2, x3⟩
      · exact .inl ⟨.inr ⟨_, js', b, rel.rd h1, rfl, hb, x1.symm⟩, x2⟩
      · exact .inr ⟨v, d, .inr ⟨_, js', b, rel.rd h1, rfl, hb, x1.symm⟩, x2, x3⟩
abbrev rInAll (K : PySem.W.Frag) : R2 := fun x y H Q => rInD K x y H Q ∨ (rInDT K x y H Q ∨ (rInDic x y H Q ∨ rIn K false x y H Q))
abbrev rNotInAll (K : PySem.W.Frag) : R2 := fun x y H Q => rNotInD K x y H Q ∨ (rNotInDT K x y H Q ∨ (rNotInDic x y H Q ∨ rIn K true x y H Q))
theorem op_inAll (hu : X.A.units + 65 < cLine) : OpR X (compareOp .In) (rInAll X.K) := OpR.or (op_inD hu) (OpR.or (op_inDT hu) (OpR.or (op_inDic (by omega)) op_in_seq))
theorem op_notInAll (hu : X.A.units + 65 < cLine) : OpR X (compareOp .NotIn) (rNotInAll X.K) := OpR.or (op_notInD hu) (OpR.or (op_notInDT hu) (OpR.or (op_notInDic (by omega)) op_notIn_seq))
theorem in2_of {B F0 F H : Hp} {o : List Nat} {σ : L2.St} {ρ : Env} {Q : VK} {f : Bool → Bool} {v w : V} {a b : D} (rel : Rel G B F0 F H o σ ρ) (ra : Rp G F a v) (rb : Rp G F b w) (h : Res G W B F0 F H o σ ρ (kE G Q) (D.in2 a b f)) :
    (∃ d ds, Dp G.K H v d ∧ Dp G.K H w (.list ds) ∧ SeqAt.shaped d = true ∧ SeqAt.shaped (.list ds) = true ∧ Q (.bl (f (ds.any fun z => PyData.eqv z d))) H) ∨
    (∃ d ds, Dp G.K H v d ∧ Dp G.K H w (.tuple ds) ∧ SeqAt.shaped d = true ∧ SeqAt.shaped (.tuple ds) = true ∧ Q (.bl (f (ds.any fun z => PyData.eqv z d))) H) ∨
    (∃ a r, w = .ref a ∧ DGet H a v r ∧ Q (.bl (f r.isSome)) H) ∨ ∃ p xs, w = .ref p ∧ (SqL G.K H p xs ∨ SqT G.K H p xs) ∧ flatV v = true ∧ xs.all flatV = true ∧ Q (.bl (f (inV v xs))) H := by
  unfold D.in2 at h
  cases rb with
  | @lst p vs ds h1 r1 =>
    cases q1 : a.py with
    | none => rw [q1] at h; exact h.elim
    | some x =>
      cases q2 : D.pyL ds with
      | none => rw [q1] at h; dsimp only at h; rw [q2] at h; exact h.elim
      | some ys =>
        rw [q1] at h; dsimp only at h; rw [q2] at h
        obtain ⟨⟨s1, s2⟩, h⟩ := Res.ifP h
        exact .inl ⟨x, ys, dp_of rel _ _ _ ra q1, .lst (.inl (.inl (rel.core.fh _ _ h1))) (dpL_of rel _ _ _ r1 q2), s1, s2, h.here rel (.bl _)⟩
  | @tup p vs ds h1 r1 =>
    cases q1 : a.py with
    | none => rw [q1] at h; exact h.elim
    | some x =>
      cases q2 : D.pyL ds with
      | none => rw [q1] at h; dsimp only at h; rw [q2] at h; exact h.elim
      | some ys =>
        rw [q1] at h; dsimp only at h; rw [q2] at h
        obtain ⟨⟨s1, s2⟩, h⟩ := Res.ifP h
        exact .inr (.inl ⟨x, ys, dp_of rel _ _ _ ra q1, .tup (.inl (.inl (rel.core.fh _ _ h1))) (dpL_of rel _ _ _ r1 q2), s1, s2, h.here rel (.bl _)⟩)
  | @ktup p vs ds h1 r1 =>
    obtain ⟨⟨s1, s2⟩, h⟩ := Res.ifP h
    refine .inr (.inr (.inr ⟨p, vs, rfl, .inr (rel.sqT h1), flat_of ra s1, flatL_of r1 s2, ?_⟩))
    rw [inV_of ra s1 r1 s2]
    exact h.here rel (.bl _)
  | dicK h1 hl r1 =>
    cases q1 : a.key with
    | none => rw [q1] at h; exact h.elim
    | some k =>
      rw [q1] at h
      obtain ⟨s1, h⟩ := Res.ifP h
      obtain ⟨p, e, z⟩ := dget_of rel (.dicK h1 hl r1) ra q1 s1
      cases e
      rcases z with ⟨z1, z2⟩ | ⟨v', d', z1, z2, z3⟩
      · rw [z2] at h; exact .inr (.inr (.inl ⟨_, none, rfl, z1, h.here rel (.bl _)⟩))
      · rw [z2] at h; exact .inr (.inr (.inl ⟨_, some v', rfl, z1, h.here rel (.bl _)⟩))
  | dicT h1 hl r1 =>
    cases q1 : a.key with
    | none => rw [q1] at h; exact h.elim
    | some k =>
      rw [q1] at h
      obtain ⟨s1, h⟩ := Res.ifP h
      obtain ⟨p, e, z⟩ := dget_of rel (.dicT h1 hl r1) ra q1 s1
      cases e
      rcases z with ⟨z1, z2⟩ | ⟨v', d', z1, z2, z3⟩
      · rw [z2] at h; exact .inr (.inr (.inl ⟨_, none, rfl, z1, h.here rel (.bl _)⟩))
      · rw [z2] at h; exact .inr (.inr (.inl ⟨_, some v', rfl, z1, h.here rel (.bl _)⟩))
  | _ => exact h.elim
theorem pu_in : PuR2 G W (rInAll G.K) D.isIn := fun rel ra rb h => by
  rcases in2_of rel ra rb h with z | z | z | z
  · exact .inl z
  · exact .inr (.inl z)
  · exact .inr (.inr (.inl z))
  · exact .inr (.inr (.inr z))
theorem pu_notIn : PuR2 G W (rNotInAll G.K) D.notIn := fun rel ra rb h => by
  rcases in2_of rel ra rb h with z | z | z | z
  · exact .inl z
  · exact .inr (.inl z)
  · exact .inr (.inr (.inl z))
  · exact .inr (.inr (.inr z))
/-! ### is -/
def D.isN : D → Bool
  | .non => true
  | _ => false
def D.is2 (a b : D) (f : Bool → Bool) : R D := match b with
  | .non => .ok (.bl (f a.isN))
  | .bl c => (match a with
    | .bl d => .ok (.bl (f (decide (d = c))))
    | _ => .bad)
  | _ => .bad
def D.is (a b : D) : R D := D.is2 a b id
def D.isnt (a b : D) : R D := D.is2 a b not
theorem isN_of {F : Hp} {d : D} {v : V} (r : Rp G F d v) : decide (v = .non) = d.isN := by
  cases r <;> simp [D.isN]
abbrev rIsAll : R2 := fun x y H Q => (y = .non ∧ Q (.bl (decide (x = .non))) H) ∨ ∃ a b, x = .bl a ∧ y = .bl b ∧ Q (.bl (decide (a = b))) H
abbrev rIsntAll : R2 := fun x y H Q => (y = .non ∧ Q (.bl (!decide (x = .non))) H) ∨ ∃ a b, x = .bl a ∧ y = .bl b ∧ Q (.bl (!decide (a = b))) H
theorem op_isAll : OpR X (compareOp .Is) rIsAll := OpR.or op_isN op_is_bl
theorem op_isntAll : OpR X (compareOp .IsNot) rIsntAll := OpR.or op_notN op_isnot_bl
theorem is2_of {B F0 F H : Hp} {o : List Nat} {σ : L2.St} {ρ : Env} {Q : VK} {f : Bool → Bool} {v w : V} {a b : D} (rel : Rel G B F0 F H o σ ρ) (ra : Rp G F a v) (rb : Rp G F b w) (h : Res G W B F0 F H o σ ρ (kE G Q) (D.is2 a b f)) :
    (w = .non ∧ Q (.bl (f (decide (v = .non)))) H) ∨ ∃ c d, v = .bl c ∧ w = .bl d ∧ Q (.bl (f (decide (c = d)))) H := by
  unfold D.is2 at h
  cases rb with
  | non => exact .inl ⟨rfl, by rw [isN_of ra]; exact h.here rel (.bl _)⟩
  | bl c =>
    cases ra with
    | bl d => exact .inr ⟨d, c, rfl, rfl, h.here rel (.bl _)⟩
    | _ => exact h.elim
  | _ => exact h.elim
theorem pu_is : PuR2 G W rIsAll D.is := fun rel ra rb h => is2_of rel ra rb h
theorem pu_isnt : PuR2 G W rIsntAll D.isnt := fun rel ra rb h => is2_of rel ra rb h
/-! ### subscripts -/
/-- the item at an index of any sign -/
def D.ix (a b : D) : R D := match a, b with
  | .lst ds, .int i => (match atI ds i with
    | some d => .ok d
    | none => .bad)
  | .scr ds, .int i => (match atI ds i with
    | some d => .ok d
    | none => .bad)
  | .tup ds, .int i => (match atI ds i with
    | some d => .ok d
    | none => .bad)
  | .ktup ds, .int i => (match atI ds i with
    | some d => .ok d
    | none => .bad)
  | _, _ => .bad
theorem RpL.atI {F : Hp} {ds : List D} {vs : List V} {i : Int} {d : D} (r : RpL G F ds vs) (h : L2.atI ds i = some d) : ∃ v, L2.atI vs i = some v ∧ Rp G F d v := by
  unfold L2.atI at h ⊢
  rw [r.length] at h
  cases q : ixN vs.length i with
  | none => rw [q] at h; cases h
  | some j =>
    rw [q] at h
    obtain ⟨v, h1, h2⟩ := r.get (i := j) h
    exact ⟨v, h1, h2⟩
abbrev rIxLT (K : PySem.W.Frag) : R2 := fun x y H Q => rIxL K x y H Q ∨ rIxT K x y H Q
theorem ix_LT : IxR X (rIxLT X.K) := IxR.or ix_list ix_tup
theorem pu_ix : PuR2 G W (rIxLT G.K) D.ix := by
  intro B F0 F H o σ ρ Q v w a b rel ra rb h
  unfold D.ix at h
  cases ra with
  | @lst p vs ds h1 r1 =>
    cases rb with
    | int i =>
      cases q : atI ds i with
      | none => dsimp only at h; rw [q] at h; exact h.elim
      | some d =>
        dsimp only at h; rw [q] at h
        obtain ⟨x, x1, x2⟩ := r1.atI q
        exact .inl ⟨p, vs, i, x, rfl, rfl, .inl (.inl (rel.core.fh _ _ h1)), x1, h.here rel x2⟩
    | _ => exact h.elim
  | @scr p vs ds h1 r1 =>
    cases rb with
    | int i =>
      cases q : atI ds i with
      | none => dsimp only at h; rw [q] at h; exact h.elim
      | some d =>
        dsimp only at h; rw [q] at h
        obtain ⟨x, x1, x2⟩ := r1.atI q
        exact .inl ⟨p, vs, i, x, rfl, rfl, rel.sqL h1, x1, h.here rel x2⟩
    | _ => exact h.elim
  | @tup p vs ds h1 r1 =>
    cases rb with
    | int i =>
      cases q : atI ds i with
      | none => dsimp only at h; rw [q] at h; exact h.elim
      | some d =>
        dsimp only at h; rw [q] at h
        obtain ⟨x, x1, x2⟩ := r1.atI q
        exact .inr ⟨p, vs, i, x, rfl, rfl, .inl (.inl (rel.core.fh _ _ h1)), x1, h.here rel x2⟩
    | _ => exact h.elim
  | @ktup p vs ds h1 r1 =>
    cases rb with
    | int i =>
      cases q : atI ds i with
      | none => dsimp only at h; rw [q] at h; exact h.elim
      | some d =>
        dsimp only at h; rw [q] at h
        obtain ⟨x, x1, x2⟩ := r1.atI q
        exact .inr ⟨p, vs, i, x, rfl, rfl, rel.sqT h1, x1, h.here rel x2⟩
    | _ => exact h.elim
  | _ => cases rb <;> exact h.elim
/-- d[k] -/
def D.dgetE (a b : D) : R D := match a with
  | .dic t ks ds => (match b.key with
    | some k => if isKind t k = true then (match dget ks ds k with
      | some d => .ok d
      | none => .bad) else .bad
    | none => .bad)
  | _ => .bad
theorem PuE.dget {o o1 o2 : List Nat} {ta tb : TE} {ma mb : Env → R D} (ha : PuE G W o ta o1 ma) (hb : PuE G W o1 tb o2 mb) : PuE G W o (tDGet ta tb) o2 (m2 D.dgetE ma mb) := by
  intro B F0 F H σ ρ Q rel h
  refine ha rel ((Res.bnd h).imp fun a F1 H1 e1 r1 h1 v rv => ?_)
  refine hb r1 ((Res.bnd h1).imp fun b F2 H2 e2 r2 h2 w rw => ?_)
  have rv' := rv.mono e2.le
  unfold D.dgetE at h2
  cases a with
  | dic t ks ds =>
    cases q1 : b.key with
    | none => dsimp only at h2; rw [q1] at h2; exact h2.elim
    | some k =>
      dsimp only at h2; rw [q1] at h2
      obtain ⟨s1, h2⟩ := Res.ifP h2
      obtain ⟨p, e, z⟩ := dget_of r2 rv' rw q1 s1
      rcases z with ⟨z1, z2⟩ | ⟨v', d', z1, z2, z3⟩
      · rw [z2] at h2; exact h2.elim
      · rw [z2] at h2; exact ⟨p, v', e, z1, h2.here r2 z3⟩
  | _ => exact h2.elim
end
end G
/-! S8: calls of builtins, slices, displays, truth. -/
namespace G
open PySem L2
section
variable {X : Cx} {G : Gc} {W : WX}
def rToInt : List V → Hp → VK → Prop := fun xs H Q => (∃ i, xs = [V.int i] ∧ Q (V.int i) H) ∨ ∃ k, xs = [V.bl k] ∧ Q (V.int (if k then 1 else 0)) H
def rAbs : List V → Hp → VK → Prop := fun xs H Q => ∃ i, xs = [V.int i] ∧ Q (V.int (if i < 0 then -i else i)) H
def rI2 (f : Int → Int → Int) : List V → Hp → VK → Prop := fun xs H Q => ∃ i j, xs = [V.int i, V.int j] ∧ Q (V.int (f i j)) H
def rToTup (K : PySem.W.Frag) : List V → Hp → VK → Prop := fun xs H Q => ∃ p ys, xs = [V.ref p] ∧ ((SqL K H p ys ∧ ∀ l, H l = none → Q (.ref l) (upd H l (.tup ys))) ∨ (SqT K H p ys ∧ Q (.ref p) H))
def rToLst (K : PySem.W.Frag) : List V → Hp → VK → Prop := fun xs H Q => ∃ p ys, xs = [V.ref p] ∧ (SqL K H p ys ∨ SqT K H p ys) ∧ ∀ l, H l = none → Q (.ref l) (upd H l (.lst ys))
/-! ### one value in -/
def d1 (f : D → R D) : List D → R D
  | [d] => f d
  | _ => .bad
theorem pu_c1 {r : List V → Hp → VK → Prop} {f : D → R D} (h : ∀ {B F0 F H : Hp} {o : List Nat} {σ : L2.St} {ρ : Env} {Q : VK} {v : V} {d : D}, Rel G B F0 F H o σ ρ → Rp G F d v → Res G W B F0 F H o σ ρ (kE G Q) (f d) → r [v] H Q) : PuC G W r (d1 f) := by
  intro B F0 F H o σ ρ Q vs ds rel rv q
  cases rv with
  | nil => exact q.elim
  | cons h1 r1 =>
    cases r1 with
    | nil => exact h rel h1 q
    | cons _ _ => exact q.elim
theorem pu_c1O {r : List V → Hp → VK → Prop} {f : D → R D} (h : ∀ {B F0 F H : Hp} {o : List Nat} {σ : L2.St} {ρ : Env} {Q : VK} {v : V} {d : D}, Rel G B F0 F H o σ ρ → Rp G F d v → Res G W B F0 F H o σ ρ (kO G B o σ ρ Q) (f d) → r [v] H Q) : PuCO G W r (d1 f) := by
  intro B F0 F H o σ ρ Q vs ds rel rv q
  cases rv with
  | nil => exact q.elim
  | cons h1 r1 =>
    cases r1 with
    | nil => exact h rel h1 q
    | cons _ _ => exact q.elim
def d2 (f : D → D → R D) : List D → R D
  | [d, e] => f d e
  | _ => .bad
theorem pu_c2 {r : List V → Hp → VK → Prop} {f : D → D → R D} (h : ∀ {B F0 F H : Hp} {o : List Nat} {σ : L2.St} {ρ : Env} {Q : VK} {v w : V} {d e : D}, Rel G B F0 F H o σ ρ → Rp G F d v → Rp G F e w → Res G W B F0 F H o σ ρ (kE G Q) (f d e) → r [v, w] H Q) : PuC G W r (d2 f) := by
  intro B F0 F H o σ ρ Q vs ds rel rv q
  cases rv with
  | nil => exact q.elim
  | cons h1 r1 =>
    cases r1 with
    | nil => exact q.elim
    | cons h2 r2 =>
      cases r2 with
      | nil => exact h rel h1 h2 q
      | cons _ _ => exact q.elim
/-! ### len -/
def D.len : D → R D
  | .str x => if x.length ≤ sizeLine then .ok (.int x.length) else .bad
  | .lst ds => .ok (.int ds.length)
  | .scr ds => .ok (.int ds.length)
  | .tup ds => .ok (.int ds.length)
  | .ktup ds => .ok (.int ds.length)
  | .dic false ks _ => .ok (.int ks.length)
  | _ => .bad
abbrev rLenAll (K : PySem.W.Frag) : List V → Hp → VK → Prop := fun xs H Q => (∃ x n, xs = [x] ∧ LenV K x H n ∧ Q (.int n) H) ∨ ∃ a kvs, xs = [V.ref a] ∧ Rd H a (.dK kvs) ∧ Q (.int kvs.length) H
theorem call_lenD' : CallR X (.builtin "len") (fun xs H Q => ∃ a kvs, xs = [V.ref a] ∧ Rd H a (.dK kvs) ∧ Q (.int kvs.length) H) := by
  intro pins s σ H xs us Q I r h
  obtain ⟨a, kvs, rfl, e, q⟩ := h
  rw [Vals.ref1 r]
  exact d_len I e fun t s' I' => ⟨.int kvs.length, H, I', ⟨t, rfl⟩, q⟩
theorem call_lenAll : CallR X (.builtin "len") (rLenAll X.K) := CallR.or call_len call_lenD'
theorem pu_len : PuC G W (rLenAll G.K) (d1 D.len) := by
  refine pu_c1 (fun {B F0 F H o σ ρ Q v d} rel rv h => ?_)
  cases rv with
  | str x => exact .inl ⟨_, _, rfl, ⟨(Res.ifP h).1, rfl⟩, (Res.ifP h).2.here rel (.int _)⟩
  | @lst a vs ds h1 r1 => exact .inl ⟨_, vs.length, rfl, .inl ⟨vs, .inl (.inl (rel.core.fh _ _ h1)), rfl⟩, by rw [← r1.length]; exact h.here rel (.int _)⟩
  | @scr a vs ds h1 r1 => exact .inl ⟨_, vs.length, rfl, .inl ⟨vs, rel.sqL h1, rfl⟩, by rw [← r1.length]; exact h.here rel (.int _)⟩
  | @tup a vs ds h1 r1 => exact .inl ⟨_, vs.length, rfl, .inr ⟨vs, .inl (.inl (rel.core.fh _ _ h1)), rfl⟩, by rw [← r1.length]; exact h.here rel (.int _)⟩
  | @ktup a vs ds h1 r1 => exact .inl ⟨_, vs.length, rfl, .inr ⟨vs, rel.sqT h1, rfl⟩, by rw [← r1.length]; exact h.here rel (.int _)⟩
  | @dicK a ks vs ds h1 hl r1 =>
    refine .inr ⟨a, _, rfl, rel.rd h1, ?_⟩
    have e : (ks.zip vs).length = (ks.map dkK).length := by rw [List.length_zip, List.length_map, ← hl]; simp
    rw [e]
    exact h.here rel (.int _)
  | _ => exact h.elim
/-! ### int, abs, max, min -/
def D.toInt : D → R D
  | .int i => .ok (.int i)
  | .bl b => .ok (.int (if b then 1 else 0))
  | _ => .bad
theorem pu_int : PuC G W rToInt (d1 D.toInt) := by
  refine pu_c1 (fun {B F0 F H o σ ρ Q v d} rel rv h => ?_)
  cases rv with
  | int i => exact .inl ⟨i, rfl, h.here rel (.int _)⟩
  | bl b => exact .inr ⟨b, rfl, h.here rel (.int _)⟩
  | _ => exact h.elim
def D.abs : D → R D
  | .int i => .ok (.int (if i < 0 then -i else i))
  | _ => .bad
theorem pu_abs : PuC G W rAbs (d1 D.abs) := by
  refine pu_c1 (fun {B F0 F H o σ ρ Q v d} rel rv h => ?_)
  cases rv with
  | int i => exact ⟨i, rfl, h.here rel (.int _)⟩
  | _ => exact h.elim
theorem pu_I2 {f : Int → Int → Int} : PuC G W (rI2 f) (d2 (dI0 f)) := by
  refine pu_c2 (fun {B F0 F H o σ ρ Q v w d e} rel rv rw h => ?_)
  cases rv with
  | int i =>
    cases rw with
    | int j => exact ⟨i, j, rfl, h.here rel (.int _)⟩
    | _ => exact h.elim
  | _ => cases rw <;> exact h.elim
def D.max2 : D → D → R D := dI0 fun i j => if j > i then j else i
def D.min2 : D → D → R D := dI0 fun i j => if j < i then j else i
theorem pu_max2 : PuC G W (rI2 fun i j => if j > i then j else i) (d2 D.max2) := pu_I2
theorem pu_min2 : PuC G W (rI2 fun i j => if j < i then j else i) (d2 D.min2) := pu_I2
/-! ### tuple(..), list(..) -/
def D.toTup : D → R D
  | .lst ds => .ok (.tup ds)
  | .scr ds => .ok (.tup ds)
  | .tup ds => .ok (.tup ds)
  | _ => .bad
theorem pu_tuple : PuC G W (rToTup G.K) (d1 D.toTup) := by
  refine pu_c1 (fun {B F0 F H o σ ρ Q v d} rel rv h => ?_)
  cases rv with
  | @lst a vs ds h1 r1 => exact ⟨a, vs, rfl, .inl ⟨.inl (.inl (rel.core.fh _ _ h1)), fun l hl => h.new rel hl fun F' le e => .tup e (r1.mono le)⟩⟩
  | @scr a vs ds h1 r1 => exact ⟨a, vs, rfl, .inl ⟨rel.sqL h1, fun l hl => h.new rel hl fun F' le e => .tup e (r1.mono le)⟩⟩
  | @tup a vs ds h1 r1 => exact ⟨a, vs, rfl, .inr ⟨.inl (.inl (rel.core.fh _ _ h1)), h.here rel (.tup h1 r1)⟩⟩
  | _ => exact h.elim
def D.toLst : D → R D
  | .lst ds => .ok (.lst ds)
  | .scr ds => .ok (.lst ds)
  | .tup ds => .ok (.lst ds)
  | .ktup ds => .ok (.lst ds)
  | _ => .bad
theorem pu_list : PuCO G W (rToLst G.K) (d1 D.toLst) := by
  refine pu_c1O (fun {B F0 F H o σ ρ Q v d} rel rv h => ?_)
  cases rv with
  | @lst a vs ds h1 r1 => exact ⟨a, vs, rfl, .inl (.inl (.inl (rel.core.fh _ _ h1))), fun l hl => h.newO rel hl (.lst upd_same r1)⟩
  | @scr a vs ds h1 r1 => exact ⟨a, vs, rfl, .inl (rel.sqL h1), fun l hl => h.newO rel hl (.lst upd_same r1)⟩
  | @tup a vs ds h1 r1 => exact ⟨a, vs, rfl, .inr (.inl (.inl (rel.core.fh _ _ h1))), fun l hl => h.newO rel hl (.lst upd_same r1)⟩
  | @ktup a vs ds h1 r1 => exact ⟨a, vs, rfl, .inr (rel.sqT h1), fun l hl => h.newO rel hl (.lst upd_same r1)⟩
  | _ => exact h.elim
/-! ### lists of ints, of truth values -/
def D.ints : List D → Option (List Int)
  | [] => some []
  | .int i :: ds => (D.ints ds).map (i :: ·)
  | _ :: _ => none
def D.bls : List D → Option (List Bool)
  | [] => some []
  | .bl b :: ds => (D.bls ds).map (b :: ·)
  | _ :: _ => none
theorem ints_eq : ∀ {ds : List D} {xs : List Int}, D.ints ds = some xs → ds = xs.map D.int
  | [], xs, e => by unfold D.ints at e; cases e; rfl
  | .int i :: ds, xs, e => by
    unfold D.ints at e
    cases q : D.ints ds with
    | none => rw [q] at e; cases e
    | some ys => rw [q] at e; cases e; rw [ints_eq q]; rfl
  | .non :: _, _, e => by unfold D.ints at e; cases e
  | .bl _ :: _, _, e => by unfold D.ints at e; cases e
  | .str _ :: _, _, e => by unfold D.ints at e; cases e
  | .tup _ :: _, _, e => by unfold D.ints at e; cases e
  | .lst _ :: _, _, e => by unfold D.ints at e; cases e
  | .dic _ _ _ :: _, _, e => by unfold D.ints at e; cases e
  | .iset _ :: _, _, e => by unfold D.ints at e; cases e
  | .fn _ :: _, _, e => by unfold D.ints at e; cases e
  | .scr _ :: _, _, e => by unfold D.ints at e; cases e
  | .ktup _ :: _, _, e => by unfold D.ints at e; cases e
  | .ty _ :: _, _, e => by unfold D.ints at e; cases e
theorem bls_eq : ∀ {ds : List D} {xs : List Bool}, D.bls ds = some xs → ds = xs.map D.bl
  | [], xs, e => by unfold D.bls at e; cases e; rfl
  | .bl i :: ds, xs, e => by
    unfold D.bls at e
    cases q : D.bls ds with
    | none => rw [q] at e; cases e
    | some ys => rw [q] at e; cases e; rw [bls_eq q]; rfl
  | .non :: _, _, e => by unfold D.bls at e; cases e
  | .int _ :: _, _, e => by unfold D.bls at e; cases e
  | .str _ :: _, _, e => by unfold D.bls at e; cases e
  | .tup _ :: _, _, e => by unfold D.bls at e; cases e
  | .lst _ :: _, _, e => by unfold D.bls at e; cases e
  | .dic _ _ _ :: _, _, e => by unfold D.bls at e; cases e
  | .iset _ :: _, _, e => by unfold D.bls at e; cases e
  | .fn _ :: _, _, e => by unfold D.bls at e; cases e
  | .scr _ :: _, _, e => by unfold D.bls at e; cases e
  | .ktup _ :: _, _, e => by unfold D.bls at e; cases e
  | .ty _ :: _, _, e => by unfold D.bls at e; cases e
@[simp] theorem ints_map (xs : List Int) : D.ints (xs.map D.int) = some xs := by
  induction xs with
  | nil => rfl
  | cons x xs ih => rw [List.map_cons]; unfold D.ints; rw [ih]; rfl
@[simp] theorem bls_map (xs : List Bool) : D.bls (xs.map D.bl) = some xs := by
  induction xs with
  | nil => rfl
  | cons x xs ih => rw [List.map_cons]; unfold D.bls; rw [ih]; rfl
theorem RpL.intsV {F : Hp} : ∀ {xs : List Int} {vs : List V}, RpL G F (xs.map D.int) vs → vs = xs.map V.int
  | [], _, .nil => rfl
  | _ :: xs, _, .cons (.int _) r => by rw [RpL.intsV r]; rfl
theorem RpL.blsV {F : Hp} : ∀ {xs : List Bool} {vs : List V}, RpL G F (xs.map D.bl) vs → vs = xs.map V.bl
  | [], _, .nil => rfl
  | _ :: xs, _, .cons (.bl _) r => by rw [RpL.blsV r]; rfl
def dInts (f : List Int → R D) : D → R D
  | .lst ds => (match D.ints ds with
    | some xs => f xs
    | none => .bad)
  | _ => .bad
def dBls (f : List Bool → R D) : D → R D
  | .lst ds => (match D.bls ds with
    | some xs => f xs
    | none => .bad)
  | _ => .bad
theorem dInts_of {B F0 F H : Hp} {o : List Nat} {σ : L2.St} {ρ : Env} {k : D → Hp → Hp → Prop} {v : V} {d : D} {f : List Int → R D} (rel : Rel G B F0 F H o σ ρ) (rv : Rp G F d v) (h : Res G W B F0 F H o σ ρ k (dInts f d)) : ∃ a xs, v = .ref a ∧ H a = some (.lst (xs.map V.int)) ∧ Res G W B F0 F H o σ ρ k (f xs) := by
  unfold dInts at h
  cases rv with
  | @lst a vs ds h1 r1 =>
    cases q : D.ints ds with
    | none => dsimp only at h; rw [q] at h; exact h.elim
    | some xs =>
      dsimp only at h; rw [q] at h
      rw [ints_eq q] at r1
      exact ⟨a, xs, rfl, by rw [← r1.intsV]; exact rel.core.fh _ _ h1, h⟩
  | _ => exact h.elim
theorem dBls_of {B F0 F H : Hp} {o : List Nat} {σ : L2.St} {ρ : Env} {k : D → Hp → Hp → Prop} {v : V} {d : D} {f : List Bool → R D} (rel : Rel G B F0 F H o σ ρ) (rv : Rp G F d v) (h : Res G W B F0 F H o σ ρ k (dBls f d)) : ∃ a xs, v = .ref a ∧ H a = some (.lst (xs.map V.bl)) ∧ Res G W B F0 F H o σ ρ k (f xs) := by
  unfold dBls at h
  cases rv with
  | @lst a vs ds h1 r1 =>
    cases q : D.bls ds with
    | none => dsimp only at h; rw [q] at h; exact h.elim
    | some xs =>
      dsimp only at h; rw [q] at h
      rw [bls_eq q] at r1
      exact ⟨a, xs, rfl, by rw [← r1.blsV]; exact rel.core.fh _ _ h1, h⟩
  | _ => exact h.elim
def D.sum : D → R D := dInts fun xs => .ok (.int xs.sum)
theorem pu_sum : PuC G W (rSum G.K) (d1 D.sum) := by
  refine pu_c1 (fun rel rv h => ?_)
  obtain ⟨a, xs, rfl, h1, h⟩ := dInts_of rel rv h
  exact ⟨a, xs, rfl, .inl (.inl h1), h.here rel (.int _)⟩
/-- the greatest, the least of some ints -/
def gtI : Int → List Int → Int
  | m, [] => m
  | m, x :: xs => gtI (if m < x then x else m) xs
def ltI : Int → List Int → Int
  | m, [] => m
  | m, x :: xs => ltI (if x < m then x else m) xs
theorem gtI_spec : ∀ (xs : List Int) (m : Int), (gtI m xs = m ∨ gtI m xs ∈ xs) ∧ m ≤ gtI m xs ∧ ∀ y ∈ xs, y ≤ gtI m xs
  | [], m => ⟨.inl rfl, Int.le_refl m, fun y h => by cases h⟩
  | x :: xs, m => by
    obtain ⟨h1, h2, h3⟩ := gtI_spec xs (if m < x then x else m)
    show (gtI (if m < x then x else m) xs = m ∨ gtI (if m < x then x else m) xs ∈ x :: xs) ∧ m ≤ gtI (if m < x then x else m) xs ∧ ∀ y ∈ x :: xs, y ≤ gtI (if m < x then x else m) xs
    generalize gtI (if m < x then x else m) xs = z at *
    refine ⟨?_, ?_, fun y hy => ?_⟩
    · rcases h1 with h1 | h1
      · split at h1
        · exact .inr (by rw [h1]; exact List.mem_cons_self)
        · exact .inl h1
      · exact .inr (List.mem_cons_of_mem _ h1)
    · split at h2 <;> omega
    · rcases List.mem_cons.mp hy with e | e
      · subst e; split at h2 <;> omega
      · exact h3 y e
theorem ltI_spec : ∀ (xs : List Int) (m : Int), (ltI m xs = m ∨ ltI m xs ∈ xs) ∧ ltI m xs ≤ m ∧ ∀ y ∈ xs, ltI m xs ≤ y
  | [], m => ⟨.inl rfl, Int.le_refl m, fun y h => by cases h⟩
  | x :: xs, m => by
    obtain ⟨h1, h2, h3⟩ := ltI_spec xs (if x < m then x else m)
    show (ltI (if x < m then x else m) xs = m ∨ ltI (if x < m then x else m) xs ∈ x :: xs) ∧ ltI (if x < m then x else m) xs ≤ m ∧ ∀ y ∈ x :: xs, ltI (if x < m then x else m) xs ≤ y
    generalize ltI (if x < m then x else m) xs = z at *
    refine ⟨?_, ?_, fun y hy => ?_⟩
    · rcases h1 with h1 | h1
      · split at h1
        · exact .inr (by rw [h1]; exact List.mem_cons_self)
        · exact .inl h1
      · exact .inr (List.mem_cons_of_mem _ h1)
    · split at h2 <;> omega
    · rcases List.mem_cons.mp hy with e | e
      · subst e; split at h2 <;> omega
      · exact h3 y e
def maxI : List Int → Option Int
  | [] => none
  | x :: xs => some (gtI x xs)
def minI : List Int → Option Int
  | [] => none
  | x :: xs => some (ltI x xs)
def D.max : D → R D := dInts fun xs => match maxI xs with
  | some m => .ok (.int m)
  | none => .bad
def D.min : D → R D := dInts fun xs => match minI xs with
  | some m => .ok (.int m)
  | none => .bad
theorem pu_max : PuC G W (rMax G.K) (d1 D.max) := by
  refine pu_c1 (fun rel rv h => ?_)
  obtain ⟨a, xs, rfl, h1, h⟩ := dInts_of rel rv h
  cases xs with
  | nil => exact h.elim
  | cons x xs =>
    refine ⟨a, x :: xs, rfl, .inl (.inl h1), Nat.succ_pos _, fun m hm hle => ?_⟩
    obtain ⟨z1, z2, z3⟩ := gtI_spec xs x
    have e : m = gtI x xs := by
      have i1 : gtI x xs ∈ x :: xs := z1.elim (fun z => by rw [z]; exact List.mem_cons_self) fun z => List.mem_cons_of_mem _ z
      have i2 := hle _ i1
      rcases List.mem_cons.mp hm with e | e
      · subst e; omega
      · have := z3 m e; omega
    rw [e]
    exact h.here rel (.int _)
theorem pu_min : PuC G W (rMin G.K) (d1 D.min) := by
  refine pu_c1 (fun rel rv h => ?_)
  obtain ⟨a, xs, rfl, h1, h⟩ := dInts_of rel rv h
  cases xs with
  | nil => exact h.elim
  | cons x xs =>
    refine ⟨a, x :: xs, rfl, .inl (.inl h1), Nat.succ_pos _, fun m hm hle => ?_⟩
    obtain ⟨z1, z2, z3⟩ := ltI_spec xs x
    have e : m = ltI x xs := by
      have i1 : ltI x xs ∈ x :: xs := z1.elim (fun z => by rw [z]; exact List.mem_cons_self) fun z => List.mem_cons_of_mem _ z
      have i2 := hle _ i1
      rcases List.mem_cons.mp hm with e | e
      · subst e; omega
      · have := z3 m e; omega
    rw [e]
    exact h.here rel (.int _)
def D.all : D → R D := dBls fun xs => .ok (.bl (xs.all id))
def D.any : D → R D := dBls fun xs => .ok (.bl (xs.any id))
theorem pu_all : PuC G W (rAll G.K) (d1 D.all) := by
  refine pu_c1 (fun rel rv h => ?_)
  obtain ⟨a, xs, rfl, h1, h⟩ := dBls_of rel rv h
  exact ⟨a, xs, rfl, .inl (.inl h1), h.here rel (.bl _)⟩
theorem pu_any : PuC G W (rAny G.K) (d1 D.any) := by
  refine pu_c1 (fun rel rv h => ?_)
  obtain ⟨a, xs, rfl, h1, h⟩ := dBls_of rel rv h
  exact ⟨a, xs, rfl, .inl (.inl h1), h.here rel (.bl _)⟩
/-! ### slices -/
def optI : Option D → Option (Option Int)
  | none => some none
  | some (.int i) => some (some i)
  | _ => none
def cutD (ds : List D) (lo hi : Option Int) : List D := (ds.drop (HT.sIx ds.length 0 lo)).take (HT.sIx ds.length ds.length hi - HT.sIx ds.length 0 lo)
theorem cutD_of {F : Hp} {ds : List D} {vs : List V} (r : RpL G F ds vs) (lo hi : Option Int) : RpL G F (cutD ds lo hi) (cutV vs lo hi) := by
  unfold cutD cutV
  rw [r.length]
  exact (r.drop _).take _
def D.cut (a : D) (lo hi : Option Int) : R D := match a with
  | .lst ds => .ok (.lst (cutD ds lo hi))
  | .scr ds => .ok (.lst (cutD ds lo hi))
  | .tup ds => .ok (.tup (cutD ds lo hi))
  | _ => .bad
abbrev rSlAll (K : PySem.W.Frag) : V → Option Int → Option Int → Hp → VK → Prop := fun x lo hi H Q => rSlL K x lo hi H Q ∨ rSlA K x lo hi H Q
theorem sl_all : SlR X (rSlAll X.K) := SlR.or sl_list sl_tupA
def PuP (G : Gc) (W : WX) (o : List Nat) (t : TO) (o' : List Nat) (m : Env → R (Option Int)) : Prop :=
  ∀ {B F0 F H : Hp} {σ : L2.St} {ρ : Env} {Q : Option Int → Hp → Prop}, Rel G B F0 F H o σ ρ → Res G W B F0 F H o' σ ρ (fun a _ H' => Q a H') (m ρ) → t σ H Q
def mNoP : Env → R (Option Int) := fun _ => .ok none
def mPart (m : Env → R D) : Env → R (Option Int) := fun ρ => (m ρ).bind fun d => match d with
  | .int i => .ok (some i)
  | _ => .bad
theorem PuP.no {o : List Nat} : PuP G W o tNoPart o mNoP := fun {_ _ F H _ _ _} r h => h F H (Gr.refl F H) r
theorem PuP.part {o o1 : List Nat} {t : TE} {m : Env → R D} (h : PuE G W o t o1 m) : PuP G W o (tPart t) o1 (mPart m) := by
  intro B F0 F H σ ρ Q rel q
  refine h rel ((Res.bnd q).imp fun d F1 H1 e1 r1 q v rv => ?_)
  cases rv with
  | int i => exact ⟨i, rfl, q F1 H1 (Gr.refl F1 H1) r1⟩
  | _ => exact q.elim
def mSl (a : Env → R D) (lo hi : Env → R (Option Int)) : Env → R D := fun ρ => (a ρ).bind fun x => (lo ρ).bind fun l => (hi ρ).bind fun h => x.cut l h
theorem PuE.slice {o o1 o2 o3 : List Nat} {t : TE} {tl th : TO} {m : Env → R D} {ml mh : Env → R (Option Int)} (ha : PuE G W o t o1 m) (hl : PuP G W o1 tl o2 ml) (hh : PuP G W o2 th o3 mh) : PuE G W o (tSl (rSlAll G.K) t tl th) o3 (mSl m ml mh) := by
  intro B F0 F H σ ρ Q rel h
  refine ha rel ((Res.bnd h).imp fun a F1 H1 e1 r1 h1 v rv => ?_)
  refine hl r1 ((Res.bnd h1).imp fun l F2 H2 e2 r2 h2 => ?_)
  refine hh r2 ((Res.bnd h2).imp fun u F3 H3 e3 r3 h3 => ?_)
  have rv' := (rv.mono e2.le).mono e3.le
  cases rv' with
  | @lst p vs ds h4 r4 => exact .inl ⟨p, vs, rfl, .inl (.inl (r3.core.fh _ _ h4)), fun z hz => h3.new r3 hz fun F' le e => .lst e (cutD_of (r4.mono le) l u)⟩
  | @scr p vs ds h4 r4 => exact .inl ⟨p, vs, rfl, r3.sqL h4, fun z hz => h3.new r3 hz fun F' le e => .lst e (cutD_of (r4.mono le) l u)⟩
  | @tup p vs ds h4 r4 =>
    refine .inr ⟨p, vs, rfl, .inl (.inl (r3.core.fh _ _ h4)), fun w => ?_, fun _ z hz => h3.new r3 hz fun F' le e => .tup e (cutD_of (r4.mono le) l u)⟩
    have e : cutD ds l u = ds := by
      unfold cutD
      rw [r4.length, w.1, w.2, Nat.sub_zero, List.drop_zero, ← r4.length]
      exact List.take_length
    have h3' : Res G W B F0 F3 H3 o3 σ ρ (kE G Q) (.ok (.tup (cutD ds l u))) := h3
    rw [e] at h3'
    exact h3'.here r3 (.tup h4 r4)
  | _ => exact h3.elim
/-! ### written tuples, lists, dicts -/
def mTup (m : Env → R (List D)) : Env → R D := fun ρ => (m ρ).bind fun ds => if ds.length ≤ sizeLine then .ok (.tup ds) else .bad
def mLst (m : Env → R (List D)) : Env → R D := fun ρ => (m ρ).bind fun ds => if ds.length ≤ sizeLine then .ok (.lst ds) else .bad
theorem PuE.tupE {o o1 : List Nat} {t : TA} {m : Env → R (List D)} (h : PuA G W o t o1 m) : PuE G W o (tTup t) o1 (mTup m) := by
  intro B F0 F H σ ρ Q rel q
  refine h rel ((Res.bnd q).imp fun ds F1 H1 e1 r1 q vs rv => ?_)
  obtain ⟨hl, q⟩ := Res.ifP q
  exact ⟨by rw [← rv.length]; exact hl, fun p hp => q.new r1 hp fun F' le e => .tup e (rv.mono le)⟩
theorem PuO.lstE {o o1 : List Nat} {t : TA} {m : Env → R (List D)} (h : PuA G W o t o1 m) : PuO G W o (tLst t) o1 (mLst m) := by
  intro B F0 F H σ ρ Q rel q
  refine h rel ((Res.bnd q).imp fun ds F1 H1 e1 r1 q vs rv => ?_)
  obtain ⟨hl, q⟩ := Res.ifP q
  exact ⟨by rw [← rv.length]; exact hl, fun p hp => q.newO r1 hp (.lst upd_same rv)⟩
/-! ### isinstance -/
def D.tyN : D → Option String
  | .non => some "NoneType"
  | .bl _ => some "bool"
  | .int _ => some "int"
  | .str _ => some "str"
  | .tup _ => some "tuple"
  | .lst _ => some "list"
  | .dic false _ _ => some "dict"
  | .ktup _ => some "tuple"
  | .scr _ => some "list"
  | _ => none
def isiT : String → String → Option Bool
  | "NoneType", "int" => some false | "NoneType", "bool" => some false | "NoneType", "str" => some false | "NoneType", "tuple" => some false | "NoneType", "list" => some false | "NoneType", "dict" => some false
  | "bool", "int" => some true | "bool", "bool" => some true | "bool", "str" => some false | "bool", "tuple" => some false | "bool", "list" => some false | "bool", "dict" => some false
  | "int", "int" => some true | "int", "bool" => some false | "int", "str" => some false | "int", "tuple" => some false | "int", "list" => some false | "int", "dict" => some false
  | "str", "int" => some false | "str", "bool" => some false | "str", "str" => some true | "str", "tuple" => some false | "str", "list" => some false | "str", "dict" => some false
  | "tuple", "int" => some false | "tuple", "bool" => some false | "tuple", "str" => some false | "tuple", "tuple" => some true | "tuple", "list" => some false | "tuple", "dict" => some false
  | "list", "int" => some false | "list", "bool" => some false | "list", "str" => some false | "list", "tuple" => some false | "list", "list" => some true | "list", "dict" => some false
  | "dict", "int" => some false | "dict", "bool" => some false | "dict", "str" => some false | "dict", "tuple" => some false | "dict", "list" => some false | "dict", "dict" => some true
  | _, _ => none
end
end G
/-! S9: isinstance, truth, methods that change an own object, stores, what is walked. -/
namespace G
open PySem L2
theorem isiT_ok : ∀ {a b : String} {r : Bool}, isiT a b = some r → kitB a b = some r := by
  intro a b r h
  unfold isiT at h
  split at h <;> first | (cases h; decide +kernel) | cases h
section
variable {X : Cx} {G : Gc} {W : WX} {oL o o1 o2 oI : List Nat}
def D.isi (a b : D) : R D := match b with
  | .ty T => (match a.tyN with
    | some t => (match isiT t T with
      | some r => .ok (.bl r)
      | none => .bad)
    | none => .bad)
  | _ => .bad
theorem tyX_of {B F0 F H : Hp} {σ : L2.St} {ρ : Env} {d : D} {v : V} {t : String} (rel : Rel G B F0 F H o σ ρ) (rv : Rp G F d v) (h : d.tyN = some t) : TyX G.K H v (.type t) := by
  cases rv with
  | non => cases h; exact .base .non
  | bl b => cases h; exact .base (.bl b)
  | int i => cases h; exact .base (.int i)
  | str x => cases h; exact .base (.str x)
  | tup h1 r1 => cases h; exact .base (.tup (rel.core.fh _ _ h1))
  | lst h1 r1 => cases h; exact .base (.lst (rel.core.fh _ _ h1))
  | scr h1 r1 =>
    cases h
    rcases rel.sqL h1 with (z | ⟨x, z⟩) | ⟨x, _, _, z, c, _⟩
    · exact .base (.lst z)
    · exact .base (.frz z)
    · exact .kList z c
  | ktup h1 r1 =>
    cases h
    rcases rel.sqT h1 with (z | ⟨x, z⟩) | ⟨x, _, _, z, c, _⟩
    · exact .base (.tup z)
    · exact .fTuple z
    · exact .kTuple z c
  | dicK h1 hl r1 =>
    cases h
    rcases rel.rd h1 with z | ⟨x, z⟩
    · exact .base (.dK z)
    · exact .fDict z
  | _ => cases h
theorem pu_isi : PuC G W (rIsi G.K) (d2 D.isi) := by
  refine pu_c2 (fun {B F0 F H o σ ρ Q v w d e} rel rv rw h => ?_)
  unfold D.isi at h
  cases rw with
  | ty T =>
    cases q1 : d.tyN with
    | none => dsimp only at h; rw [q1] at h; exact h.elim
    | some t =>
      dsimp only at h; rw [q1] at h
      cases q2 : isiT t T with
      | none => dsimp only at h; rw [q2] at h; exact h.elim
      | some r =>
        dsimp only at h; rw [q2] at h
        exact ⟨v, .ty T, .type t, .type T, r, rfl, .ty T, tyX_of rel rv q1, kit_ty (isiT_ok q2), h.here rel (.bl _)⟩
  | _ => exact h.elim
/-! ### truth -/
def D.truth : D → R Bool
  | .non => .ok false
  | .bl b => .ok b
  | .int i => .ok (i != 0)
  | .str x => if x.length ≤ sizeLine then .ok ((x.length : Int) != 0) else .bad
  | .lst ds => .ok (!ds.isEmpty)
  | .scr ds => .ok (!ds.isEmpty)
  | .tup ds => .ok (!ds.isEmpty)
  | .ktup ds => .ok (!ds.isEmpty)
  | _ => .bad
theorem RpL.isEmpty {F : Hp} {ds : List D} {vs : List V} (r : RpL G F ds vs) : ds.isEmpty = vs.isEmpty := by
  cases r <;> rfl
def mTru (m : Env → R D) : Env → R Bool := fun ρ => (m ρ).bind D.truth
theorem PuT.truth {ta : TE} {ma : Env → R D} (ha : PuE G W o ta o1 ma) : PuT G W o (fun σ H Q => ta σ H fun x H' => ∃ k, TruV G.K x H' k ∧ Q k H') o1 (mTru ma) := by
  intro B F0 F H σ ρ Q rel h
  refine ha rel ((Res.bnd h).imp fun d F1 H1 e1 r1 h1 v rv => ?_)
  cases rv with
  | non => exact ⟨_, rfl, h1 F1 H1 (Gr.refl F1 H1) r1⟩
  | bl b => exact ⟨_, rfl, h1 F1 H1 (Gr.refl F1 H1) r1⟩
  | int i => exact ⟨_, rfl, h1 F1 H1 (Gr.refl F1 H1) r1⟩
  | str x => exact ⟨_, ⟨(Res.ifP h1).1, rfl⟩, (Res.ifP h1).2 F1 H1 (Gr.refl F1 H1) r1⟩
  | @lst a vs ds h2 r2 => exact ⟨_, .inl ⟨vs, .inl (.inl (r1.core.fh _ _ h2)), rfl⟩, by rw [← r2.isEmpty]; exact h1 F1 H1 (Gr.refl F1 H1) r1⟩
  | @scr a vs ds h2 r2 => exact ⟨_, .inl ⟨vs, r1.sqL h2, rfl⟩, by rw [← r2.isEmpty]; exact h1 F1 H1 (Gr.refl F1 H1) r1⟩
  | @tup a vs ds h2 r2 => exact ⟨_, .inr (.inl ⟨vs, .inl (.inl (r1.core.fh _ _ h2)), rfl⟩), by rw [← r2.isEmpty]; exact h1 F1 H1 (Gr.refl F1 H1) r1⟩
  | @ktup a vs ds h2 r2 => exact ⟨_, .inr (.inl ⟨vs, r1.sqT h2, rfl⟩), by rw [← r2.isEmpty]; exact h1 F1 H1 (Gr.refl F1 H1) r1⟩
  | _ => exact h1.elim
/-! ### methods that change an own object -/
def PuM (G : Gc) (r : V → List V → Hp → VK → Prop) (f : D → List D → R (D × D)) : Prop :=
  ∀ {F H : Hp} {a : Addr} {vs : List V} {ds : List D} {d d' e : D} {Q : VK}, Own G F H d a → RpL G F ds vs → (∀ b u, F b = some u → H b = some u) → F a = none → f d ds = .ok (d', e) → (∀ u v, Own G F (upd H a u) d' a → Rp G F e v → Q v (upd H a u)) → r (.ref a) vs H Q
def tyOk (T : String) : D → Bool
  | .lst _ => T == "list"
  | .dic _ _ _ => T == "dict"
  | _ => false
theorem tyV_own {F H : Hp} {d : D} {a : Addr} {T : String} (ow : Own G F H d a) (h : tyOk T d = true) : tyV G.K T (.ref a) H := by
  cases ow with
  | lst h1 r1 => exact .inl ⟨by simpa [tyOk] using h, _, .inl (.inl h1)⟩
  | dicK h1 hl r1 => exact .inr (.inr (.inl ⟨by simpa [tyOk] using h, .inl ⟨_, h1⟩⟩))
  | dicT h1 hl r1 => exact .inr (.inr (.inl ⟨by simpa [tyOk] using h, .inr ⟨_, h1⟩⟩))
  | iset _ _ => cases h
def mMut (T : String) (i : Nat) (f : D → List D → R (D × D)) (ms : Env → R (List D)) (k : D → Env → Out) : Env → Out := fun ρ => match ρ[i]? with
  | some (some d) => if tyOk T d = true then oBind (ms ρ) ρ fun ds => (match f d ds with
    | .ok (d', e) => k e (ρ.set i (some d'))
    | _ => .bad) else .bad
  | _ => .bad
def kDrop : D → Env → Out := fun _ ρ => .nx ρ
def kSet (j : Nat) : D → Env → Out := fun e ρ => .nx (ρ.set j (some e))
def kTg (mg : D → Env → R Env) : D → Env → Out := fun e ρ => match mg e ρ with
  | .ok ρ' => .nx ρ'
  | _ => .bad
/-- how a statement goes on with a method's value -/
def PuK (G : Gc) (W : WX) (oL o : List Nat) (t : Ends → V → L2.St → Hp → Prop) (o' : List Nat) (k : D → Env → Out) : Prop :=
  ∀ {B F0 F H : Hp} {σ : L2.St} {ρ : Env} {X : Ends} {v : V} {d : D}, Rel G B F0 F H o σ ρ → Rp G F d v → Post G W B F0 F oL o' X (k d ρ) → t X v σ H
theorem PuK.drop : PuK G W oL o (fun X _ σ H => X.nx σ H) o kDrop := fun {_ _ F H σ _ _ _ _} rel _ h => h F H σ (Le.refl F) rel
theorem PuK.set {j : Nat} : PuK G W oL o (fun X v σ H => X.nx (σ.set j (some v)) H) (o.filter (· != j)) (kSet j) := fun {_ _ F H σ _ _ _ _} rel rv h => h F H _ (Le.refl F) (rel.set rv)
theorem PuK.ret : PuK G W oL o (fun X v _ H => X.rt v H) o2 (fun e _ => .rt e) := fun {_ _ F H σ _ _ _ _} rel rv h => h F H _ (Le.refl F) rel.core rv
theorem PuK.tg {g : TG} {mg : D → Env → R Env} (hg : PuG G o g o1 mg) : PuK G W oL o (fun X v σ H => g v σ H X.nx) o1 (kTg mg) := by
  intro B F0 F H σ ρ X v d rel rv h
  unfold kTg at h
  cases q : mg d ρ with
  | ok ρ' => rw [q] at h; exact hg rel rv ⟨ρ', q, fun σ' r' => h F H σ' (Le.refl F) r'⟩
  | exc c p => rw [q] at h; exact h.elim
  | bad => rw [q] at h; exact h.elim
theorem Post.ifP {B F0 F : Hp} {oL o' : List Nat} {X : Ends} {c : Prop} [Decidable c] {m : Out} (h : Post G W B F0 F oL o' X (if c then m else .bad)) : c ∧ Post G W B F0 F oL o' X m := by
  split at h
  · rename_i hc; exact ⟨hc, h⟩
  · exact h.elim
theorem mut_end {r : V → List V → Hp → VK → Prop} {f : D → List D → R (D × D)} {t : Ends → V → L2.St → Hp → Prop} {k : D → Env → Out} {i : Nat} {B F0 F H : Hp} {σ : L2.St} {ρ : Env} {X : Ends} {vs : List V} {ds : List D} {d : D} {a : Addr} (hm : PuM G r f) (hk : PuK G W oL o t o1 k) (hi : i ∈ o)
    (rel : Rel G B F0 F H o σ ρ) (rv : RpL G F ds vs) (hρ : ρ[i]? = some (some d)) (ha : σ[i]? = some (some (.ref a))) (h : Post G W B F0 F oL o1 X (match f d ds with
        | .ok (d', e) => k e (ρ.set i (some d'))
        | _ => .bad)) : r (.ref a) vs H (fun v H' => t X v σ H') := by
  obtain ⟨b, q1, q2, q3, q4⟩ := rel.ow i d hρ hi
  rw [ha] at q1; cases q1
  cases q : f d ds with
  | ok z =>
    obtain ⟨d', e⟩ := z
    rw [q] at h
    exact hm q2 rv rel.core.fh q3 q (Q := fun v H' => t X v σ H') fun u v ow re => hk (rel.mut hi hρ ha ow) re h
  | exc c p => rw [q] at h; exact h.elim
  | bad => rw [q] at h; exact h.elim
theorem PuS.mutA {T : String} {r : V → List V → Hp → VK → Prop} {f : D → List D → R (D × D)} {t : Ends → V → L2.St → Hp → Prop} {k : D → Env → Out} {i : Nat} {ts : TA} {ms : Env → R (List D)} (hm : PuM G r f) (hi : i ∈ o1) (hi0 : i ∈ o) (hs : PuA G W o ts o1 ms) (hk : PuK G W oL o1 t o2 k) :
    PuS G W oL o (fun X σ H => tBM G.K T r (tVar i) ts σ H fun v H' => t X v σ H') o2 (mMut T i f ms k) := by
  intro B F0 F H σ ρ X rel h
  unfold mMut at h
  cases hρ : ρ[i]? with
  | none => rw [hρ] at h; exact h.elim
  | some z =>
    cases z with
    | none => rw [hρ] at h; exact h.elim
    | some d =>
      rw [hρ] at h
      obtain ⟨hT, h⟩ := Post.ifP h
      obtain ⟨a, q1, q2, q3, q4⟩ := rel.ow i d hρ hi0
      exact ⟨.ref a, q1, tyV_own q2 hT, hs rel ((Post.res h).imp fun ds F1 H1 e1 r1 q vs rv => mut_end hm hk hi r1 rv hρ q1 q)⟩
theorem PuS.mut0 {T : String} {r : V → List V → Hp → VK → Prop} {f : D → List D → R (D × D)} {t : Ends → V → L2.St → Hp → Prop} {k : D → Env → Out} {i : Nat} (hm : PuM G r f) (hi : i ∈ o) (hk : PuK G W oL o t o2 k) :
    PuS G W oL o (fun X σ H => tBM0 G.K T r (tVar i) σ H fun v H' => t X v σ H') o2 (mMut T i f mNil k) := by
  intro B F0 F H σ ρ X rel h
  unfold mMut at h
  cases hρ : ρ[i]? with
  | none => rw [hρ] at h; exact h.elim
  | some z =>
    cases z with
    | none => rw [hρ] at h; exact h.elim
    | some d =>
      rw [hρ] at h
      obtain ⟨hT, h⟩ := Post.ifP h
      obtain ⟨a, q1, q2, q3, q4⟩ := rel.ow i d hρ hi
      exact ⟨.ref a, q1, tyV_own q2 hT, mut_end hm hk hi rel .nil hρ q1 h⟩
/-! the methods -/
def dAppend : D → List D → R (D × D)
  | .lst xs, [y] => if xs.length < sizeLine then .ok (.lst (xs ++ [y]), .non) else .bad
  | _, _ => .bad
theorem pm_append : PuM G rAppend dAppend := by
  intro F H a vs ds d d' e Q ow rv fh fa hf hq
  cases ow with
  | @lst _ xs es h1 r1 =>
    cases rv with
    | nil => cases hf
    | cons h2 r2 =>
      cases r2 with
      | nil =>
        obtain ⟨hl, hf⟩ := R.ifOk hf
        cases hf
        exact ⟨a, xs, _, rfl, rfl, h1, by rw [← r1.length]; exact hl, hq _ _ (.lst upd_same (r1.append (.cons h2 .nil))) .non⟩
      | cons _ _ => cases hf
  | _ => cases rv <;> cases hf
def dExtend : D → List D → R (D × D)
  | .lst xs, [.lst ys] => if xs.length + ys.length ≤ sizeLine then .ok (.lst (xs ++ ys), .non) else .bad
  | _, _ => .bad
theorem pm_extend : PuM G rExtend dExtend := by
  intro F H a vs ds d d' e Q ow rv fh fa hf hq
  cases ow with
  | @lst _ xs es h1 r1 =>
    cases rv with
    | nil => cases hf
    | cons h2 r2 =>
      cases r2 with
      | nil =>
        cases h2 with
        | @lst b zs fs h3 r3 =>
          obtain ⟨hl, hf⟩ := R.ifOk hf
          cases hf
          exact ⟨a, b, xs, zs, rfl, rfl, h1, fh _ _ h3, by rw [← r1.length, ← r3.length]; exact hl, hq _ _ (.lst upd_same (r1.append r3)) .non⟩
        | _ => cases hf
      | cons _ _ => cases h2 <;> cases hf
  | _ => cases rv <;> cases hf
def rInsert : V → List V → Hp → VK → Prop := fun x vs H Q => ∃ (l : Addr) (xs : List V) (i : Int) (y : V), x = .ref l ∧ vs = [.int i, y] ∧ H l = some (.lst xs) ∧ xs.length < sizeLine ∧ 0 ≤ i ∧ i < 2 ^ 63 ∧
    Q .non (upd H l (.lst (xs.take i.toNat ++ [y] ++ xs.drop i.toNat)))
def dInsert : D → List D → R (D × D)
  | .lst xs, [.int i, y] => if xs.length < sizeLine ∧ 0 ≤ i ∧ i < 2 ^ 63 then .ok (.lst (xs.take i.toNat ++ [y] ++ xs.drop i.toNat), .non) else .bad
  | _, _ => .bad
theorem pm_insert : PuM G rInsert dInsert := by
  intro F H a vs ds d d' e Q ow rv fh fa hf hq
  cases ow with
  | @lst _ xs es h1 r1 =>
    cases rv with
    | nil => cases hf
    | cons h2 r2 =>
      cases r2 with
      | nil => cases h2 <;> cases hf
      | cons h3 r3 =>
        cases r3 with
        | nil =>
          cases h2 with
          | int i =>
            obtain ⟨⟨c1, c2, c3⟩, hf⟩ := R.ifOk hf
            cases hf
            exact ⟨a, xs, i, _, rfl, rfl, h1, by rw [← r1.length]; exact c1, c2, c3, hq _ _ (.lst upd_same (((r1.take _).append (.cons h3 .nil)).append (r1.drop _))) .non⟩
          | _ => cases hf
        | cons _ _ => cases h2 <;> cases hf
  | _ => cases rv <;> cases hf
def dPop : D → List D → R (D × D)
  | .lst xs, [] => (match xs[xs.length - 1]? with
    | some y => .ok (.lst xs.dropLast, y)
    | none => .bad)
  | _, _ => .bad
theorem RpL.dropLast {F : Hp} : ∀ {ds : List D} {vs : List V}, RpL G F ds vs → RpL G F ds.dropLast vs.dropLast := by
  intro ds vs r
  rw [List.dropLast_eq_take, List.dropLast_eq_take, r.length]
  exact r.take _
theorem pm_pop : PuM G rPop dPop := by
  intro F H a vs ds d d' e Q ow rv fh fa hf hq
  cases ow with
  | @lst _ xs es h1 r1 =>
    cases rv with
    | nil =>
      unfold dPop at hf
      cases q : es[es.length - 1]? with
      | none => dsimp only at hf; rw [q] at hf; cases hf
      | some y =>
        dsimp only at hf; rw [q] at hf; cases hf
        obtain ⟨v, h3, h4⟩ := r1.get q
        exact ⟨a, xs, v, rfl, rfl, h1, by rw [← r1.length]; exact h3, hq _ _ (.lst upd_same r1.dropLast) h4⟩
    | cons _ _ => cases hf
  | _ => cases rv <;> cases hf
def dPopAt : D → List D → R (D × D)
  | .lst xs, [.int i] => (match ixN xs.length i with
    | some k => (match xs[k]? with
      | some y => if -(2 ^ 63) ≤ i ∧ i < 2 ^ 63 then .ok (.lst (xs.eraseIdx k), y) else .bad
      | none => .bad)
    | none => .bad)
  | _, _ => .bad
theorem pm_popAt : PuM G rPopAt dPopAt := by
  intro F H a vs ds d d' e Q ow rv fh fa hf hq
  cases ow with
  | @lst _ xs es h1 r1 =>
    cases rv with
    | nil => cases hf
    | cons h2 r2 =>
      cases r2 with
      | nil =>
        cases h2 with
        | int i =>
          unfold dPopAt at hf
          dsimp only at hf
          cases q1 : ixN es.length i with
          | none => rw [q1] at hf; cases hf
          | some k =>
            rw [q1] at hf
            dsimp only at hf
            cases q : es[k]? with
            | none => rw [q] at hf; cases hf
            | some y =>
              rw [q] at hf
              obtain ⟨⟨c1, c2⟩, hf⟩ := R.ifOk hf
              cases hf
              obtain ⟨v, h3, h4⟩ := r1.get q
              exact ⟨a, xs, i, k, v, rfl, rfl, h1, c1, c2, by rw [← r1.length]; exact (ixN_seq q1).1, h3, hq _ _ (.lst upd_same (r1.eraseIdx k)) h4⟩
        | _ => cases hf
      | cons _ _ => cases h2 <;> cases hf
  | _ => cases rv <;> cases hf
/-- the first place of an int among ints -/
def dRemove : D → List D → R (D × D)
  | .lst xs, [.int k] => (match D.ints xs with
    | some ns => if k ∈ ns then .ok (.lst ((ns.eraseIdx (ns.idxOf k)).map D.int), .non) else .bad
    | none => .bad)
  | _, _ => .bad
end
end G
/-! S10: remove, dicts, stores, what is walked. -/
namespace G
open PySem L2
section
variable {X : Cx} {G : Gc} {W : WX} {oL o o1 o2 o3 oI : List Nat}
theorem idx_first : ∀ {ns : List Int} {k : Int}, k ∈ ns → ns[ns.idxOf k]? = some k ∧ ∀ m : Nat, m < ns.idxOf k → ns[m]? ≠ some k
  | [], k, h => by cases h
  | x :: ns, k, h => by
    by_cases e : x = k
    · subst e
      rw [List.idxOf_cons_self]
      exact ⟨rfl, fun m hm => absurd hm (Nat.not_lt_zero m)⟩
    · have hk : k ∈ ns := (List.mem_cons.mp h).elim (fun q => absurd q.symm e) id
      obtain ⟨h1, h2⟩ := idx_first hk
      have ei : (x :: ns).idxOf k = ns.idxOf k + 1 := by
        rw [List.idxOf_cons]
        have : (x == k) = false := by simpa using e
        rw [this]
        rfl
      rw [ei]
      refine ⟨by simpa using h1, fun m hm => ?_⟩
      cases m with
      | zero => simpa using e
      | succ m => simpa using h2 m (by omega)
theorem pm_remove : PuM G rRemI dRemove := by
  intro F H a vs ds d d' e Q ow rv fh fa hf hq
  cases ow with
  | @lst _ xs es h1 r1 =>
    cases rv with
    | nil => cases hf
    | cons h2 r2 =>
      cases r2 with
      | nil =>
        cases h2 with
        | int k =>
          unfold dRemove at hf
          dsimp only at hf
          cases q1 : D.ints es with
          | none => rw [q1] at hf; cases hf
          | some ns =>
            rw [q1] at hf
            obtain ⟨hk, hf⟩ := R.ifOk hf
            cases hf
            have e1 := ints_eq q1
            subst e1
            rw [r1.intsV] at h1
            obtain ⟨i1, i2⟩ := idx_first hk
            exact ⟨a, ns, k, _, rfl, rfl, h1, i1, i2, hq _ _ (.lst upd_same (RpL.ints _)) .non⟩
        | _ => cases hf
      | cons _ _ => cases h2 <;> cases hf
  | _ => cases rv <;> cases hf
/-! ### dicts -/
def mDic (t : Bool) : Env → R D := fun _ => .ok (.dic t [] [])
theorem PuO.dnewK : PuO G W o tDNewK o (mDic false) := fun {_ _ F H σ ρ Q} rel h p hp => Res.newO h rel hp (.dicK (ks := []) (vs := []) upd_same rfl .nil)
theorem PuO.dnewT : PuO G W o tDNewT o (mDic true) := fun {_ _ F H σ ρ Q} rel h p hp => Res.newO h rel hp (.dicT (ks := []) (vs := []) upd_same rfl .nil)
/-- values with those at the key j changed -/
def dputV : List DK → List D → DK → D → List D
  | k :: ks, d :: ds, j, e => (if k = j then e else d) :: dputV ks ds j e
  | _, ds, _, _ => ds
def dhas (ks : List DK) (j : DK) : Bool := ks.any fun k => decide (k = j)
/-- in its place, or at the end -/
def dput (ks : List DK) (ds : List D) (j : DK) (e : D) : List DK × List D := if dhas ks j = true then (ks, dputV ks ds j e) else (ks ++ [j], ds ++ [e])
theorem dkK_inj {a b : Key} (h : dkK a = dkK b) : a = b := by
  cases a <;> cases b <;> simp [dkK] at h <;> simp [h]
theorem any_map {κ : Type} [DecidableEq κ] (f : κ → DK) (hf : ∀ a b, f a = f b → a = b) (j : κ) : ∀ (ks : List κ) (vs : List V), ks.length = vs.length → ((ks.zip vs).any fun kv => decide (kv.1 = j)) = dhas (ks.map f) (f j)
  | [], [], _ => rfl
  | k :: ks, v :: vs, hl => by
    have ih := any_map f hf j ks vs (by simpa using hl)
    unfold dhas at ih ⊢
    rw [List.zip_cons_cons, List.any_cons, List.map_cons, List.any_cons, ih]
    congr 1
    by_cases e : k = j
    · subst e; simp
    · have : f k ≠ f j := fun q => e (hf _ _ q)
      simp [e, this]
theorem repl_map {κ : Type} [DecidableEq κ] {F : Hp} {e : D} {w : V} (f : κ → DK) (hf : ∀ a b, f a = f b → a = b) (j : κ) (re : Rp G F e w) : ∀ (ks : List κ) (vs : List V) (ds : List D), ks.length = vs.length → RpL G F ds vs → ∃ ws, (ks.zip vs).map (fun kv => if kv.1 = j then (kv.1, w) else kv) = ks.zip ws ∧ ks.length = ws.length ∧ RpL G F (dputV (ks.map f) ds (f j) e) ws
  | [], [], [], _, _ => ⟨[], rfl, rfl, .nil⟩
  | k :: ks, v :: vs, d :: ds, hl, .cons h r => by
    obtain ⟨ws, h1, h2, h3⟩ := repl_map f hf j re ks vs ds (by simpa using hl) r
    by_cases q : k = j
    · subst q
      refine ⟨w :: ws, ?_, by simp [h2], ?_⟩
      · rw [List.zip_cons_cons, List.map_cons, h1]; simp
      · show RpL G F ((if f k = f k then e else d) :: dputV (ks.map f) ds (f k) e) (w :: ws)
        rw [if_pos rfl]; exact .cons re h3
    · have q2 : f k ≠ f j := fun z => q (hf _ _ z)
      refine ⟨v :: ws, ?_, by simp [h2], ?_⟩
      · rw [List.zip_cons_cons, List.map_cons, h1]; simp [q]
      · show RpL G F ((if f k = f j then e else d) :: dputV (ks.map f) ds (f j) e) (v :: ws)
        rw [if_neg q2]; exact .cons h h3
theorem put_map {κ : Type} [DecidableEq κ] {F : Hp} {e : D} {w : V} (f : κ → DK) (hf : ∀ a b, f a = f b → a = b) (j : κ) (re : Rp G F e w) (ks : List κ) (vs : List V) (ds : List D) (hl : ks.length = vs.length) (r : RpL G F ds vs) :
    ∃ (ks' : List κ) (ws : List V), putK (ks.zip vs) j w = ks'.zip ws ∧ ks'.length = ws.length ∧ RpL G F (dput (ks.map f) ds (f j) e).2 ws ∧ (dput (ks.map f) ds (f j) e).1 = ks'.map f := by
  unfold putK dput
  rw [any_map f hf j ks vs hl]
  by_cases h : dhas (ks.map f) (f j) = true
  · rw [if_pos h, if_pos h]
    obtain ⟨ws, h1, h2, h3⟩ := repl_map f hf j re ks vs ds hl r
    exact ⟨ks, ws, h1, h2, h3, rfl⟩
  · rw [if_neg h, if_neg h]
    refine ⟨ks ++ [j], vs ++ [w], ?_, by simp [hl], r.append (.cons re .nil), by simp⟩
    rw [List.zip_append hl]
    rfl
def mDPut (i : Nat) (mk mv : Env → R D) : Env → Out := fun ρ => oBind (mv ρ) ρ fun e => match ρ[i]? with
  | some (some (.dic t ks ds)) => oBind (mk ρ) ρ fun j => (match j.key with
    | some k => if isKind t k = true ∧ ks.length < sizeLine then .nx (ρ.set i (some (.dic t (dput ks ds k e).1 (dput ks ds k e).2))) else .bad
    | none => .bad)
  | _ => .bad
theorem dput_end {B F0 F H : Hp} {σ : L2.St} {ρ : Env} {t : Bool} {ks : List DK} {ds : List D} {a : Addr} {y w : V} {j e : D} {k : DK} {i : Nat} {N : L2.St → Hp → Prop} (rel : Rel G B F0 F H o σ ρ) (hi : i ∈ o) (hρ : ρ[i]? = some (some (.dic t ks ds))) (ha : σ[i]? = some (some (.ref a))) (rj : Rp G F j y) (re : Rp G F e w) (hk : j.key = some k) (ht : isKind t k = true) (hl : ks.length < sizeLine)
    (h : ∀ H', Rel G B F0 F H' o σ (ρ.set i (some (.dic t (dput ks ds k e).1 (dput ks ds k e).2))) → N σ H') : ∃ H4, DPut H a y w H4 ∧ N σ H4 := by
  obtain ⟨b, q1, q2, q3, q4⟩ := rel.ow i _ hρ hi
  rw [ha] at q1; cases q1
  cases q2 with
  | @dicK _ js vs _ h1 hz r1 =>
    rcases key_of rel.core.fh rj hk with ⟨j', rfl, rfl⟩ | ⟨_, _, rfl, _⟩
    · obtain ⟨ks', ws, p1, p2, p3, p4⟩ := put_map dkK (fun _ _ => dkK_inj) j' re js vs ds hz r1
      refine ⟨upd H a (.dK (putK (js.zip vs) j' w)), .inl ⟨_, j', h1, rfl, ?_, rfl⟩, h _ (rel.mut hi hρ ha ?_)⟩
      · rw [List.length_zip, ← hz, Nat.min_self]; simpa using hl
      · rw [p1, p4]; exact .dicK upd_same p2 p3
    · cases ht
  | @dicT _ js vs _ h1 hz r1 =>
    rcases key_of rel.core.fh rj hk with ⟨j', rfl, rfl⟩ | ⟨js', b, rfl, rfl, hb⟩
    · cases j' <;> cases ht
    · obtain ⟨ks', ws, p1, p2, p3, p4⟩ := put_map DK.t (fun _ _ z => by injection z) js' re js vs ds hz r1
      refine ⟨upd H a (.dT (putK (js.zip vs) js' w)), .inr ⟨_, js', b, h1, rfl, hb, ?_, rfl⟩, h _ (rel.mut hi hρ ha ?_)⟩
      · rw [List.length_zip, ← hz, Nat.min_self]; simpa using hl
      · rw [p1, p4]; exact .dicT upd_same p2 p3
theorem PuS.dput {i : Nat} {tk tv : TE} {mk mv : Env → R D} (hi1 : i ∈ o1) (hi2 : i ∈ o2) (hv : PuE G W o tv o1 mv) (hk : PuE G W o1 tk o2 mk) : PuS G W oL o (sDPut (tVar i) tk tv) o2 (mDPut i mk mv) := by
  intro B F0 F H σ ρ X rel h
  refine hv rel ((Post.res h).imp fun e F1 H1 e1 r1 q w re => ?_)
  cases hρ : ρ[i]? with
  | none => rw [hρ] at q; exact q.elim
  | some z =>
    cases z with
    | none => rw [hρ] at q; exact q.elim
    | some d =>
      cases d with
      | dic t ks ds =>
        rw [hρ] at q
        dsimp only at q
        obtain ⟨a, q1, q2, q3, q4⟩ := r1.ow i _ hρ hi1
        refine ⟨.ref a, q1, hk r1 ((Post.res q).imp fun j F2 H2 e2 r2 p y rj => ?_)⟩
        cases hj : j.key with
        | none => rw [hj] at p; exact p.elim
        | some k =>
          rw [hj] at p
          obtain ⟨⟨c1, c2⟩, p⟩ := Post.ifP p
          obtain ⟨H4, x1, x2⟩ := dput_end (N := X.nx) r2 hi2 hρ q1 rj (re.mono e2.le) hj c1 c2 fun H' r' => p F2 H' σ (Le.refl F2) r'
          exact ⟨a, H4, rfl, x1, x2⟩
      | _ => rw [hρ] at q; exact q.elim
/-- d.get(k), d.get(k, x) -/
theorem isD_of {B F0 F H : Hp} {σ : L2.St} {ρ : Env} {t : Bool} {ks : List DK} {ds : List D} {v : V} (rel : Rel G B F0 F H o σ ρ) (rd : Rp G F (.dic t ks ds) v) : ∃ a, v = .ref a ∧ IsD H a := by
  cases rd with
  | @dicK a js vs _ h1 hl r1 => exact ⟨a, rfl, .inl ⟨_, rel.rd h1⟩⟩
  | @dicT a js vs _ h1 hl r1 => exact ⟨a, rfl, .inr ⟨_, rel.rd h1⟩⟩
def D.getD3 (a b c : D) : R D := match a with
  | .dic t ks ds => (match b.key with
    | some k => if isKind t k = true then (match dget ks ds k with
      | some d => .ok d
      | none => .ok c) else .bad
    | none => .bad)
  | _ => .bad
def D.isDic : D → Bool
  | .dic _ _ _ => true
  | _ => false
def mGet1 (a b : Env → R D) : Env → R D := fun ρ => (a ρ).bind fun x => if x.isDic = true then (b ρ).bind fun y => x.getD3 y .non else .bad
def mGet2 (a b c : Env → R D) : Env → R D := fun ρ => (a ρ).bind fun x => if x.isDic = true then (b ρ).bind fun y => (c ρ).bind fun z => x.getD3 y z else .bad
theorem getD_of {B F0 F H : Hp} {σ : L2.St} {ρ : Env} {x y z : D} {v w u : V} {Q : VK} (rel : Rel G B F0 F H o σ ρ) (rx : Rp G F x v) (ry : Rp G F y w) (rz : Rp G F z u) (h : Res G W B F0 F H o σ ρ (kE G Q) (x.getD3 y z)) : ∃ a r, v = .ref a ∧ DGet H a w r ∧ Q (r.getD u) H := by
  unfold D.getD3 at h
  cases x with
  | dic t ks ds =>
    cases q1 : y.key with
    | none => dsimp only at h; rw [q1] at h; exact h.elim
    | some k =>
      dsimp only at h; rw [q1] at h
      obtain ⟨s1, h⟩ := Res.ifP h
      obtain ⟨p, e, m⟩ := dget_of rel rx ry q1 s1
      rcases m with ⟨z1, z2⟩ | ⟨v', d', z1, z2, z3⟩
      · rw [z2] at h; exact ⟨p, none, e, z1, h.here rel rz⟩
      · rw [z2] at h; exact ⟨p, some v', e, z1, h.here rel z3⟩
  | _ => exact h.elim
theorem PuE.get1 {ta tb : TE} {ma mb : Env → R D} (ha : PuE G W o ta o1 ma) (hb : PuE G W o1 tb o2 mb) : PuE G W o (tDGet1 ta tb) o2 (mGet1 ma mb) := by
  intro B F0 F H σ ρ Q rel h
  refine ha rel ((Res.bnd h).imp fun a F1 H1 e1 r1 h1 v rv => ?_)
  obtain ⟨hd, h1⟩ := Res.ifP h1
  cases a with
  | dic t ks ds =>
    obtain ⟨p, ep, ip⟩ := isD_of r1 rv
    refine ⟨p, ep, ip, hb r1 ((Res.bnd h1).imp fun b F2 H2 e2 r2 h2 w rw => ?_)⟩
    obtain ⟨p', r, e', g, q⟩ := getD_of r2 (rv.mono e2.le) rw .non h2
    rw [ep] at e'; cases e'
    exact ⟨r, g, q⟩
  | _ => cases hd
theorem PuE.get2 {ta tb tc : TE} {ma mb mc : Env → R D} (ha : PuE G W o ta o1 ma) (hb : PuE G W o1 tb o2 mb) (hc : PuE G W o2 tc o3 mc) : PuE G W o (tDGet2 ta tb tc) o3 (mGet2 ma mb mc) := by
  intro B F0 F H σ ρ Q rel h
  refine ha rel ((Res.bnd h).imp fun a F1 H1 e1 r1 h1 v rv => ?_)
  obtain ⟨hd, h1⟩ := Res.ifP h1
  cases a with
  | dic t ks ds =>
    obtain ⟨p, ep, ip⟩ := isD_of r1 rv
    refine ⟨p, ep, ip, hb r1 ((Res.bnd h1).imp fun b F2 H2 e2 r2 h2 w rw => ?_)⟩
    refine hc r2 ((Res.bnd h2).imp fun c F3 H3 e3 r3 h3 u ru => ?_)
    obtain ⟨p', r, e', g, q⟩ := getD_of r3 ((rv.mono e2.le).mono e3.le) (rw.mono e3.le) ru h3
    rw [ep] at e'; cases e'
    exact ⟨r, g, q⟩
  | _ => cases hd
/-! ### stores into an own list; x += e -/
def mLPut (i : Nat) (mk mv : Env → R D) : Env → Out := fun ρ => oBind (mv ρ) ρ fun e => match ρ[i]? with
  | some (some (.lst ds)) => oBind (mk ρ) ρ fun j => (match j with
    | .int k => (match ixN ds.length k with
      | some n => .nx (ρ.set i (some (.lst (ds.set n e))))
      | none => .bad)
    | _ => .bad)
  | _ => .bad
theorem PuS.lput {i : Nat} {tk tv : TE} {mk mv : Env → R D} (hi1 : i ∈ o1) (hi2 : i ∈ o2) (hv : PuE G W o tv o1 mv) (hk : PuE G W o1 tk o2 mk) : PuS G W oL o (tAsg tv (gSub (tVar i) tk rSetL)) o2 (mLPut i mk mv) := by
  intro B F0 F H σ ρ X rel h
  refine hv rel ((Post.res h).imp fun e F1 H1 e1 r1 q w re => ?_)
  cases hρ : ρ[i]? with
  | none => rw [hρ] at q; exact q.elim
  | some z =>
    cases z with
    | none => rw [hρ] at q; exact q.elim
    | some d =>
      cases d with
      | lst ds =>
        rw [hρ] at q
        dsimp only at q
        obtain ⟨a, q1, q2, q3, q4⟩ := r1.ow i _ hρ hi1
        refine ⟨.ref a, q1, hk r1 ((Post.res q).imp fun j F2 H2 e2 r2 p y rj => ?_)⟩
        obtain ⟨b, y1, y2, y3, y4⟩ := r2.ow i _ hρ hi2
        rw [q1] at y1; cases y1
        cases rj with
        | int k =>
          dsimp only at p
          cases y2 with
          | @lst _ vs _ h1 r3 =>
            cases hn : ixN ds.length k with
            | none => rw [hn] at p; exact p.elim
            | some n =>
              rw [hn] at p
              refine ⟨a, vs, k, n, rfl, rfl, h1, by rw [← r3.length]; exact hn, ?_⟩
              exact p F2 _ σ (Le.refl F2) (r2.mut hi2 hρ q1 (.lst upd_same (r3.set n (re.mono e2.le))))
        | _ => exact p.elim
      | _ => rw [hρ] at q; exact q.elim
def mAug (i : Nat) (f : Int → Int → Int) (m : Env → R D) : Env → Out := fun ρ => match ρ[i]? with
  | some (some (.int x)) => oBind (m ρ) ρ fun d => (match d with
    | .int y => .nx (ρ.set i (some (.int (f x y))))
    | _ => .bad)
  | _ => .bad
theorem PuS.aug {i : Nat} {f : Int → Int → Int} {t : TE} {m : Env → R D} (hi : i ∉ o) (h : PuE G W o t o1 m) : PuS G W oL o (tAug i t (ipI f)) (o1.filter (· != i)) (mAug i f m) := by
  intro B F0 F H σ ρ X rel q
  unfold mAug at q
  cases hρ : ρ[i]? with
  | none => rw [hρ] at q; exact q.elim
  | some z =>
    cases z with
    | none => rw [hρ] at q; exact q.elim
    | some d =>
      cases d with
      | int x =>
        rw [hρ] at q
        dsimp only at q
        obtain ⟨v, q1, q2⟩ := rel.sh i _ hρ hi
        cases q2
        refine ⟨.int x, q1, h rel ((Post.res q).imp fun e F1 H1 e1 r1 p y ry => ?_)⟩
        cases ry with
        | int y => exact ⟨x, y, rfl, rfl, p F1 H1 _ (Le.refl F1) (r1.set (.int _))⟩
        | _ => exact p.elim
      | _ => rw [hρ] at q; exact q.elim
/-! ### what is walked -/
def D.seq : D → R (List D)
  | .lst ds => .ok ds
  | .scr ds => .ok ds
  | .tup ds => .ok ds
  | .ktup ds => .ok ds
  | _ => .bad
def D.seqL : D → R (List D)
  | .lst ds => .ok ds
  | .scr ds => .ok ds
  | _ => .bad
def D.seqT : D → R (List D)
  | .tup ds => .ok ds
  | .ktup ds => .ok ds
  | _ => .bad
def mSq (f : D → R (List D)) (m : Env → R D) : Env → R (List D) := fun ρ => (m ρ).bind f
/-- where a walked list, tuple stands for good -/
theorem yields_of {F : Hp} {J : It} {ds : List D} (h : ∀ F2 H2, Le F F2 → (∀ a u, F2 a = some u → H2 a = some u) → (∀ i, i < ds.length → J.go i H2) ∧ J.stop ds.length H2 ∧ ∀ (i : Nat) d x H3, ds[i]? = some d → J.yld i H2 x H3 → H3 = H2 ∧ Rp G F2 d x) : Yields G F J ds := fun F2 H2 le fh => by
  obtain ⟨h1, h2, h3⟩ := h F2 H2 le fh
  refine ⟨h1, h2, fun i d x H3 hd hy => ?_⟩
  obtain ⟨rfl, r⟩ := h3 i d x H3 hd hy
  exact ⟨F2, Gr.refl F2 _, fh, fun _ q => .inl q, r⟩
theorem sqL_up {F F2 H2 : Hp} {a : Addr} {vs : List V} (le : Le F F2) (fh : ∀ a u, F2 a = some u → H2 a = some u) (h : SqL G.K F a vs) : SqL G.K H2 a vs := (le.toLe0.l (G := G) h).elim (fun q => .inl (q.elim (fun q => .inl (fh _ _ q)) fun ⟨x, q⟩ => .inr ⟨x, fh _ _ q⟩)) .inr
theorem sqT_up {F F2 H2 : Hp} {a : Addr} {vs : List V} (le : Le F F2) (fh : ∀ a u, F2 a = some u → H2 a = some u) (h : SqT G.K F a vs) : SqT G.K H2 a vs := (le.toLe0.t (G := G) h).elim (fun q => .inl (q.elim (fun q => .inl (fh _ _ q)) fun ⟨x, q⟩ => .inr ⟨x, fh _ _ q⟩)) .inr
theorem yl_list {F : Hp} {a : Addr} {vs : List V} {ds : List D} (h : SqL G.K F a vs) (r : RpL G F ds vs) : Yields G F (Itl G.K a) ds := yields_of fun F2 H2 le fh => by
  have q := sqL_up le fh h
  refine ⟨fun i hi => ?_, ⟨vs, q, by rw [r.length]; exact Nat.le_refl _⟩, fun i d x H3 hd hy => ?_⟩
  · have hi' : i < vs.length := by rw [← r.length]; exact hi
    exact ⟨vs, vs[i], q, by simp [hi']⟩
  · obtain ⟨v, h1, h2⟩ := r.get hd
    have e := hy.2 vs q
    rw [h1] at e; cases e
    exact ⟨hy.1, h2.mono le⟩
theorem yl_tup {F : Hp} {a : Addr} {vs : List V} {ds : List D} (h : SqT G.K F a vs) (r : RpL G F ds vs) : Yields G F (Itt G.K a) ds := yields_of fun F2 H2 le fh => by
  have q := sqT_up le fh h
  refine ⟨fun i hi => ?_, ⟨vs, q, by rw [r.length]; exact Nat.le_refl _⟩, fun i d x H3 hd hy => ?_⟩
  · have hi' : i < vs.length := by rw [← r.length]; exact hi
    exact ⟨vs, vs[i], q, by simp [hi']⟩
  · obtain ⟨v, h1, h2⟩ := r.get hd
    have e := hy.2 vs q
    rw [h1] at e; cases e
    exact ⟨hy.1, h2.mono le⟩
theorem PuI.list {t : TE} {m : Env → R D} (h : PuE G W o t o1 m) : PuI G W o (iList G.K t) o1 (mSq D.seqL m) := by
  intro B F0 F H σ ρ K rel q
  refine h rel ((Res.bnd q).imp fun d F1 H1 e1 r1 p v rv => ?_)
  cases rv with
  | @lst a vs ds h1 r2 => exact ⟨a, rfl, ⟨vs, .inl (.inl (r1.core.fh _ _ h1))⟩, p F1 H1 (Gr.refl F1 H1) r1 _ (yl_list (.inl (.inl h1)) r2)⟩
  | @scr a vs ds h1 r2 => exact ⟨a, rfl, ⟨vs, r1.sqL h1⟩, p F1 H1 (Gr.refl F1 H1) r1 _ (yl_list h1 r2)⟩
  | _ => exact p.elim
theorem PuI.tup {t : TE} {m : Env → R D} (h : PuE G W o t o1 m) : PuI G W o (iTup G.K t) o1 (mSq D.seqT m) := by
  intro B F0 F H σ ρ K rel q
  refine h rel ((Res.bnd q).imp fun d F1 H1 e1 r1 p v rv => ?_)
  cases rv with
  | @tup a vs ds h1 r2 => exact ⟨a, rfl, ⟨vs, .inl (.inl (r1.core.fh _ _ h1))⟩, p F1 H1 (Gr.refl F1 H1) r1 _ (yl_tup (.inl (.inl h1)) r2)⟩
  | @ktup a vs ds h1 r2 => exact ⟨a, rfl, ⟨vs, r1.sqT h1⟩, p F1 H1 (Gr.refl F1 H1) r1 _ (yl_tup h1 r2)⟩
  | _ => exact p.elim
def rangeD (a b : Int) : List D := (List.range (b - a).toNat).map fun i => D.int (a + (i : Nat))
theorem yl_range {F : Hp} {lo : Int} {n : Nat} : Yields G F (Itr lo n) ((List.range n).map fun i => D.int (lo + (i : Nat))) := yields_of fun F2 H2 le fh => by
  refine ⟨fun i hi => by show i < n; simpa using hi, by show n ≤ _; simp, fun i d x H3 hd hy => ⟨hy.1, ?_⟩⟩
  rw [List.getElem?_map] at hd
  have e2 : x = V.int (lo + (i : Nat)) := hy.2
  cases q : (List.range n)[i]? with
  | none => rw [q] at hd; cases hd
  | some j =>
    rw [q] at hd; cases hd
    have : j = i := by
      have := List.getElem?_eq_some_iff.mp q
      obtain ⟨h1, h2⟩ := this
      simpa using h2.symm
    subst this
    rw [e2]
    exact .int _
def rangeOk (a b : Int) : Bool := decide (-(2 ^ 62) ≤ a) && (decide (a < 2 ^ 62) && (decide (-(2 ^ 62) ≤ b) && decide (b < 2 ^ 62)))
theorem rangeOk_of {a b : Int} (h : rangeOk a b = true) : -(2 ^ 62) ≤ a ∧ a < 2 ^ 62 ∧ -(2 ^ 62) ≤ b ∧ b < 2 ^ 62 := by
  unfold rangeOk at h
  rw [Bool.and_eq_true, Bool.and_eq_true, Bool.and_eq_true] at h
  exact ⟨of_decide_eq_true h.1, of_decide_eq_true h.2.1, of_decide_eq_true h.2.2.1, of_decide_eq_true h.2.2.2⟩
def dRange1 : D → R (List D)
  | .int j => if rangeOk 0 j = true then .ok (rangeD 0 j) else .bad
  | _ => .bad
def dRange2 : D → D → R (List D)
  | .int i, .int j => if rangeOk i j = true then .ok (rangeD i j) else .bad
  | _, _ => .bad
def mRange2 (a b : Env → R D) : Env → R (List D) := fun ρ => (a ρ).bind fun x => (b ρ).bind fun y => dRange2 x y
theorem PuI.range1 {t : TE} {m : Env → R D} (h : PuE G W o t o1 m) : PuI G W o (iRng1 (tCons t tNil)) o1 (mSq dRange1 m) := by
  intro B F0 F H σ ρ K rel q
  refine h rel ((Res.bnd q).imp fun d F1 H1 e1 r1 p v rv => ?_)
  cases rv with
  | int j =>
    obtain ⟨c, p⟩ := Res.ifP p
    obtain ⟨_, _, c3, c4⟩ := rangeOk_of c
    refine ⟨j, rfl, c3, c4, p F1 H1 (Gr.refl F1 H1) r1 _ ?_⟩
    have := yl_range (G := G) (F := F1) (lo := 0) (n := j.toNat)
    unfold rangeD
    rw [Int.sub_zero]
    exact this
  | _ => exact p.elim
theorem PuI.range2 {t u : TE} {m n : Env → R D} (h : PuE G W o t o1 m) (h2 : PuE G W o1 u o2 n) : PuI G W o (iRng2 (tCons t (tCons u tNil))) o2 (mRange2 m n) := by
  intro B F0 F H σ ρ K rel q
  refine h rel ((Res.bnd q).imp fun d F1 H1 e1 r1 p v rv => ?_)
  refine h2 r1 ((Res.bnd p).imp fun e F2 H2 e2 r2 p w rw => ?_)
  cases rv with
  | int i =>
    cases rw with
    | int j =>
      obtain ⟨c, p⟩ := Res.ifP p
      obtain ⟨c1, c2, c3, c4⟩ := rangeOk_of c
      exact ⟨i, j, rfl, ⟨c1, c2, c3, c4⟩, p F2 H2 (Gr.refl F2 H2) r2 _ yl_range⟩
    | _ => exact p.elim
  | _ => cases rw <;> exact p.elim
/-- new pairs of what f and g tell -/
theorem yl_pair {F : Hp} {J : It} {ds : List D} {xs ys : Nat → Option V} {fs gs : Nat → Option D} {G0 : Hp → Prop} {n : Nat} (w : Walk J n G0 (YPair xs ys)) (hn : ds.length = n) (hG : ∀ F2 H2, Le F F2 → (∀ a u, F2 a = some u → H2 a = some u) → G0 H2)
    (hd : ∀ (i : Nat) d, ds[i]? = some d → ∃ a b, d = .tup [a, b] ∧ fs i = some a ∧ gs i = some b) (hf : ∀ i a, fs i = some a → ∃ v, xs i = some v ∧ Rp G F a v) (hg : ∀ i b, gs i = some b → ∃ v, ys i = some v ∧ Rp G F b v) : Yields G F J ds := fun F2 H2 le fh => by
  subst hn
  have q := hG F2 H2 le fh
  refine ⟨fun i hi => w.goes i H2 hi q, w.stops H2 q, fun i d x H3 hdi hy => ?_⟩
  obtain ⟨a, b, rfl, ha, hb⟩ := hd i d hdi
  obtain ⟨va, xa, ra⟩ := hf i a ha
  obtain ⟨vb, xb, rb⟩ := hg i b hb
  have hi : i < ds.length := (List.getElem?_eq_some_iff.mp hdi).1
  obtain ⟨T, x1, y1, e1, e2, e3, e4, e5⟩ := w.yields i H2 x H3 hi q hy
  rw [xa] at e4; cases e4
  rw [xb] at e5; cases e5
  subst e1 e3
  have fT : F2 T = none := by
    cases z : F2 T with
    | none => rfl
    | some u => rw [fh _ _ z] at e2; cases e2
  refine ⟨upd F2 T (.tup [va, vb]), ⟨Le.upd fT, fun c u z => by rw [upd_ne (ne_of_none z e2)]; exact z⟩, fun c u z => ?_, fun c z => ?_, .tup upd_same (.cons ((ra.mono le).mono (Le.upd fT)) (.cons ((rb.mono le).mono (Le.upd fT)) .nil))⟩
  · by_cases hc : c = T
    · subst hc; rw [upd_same] at z ⊢; exact z
    · rw [upd_ne hc] at z ⊢; exact fh c u z
  · by_cases hc : c = T
    · subst hc; exact .inr (.inl e2)
    · rw [upd_ne hc] at z; exact .inl z
def enumD (ds : List D) : List D := ds.zipIdx.map fun p => .tup [.int (p.2 : Nat), p.1]
theorem enumD_len (ds : List D) : (enumD ds).length = ds.length := by unfold enumD; simp
theorem enumD_get {ds : List D} {i : Nat} {d : D} (h : (enumD ds)[i]? = some d) : ∃ a b, d = .tup [a, b] ∧ some (D.int (i : Nat)) = some a ∧ ds[i]? = some b := by
  unfold enumD at h
  rw [List.getElem?_map, List.getElem?_zipIdx] at h
  cases q : ds[i]? with
  | none => rw [q] at h; cases h
  | some b => rw [q] at h; cases h; exact ⟨.int (i : Nat), b, by simp, rfl, rfl⟩
def dEnum (f : D → R (List D)) : D → R (List D) := fun d => (f d).bind fun ds => .ok (enumD ds)
theorem PuI.enumL {t : TE} {m : Env → R D} (h : PuE G W o t o1 m) : PuI G W o (iEnum G.K (tCons t tNil)) o1 (mSq (dEnum D.seqL) m) := by
  intro B F0 F H σ ρ K rel q
  refine h rel ((Res.bnd q).imp fun d F1 H1 e1 r1 p v rv => ?_)
  have go : ∀ {a : Addr} {vs : List V} {ds : List D}, SqL G.K F1 a vs → RpL G F1 ds vs → Yields G F1 (Ite G.K a) (enumD ds) := fun {a vs ds} h1 r => by
    refine yl_pair (fs := fun i => some (.int (i : Nat))) (gs := fun i => ds[i]?) (walk_enum (xs := vs)) (by rw [enumD_len, r.length]) (fun F2 H2 le fh => sqL_up le fh h1) (fun i d hd => enumD_get hd) (fun i a e => by cases e; exact ⟨_, rfl, .int _⟩) fun i b e => r.get e
  cases rv with
  | @lst a vs ds h1 r2 => exact ⟨a, vs, rfl, .inl (.inl (r1.core.fh _ _ h1)), p F1 H1 (Gr.refl F1 H1) r1 _ (go (.inl (.inl h1)) r2)⟩
  | @scr a vs ds h1 r2 => exact ⟨a, vs, rfl, r1.sqL h1, p F1 H1 (Gr.refl F1 H1) r1 _ (go h1 r2)⟩
  | _ => exact p.elim
def zipD : List D → List D → List D
  | a :: as, b :: bs => .tup [a, b] :: zipD as bs
  | _, _ => []
theorem zipD_len : ∀ (as bs : List D), (zipD as bs).length = min as.length bs.length
  | [], bs => by simp [zipD]
  | a :: as, [] => by simp [zipD]
  | a :: as, b :: bs => by simp [zipD, zipD_len as bs]
theorem zipD_get : ∀ {as bs : List D} {i : Nat} {d : D}, (zipD as bs)[i]? = some d → ∃ a b, d = .tup [a, b] ∧ as[i]? = some a ∧ bs[i]? = some b
  | [], bs, i, d, h => by simp [zipD] at h
  | a :: as, [], i, d, h => by simp [zipD] at h
  | a :: as, b :: bs, 0, d, h => by simp [zipD] at h; exact ⟨a, b, h.symm, rfl, rfl⟩
  | a :: as, b :: bs, i + 1, d, h => by
    have h' : (zipD as bs)[i]? = some d := by simpa [zipD] using h
    obtain ⟨x, y, e, h1, h2⟩ := zipD_get h'
    exact ⟨x, y, e, by simpa using h1, by simpa using h2⟩
def dZip (x y : D) : R (List D) := match x, y with
  | .lst a, .lst b => .ok (zipD a b)
  | .tup a, .tup b => .ok (zipD a b)
  | _, _ => .bad
def mZip (a b : Env → R D) : Env → R (List D) := fun ρ => (a ρ).bind fun x => (b ρ).bind fun y => dZip x y
theorem walk_zipT {K : PySem.W.Frag} {a b : Addr} {xs ys : List V} {n : Nat} (hn : n = min xs.length ys.length) : Walk (RZ.ItzT K a b) n (fun H => SqT K H a xs ∧ SqT K H b ys) (YPair (fun i => xs[i]?) (fun i => ys[i]?)) := by
  subst hn
  refine ⟨fun i _ hi q => ?_, fun _ q => ⟨xs, ys, q.1, q.2, by omega⟩, fun i H v H' _ q y => ?_⟩
  · have h1 : i < xs.length := by omega
    have h2 : i < ys.length := by omega
    exact ⟨xs, ys, xs[i], ys[i], q.1, q.2, by simp [h1], by simp [h2]⟩
  · obtain ⟨T, x, z, h1, h2, h3, h4, h5⟩ := y
    exact ⟨T, x, z, h1, h2, h3, h4 xs q.1, h5 ys q.2⟩
theorem PuI.zip {t u : TE} {m n : Env → R D} (h : PuE G W o t o1 m) (h2 : PuE G W o1 u o2 n) : PuI G W o (RZ.iZipA G.K (tCons t (tCons u tNil))) o2 (mZip m n) := by
  intro B F0 F H σ ρ K rel q
  refine h rel ((Res.bnd q).imp fun d F1 H1 e1 r1 p v rv => ?_)
  refine h2 r1 ((Res.bnd p).imp fun e F2 H2 e2 r2 p w rw => ?_)
  have rv := rv.mono e2.le
  cases rv with
  | @lst a vs ds h3 r3 =>
    cases rw with
    | @lst b ws es h4 r4 =>
      refine ⟨a, b, vs, ws, rfl, .inl ⟨.inl (.inl (r2.core.fh _ _ h3)), .inl (.inl (r2.core.fh _ _ h4)), p F2 H2 (Gr.refl F2 H2) r2 _ ?_⟩⟩
      exact yl_pair (fs := fun i => ds[i]?) (gs := fun i => es[i]?) (walk_zip (xs := vs) (ys := ws) rfl) (by rw [zipD_len, r3.length, r4.length]) (fun F3 H3 le fh => ⟨sqL_up le fh (.inl (.inl h3)), sqL_up le fh (.inl (.inl h4))⟩) (fun i d hd => zipD_get hd) (fun i a e => r3.get e) fun i b e => r4.get e
    | _ => exact p.elim
  | @tup a vs ds h3 r3 =>
    cases rw with
    | @tup b ws es h4 r4 =>
      refine ⟨a, b, vs, ws, rfl, .inr ⟨.inl (.inl (r2.core.fh _ _ h3)), .inl (.inl (r2.core.fh _ _ h4)), p F2 H2 (Gr.refl F2 H2) r2 _ ?_⟩⟩
      exact yl_pair (fs := fun i => ds[i]?) (gs := fun i => es[i]?) (walk_zipT (xs := vs) (ys := ws) rfl) (by rw [zipD_len, r3.length, r4.length]) (fun F3 H3 le fh => ⟨sqT_up le fh (.inl (.inl h3)), sqT_up le fh (.inl (.inl h4))⟩) (fun i d hd => zipD_get hd) (fun i a e => r3.get e) fun i b e => r4.get e
    | _ => exact p.elim
  | _ => cases rw <;> exact p.elim
end
end G
/-! E1: enumerate over a tuple; a for over a list or a tuple. -/
namespace PySem
open Sem (wp)
open AutoSeq1 (wpAny_loadPart')
/-- enumerate(t), t a tuple -/
theorem enumT_meets (l : Addr) (items : Array Value) :
    Meets (Builtin.«enumerate.__new__» ⟨[.type "enumerate", .ref l], []⟩) (fun _ R s => s.heap.IsTuple l items ∧
      R (.ok (.ret (.ref (s.heap.push { cls := .type "tuple_iterator", data := .fields #[.ref l, .int 0 0] }).objs.size)))
        { s with heap := (s.heap.push { cls := .type "tuple_iterator", data := .fields #[.ref l, .int 0 0] }).push { cls := .type "enumerate", data := .fields #[.none, .bool false, .ref s.heap.objs.size, rawInt 0, .none, .none] } }) :=
  .of_wp fun prog w A R s h => by
    obtain ⟨hp, g, d, tk, os⟩ := s
    obtain ⟨hL, h⟩ := h
    have hsub := sub_enumerate
    wp_walk
    refine wpAny_stack_any fun st => wpAny_pure ?_
    split
    · rename_i c _ _ _ _ _
      cases (c == Value.type "enumerate")
      · wp_walk using wpAny_pyIter_tuple hL
        exact ⟨_, rfl, h⟩
      · wp_walk using wpAny_pyIter_tuple hL
        exact ⟨_, rfl, h⟩
    · wp_walk using wpAny_pyIter_tuple hL
      exact ⟨_, rfl, h⟩
section
variable {prog : Program} {w : World} {A : Around} {E : Value → Shared → Prop} {s : Shared}
theorem enumT_call {l : Addr} {items : Array Value} {Q : Value → Shared → Prop} (hL : s.heap.IsTuple l items)
    (h : ∀ h2, IsEnum h2 (s.heap.objs.size + 1) s.heap.objs.size 0 .none → h2.IsTupleIter s.heap.objs.size l 0 → (∀ b o, s.heap.get? b = some o → h2.get? b = some o) → Q (.ref (s.heap.objs.size + 1)) { s with heap := h2 }) :
    wpAny (model prog w) A (call (.type "enumerate") [.ref l]) Q E s := by
  refine callType_new F.called_enumerate (by decide) (F.typeCall_enumerate_1 _) (F.newCall_enumerate_1 _) (fun obj => F.args_object_init_2 obj _) F.entry_enumerate_new (enumT_meets l items) ⟨hL, ?_⟩
  have sz : (s.heap.push { cls := .type "tuple_iterator", data := .fields #[.ref l, .int 0 0] }).objs.size = s.heap.objs.size + 1 := Heap.size_push ..
  show _ ∧ _
  rw [sz]
  have en : IsEnum ((s.heap.push { cls := .type "tuple_iterator", data := .fields #[.ref l, .int 0 0] }).push { cls := .type "enumerate", data := .fields #[.none, .bool false, .ref s.heap.objs.size, rawInt 0, .none, .none] }) (s.heap.objs.size + 1) s.heap.objs.size 0 .none := by
    have z := Heap.get?_push_size (s.heap.push { cls := .type "tuple_iterator", data := .fields #[.ref l, .int 0 0] }) (o := { cls := .type "enumerate", data := .fields #[.none, .bool false, .ref s.heap.objs.size, rawInt 0, .none, .none] }) rfl
    rw [sz] at z
    exact z
  exact ⟨⟨_, en, rfl⟩, h _ en ⟨_, Heap.get?_push_of_some _ (Heap.get?_push_size _ rfl), rfl, rfl⟩ fun b o x => Heap.get?_push_of_some _ (Heap.get?_push_of_some _ x)⟩
/-- a tuple's iterator, drawn from -/
theorem tupDraws {it l : Addr} {items : Array Value} (hh : A.handled = none) (hne : it ≠ l) : Draws prog w A it [it, l] items.size (fun i v => items[i]? = some v) (fun i h => h.IsTupleIter it l i ∧ h.IsTuple l items) where
  live := fun i h st => let ⟨⟨o, ho, _⟩, _⟩ := st; ⟨o, ho⟩
  frame := fun i h h' st k => by
    obtain ⟨⟨o, ho, a⟩, ⟨u, hu, b⟩⟩ := st
    exact ⟨⟨o, k it (by simp) _ ho, a⟩, ⟨u, k l (by simp) _ hu, b⟩⟩
  item := fun i s Q E hi st hQ => by
    obtain ⟨a, b⟩ := st
    have hx : items[i]? = some items[i] := by simp [hi]
    refine RZ.nextOf_tuple_item a b hx fun h' a' sb => hQ _ h' s.toks hx ⟨a', ?_⟩ sb
    obtain ⟨u, hu, b⟩ := b
    exact ⟨u, (sb.2 l (Ne.symm hne)).trans hu, b⟩
  done := fun s Q E st hE => by
    obtain ⟨a, b⟩ := st
    exact RZ.nextOf_tuple_end hh a b (by simp) hE
end
end PySem
namespace G
open PySem L2
/-- the tuple at a as it stands at each turn, place and item in a new pair -/
def IteT (K : PySem.W.Frag) (a : Addr) : It :=
  ⟨fun i H => ∃ (xs : List V) (x : V), SqT K H a xs ∧ xs[i]? = some x,
   fun i H v H' => ∃ T x, v = .ref T ∧ H T = none ∧ H' = upd H T (.tup [.int (i : Nat), x]) ∧ ∀ xs, SqT K H a xs → xs[i]? = some x,
   fun i H => ∃ xs : List V, SqT K H a xs ∧ xs.length ≤ i⟩
theorem turn_enT {P : Program} {w : World} {K : PySem.W.Frag} {es : List Expr} {kk : Nat} {tp : Pos} (a e it : Addr) :
    Turn P w K (.Tuple es kk tp) (IteT K a) [e, it] e (fun i h => (∃ old, IsEnum h e it ((i : Nat) : Int) old) ∧ h.IsTupleIter it a i ∧ e ≠ it) where
  mem := by simp
  obj := fun i h st b hb => by
    obtain ⟨⟨old, he⟩, ⟨o, ho, hc, hd⟩, _⟩ := st
    rcases (show b = e ∨ b = it by simpa using hb) with z | z
    · rw [z]
      exact ⟨_, he, fun v q => nomatch q⟩
    · rw [z]
      exact ⟨o, ho, fun v q => by rw [hd] at q; cases q⟩
  keep := fun i h h' st k => by
    obtain ⟨⟨old, he⟩, ⟨o, ho, hc, hd⟩, hne⟩ := st
    exact ⟨⟨old, k e (by simp) _ he⟩, ⟨o, k it (by simp) _ ho, hc, hd⟩, hne⟩
  item := by
    intro X hP hw hK hc i pins s σ H E I hf st hg
    subst hP hw hK
    obtain ⟨⟨old, he⟩, hit, hne⟩ := st
    obtain ⟨xs, x, hq, hx⟩ := hg
    obtain ⟨its, rv, p, hz⟩ := I.tuple hq
    obtain ⟨u, hu, ru⟩ := rv.get hx
    have hel : e < s.heap.objs.size := Heap.lt_size he
    have hil : it < s.heap.objs.size := by
      obtain ⟨_, q, _⟩ := hit
      exact Heap.lt_size q
    have hal : it ≠ a := fun z => by
      obtain ⟨_, q, c, _⟩ := hit
      obtain ⟨_, q2, c2, _⟩ := (show s.heap.IsTuple a its.toArray from p)
      rw [z, q2] at q
      cases q
      rw [c] at c2
      exact absurd (Value.type.inj c2) (by decide)
    have hin : X.A.in1.handled = none := I.ok.hd hc
    have hlt : i < its.toArray.size := by
      have := (List.getElem?_eq_some_iff.mp hu).1
      simpa using this
    refine wpAny_pyNext_enum_itemD (P := fun i v => its.toArray[i]? = some v) (tupDraws hin hal) he ⟨hit, p⟩ hlt hne ?_ fun x' h' tk hp ho hs' hT hsz hk => ?_
    · intro hm
      rcases (show e = it ∨ e = a by simpa using hm) with z | z
      · exact hne z
      · subst z
        obtain ⟨_, q2, c2, _⟩ := (show s.heap.IsTuple e its.toArray from p)
        rw [he] at q2
        cases q2
        exact absurd (Value.type.inj c2) (by decide)
    have ex : x' = u := by
      have h1 : its.toArray[i]? = some u := by simpa using hu
      rw [h1] at hp
      exact (Option.some.inj hp).symm
    subst ex
    refine ⟨_, rfl, wpAny_letOwnedTupleGo_enum (s := { s with heap := h', toks := tk + 1 }) ho fun h2 he' sb => ?_⟩
    have hT2 : h2.get? s.heap.objs.size = some { cls := .type "tuple", data := .seq #[.int i tk, x'] } := (sb.2 _ (Nat.ne_of_gt hel)).trans hT
    have new : ObjOk X.prog X.w (upd H s.heap.objs.size (.tup [.int (i : Nat), x])) h2 s.heap.objs.size (.tup [.int (i : Nat), x]) :=
      ⟨by show 2 ≤ sizeLine; rw [sizeLine_eq]; omega, [.int i tk, x'], .cons ⟨tk, rfl⟩ (.cons ru .nil), ⟨_, hT2, rfl, _, rfl⟩⟩
    have I1 : Inv X pins σ (upd H s.heap.objs.size (.tup [.int (i : Nat), x])) { s with heap := h2, toks := tk + 1 } :=
      I.turnedNew (ch := [e, it]) (fun b ob hb q => (sb.2 b (fun z => hb (by simp [z]))).trans (hk b ob (fun z => hb (by simp [z])) (fun z => hb (by simp [z])) q)) hf (Nat.le_refl _) new
    have hit2 : h2.IsTupleIter it a (i + 1) := by
      obtain ⟨⟨o, ho2, hc2⟩, _⟩ := hs'
      exact ⟨o, (sb.2 it (Ne.symm hne)).trans ho2, hc2⟩
    refine ⟨.ref s.heap.objs.size, _, I1, rfl, ⟨_, x, rfl, I.hok.fresh (Nat.le_refl _), rfl, fun ys hy => by rw [I.tuple_inj hy hq]; exact hx⟩, ⟨⟨x', ?_⟩, hit2, hne⟩, fun b hb => ?_⟩
    · rw [show ((i + 1 : Nat) : Int) = (i : Int) + 1 by omega]
      exact he'
    · have hb' : b < s.heap.objs.size := by
        rcases (show b = e ∨ b = it by simpa using hb) with z | z
        · rw [z]; exact hel
        · rw [z]; exact hil
      rw [upd_ne (Nat.ne_of_lt hb')]
      exact (hf b hb).1
  done := by
    intro X hP hw hK hc i pins s σ H E I hf st hg
    subst hP hw hK
    obtain ⟨⟨old, he⟩, hit, hne⟩ := st
    obtain ⟨xs, hq, hx⟩ := hg
    obtain ⟨its, rv, p, hz⟩ := I.tuple hq
    obtain ⟨f0, f1, f2, f3, f4, f5⟩ := hf it (by simp)
    have hl := rv.length
    have hal : it ≠ a := fun z => by
      obtain ⟨_, q, c, _⟩ := hit
      obtain ⟨_, q2, c2, _⟩ := (show s.heap.IsTuple a its.toArray from p)
      rw [z, q2] at q
      cases q
      rw [c] at c2
      exact absurd (Value.type.inj c2) (by decide)
    have hin : X.A.in1.handled = none := I.ok.hd hc
    have none_at : its.toArray[i]? = none := by simp; omega
    have hT : s.TypeIs (.ref e) "enumerate" := ⟨_, he, rfl⟩
    unfold pyNext
    refine wpAny_bind (wpAny_attempt (wpAny_callSpecial?_slot (name := Str.ofString "__next__") hT F.slot_enumerate_next (wpAny_call_entry F.slot_enumerate_next hT F.entry_enumerate_next ?_ (F.args_enumerate_next_1 _))))
    show wpAny _ _ (field (.ref e) 2 >>= _) _ _ _
    refine wpAny_bind (wpAny_field he rfl (x := .ref it) rfl ?_)
    refine wpAny_bind (RZ.nextOf_tuple_end hin hit p none_at fun h' x eb hx' => ?_)
    obtain ⟨o, ho, hc⟩ := hx'
    refine wpAny_bind (wpAny_isInstance (T := "StopIteration") (b := true) ⟨o, ho, hc⟩ isSubtype_stop ?_)
    exact wpAny_pure ⟨rfl, I.turned (t' := s.toks) (fun b o hb q => eb b o hb q) f0 f1 f3 f4 f5⟩
  self := fun A i s Q E st h => let ⟨⟨_, he⟩, _⟩ := st; wpAny_pyIter_enum he h
/-- enumerate of a list or a tuple -/
def iEnumA (K : PySem.W.Frag) (ta : TA) : TI := fun σ H R => ta σ H fun vs H1 => ∃ a xs, vs = [.ref a] ∧ ((SqL K H1 a xs ∧ R (Ite K a) H1) ∨ (SqT K H1 a xs ∧ R (IteT K a) H1))
theorem pi_enumA {X : Cx} {e : Expr} {ta : TA} {p pos tp : Pos} {es : List Expr} {kk : Nat} (hg : Gl X "enumerate") (hm : X.mg "enumerate" = none) (ha : PA X [e] ta) (hs : starEach [e] X.env = [(false, eval e X.env)] := by rfl) :
    PI X (.Tuple es kk tp) (.Call (.Name "enumerate" p) [e] [] pos) (iEnumA X.K ta) := by
  refine ⟨fun pins s σ H R I h => ?_⟩
  refine PyProof.Rows.Call_ (ld_blt I hg hm PyProof.Rows.boot_enumerate (PyProof.Rows.callWith_type1 (thn (ha.run pos pins s σ H _ I h) fun us s1 ⟨vs, H1, I1, r1, q1⟩ => ?_) hs rfl))
  obtain ⟨a, xs, ex, q⟩ := q1
  subst ex
  cases r1 with
  | cons r rr =>
    cases rr
    cases r
    have two : ∀ {b}, b ∈ [s1.heap.objs.size + 1, s1.heap.objs.size] → s1.heap.objs.size ≤ b := fun {b} hb => by
      rcases (show b = s1.heap.objs.size + 1 ∨ b = s1.heap.objs.size by simpa using hb) with z | z
      · rw [z]; exact Nat.le_succ _
      · rw [z]; exact Nat.le_refl _
    rcases q with ⟨hq, q⟩ | ⟨hq, q⟩
    · obtain ⟨its, rv, pl, hz⟩ := I1.list hq
      refine call_enumerate_list pl.isList fun h2 en hit hsz hk => wpAny_pyIter_enum en ?_
      have I2 : Inv X pins σ H1 { s1 with heap := h2 } := I1.kept (t' := s1.toks) hk
      exact ⟨s1.heap.objs.size + 1, [s1.heap.objs.size + 1, s1.heap.objs.size], _, _, H1, rfl, I2, turn_enum a (s1.heap.objs.size + 1) s1.heap.objs.size, ⟨⟨.none, en⟩, hit, Nat.succ_ne_self _⟩, fun b hb => I1.fpOk (two hb) (I1.hok.fresh (two hb)), q⟩
    · obtain ⟨its, rv, pl, hz⟩ := I1.tuple hq
      refine enumT_call pl fun h2 en hit hk => wpAny_pyIter_enum en ?_
      have I2 : Inv X pins σ H1 { s1 with heap := h2 } := I1.kept (t' := s1.toks) hk
      exact ⟨s1.heap.objs.size + 1, [s1.heap.objs.size + 1, s1.heap.objs.size], _, _, H1, rfl, I2, turn_enT a (s1.heap.objs.size + 1) s1.heap.objs.size, ⟨⟨.none, en⟩, hit, Nat.succ_ne_self _⟩, fun b hb => I1.fpOk (two hb) (I1.hok.fresh (two hb)), q⟩
/-- a for over a list or a tuple -/
def iSeq (K : PySem.W.Frag) (tl : TE) : TI := fun σ H R => tl σ H fun x H1 => ∃ a xs, x = .ref a ∧ ((SqL K H1 a xs ∧ R (Itl K a) H1) ∨ (SqT K H1 a xs ∧ R (Itt K a) H1))
theorem pi_seq {X : Cx} {tg l : Expr} {tl : TE} (hl : PE X l tl) : PI X tg l (iSeq X.K tl) := by
  refine ⟨fun pins s σ H R I h => ?_⟩
  refine thn (hl.run pins s σ H _ I h) fun v s1 ⟨x, H1, I1, r1, a, xs, ex, q⟩ => ?_
  subst ex
  cases r1
  have one : ∀ {b}, b ∈ [s1.heap.objs.size] → FpOk X pins H1 b := fun {b} hb => by
    have z : b = s1.heap.objs.size := by simpa using hb
    rw [z]
    exact I1.fpOk (Nat.le_refl _) I1.fresh
  rcases q with ⟨hq, q⟩ | ⟨hq, q⟩
  · obtain ⟨its, rv, pl, hz⟩ := I1.list hq
    exact wpAny_pyIter_list pl.isList ⟨s1.heap.objs.size, [s1.heap.objs.size], _, _, H1, rfl, I1.kept (t' := s1.toks) fun b o z => Heap.get?_push_of_some _ z, turn_list a _, ⟨_, Heap.get?_push_size _ rfl, rfl, rfl⟩, fun b hb => one hb, q⟩
  · obtain ⟨its, rv, pl, hz⟩ := I1.tuple hq
    exact wpAny_pyIter_tuple (show s1.heap.IsTuple a its.toArray from pl) ⟨s1.heap.objs.size, [s1.heap.objs.size], _, _, H1, rfl, I1.kept (t' := s1.toks) fun b o z => Heap.get?_push_of_some _ z, turn_tuple a _, ⟨_, Heap.get?_push_size _ rfl, rfl, rfl⟩, fun b hb => one hb, q⟩
section
variable {G : Gc} {W : WX} {o o1 : List Nat}
theorem PuI.seq {t : TE} {m : Env → R D} (h : PuE G W o t o1 m) : PuI G W o (iSeq G.K t) o1 (mSq D.seq m) := by
  intro B F0 F H σ ρ K rel q
  refine h rel ((Res.bnd q).imp fun d F1 H1 e1 r1 p v rv => ?_)
  cases rv with
  | @lst a vs ds h1 r2 => exact ⟨a, vs, rfl, .inl ⟨.inl (.inl (r1.core.fh _ _ h1)), p F1 H1 (Gr.refl F1 H1) r1 _ (yl_list (.inl (.inl h1)) r2)⟩⟩
  | @scr a vs ds h1 r2 => exact ⟨a, vs, rfl, .inl ⟨r1.sqL h1, p F1 H1 (Gr.refl F1 H1) r1 _ (yl_list h1 r2)⟩⟩
  | @tup a vs ds h1 r2 => exact ⟨a, vs, rfl, .inr ⟨.inl (.inl (r1.core.fh _ _ h1)), p F1 H1 (Gr.refl F1 H1) r1 _ (yl_tup (.inl (.inl h1)) r2)⟩⟩
  | @ktup a vs ds h1 r2 => exact ⟨a, vs, rfl, .inr ⟨r1.sqT h1, p F1 H1 (Gr.refl F1 H1) r1 _ (yl_tup h1 r2)⟩⟩
  | _ => exact p.elim
theorem walk_enT {K : PySem.W.Frag} {a : Addr} {xs : List V} : Walk (IteT K a) xs.length (fun H => SqT K H a xs) (YPair (fun i => some (.int (i : Nat))) (fun i => xs[i]?)) := by
  refine ⟨fun i _ hi q => ⟨xs, xs[i], q, by simp [hi]⟩, fun _ q => ⟨xs, q, Nat.le_refl _⟩, fun i H v H' _ q y => ?_⟩
  obtain ⟨T, x, h1, h2, h3, h4⟩ := y
  exact ⟨T, .int (i : Nat), x, h1, h2, h3, rfl, h4 xs q⟩
theorem PuI.enum {t : TE} {m : Env → R D} (h : PuE G W o t o1 m) : PuI G W o (iEnumA G.K (tCons t tNil)) o1 (mSq (dEnum D.seq) m) := by
  intro B F0 F H σ ρ K rel q
  refine h rel ((Res.bnd q).imp fun d F1 H1 e1 r1 p v rv => ?_)
  have goL : ∀ {a : Addr} {vs : List V} {ds : List D}, SqL G.K F1 a vs → RpL G F1 ds vs → Yields G F1 (Ite G.K a) (enumD ds) := fun {a vs ds} h1 r =>
    yl_pair (fs := fun i => some (.int (i : Nat))) (gs := fun i => ds[i]?) (walk_enum (xs := vs)) (by rw [enumD_len, r.length]) (fun F2 H2 le fh => sqL_up le fh h1) (fun i d hd => enumD_get hd) (fun i a e => by cases e; exact ⟨_, rfl, .int _⟩) fun i b e => r.get e
  have goT : ∀ {a : Addr} {vs : List V} {ds : List D}, SqT G.K F1 a vs → RpL G F1 ds vs → Yields G F1 (IteT G.K a) (enumD ds) := fun {a vs ds} h1 r =>
    yl_pair (fs := fun i => some (.int (i : Nat))) (gs := fun i => ds[i]?) (walk_enT (xs := vs)) (by rw [enumD_len, r.length]) (fun F2 H2 le fh => sqT_up le fh h1) (fun i d hd => enumD_get hd) (fun i a e => by cases e; exact ⟨_, rfl, .int _⟩) fun i b e => r.get e
  cases rv with
  | @lst a vs ds h1 r2 => exact ⟨a, vs, rfl, .inl ⟨.inl (.inl (r1.core.fh _ _ h1)), p F1 H1 (Gr.refl F1 H1) r1 _ (goL (.inl (.inl h1)) r2)⟩⟩
  | @scr a vs ds h1 r2 => exact ⟨a, vs, rfl, .inl ⟨r1.sqL h1, p F1 H1 (Gr.refl F1 H1) r1 _ (goL h1 r2)⟩⟩
  | @tup a vs ds h1 r2 => exact ⟨a, vs, rfl, .inr ⟨.inl (.inl (r1.core.fh _ _ h1)), p F1 H1 (Gr.refl F1 H1) r1 _ (goT (.inl (.inl h1)) r2)⟩⟩
  | @ktup a vs ds h1 r2 => exact ⟨a, vs, rfl, .inr ⟨r1.sqT h1, p F1 H1 (Gr.refl F1 H1) r1 _ (goT h1 r2)⟩⟩
  | _ => exact p.elim
end
end G
/-! S11: the derivations (what the printer prints). -/
namespace G
open PySem L2
class HG (Γ : Gc) (X : Cx) : Prop where
  e : Γ = ⟨X.K, X.mg⟩
instance {Γ : Gc} {X : Cx} [h : HG Γ X] {s : Shared} {H : Hp} {scope : Scope} {cenv : PySem.Env} {fp : List Addr} : HG Γ (X.blk s H scope cenv fp) := ⟨h.e⟩
structure ME (Γ : Gc) (X : Cx) (W : WX) (o : List Nat) (e : Expr) (o' : List Nat) (t : TE) (m : Env → R D) : Prop where
  pe : PE X e t
  pu : PuE Γ W o t o' m
structure MO (Γ : Gc) (X : Cx) (W : WX) (o : List Nat) (e : Expr) (o' : List Nat) (t : TE) (m : Env → R D) : Prop where
  pe : PE X e t
  pu : PuO Γ W o t o' m
structure MT (Γ : Gc) (X : Cx) (W : WX) (o : List Nat) (e : Expr) (o' : List Nat) (t : TT) (m : Env → R Bool) : Prop where
  pe : PT X e t
  pu : PuT Γ W o t o' m
structure MW (Γ : Gc) (X : Cx) (W : WX) (o : List Nat) (e : Expr) (o' : List Nat) (t : TT) (m : Env → R Bool) : Prop where
  pe : PW X e t
  pu : PuT Γ W o t o' m
structure MA (Γ : Gc) (X : Cx) (W : WX) (o : List Nat) (es : List Expr) (o' : List Nat) (t : TA) (m : Env → R (List D)) : Prop where
  pe : PA X es t
  pu : PuA Γ W o t o' m
structure MI (Γ : Gc) (X : Cx) (W : WX) (o : List Nat) (tg e : Expr) (o' : List Nat) (t : TI) (m : Env → R (List D)) : Prop where
  pe : PI X tg e t
  pu : PuI Γ W o t o' m
structure MG (Γ : Gc) (X : Cx) (o : List Nat) (tg : Expr) (o' : List Nat) (g : TG) (m : D → Env → R Env) : Prop where
  pe : PG X tg g
  pu : PuG Γ o g o' m
structure MGs (Γ : Gc) (X : Cx) (o : List Nat) (tg : List Expr) (o' : List Nat) (g : TGs) (m : List D → Env → R Env) : Prop where
  pe : PGs X tg g
  pu : PuGs Γ o g o' m
structure MS (Γ : Gc) (X : Cx) (W : WX) (oL o : List Nat) (st : Stmt) (o' : List Nat) (t : TS) (m : Env → Out) : Prop where
  pe : PS X st t
  pu : PuS Γ W oL o t o' m
structure MSs (Γ : Gc) (X : Cx) (W : WX) (oL o : List Nat) (st : List Stmt) (o' : List Nat) (t : TS) (m : Env → Out) : Prop where
  pe : PSs X st t
  pu : PuS Γ W oL o t o' m
structure MP (Γ : Gc) (X : Cx) (W : WX) (o : List Nat) (e : Option Expr) (o' : List Nat) (t : TO) (m : Env → R (Option Int)) : Prop where
  pe : PO X e t
  pu : PuP Γ W o t o' m
section
variable {Γ : Gc} {X : Cx} [hG : HG Γ X] {W : WX} {o o1 o2 o3 oL oI : List Nat} {a b c e : Expr} {es : List Expr} {pos p : Pos} {ta tb tc : TE} {ma mb mc : Env → R D} {tt tu : TT} {mt mu : Env → R Bool} {ts : TA} {ms : Env → R (List D)} {x : Str}
/-! ### names, constants -/
theorem me_var (i : Nat) (hi : i ∉ o := by decide) (hN : X.N[i]? = some x := by rfl) (hv : Vis X.env.scope x := by first | exact Or.inl rfl | exact Or.inr (Or.inl rfl) | exact Or.inr (Or.inr rfl)) (hd : (x == ("__debug__" : Str)) = false := by decide) (hcd : (x == ("__classdict__" : Str)) = false := by decide) :
    ME Γ X W o (.Name x pos) o (tVar i) (mVar i) := by
  obtain ⟨eG⟩ := hG
  subst eG
  exact ⟨pe_var hN hv hd hcd, PuE.var hi⟩
theorem me_give (i : Nat) (hi : i ∈ o := by decide) (hN : X.N[i]? = some x := by rfl) (hv : Vis X.env.scope x := by first | exact Or.inl rfl | exact Or.inr (Or.inl rfl) | exact Or.inr (Or.inr rfl)) (hd : (x == ("__debug__" : Str)) = false := by decide) (hcd : (x == ("__classdict__" : Str)) = false := by decide) :
    ME Γ X W o (.Name x pos) (o.filter (· != i)) (tVar i) (mVar i) := by
  obtain ⟨eG⟩ := hG
  subst eG
  exact ⟨pe_var hN hv hd hcd, PuE.give hi⟩
theorem me_int {i : Int} {j} : ME Γ X W o (.Constant (.int i) j pos) o (tC (.int i)) (mC (.int i)) := by
  obtain ⟨eG⟩ := hG
  subst eG
  exact ⟨pe_int, PuE.c fun _ => .int i⟩
theorem me_bl {b : Bool} {j} : ME Γ X W o (.Constant (.bool b) j pos) o (tC (.bl b)) (mC (.bl b)) := by
  obtain ⟨eG⟩ := hG
  subst eG
  exact ⟨pe_bl, PuE.c fun _ => .bl b⟩
theorem me_non {j} : ME Γ X W o (.Constant .none j pos) o (tC .non) (mC .non) := by
  obtain ⟨eG⟩ := hG
  subst eG
  exact ⟨pe_non, PuE.c fun _ => .non⟩
theorem me_str {s : Str} {j} : ME Γ X W o (.Constant (.str s) j pos) o (tC (.str s)) (mC (.str s)) := by
  obtain ⟨eG⟩ := hG
  subst eG
  exact ⟨pe_str, PuE.c fun _ => .str s⟩
/-- a module's constant -/
theorem me_glob {v : V} {u : Value} {d : D} (hm : X.mg x = some u) (r : RelV v u) (hd : ∀ F, Rp Γ F d v) (hg : Gl X x := by rfl) (hdb : (x == ("__debug__" : Str)) = false := by decide) : ME Γ X W o (.Name x pos) o (tC v) (mC d) := by
  obtain ⟨eG⟩ := hG
  subst eG
  exact ⟨pe_glob hg hm r hdb, PuE.c hd⟩
theorem me_gint {i : Int} {t : Tok} (hm : X.mg x = some (.int i t)) (hg : Gl X x := by rfl) (hdb : (x == ("__debug__" : Str)) = false := by decide) : ME Γ X W o (.Name x pos) o (tC (.int i)) (mC (.int i)) := me_glob hm ⟨t, rfl⟩ (fun _ => .int i) hg hdb
/-- a built-in type as a value -/
theorem me_ty {n : String} (hm : X.mg x = none) (hv : bootBuiltins x = some (.type n)) (hg : Gl X x := by rfl) (hn : x ≠ "__name__" := by decide) (hdb : (x == ("__debug__" : Str)) = false := by decide) : ME Γ X W o (.Name x pos) o (tC (.ty n)) (mC (.ty n)) := by
  obtain ⟨eG⟩ := hG
  subst eG
  exact ⟨pe_bltn hg hm hv rfl hn hdb, PuE.c fun _ => .ty n⟩
/-! ### operators -/
theorem me_add (ha : ME Γ X W o a o1 ta ma) (hb : ME Γ X W o1 b o2 tb mb) : ME Γ X W o (.BinOp a .Add b pos) o2 (tOp (rAddAll Γ.K) ta tb) (m2 D.add ma mb) := by
  obtain ⟨eG⟩ := hG
  subst eG
  exact ⟨pe_op op_addAll ha.pe hb.pe, PuE.op2 pu_add ha.pu hb.pu⟩
theorem me_sub (ha : ME Γ X W o a o1 ta ma) (hb : ME Γ X W o1 b o2 tb mb) : ME Γ X W o (.BinOp a .Sub b pos) o2 (tOp (rI0 fun i j => .int (i - j)) ta tb) (m2 D.sub ma mb) := by
  obtain ⟨eG⟩ := hG
  subst eG
  exact ⟨pe_op op_sub ha.pe hb.pe, PuE.op2 pu_sub ha.pu hb.pu⟩
theorem me_mul (ha : ME Γ X W o a o1 ta ma) (hb : ME Γ X W o1 b o2 tb mb) : ME Γ X W o (.BinOp a .Mult b pos) o2 (tOp (rMulAll Γ.K) ta tb) (m2 D.mul ma mb) := by
  obtain ⟨eG⟩ := hG
  subst eG
  exact ⟨pe_op op_mulAll ha.pe hb.pe, PuE.op2 pu_mul ha.pu hb.pu⟩
theorem me_fdiv (ha : ME Γ X W o a o1 ta ma) (hb : ME Γ X W o1 b o2 tb mb) : ME Γ X W o (.BinOp a .FloorDiv b pos) o2 (tOp (rI CDivN fun i j => .int (i.fdiv j)) ta tb) (m2 D.fdiv ma mb) := by
  obtain ⟨eG⟩ := hG
  subst eG
  exact ⟨pe_op op_fdivN ha.pe hb.pe, PuE.op2 pu_fdiv ha.pu hb.pu⟩
theorem me_mod (ha : ME Γ X W o a o1 ta ma) (hb : ME Γ X W o1 b o2 tb mb) : ME Γ X W o (.BinOp a .Mod b pos) o2 (tOp (rI (fun _ j => j ≠ 0) fun i j => .int (i.fmod j)) ta tb) (m2 D.mod ma mb) := by
  obtain ⟨eG⟩ := hG
  subst eG
  exact ⟨pe_op op_modN ha.pe hb.pe, PuE.op2 pu_mod ha.pu hb.pu⟩
theorem me_pow (ha : ME Γ X W o a o1 ta ma) (hb : ME Γ X W o1 b o2 tb mb) : ME Γ X W o (.BinOp a .Pow b pos) o2 (tOp (rI CPow fun i j => .int (i ^ j.toNat)) ta tb) (m2 D.pow ma mb) := by
  obtain ⟨eG⟩ := hG
  subst eG
  exact ⟨pe_op op_pow ha.pe hb.pe, PuE.op2 pu_pow ha.pu hb.pu⟩
theorem me_neg (ha : ME Γ X W o a o1 ta ma) : ME Γ X W o (.UnaryOp .USub a pos) o1 (tUn (rU fun i => .int (-i)) ta) (m1 D.neg ma) := by
  obtain ⟨eG⟩ := hG
  subst eG
  exact ⟨pe_un un_neg ha.pe, PuE.op1 pu_neg ha.pu⟩
/-- a comparison: its rule, its plain function, a side's mark -/
structure CmpR (Γ : Gc) (X : Cx) (W : WX) (op : CmpOp) (r : R2) (f : D → D → R D) : Prop where
  op : OpR X (compareOp op) r
  pu : PuR2 Γ W r f
theorem c_lt : CmpR Γ X W .Lt (rI0 fun i j => .bl (decide (i < j))) D.lt := by
  obtain ⟨eG⟩ := hG
  subst eG
  exact ⟨op_lt, pu_lt⟩
theorem c_le : CmpR Γ X W .LtE (rI0 fun i j => .bl (decide (i ≤ j))) D.le := by
  obtain ⟨eG⟩ := hG
  subst eG
  exact ⟨op_le, pu_le⟩
theorem c_gt : CmpR Γ X W .Gt (rI0 fun i j => .bl (decide (j < i))) D.gt := by
  obtain ⟨eG⟩ := hG
  subst eG
  exact ⟨op_gt, pu_gt⟩
theorem c_ge : CmpR Γ X W .GtE (rI0 fun i j => .bl (decide (j ≤ i))) D.ge := by
  obtain ⟨eG⟩ := hG
  subst eG
  exact ⟨op_ge, pu_ge⟩
theorem c_eq (hu : X.A.units + 65 < cLine) : CmpR Γ X W .Eq (rEqD Γ.K) D.eq := by
  obtain ⟨eG⟩ := hG
  subst eG
  exact ⟨op_eqD (by omega), pu_eq⟩
theorem c_ne (hu : X.A.units + 65 < cLine) : CmpR Γ X W .NotEq (rNeD Γ.K) D.ne := by
  obtain ⟨eG⟩ := hG
  subst eG
  exact ⟨op_neD (by omega), pu_ne⟩
theorem c_in (hu : X.A.units + 65 < cLine) : CmpR Γ X W .In (rInAll Γ.K) D.isIn := by
  obtain ⟨eG⟩ := hG
  subst eG
  exact ⟨op_inAll hu, pu_in⟩
theorem c_notIn (hu : X.A.units + 65 < cLine) : CmpR Γ X W .NotIn (rNotInAll Γ.K) D.notIn := by
  obtain ⟨eG⟩ := hG
  subst eG
  exact ⟨op_notInAll hu, pu_notIn⟩
theorem c_is : CmpR Γ X W .Is rIsAll D.is := by
  obtain ⟨eG⟩ := hG
  subst eG
  exact ⟨op_isAll, pu_is⟩
theorem c_isnt : CmpR Γ X W .IsNot rIsntAll D.isnt := by
  obtain ⟨eG⟩ := hG
  subst eG
  exact ⟨op_isntAll, pu_isnt⟩
variable {op op' : CmpOp} {r r' : R2} {f g : D → D → R D}
theorem me_cmp (hc : CmpR Γ X W op r f) (ha : ME Γ X W o a o1 ta ma) (hb : ME Γ X W o1 b o2 tb mb) (hm : behindInMarks op b = false := by first | exact nomark _ | rfl) : ME Γ X W o (.Compare a [op] [b] pos) o2 (tOp r ta tb) (m2 f ma mb) := by
  obtain ⟨eG⟩ := hG
  subst eG
  exact ⟨pe_cmpR hc.op ha.pe hb.pe hm, PuE.op2 hc.pu ha.pu hb.pu⟩
theorem me_chain (hc : CmpR Γ X W op r f) (hc' : CmpR Γ X W op' r' g) (ha : ME Γ X W o a o1 ta ma) (hb : ME Γ X W o1 b o2 tb mb) (hcc : ME Γ X W o2 c o2 tc mc) (hm : lastMarks [op, op'] [b, c] = false := by with_unfolding_all rfl) :
    ME Γ X W o (.Compare a [op, op'] [b, c] pos) o2 (tChain r r' ta tb tc) (mChain f g ma mb mc) := by
  obtain ⟨eG⟩ := hG
  subst eG
  exact ⟨pe_chain hc.op hc'.op ha.pe hb.pe hcc.pe hm, PuE.chain hc.pu hc'.pu ha.pu hb.pu hcc.pu⟩
theorem mt_cmp (hc : CmpR Γ X W op r f) (ha : ME Γ X W o a o1 ta ma) (hb : ME Γ X W o1 b o2 tb mb) (hm : behindInMarks op b = false := by first | exact nomark _ | rfl) : MT Γ X W o (.Compare a [op] [b] pos) o2 (tTest (tOp r ta tb)) (mB (m2 f ma mb)) := by
  obtain ⟨eG⟩ := hG
  subst eG
  exact ⟨pt_cmpR hc.op ha.pe hb.pe hm, PuT.val (PuE.op2 hc.pu ha.pu hb.pu)⟩
theorem mt_chain (hc : CmpR Γ X W op r f) (hc' : CmpR Γ X W op' r' g) (ha : ME Γ X W o a o1 ta ma) (hb : ME Γ X W o1 b o2 tb mb) (hcc : ME Γ X W o2 c o2 tc mc) (hm : lastMarks [op, op'] [b, c] = false := by with_unfolding_all rfl) :
    MT Γ X W o (.Compare a [op, op'] [b, c] pos) o2 (tTest (tChain r r' ta tb tc)) (mB (mChain f g ma mb mc)) := by
  obtain ⟨eG⟩ := hG
  subst eG
  exact ⟨pt_chain hc.op hc'.op ha.pe hb.pe hcc.pe hm, PuT.val (PuE.chain hc.pu hc'.pu ha.pu hb.pu hcc.pu)⟩
/-! ### and, or, not, if .. else -/
theorem mw_and1 (h : MT Γ X W o a o1 tt mt) : MW Γ X W o (.BoolOp .And [a] pos) o1 tt mt := by
  obtain ⟨eG⟩ := hG
  subst eG
  exact ⟨pw_and1 h.pe, h.pu⟩
theorem mw_or1 (h : MT Γ X W o a o1 tt mt) : MW Γ X W o (.BoolOp .Or [a] pos) o1 tt mt := by
  obtain ⟨eG⟩ := hG
  subst eG
  exact ⟨pw_or1 h.pe, h.pu⟩
theorem mw_and {rest : List Expr} (h : MT Γ X W o a o1 tt mt) (h2 : MW Γ X W o1 (.BoolOp .And (b :: rest) pos) o1 tu mu) : MW Γ X W o (.BoolOp .And (a :: b :: rest) pos) o1 (tAnd tt tu) (mAnd mt mu) := by
  obtain ⟨eG⟩ := hG
  subst eG
  exact ⟨pw_and h.pe h2.pe, PuT.and h.pu h2.pu⟩
theorem mw_or {rest : List Expr} (h : MT Γ X W o a o1 tt mt) (h2 : MW Γ X W o1 (.BoolOp .Or (b :: rest) pos) o1 tu mu) : MW Γ X W o (.BoolOp .Or (a :: b :: rest) pos) o1 (tOr tt tu) (mOr mt mu) := by
  obtain ⟨eG⟩ := hG
  subst eG
  exact ⟨pw_or h.pe h2.pe, PuT.or h.pu h2.pu⟩
theorem mt_w (h : MW Γ X W o a o1 tt mt) : MT Γ X W o a o1 tt mt := by
  obtain ⟨eG⟩ := hG
  subst eG
  exact ⟨h.pe.pt, h.pu⟩
theorem mt_not (h : MT Γ X W o a o1 tt mt) : MT Γ X W o (.UnaryOp .Not a pos) o1 (tNot tt) (mNot mt) := by
  obtain ⟨eG⟩ := hG
  subst eG
  exact ⟨pt_not h.pe, PuT.not h.pu⟩
/-- a call, a name .. as a test: True or False -/
theorem mt_val (h : ME Γ X W o a o1 ta ma) (he : ∀ whole, isTrue a X.env whole = (do let v ← whole; standAt a.pos; holding [v] (truthy v)) := by intro _; rfl) : MT Γ X W o a o1 (tB ta) (mB ma) := by
  obtain ⟨eG⟩ := hG
  subst eG
  exact ⟨pt_val h.pe he, PuT.val h.pu⟩
/-- .. any value, by its truth -/
theorem mt_truth (h : ME Γ X W o a o1 ta ma) (he : ∀ whole, isTrue a X.env whole = (do let v ← whole; standAt a.pos; holding [v] (truthy v)) := by intro _; rfl) : MT Γ X W o a o1 (fun σ H Q => ta σ H fun x H' => ∃ k, TruV Γ.K x H' k ∧ Q k H') (mTru ma) := by
  obtain ⟨eG⟩ := hG
  subst eG
  exact ⟨pt_truth h.pe he, PuT.truth h.pu⟩
theorem me_one {bo : BoolOp} (h : ME Γ X W o a o1 ta ma) : ME Γ X W o (.BoolOp bo [a] pos) o1 ta ma := by
  obtain ⟨eG⟩ := hG
  subst eG
  exact ⟨pe_one h.pe, h.pu⟩
theorem me_and {rest : List Expr} (h : ME Γ X W o a o1 ta ma) (h2 : ME Γ X W o1 (.BoolOp .And (b :: rest) pos) o1 tb mb) : ME Γ X W o (.BoolOp .And (a :: b :: rest) pos) o1 (tAndV ta tb) (mAndV ma mb) := by
  obtain ⟨eG⟩ := hG
  subst eG
  exact ⟨pe_and h.pe h2.pe, PuE.andV h.pu h2.pu⟩
theorem me_or {rest : List Expr} (h : ME Γ X W o a o1 ta ma) (h2 : ME Γ X W o1 (.BoolOp .Or (b :: rest) pos) o1 tb mb) : ME Γ X W o (.BoolOp .Or (a :: b :: rest) pos) o1 (tOrV ta tb) (mOrV ma mb) := by
  obtain ⟨eG⟩ := hG
  subst eG
  exact ⟨pe_or h.pe h2.pe, PuE.orV h.pu h2.pu⟩
theorem me_not (h : ME Γ X W o a o1 ta ma) : ME Γ X W o (.UnaryOp .Not a pos) o1 (tNotV ta) (mNotV ma) := by
  obtain ⟨eG⟩ := hG
  subst eG
  exact ⟨pe_not h.pe, PuE.notV h.pu⟩
theorem me_if (h : MT Γ X W o c o1 tt mt) (ha : ME Γ X W o1 a o2 ta ma) (hb : ME Γ X W o1 b o2 tb mb) : ME Γ X W o (.IfExp c a b pos) o2 (tIf tt ta tb) (mIte mt ma mb) := by
  obtain ⟨eG⟩ := hG
  subst eG
  exact ⟨pe_ifExp h.pe ha.pe hb.pe, PuE.ite h.pu ha.pu hb.pu⟩
/-! ### subscripts, displays -/
theorem me_ix (ha : ME Γ X W o a o1 ta ma) (hb : ME Γ X W o1 b o2 tb mb) (hs : PlainIx b := by exact fun _ _ => rfl) : ME Γ X W o (.Subscript a b pos) o2 (tOp (rIxLT Γ.K) ta tb) (m2 D.ix ma mb) := by
  obtain ⟨eG⟩ := hG
  subst eG
  exact ⟨pe_ix ix_LT ha.pe hb.pe hs, PuE.op2 pu_ix ha.pu hb.pu⟩
theorem me_dget (hu : X.A.units + 65 < cLine) (ha : ME Γ X W o a o1 ta ma) (hb : ME Γ X W o1 b o2 tb mb) (hs : NoSl b := by exact fun _ _ => rfl) : ME Γ X W o (.Subscript a b pos) o2 (tDGet ta tb) (m2 D.dgetE ma mb) := by
  obtain ⟨eG⟩ := hG
  subst eG
  exact ⟨pe_dget (by omega) ha.pe hb.pe hs, PuE.dget ha.pu hb.pu⟩
theorem mp_no : MP Γ X W o none o tNoPart mNoP := by
  obtain ⟨eG⟩ := hG
  subst eG
  exact ⟨po_none, PuP.no⟩
theorem mp_some (h : ME Γ X W o a o1 ta ma) : MP Γ X W o (some a) o1 (tPart ta) (mPart ma) := by
  obtain ⟨eG⟩ := hG
  subst eG
  exact ⟨po_some h.pe, PuP.part h.pu⟩
theorem me_slice {lo hi : Option Expr} {p2 : Pos} {tl th : TO} {ml mh : Env → R (Option Int)} (ha : ME Γ X W o a o1 ta ma) (hl : MP Γ X W o1 lo o2 tl ml) (hh : MP Γ X W o2 hi o3 th mh) : ME Γ X W o (.Subscript a (.Slice lo hi none p2) pos) o3 (tSl (rSlAll Γ.K) ta tl th) (mSl ma ml mh) := by
  obtain ⟨eG⟩ := hG
  subst eG
  exact ⟨pe_slice sl_all ha.pe hl.pe hh.pe, PuE.slice ha.pu hl.pu hh.pu⟩
theorem ma_nil : MA Γ X W o [] o tNil mNil := by
  obtain ⟨eG⟩ := hG
  subst eG
  exact ⟨pa_nil, PuA.nil⟩
theorem ma_cons (ha : ME Γ X W o a o1 ta ma) (hs : MA Γ X W o1 es o2 ts ms) (hst : starEach (a :: es) X.env = (false, eval a X.env) :: starEach es X.env := by rfl) : MA Γ X W o (a :: es) o2 (tCons ta ts) (mCons ma ms) := by
  obtain ⟨eG⟩ := hG
  subst eG
  exact ⟨pa_cons ha.pe hs.pe hst, PuA.cons ha.pu hs.pu⟩
theorem me_tup {k : Nat} (h : MA Γ X W o es o1 ts ms) : ME Γ X W o (.Tuple es k pos) o1 (tTup ts) (mTup ms) := by
  obtain ⟨eG⟩ := hG
  subst eG
  exact ⟨pe_tup h.pe, PuE.tupE h.pu⟩
theorem mo_lst (h : MA Γ X W o es o1 ts ms) : MO Γ X W o (.List es pos) o1 (tLst ts) (mLst ms) := by
  obtain ⟨eG⟩ := hG
  subst eG
  exact ⟨pe_lst h.pe, PuO.lstE h.pu⟩
theorem mo_dicK : MO Γ X W o (.Dict [] [] pos) o tDNewK (mDic false) := by
  obtain ⟨eG⟩ := hG
  subst eG
  exact ⟨pe_dnewK, PuO.dnewK⟩
theorem mo_dicT : MO Γ X W o (.Dict [] [] pos) o tDNewT (mDic true) := by
  obtain ⟨eG⟩ := hG
  subst eG
  exact ⟨pe_dnewT, PuO.dnewT⟩
theorem me_o (h : MO Γ X W o a o1 ta ma) : ME Γ X W o a o1 ta ma := by
  obtain ⟨eG⟩ := hG
  subst eG
  exact ⟨h.pe, PuO.e h.pu⟩
/-! ### own slots read on the way -/
theorem me_bor (i : Nat) (h : ME Γ X W (o.filter (· != i)) a (o.filter (· != i)) ta ma) (hi : i ∈ o := by decide) : ME Γ X W o a o ta (mScal ma) := by
  obtain ⟨eG⟩ := hG
  subst eG
  exact ⟨h.pe, PuE.borrow i hi h.pu⟩
theorem mt_bor (i : Nat) (h : MT Γ X W (o.filter (· != i)) a (o.filter (· != i)) tt mt) (hi : i ∈ o := by decide) : MT Γ X W o a o tt mt := by
  obtain ⟨eG⟩ := hG
  subst eG
  exact ⟨h.pe, PuT.borrow i hi h.pu⟩
theorem mo_bor (i : Nat) (h : MO Γ X W (o.filter (· != i)) a (o.filter (· != i)) ta ma) (hi : i ∈ o := by decide) : MO Γ X W o a o ta (mScalL ma) := by
  obtain ⟨eG⟩ := hG
  subst eG
  exact ⟨h.pe, PuO.borrow i hi h.pu⟩
theorem me_weak (l : List Nat) (h : ME Γ X W (o.filter fun j => !l.contains j) a o1 ta ma) : ME Γ X W o a o1 ta ma := by
  obtain ⟨eG⟩ := hG
  subst eG
  exact ⟨h.pe, PuE.weak0 l h.pu⟩
theorem mt_weak (l : List Nat) (h : MT Γ X W (o.filter fun j => !l.contains j) a o1 tt mt) : MT Γ X W o a o1 tt mt := by
  obtain ⟨eG⟩ := hG
  subst eG
  exact ⟨h.pe, PuT.weak0 l h.pu⟩
theorem mo_weak (l : List Nat) (h : MO Γ X W (o.filter fun j => !l.contains j) a o1 ta ma) : MO Γ X W o a o1 ta ma := by
  obtain ⟨eG⟩ := hG
  subst eG
  exact ⟨h.pe, PuO.weak0 l h.pu⟩
/-! ### calls of built-ins -/
variable {id T : String} {rc : List V → Hp → VK → Prop} {fc : List D → R D}
theorem me_cb (hp : PuC Γ W rc fc) (hc : CallR X (.builtin id) rc) (hm : X.mg x = none) (hv : bootBuiltins x = some (.builtin id)) (ha : MA Γ X W o (e :: es) o1 ts ms) (hg : Gl X x := by rfl) (hn : x ≠ "__name__" := by decide) (hdb : (x == ("__debug__" : Str)) = false := by decide)
    (he : starEach (e :: es) X.env = (false, eval e X.env) :: starEach es X.env := by rfl) (hpl : (backTo pos (starEach es X.env)).any (·.1) = false := by rfl) : ME Γ X W o (.Call (.Name x p) (e :: es) [] pos) o1 (tCB rc ts) (mCall fc ms) := by
  obtain ⟨eG⟩ := hG
  subst eG
  exact ⟨pe_callB hc hg hm hv ha.pe hn hdb he hpl, PuE.cb hp ha.pu⟩
theorem me_ct (hp : PuC Γ W rc fc) (hc : CallR X (.type T) rc) (hm : X.mg x = none) (hv : bootBuiltins x = some (.type T)) (ha : MA Γ X W o (e :: es) o1 ts ms) (hg : Gl X x := by rfl) (hn : x ≠ "__name__" := by decide) (hdb : (x == ("__debug__" : Str)) = false := by decide)
    (he : starEach (e :: es) X.env = (false, eval e X.env) :: starEach es X.env := by rfl) (hpl : (backTo pos (starEach es X.env)).any (·.1) = false := by rfl) : ME Γ X W o (.Call (.Name x p) (e :: es) [] pos) o1 (tCB rc ts) (mCall fc ms) := by
  obtain ⟨eG⟩ := hG
  subst eG
  exact ⟨pe_callTy hc hg hm hv ha.pe hn hdb he hpl, PuE.cb hp ha.pu⟩
theorem mo_ct (hp : PuCO Γ W rc fc) (hc : CallR X (.type T) rc) (hm : X.mg x = none) (hv : bootBuiltins x = some (.type T)) (ha : MA Γ X W o (e :: es) o1 ts ms) (hg : Gl X x := by rfl) (hn : x ≠ "__name__" := by decide) (hdb : (x == ("__debug__" : Str)) = false := by decide)
    (he : starEach (e :: es) X.env = (false, eval e X.env) :: starEach es X.env := by rfl) (hpl : (backTo pos (starEach es X.env)).any (·.1) = false := by rfl) : MO Γ X W o (.Call (.Name x p) (e :: es) [] pos) o1 (tCB rc ts) (mCall fc ms) := by
  obtain ⟨eG⟩ := hG
  subst eG
  exact ⟨pe_callTy hc hg hm hv ha.pe hn hdb he hpl, PuO.cb hp ha.pu⟩
theorem mo_cb (hp : PuCO Γ W rc fc) (hc : CallR X (.builtin id) rc) (hm : X.mg x = none) (hv : bootBuiltins x = some (.builtin id)) (ha : MA Γ X W o (e :: es) o1 ts ms) (hg : Gl X x := by rfl) (hn : x ≠ "__name__" := by decide) (hdb : (x == ("__debug__" : Str)) = false := by decide)
    (he : starEach (e :: es) X.env = (false, eval e X.env) :: starEach es X.env := by rfl) (hpl : (backTo pos (starEach es X.env)).any (·.1) = false := by rfl) : MO Γ X W o (.Call (.Name x p) (e :: es) [] pos) o1 (tCB rc ts) (mCall fc ms) := by
  obtain ⟨eG⟩ := hG
  subst eG
  exact ⟨pe_callB hc hg hm hv ha.pe hn hdb he hpl, PuO.cb hp ha.pu⟩
theorem b_len : bootBuiltins "len" = some (.builtin "len") := boot_len
theorem b_int : bootBuiltins "int" = some (.type "int") := by decide +kernel
theorem b_abs : bootBuiltins "abs" = some (.builtin "abs") := by decide +kernel
theorem b_max : bootBuiltins "max" = some (.builtin "max") := by decide +kernel
theorem b_min : bootBuiltins "min" = some (.builtin "min") := by decide +kernel
theorem b_sum : bootBuiltins "sum" = some (.builtin "sum") := by decide +kernel
theorem b_all : bootBuiltins "all" = some (.builtin "all") := by decide +kernel
theorem b_any : bootBuiltins "any" = some (.builtin "any") := by decide +kernel
theorem b_tuple : bootBuiltins "tuple" = some (.type "tuple") := by decide +kernel
theorem b_list : bootBuiltins "list" = some (.type "list") := by decide +kernel
theorem b_isi : bootBuiltins "isinstance" = some (.builtin "isinstance") := by decide +kernel
theorem b_sorted : bootBuiltins "sorted" = some (.builtin "sorted") := by decide +kernel
theorem b_bool : bootBuiltins "bool" = some (.type "bool") := by decide +kernel
theorem b_str : bootBuiltins "str" = some (.type "str") := by decide +kernel
theorem b_dict : bootBuiltins "dict" = some (.type "dict") := by decide +kernel
/-! ### calls of defs -/
variable {k n : Nat} {f : Addr} {fd : FuncData} {ps : List Str} {fn : List D → R D}
theorem me_call (tk : L2N.Takes X W) (F : Fd X.prog X.w X.K X.mg X.base k x ps f fd fn) (hr : Room k X.A) (ha : MA Γ X W o (e :: es) o1 ts ms) (hg : Gl X x := by rfl) (hdb : (x == ("__debug__" : Str)) = false := by decide)
    (he : starEach (e :: es) X.env = (false, eval e X.env) :: starEach es X.env := by rfl) (hpl : (backTo pos (starEach es X.env)).any (·.1) = false := by rfl) (hn : ps.length = n := by rfl) :
    ME Γ X W o (.Call (.Name x p) (e :: es) [] pos) o1 (tCallS (spM Γ n fn) (WE W) ts) (mCallN n fn ms) := by
  obtain ⟨eG⟩ := hG
  subst eG
  subst hn
  exact ⟨pe_callS F.ok hr hg F.g F.kp F.b (fun σ => L2N.passAt tk σ) ha.pe hdb he hpl, PuE.call ha.pu⟩
def mCall0 (n : Nat) (fn : List D → R D) (ms : Env → R (List D)) : Env → R D := fun ρ => (ms ρ).bind fun ds => if ds.length = n then (fn ds).val else .bad
/-- .. within a comprehension -/
theorem me_callC (F : Fd X.prog X.w X.K X.mg X.base k x ps f fd fn) (hr : Room k X.A) (ha : MA Γ X W o (e :: es) o1 ts ms) (hg : Gl X x := by rfl) (hdb : (x == ("__debug__" : Str)) = false := by decide)
    (he : starEach (e :: es) X.env = (false, eval e X.env) :: starEach es X.env := by rfl) (hpl : (backTo pos (starEach es X.env)).any (·.1) = false := by rfl) (hn : ps.length = n := by rfl) :
    ME Γ X W o (.Call (.Name x p) (e :: es) [] pos) o1 (tCall (fun vs H Q _ => spM Γ n fn vs H Q fun _ _ _ => False) [] E0 ts) (mCall0 n fn ms) := by
  obtain ⟨eG⟩ := hG
  subst eG
  subst hn
  exact ⟨pe_call (FnOk.quiet F.ok) hr hg F.g F.kp F.b .nil pass0 ha.pe hdb he hpl, PuE.call0 ha.pu⟩
/-! ### targets -/
theorem filt_no {o : List Nat} {i : Nat} (hi : i ∉ o) : o.filter (· != i) = o := by
  rw [List.filter_eq_self]; intro j hj; have : j ≠ i := fun q => hi (q ▸ hj); simpa using this
theorem puG_name {G : Gc} {o : List Nat} {i : Nat} (hi : i ∉ o) : PuG G o (gName i) o (gnName i) := by
  intro B F0 F H σ ρ K v d rel rv h
  obtain ⟨ρ', e, k⟩ := h
  cases e
  have z := rel.set (i := i) rv
  rw [filt_no hi] at z
  exact k _ z
theorem puS_set {G : Gc} {W : WX} {oL o o1 : List Nat} {ta : TE} {ma : Env → R D} {i : Nat} (hi : i ∉ o1) (ha : PuE G W o ta o1 ma) : PuS G W oL o (tAsg ta (gName i)) o1 (mSet i ma) := by
  intro B F0 F H σ ρ X rel h
  exact ha rel ((Post.res h).imp fun d F1 H1 e1 r1 q v rv => q F1 H1 _ (Le.refl F1) (by have z := r1.set (i := i) rv; rw [filt_no hi] at z; exact z))
theorem puS_aug {G : Gc} {W : WX} {oL o o1 : List Nat} {t : TE} {m : Env → R D} {i : Nat} {f : Int → Int → Int} (hi : i ∉ o) (hi1 : i ∉ o1) (h : PuE G W o t o1 m) : PuS G W oL o (tAug i t (ipI f)) o1 (mAug i f m) := by
  have z : PuS G W oL o (tAug i t (ipI f)) (o1.filter (· != i)) (mAug i f m) := by
    intro B F0 F H σ ρ X rel q
    exact PuS.aug hi h rel q
  rw [filt_no hi1] at z
  exact @z
theorem mg_name (i : Nat) (nd : X.N.Nodup) (hi : i ∉ o := by decide) (hN : X.N[i]? = some x := by rfl) (hl : Loc X.env.scope x := by first | exact Or.inl rfl | exact Or.inr rfl) (hf : X.fn x = true ∨ X.env.scope.names.lookup x = some .local := by first | exact .inl rfl | exact .inr rfl) : MG Γ X o (.Name x pos) o (gName i) (gnName i) := by
  obtain ⟨eG⟩ := hG
  subst eG
  exact ⟨pg_name nd hN hl hf, puG_name hi⟩
theorem mgs_nil : MGs Γ X o [] o gNil gnNil := by
  obtain ⟨eG⟩ := hG
  subst eG
  exact ⟨pgs_nil, PuGs.nil⟩
theorem mgs_cons {tg : Expr} {tgs : List Expr} {g : TG} {gs : TGs} {mg : D → Env → R Env} {mgs : List D → Env → R Env} (h1 : MG Γ X o tg o1 g mg) (h2 : MGs Γ X o1 tgs o2 gs mgs) (hs : (assignEach (tg :: tgs) X.env).map (·.2) = assign tg X.env :: (assignEach tgs X.env).map (·.2) := by rfl) : MGs Γ X o (tg :: tgs) o2 (gCons g gs) (gnCons mg mgs) := by
  obtain ⟨eG⟩ := hG
  subst eG
  exact ⟨pgs_cons h1.pe h2.pe hs, PuGs.cons h1.pu h2.pu⟩
theorem mg_tup {tgs : List Expr} {kk n : Nat} {gs : TGs} {mgs : List D → Env → R Env} (hc : X.calm = true) (h : MGs Γ X o tgs o1 gs mgs) (hn : (assignEach tgs X.env).length = n := by rfl) (hst : (assignEach tgs X.env).findIdx? (·.1) = none := by rfl) : MG Γ X o (.Tuple tgs kk pos) o1 (gTup Γ.K n gs) (gnTup n mgs) := by
  obtain ⟨eG⟩ := hG
  subst eG
  exact ⟨pg_tup hc h.pe hn hst, PuG.tup rfl h.pu⟩
end
end G
/-! S12: the derivations of statements. -/
namespace G
open PySem L2
/-- nothing is let out of a comprehension -/
abbrev WN : WX := fun _ _ _ _ => False
section
variable {Γ : Gc} {X : Cx} [hG : HG Γ X] {W : WX} {o o1 o2 o3 oL oI : List Nat} {a b c e elt tg iter : Expr} {es ifs : List Expr} {pos p cpos apos spos py : Pos} {ta tb tc te : TE} {ma mb mc me : Env → R D} {tt tu : TT} {mt mu : Env → R Bool} {ts : TA} {ms : Env → R (List D)} {x : Str} {st : Stmt} {sts A1 A2 : List Stmt} {t u : TS} {m n : Env → Out} {wi : TI} {g : TG} {mi : Env → R (List D)} {mg : D → Env → R Env}
/-! ### what is walked -/
theorem mi_seq (ha : ME Γ X W o a o1 ta ma) : MI Γ X W o tg a o1 (iSeq Γ.K ta) (mSq D.seq ma) := by
  obtain ⟨eG⟩ := hG
  subst eG
  exact ⟨pi_seq ha.pe, PuI.seq ha.pu⟩
theorem mi_range1 (hm : X.mg "range" = none) (ha : ME Γ X W o a o1 ta ma) (hg : Gl X "range" := by rfl) (hs : starEach [a] X.env = [(false, eval a X.env)] := by rfl) : MI Γ X W o tg (.Call (.Name "range" p) [a] [] pos) o1 (iRng1 (tCons ta tNil)) (mSq dRange1 ma) := by
  obtain ⟨eG⟩ := hG
  subst eG
  exact ⟨pi_range1 hg hm (pa_cons ha.pe pa_nil hs) hs, PuI.range1 ha.pu⟩
theorem mi_range2 (hm : X.mg "range" = none) (ha : ME Γ X W o a o1 ta ma) (hb : ME Γ X W o1 b o2 tb mb) (hg : Gl X "range" := by rfl) (hs : starEach [a, b] X.env = [(false, eval a X.env), (false, eval b X.env)] := by rfl) (hs2 : starEach [b] X.env = [(false, eval b X.env)] := by rfl) : MI Γ X W o tg (.Call (.Name "range" p) [a, b] [] pos) o2 (iRng2 (tCons ta (tCons tb tNil))) (mRange2 ma mb) := by
  obtain ⟨eG⟩ := hG
  subst eG
  exact ⟨pi_range2 hg hm (pa_cons ha.pe (pa_cons hb.pe pa_nil hs2) (hs.trans (congrArg _ hs2.symm))) hs hs2, PuI.range2 ha.pu hb.pu⟩
theorem mi_enum {els : List Expr} {kk : Nat} (hm : X.mg "enumerate" = none) (ha : ME Γ X W o a o1 ta ma) (hg : Gl X "enumerate" := by rfl) (hs : starEach [a] X.env = [(false, eval a X.env)] := by rfl) : MI Γ X W o (.Tuple els kk py) (.Call (.Name "enumerate" p) [a] [] pos) o1 (iEnumA Γ.K (tCons ta tNil)) (mSq (dEnum D.seq) ma) := by
  obtain ⟨eG⟩ := hG
  subst eG
  exact ⟨pi_enumA hg hm (pa_cons ha.pe pa_nil hs) hs, PuI.enum ha.pu⟩
theorem mi_zip {els : List Expr} {kk : Nat} (hm : X.mg "zip" = none) (ha : ME Γ X W o a o1 ta ma) (hb : ME Γ X W o1 b o2 tb mb) (hg : Gl X "zip" := by rfl) (hs : starEach [a, b] X.env = (false, eval a X.env) :: starEach [b] X.env := by rfl) (hs2 : starEach [b] X.env = [(false, eval b X.env)] := by rfl) (hpl : (backTo pos (starEach [b] X.env)).any (·.1) = false := by rfl) : MI Γ X W o (.Tuple els kk py) (.Call (.Name "zip" p) [a, b] [] pos) o2 (RZ.iZipA Γ.K (tCons ta (tCons tb tNil))) (mZip ma mb) := by
  obtain ⟨eG⟩ := hG
  subst eG
  exact ⟨RZ.pi_zipA hg hm (pa_cons ha.pe (pa_cons hb.pe pa_nil hs2) hs) hs hpl, PuI.zip ha.pu hb.pu⟩
/-! ### comprehensions with one clause -/
structure MTs (Γ : Gc) (X : Cx) (W : WX) (o : List Nat) (ifs : List Expr) (t : TT) (m : Env → R Bool) : Prop where
  pe : PTs X ifs t
  pu : PuT Γ W o t o m
theorem mts_nil : MTs Γ X W o [] tYes mYes := by
  obtain ⟨eG⟩ := hG
  subst eG
  exact ⟨pts_nil, PuT.yes⟩
theorem mts_one (h : MT Γ X W o c o tt mt) : MTs Γ X W o [c] tt mt := by
  obtain ⟨eG⟩ := hG
  subst eG
  exact ⟨pts_one h.pe, h.pu⟩
abbrev B0 (X : Cx) (scope : Scope) (s : Shared) (H : Hp) (C : Addr) (cl : List (Str × Addr)) (fp : List Addr) : Cx := X.blk s H scope (compEnvC scope cl C X.env) fp
theorem mo_lc {scope : Scope} (s0 : Shared) (H0 : Hp) (own : List (Str × Nat)) (hc : X.calm = true) (hN : X.N.Nodup) (hi : MI Γ X W o tg iter o wi mi) (ok : blkC X.N X.env.scope scope own = true)
    (hg : ∀ (s : Shared) (H : Hp) (C : Addr) (cl : List (Str × Addr)) (fp : List Addr), MG Γ (B0 X scope s H C cl fp) o tg o g mg)
    (ht : ∀ (s : Shared) (H : Hp) (C : Addr) (cl : List (Str × Addr)) (fp : List Addr), MTs Γ (B0 X scope s H C cl fp) WN o ifs tt mt)
    (he : ∀ (s : Shared) (H : Hp) (C : Addr) (cl : List (Str × Addr)) (fp : List Addr), ME Γ (B0 X scope s H C cl fp) WN o elt o te me)
    (hw : GW g mg (own.map (·.2))) (hv : ∀ i, i ∈ own.map (·.2) → i ∉ o := by decide) (hs : ∀ x, foldedSetIterable iter X.env x = pure x := by intro _; rfl) :
    MO Γ X W o (.ListComp elt [⟨tg, iter, ifs, 0⟩] scope pos) o (tLc wi g tt te (own.map (·.2))) (mLc (own.map (·.2)) mi mg mt me) := by
  obtain ⟨eG⟩ := hG
  subst eG
  exact ⟨pe_lc hc hN hi.pe (blkOk_by ok) (fun s H C cl fp => (hg s H C cl fp).pe) (fun s H C cl fp => (ht s H C cl fp).pe) (fun s H C cl fp => (he s H C cl fp).pe) hs,
    PuO.lc hi.pu hv hw (hg s0 H0 0 [] []).pu (ht s0 H0 0 [] []).pu (he s0 H0 0 [] []).pu⟩
/-! ### statements -/
theorem mss_nil : MSs Γ X W oL o [] o tNext mNext := by
  obtain ⟨eG⟩ := hG
  subst eG
  exact ⟨pss_nil, PuS.next⟩
theorem mss_cons (h1 : MS Γ X W oL o st o1 t m) (h2 : MSs Γ X W oL o1 sts o2 u n) : MSs Γ X W oL o (st :: sts) o2 (tSeq t u) (mSeq m n) := by
  obtain ⟨eG⟩ := hG
  subst eG
  exact ⟨pss_cons h1.pe h2.pe, PuS.seq h1.pu h2.pu⟩
theorem mss_one (h1 : MS Γ X W oL o st o1 t m) : MSs Γ X W oL o [st] o1 t m := by
  obtain ⟨eG⟩ := hG
  subst eG
  exact ⟨pss_one h1.pe, h1.pu⟩
theorem mss_weak (l : List Nat) (h1 : MSs Γ X W oL o sts o1 t m) : MSs Γ X W oL o sts (o1.filter fun j => !l.contains j) t m := by
  obtain ⟨eG⟩ := hG
  subst eG
  exact ⟨h1.pe, PuS.weak l h1.pu⟩
theorem mss_weak0 (l : List Nat) (h1 : MSs Γ X W oL (o.filter fun j => !l.contains j) sts o1 t m) : MSs Γ X W oL o sts o1 t m := by
  obtain ⟨eG⟩ := hG
  subst eG
  exact ⟨h1.pe, PuS.weak0 l h1.pu⟩
theorem ms_weak (l : List Nat) (h1 : MS Γ X W oL o st o1 t m) : MS Γ X W oL o st (o1.filter fun j => !l.contains j) t m := by
  obtain ⟨eG⟩ := hG
  subst eG
  exact ⟨h1.pe, PuS.weak l h1.pu⟩
theorem ms_weak0 (l : List Nat) (h1 : MS Γ X W oL (o.filter fun j => !l.contains j) st o1 t m) : MS Γ X W oL o st o1 t m := by
  obtain ⟨eG⟩ := hG
  subst eG
  exact ⟨h1.pe, PuS.weak0 l h1.pu⟩
theorem ms_pass : MS Γ X W oL o (.Pass pos) o tNext mNext := by
  obtain ⟨eG⟩ := hG
  subst eG
  exact ⟨ps_pass, PuS.next⟩
theorem ms_doc {s : Str} {j} : MS Γ X W oL o (.Expr (.Constant (.str s) j p) pos) o tNext mNext := by
  obtain ⟨eG⟩ := hG
  subst eG
  exact ⟨ps_doc, PuS.next⟩
theorem ms_brk (hs : oL = o := by rfl) : MS Γ X W oL o (.Break pos) o2 tBreak mBrk := by
  obtain ⟨eG⟩ := hG
  subst eG
  exact ⟨ps_break, PuS.brk hs⟩
theorem ms_cnt (hs : oL = o := by rfl) : MS Γ X W oL o (.Continue pos) o2 tCont mCnt := by
  obtain ⟨eG⟩ := hG
  subst eG
  exact ⟨ps_continue, PuS.cnt hs⟩
theorem ms_ret (ha : ME Γ X W o a o1 ta ma) : MS Γ X W oL o (.Return (some a) pos) o2 (tRet ta) (mRet ma) := by
  obtain ⟨eG⟩ := hG
  subst eG
  exact ⟨ps_ret ha.pe, PuS.ret ha.pu⟩
theorem ms_retN : MS Γ X W oL o (.Return none pos) o2 tRetN mRetN := by
  obtain ⟨eG⟩ := hG
  subst eG
  exact ⟨ps_retN, PuS.retN⟩
theorem ms_expr (ha : ME Γ X W o a o1 ta ma) (hs : swapsWith a none pos.line X.env = pure false := by rfl) : MS Γ X W oL o (.Expr a pos) o1 (tDrop ta) (mDrop ma) := by
  obtain ⟨eG⟩ := hG
  subst eG
  exact ⟨ps_expr ha.pe hs, PuS.drop ha.pu⟩
theorem ms_bad : MS Γ X W oL o st o2 tNever mBad := by
  obtain ⟨eG⟩ := hG
  subst eG
  exact ⟨ps_never, PuS.bad⟩
theorem ms_if (hc : MT Γ X W o c o1 tt mt) (h1 : MSs Γ X W oL o1 A1 o2 t m) (h2 : MSs Γ X W oL o1 A2 o2 u n) : MS Γ X W oL o (.If c A1 A2 pos) o2 (tIfS tt t u) (mIf mt m n) := by
  obtain ⟨eG⟩ := hG
  subst eG
  exact ⟨ps_if hc.pe h1.pe h2.pe, PuS.ifS hc.pu h1.pu h2.pu⟩
theorem ms_set (i : Nat) (nd : X.N.Nodup) (ha : ME Γ X W o a o1 ta ma) (hi : i ∉ o1 := by decide) (hN : X.N[i]? = some x := by rfl) (hl : Loc X.env.scope x := by first | exact Or.inl rfl | exact Or.inr rfl) (hs : swapsWith a (some (.Name x p)) pos.line X.env = pure false := by rfl) (hf : X.fn x = true ∨ X.env.scope.names.lookup x = some .local := by first | exact .inl rfl | exact .inr rfl) :
    MS Γ X W oL o (.Assign [.Name x p] a pos) o1 (tAsg ta (gName i)) (mSet i ma) := by
  obtain ⟨eG⟩ := hG
  subst eG
  exact ⟨ps_set nd hN hl ha.pe hs hf, puS_set hi ha.pu⟩
theorem ms_setW (i : Nat) (nd : X.N.Nodup) (ha : ME Γ X W o a o1 ta ma) (hN : X.N[i]? = some x := by rfl) (hl : Loc X.env.scope x := by first | exact Or.inl rfl | exact Or.inr rfl) (hs : swapsWith a (some (.Name x p)) pos.line X.env = pure false := by rfl) (hf : X.fn x = true ∨ X.env.scope.names.lookup x = some .local := by first | exact .inl rfl | exact .inr rfl) :
    MS Γ X W oL o (.Assign [.Name x p] a pos) (o1.filter (· != i)) (tAsg ta (gName i)) (mSet i ma) := by
  obtain ⟨eG⟩ := hG
  subst eG
  exact ⟨ps_set nd hN hl ha.pe hs hf, PuS.set ha.pu⟩
theorem ms_setO (i : Nat) (nd : X.N.Nodup) (ha : MO Γ X W o a o1 ta ma) (hN : X.N[i]? = some x := by rfl) (hl : Loc X.env.scope x := by first | exact Or.inl rfl | exact Or.inr rfl) (hs : swapsWith a (some (.Name x p)) pos.line X.env = pure false := by rfl) (hf : X.fn x = true ∨ X.env.scope.names.lookup x = some .local := by first | exact .inl rfl | exact .inr rfl) :
    MS Γ X W oL o (.Assign [.Name x p] a pos) (i :: o1.filter (· != i)) (tAsg ta (gName i)) (mSet i ma) := by
  obtain ⟨eG⟩ := hG
  subst eG
  exact ⟨ps_set nd hN hl ha.pe hs hf, PuS.setO ha.pu⟩
/-- name = [.. for ..] where the tongue stores in another order -/
theorem ms_setLc (i : Nat) {scope : Scope} (s0 : Shared) (H0 : Hp) (own : List (Str × Nat)) (hc : X.calm = true) (hN : X.N.Nodup) (hi : MI Γ X W o tg iter o wi mi) (ok : blkC X.N X.env.scope scope own = true)
    (hg : ∀ (s : Shared) (H : Hp) (C : Addr) (cl : List (Str × Addr)) (fp : List Addr), MG Γ (B0 X scope s H C cl fp) o tg o g mg)
    (ht : ∀ (s : Shared) (H : Hp) (C : Addr) (cl : List (Str × Addr)) (fp : List Addr), MTs Γ (B0 X scope s H C cl fp) WN o ifs tt mt)
    (he : ∀ (s : Shared) (H : Hp) (C : Addr) (cl : List (Str × Addr)) (fp : List Addr), ME Γ (B0 X scope s H C cl fp) WN o elt o te me)
    (hw : GW g mg (own.map (·.2))) (hv : ∀ i, i ∈ own.map (·.2) → i ∉ o := by decide) (hs : ∀ x, foldedSetIterable iter X.env x = pure x := by intro _; rfl) 
    (hy : X.N[i]? = some x := by rfl) (hyl : X.env.scope.names.lookup x = some .local := by rfl) (hsw : swapsWith (.ListComp elt [⟨tg, iter, ifs, 0⟩] scope pos) (some (.Name x py)) spos.line X.env = pure true := by rfl) :
    MS Γ X W oL o (.Assign [.Name x py] (.ListComp elt [⟨tg, iter, ifs, 0⟩] scope pos) spos) (i :: o.filter (· != i)) (tAsg (tLc wi g tt te (own.map (·.2))) (gName i)) (mSet i (mLc (own.map (·.2)) mi mg mt me)) := by
  obtain ⟨eG⟩ := hG
  subst eG
  exact ⟨ps_setLc hc hN hy hyl hsw hi.pe (blkOk_by ok) (fun s H C cl fp => (hg s H C cl fp).pe) (fun s H C cl fp => (ht s H C cl fp).pe) (fun s H C cl fp => (he s H C cl fp).pe) hs,
    PuS.setO (PuO.lc hi.pu hv hw (hg s0 H0 0 [] []).pu (ht s0 H0 0 [] []).pu (he s0 H0 0 [] []).pu)⟩
/-- any target -/
def mTg (ma : Env → R D) (mg : D → Env → R Env) : Env → Out := fun ρ => oBind (ma ρ) ρ fun d => match mg d ρ with
  | .ok ρ' => .nx ρ'
  | _ => .bad
theorem PuS.target {G : Gc} (ha : PuE G W o ta o1 ma) (hg : PuG G o1 g o2 mg) : PuS G W oL o (tAsg ta g) o2 (mTg ma mg) := by
  intro B F0 F H σ ρ X rel h
  refine ha rel ((Post.res h).imp fun d F1 H1 e1 r1 q v rv => ?_)
  cases z : mg d ρ with
  | ok ρ' => rw [z] at q; exact hg r1 rv ⟨ρ', z, fun σ' r' => q F1 H1 σ' (Le.refl F1) r'⟩
  | exc _ _ => rw [z] at q; exact q.elim
  | bad => rw [z] at q; exact q.elim
theorem ms_tg (ha : ME Γ X W o a o1 ta ma) (hg : MG Γ X o1 tg o2 g mg) (hs : swapsWithSole [tg] a pos.line X.env = pure false := by rfl) (hw : swappedStores [tg] a X.env = pure none := by rfl)
    (h1 : (assignEach [tg] X.env).map (·.2) = [assign tg X.env] := by rfl) : MS Γ X W oL o (.Assign [tg] a pos) o2 (tAsg ta g) (mTg ma mg) := by
  obtain ⟨eG⟩ := hG
  subst eG
  exact ⟨ps_asg ha.pe hg.pe hs hw h1, PuS.target ha.pu hg.pu⟩
/-- a, b = x, y -/
def mPar (i j : Nat) (ms : Env → R (List D)) : Env → Out := fun ρ => oBind (ms ρ) ρ fun ds => match ds with
  | [a, b] => .nx ((ρ.set i (some a)).set j (some b))
  | _ => .bad
theorem PuS.par {G : Gc} {i j : Nat} (hi : i ∉ o1) (hj : j ∉ o1) (ha : PuA G W o ts o1 ms) : PuS G W oL o (tPar i j ts) o1 (mPar i j ms) := by
  intro B F0 F H σ ρ X rel h
  refine ha rel ((Post.res h).imp fun ds F1 H1 e1 r1 q vs rv => ?_)
  cases rv with
  | nil => exact q.elim
  | cons h1 r2 =>
    cases r2 with
    | nil => exact q.elim
    | cons h2 r3 =>
      cases r3 with
      | nil =>
        refine ⟨_, _, rfl, q F1 H1 _ (Le.refl F1) ?_⟩
        have z := (r1.set (i := i) h1)
        rw [filt_no hi] at z
        have z2 := z.set (i := j) h2
        rw [filt_no hj] at z2
        exact z2
      | cons _ _ => exact q.elim
theorem ms_par (i j : Nat) {y : Str} {px pt2 pt : Pos} {kt k2 : Nat} (hc : X.calm = true) (nd : X.N.Nodup) (ha : MA Γ X W o [a, b] o1 ts ms) (hij : i ≠ j := by decide) (hi : i ∉ o1 := by decide) (hj : j ∉ o1 := by decide) (hN : X.N[i]? = some x := by rfl) (hM : X.N[j]? = some y := by rfl)
    (hx : X.env.scope.names.lookup x = some .local := by rfl) (hy : X.env.scope.names.lookup y = some .local := by rfl)
    (hw : swappedStores [.Tuple [.Name x px, .Name y py] kt pt] (.Tuple [a, b] k2 pt2) X.env = pure (some [x, y]) := by rfl)
    (hs : swapsWithSole [.Tuple [.Name x px, .Name y py] kt pt] (.Tuple [a, b] k2 pt2) pos.line X.env = pure false := by rfl) :
    MS Γ X W oL o (.Assign [.Tuple [.Name x px, .Name y py] kt pt] (.Tuple [a, b] k2 pt2) pos) o1 (tPar i j ts) (mPar i j ms) := by
  obtain ⟨eG⟩ := hG
  subst eG
  exact ⟨ps_par hc nd hN hM hij hx hy ha.pe hw hs, PuS.par hi hj ha.pu⟩
/-! loops -/
theorem ms_for (hp : PassesOwn (model X.prog X.w) X.A X.env X.xe) (hc : X.calm = true) (hi : MI Γ X W o tg iter oI wi mi) (hg : MG Γ X oI tg oI g mg) (hb : MSs Γ X W oI oI sts oI t m) (hs : ∀ x, foldedSetIterable iter X.env x = pure x := by intro _; rfl) :
    MS Γ X W oL o (.For tg iter sts [] pos) oI (tFor wi g t) (mFor mi mg m) := by
  obtain ⟨eG⟩ := hG
  subst eG
  exact ⟨ps_for hp hc hi.pe hg.pe hb.pe hs, PuS.forS hi.pu hg.pu hb.pu⟩
theorem ms_while (hp : PassesOwn (model X.prog X.w) X.A X.env X.xe) (hc : MT Γ X W o c o tt mt) (hb : MSs Γ X W o o sts o t m) :
    MS Γ X W oL o (.While c sts [] pos) o (tWhile tt t) (mWhile mt m) := by
  obtain ⟨eG⟩ := hG
  subst eG
  exact ⟨ps_while hp hc.pe hb.pe, PuS.whileS hc.pu hb.pu⟩
/-! own lists and dicts -/
structure Mtd (Γ : Gc) (X : Cx) (T : String) (name : Str) (id : String) (r : V → List V → Hp → VK → Prop) (f : D → List D → R (D × D)) : Prop where
  pa : PlainAttrs T
  slot : Slot T name id
  ty : typeOf (.builtin id) = pure (.type "method_descriptor")
  mt : MtR X id r
  pm : PuM Γ r f
theorem m_append : Mtd Γ X "list" "append" "list.append" rAppend dAppend := by
  obtain ⟨eG⟩ := hG
  subst eG
  exact ⟨PySem.F.plainAttrs_list, PySem.F.slot_list_append, PySem.F.type_list_append, mt_append, pm_append⟩
theorem m_extend : Mtd Γ X "list" "extend" "list.extend" rExtend dExtend := by
  obtain ⟨eG⟩ := hG
  subst eG
  exact ⟨PySem.F.plainAttrs_list, PySem.F.slot_list_extend, PySem.F.type_list_extend, mt_extend, pm_extend⟩
variable {T id : String} {name : Str} {r : V → List V → Hp → VK → Prop} {f : D → List D → R (D × D)}
theorem ms_mut (hm : Mtd Γ X T name id r f) (i : Nat) (ha : MA Γ X W o (e :: es) o1 ts ms) (hi : i ∈ o := by decide) (hi1 : i ∈ o1 := by decide) (hN : X.N[i]? = some x := by rfl) (hv : Vis X.env.scope x := by first | exact Or.inl rfl | exact Or.inr (Or.inl rfl) | exact Or.inr (Or.inr rfl)) (hd : (x == ("__debug__" : Str)) = false := by decide) (hcd : (x == ("__classdict__" : Str)) = false := by decide)
    (hbase : attributeBase (.Name x p) name X.env (eval (.Name x p) X.env) = eval (.Name x p) X.env := by rfl)
    (hfew : ((backTo cpos (starEach (e :: es) X.env)).all (fun x => !x.1) && (backToKw cpos (keywordEach [] X.env)).all (fun x => x.1.isSome)
      && decide ((e :: es).length + ([] : List Keyword).length + (if ([] : List Keyword).isEmpty then 0 else 1) < 30)) = true := by rfl)
    (hline : (apos.endLine == cpos.line) = true := by rfl) (hs : starEach (e :: es) X.env = (false, eval e X.env) :: starEach es X.env := by rfl) (hplain : (backTo cpos (starEach es X.env)).any (·.1) = false := by rfl)
    (hsw : swapsWith (.Call (.Attribute (.Name x p) name apos) (e :: es) [] cpos) none pos.line X.env = pure false := by rfl) :
    MS Γ X W oL o (.Expr (.Call (.Attribute (.Name x p) name apos) (e :: es) [] cpos) pos) o1 (tDrop (tBM Γ.K T r (tVar i) ts)) (mMut T i f ms kDrop) := by
  obtain ⟨eG⟩ := hG
  subst eG
  exact ⟨ps_expr (pe_bm hm.pa hm.slot hm.ty hm.mt (pe_var hN hv hd hcd) ha.pe hbase hfew hline hs hplain) hsw, PuS.mutA (t := fun X _ σ H => X.nx σ H) hm.pm hi1 hi ha.pu PuK.drop⟩
theorem ms_dput (i : Nat) (hu : X.A.units + 1 < cLine) (hv : ME Γ X W o a o1 ta ma) (hk : ME Γ X W o1 b o2 tb mb) (hi1 : i ∈ o1 := by decide) (hi2 : i ∈ o2 := by decide) (hN : X.N[i]? = some x := by rfl) (hvi : Vis X.env.scope x := by first | exact Or.inl rfl | exact Or.inr (Or.inl rfl) | exact Or.inr (Or.inr rfl)) (hd : (x == ("__debug__" : Str)) = false := by decide) (hcd : (x == ("__classdict__" : Str)) = false := by decide)
    (hs : swapsWith a (some (.Subscript (.Name x p) b py)) pos.line X.env = pure false := by rfl) :
    MS Γ X W oL o (.Assign [.Subscript (.Name x p) b py] a pos) o2 (sDPut (tVar i) tb ta) (mDPut i mb ma) := by
  obtain ⟨eG⟩ := hG
  subst eG
  exact ⟨ps_dput hu (pe_var hN hvi hd hcd) hk.pe hv.pe hs, PuS.dput hi1 hi2 hv.pu hk.pu⟩
theorem ms_lput (i : Nat) (hv : ME Γ X W o a o1 ta ma) (hk : ME Γ X W o1 b o2 tb mb) (hi1 : i ∈ o1 := by decide) (hi2 : i ∈ o2 := by decide) (hN : X.N[i]? = some x := by rfl) (hvi : Vis X.env.scope x := by first | exact Or.inl rfl | exact Or.inr (Or.inl rfl) | exact Or.inr (Or.inr rfl)) (hd : (x == ("__debug__" : Str)) = false := by decide) (hcd : (x == ("__classdict__" : Str)) = false := by decide)
    (hsw : swapsWithSole [.Subscript (.Name x p) b py] a pos.line X.env = pure false := by rfl) (hw : swappedStores [.Subscript (.Name x p) b py] a X.env = pure none := by rfl)
    (h1 : (assignEach [.Subscript (.Name x p) b py] X.env).map (·.2) = [assign (.Subscript (.Name x p) b py) X.env] := by rfl)
    (hasg : ∀ v, assign (.Subscript (.Name x p) b py) X.env v = (do
      let ov ← holding [v] (eval (.Name x p) X.env)
      let iv ← holding [v, ov] (eval b X.env)
      standAt py
      holding [v, ov, iv] (setItem ov iv v)
      release [v, ov, iv] []) := by intro _; rfl) :
    MS Γ X W oL o (.Assign [.Subscript (.Name x p) b py] a pos) o2 (tAsg ta (gSub (tVar i) tb rSetL)) (mLPut i mb ma) := by
  obtain ⟨eG⟩ := hG
  subst eG
  exact ⟨ps_asg hv.pe (pg_sub (pe_var hN hvi hd hcd) hk.pe set_list hasg) hsw hw h1, PuS.lput hi1 hi2 hv.pu hk.pu⟩
/-- an operator on a name -/
structure AugR (X : Cx) (op : Operator) (f : Int → Int → Int) : Prop where
  ip : PIp X op (ipI f)
theorem ms_aug {op : Operator} {f : Int → Int → Int} (i : Nat) (nd : X.N.Nodup) (hop : AugR X op f) (ha : ME Γ X W o a o1 ta ma) (hi : i ∉ o := by decide) (hi1 : i ∉ o1 := by decide) (hN : X.N[i]? = some x := by rfl) (hl : Loc X.env.scope x := by first | exact Or.inl rfl | exact Or.inr rfl) (hf : X.fn x = true ∨ X.env.scope.names.lookup x = some .local := by first | exact .inl rfl | exact .inr rfl) :
    MS Γ X W oL o (.AugAssign (.Name x p) op a pos) o1 (tAug i ta (ipI f)) (mAug i f ma) := by
  obtain ⟨eG⟩ := hG
  subst eG
  exact ⟨ps_aug nd hN hl ha.pe hop.ip hf, puS_aug hi hi1 ha.pu⟩
end
end G
/-! S13: defs as wholes. -/
namespace G
open PySem L2 PyProof.Rows
theorem gw1 {i : Nat} {vs : List Nat} (h : i ∈ vs := by decide) : GW (gName i) (gnName i) vs := GW.name h
theorem gw2 {K : PySem.W.Frag} {i j n : Nat} {vs : List Nat} (h : i ∈ vs := by decide) (h2 : j ∈ vs := by decide) : GW (gTup K n (gCons (gName i) (gCons (gName j) gNil))) (gnTup n (gnCons (gnName i) (gnCons (gnName j) gnNil))) vs :=
  GW.tup (GWs.cons (GW.name h) (GWs.cons (GW.name h2) GWs.nil gName_mono) gName_mono)
theorem gw3 {K : PySem.W.Frag} {i j k n : Nat} {vs : List Nat} (h : i ∈ vs := by decide) (h2 : j ∈ vs := by decide) (h3 : k ∈ vs := by decide) : GW (gTup K n (gCons (gName i) (gCons (gName j) (gCons (gName k) gNil)))) (gnTup n (gnCons (gnName i) (gnCons (gnName j) (gnCons (gnName k) gnNil)))) vs :=
  GW.tup (GWs.cons (GW.name h) (GWs.cons (GW.name h2) (GWs.cons (GW.name h3) GWs.nil gName_mono) gName_mono) gName_mono)
abbrev FnP (K : PySem.W.Frag) (x : Str) (st : Stmt) (f : Addr) (fd : FuncData) : Prop := FunD K x x (defArgs st) (defBody st) (defScope st) [] [] f fd
section
variable {P : Program} {w : World} {K : PySem.W.Frag} {mg : Str → Option Value} {base : Heap}
abbrev XD (P : Program) (w : World) (K : PySem.W.Frag) (mg : Str → Option Value) (base : Heap) (N : List Str) (x : Str) (st : Stmt) (f : Addr) (cdv : Value) (A : Around) (outer : List PySem.Env) (s : Shared) (H : Hp) (E : XK) : Cx :=
  cxOf (L2N.CX P w) P w K mg base N x (defScope st) f cdv A outer s H E
instance {P : Program} {w : World} {K : PySem.W.Frag} {mg : Str → Option Value} {base : Heap} {N : List Str} {x : Str} {st : Stmt} {f : Addr} {cdv : Value} {A : Around} {outer : List PySem.Env} {s : Shared} {H : Hp} {E : XK} : HG ⟨K, mg⟩ (XD P w K mg base N x st f cdv A outer s H E) := ⟨rfl⟩
abbrev WD (E : XK) : WX := fun cls dd _ H => E cls dd H
theorem fd_of {x : Str} {st : Stmt} {f : Addr} {fd : FuncData} {k : Nat} {N ps : List Str} {m : DefM} (F : FnP K x st f fd) (S : FnScope N ps (defScope st)) (g : mg x = some (.ref f)) (b : Binds K fd ps []) (hp : ps.length = m.n) (hk : N.length - ps.length = m.k)
    (h : ∀ cdv A outer s H E, Room k (A.deeper (envOfC x (defScope st) s.heap.objs.size f cdv)) → L2N.Takes (XD P w K mg base N x st f cdv A outer s H E) (WD E) → ∃ t o', MSs ⟨K, mg⟩ (XD P w K mg base N x st f cdv A outer s H E) (WD E) [] [] (defBody st) o' t m.body) :
    Fd P w K mg base (k + 1) x ps f fd m.fn := by
  refine ⟨F.ok S (fun vs H Q E h => ?_) fun cdv A outer s H vs Q E hr hsp => ?_, g, F.kp, b⟩
  · exact spM_len rfl vs H Q E h
  · obtain ⟨t, o', d⟩ := h cdv A outer s H E hr (L2N.takes_of rfl rfl rfl rfl)
    rw [hp] at hsp
    exact ⟨t, d.pe, body_start (F := H) hk hp d.pu hsp⟩
end
end G
/-! S14: small rules; sorted. -/
namespace G
open PySem L2
theorem hu65 {k : Nat} {A : Around} (hr : Room k A) : A.units + 65 < cLine := by have := hr.un; omega
section
variable {Γ : Gc} {X : Cx} [hG : HG Γ X] {W : WX} {o o1 o2 oL oI : List Nat} {a b c e : Expr} {x : Str} {pos : Pos} {st : Stmt} {sts : List Stmt} {t : TS} {m : Env → Out}
theorem me_gintE {i : Int} (hm : ∃ t, X.mg x = some (.int i t)) (hg : Gl X x := by rfl) (hdb : (x == ("__debug__" : Str)) = false := by decide) : ME Γ X W o (.Name x pos) o (tC (.int i)) (mC (.int i)) := by
  obtain ⟨t, h⟩ := hm
  exact me_gint h hg hdb
theorem a_add : AugR X .Add (fun i j => i + j) := ⟨ip_add⟩
theorem a_sub : AugR X .Sub (fun i j => i - j) := ⟨ip_sub⟩
theorem m_insert : Mtd Γ X "list" "insert" "list.insert" rInsert dInsert := ⟨PySem.F.plainAttrs_list, PySem.F.slot_list_insert, PySem.F.type_list_insert, mt_insert, pm_insert⟩
/-- the order of the own slots is none -/
theorem Rel.eqv {G : Gc} {B F0 F H : Hp} {o o' : List Nat} {σ : L2.St} {ρ : Env} (h : ∀ i, i ∈ o ↔ i ∈ o') (r : Rel G B F0 F H o σ ρ) : Rel G B F0 F H o' σ ρ :=
  ⟨r.core, r.len, fun i d h1 h2 => r.sh i d h1 fun z => h2 ((h i).mp z), fun i d h1 h2 => r.ow i d h1 ((h i).mpr h2), fun i j d e a h1 h2 h3 => r.dj i j d e a h1 ((h i).mpr h2) ((h j).mpr h3)⟩
theorem PuS.eqv {G : Gc} (h : ∀ i, i ∈ o1 ↔ i ∈ o2) (h1 : PuS G W oL o t o1 m) : PuS G W oL o t o2 m := by
  intro B F0 F H σ ρ X rel p
  refine h1 rel ?_
  cases hm : m ρ with
  | nx ρ' => rw [hm] at p; exact fun F' H' σ' le r' => p F' H' σ' le (r'.eqv h)
  | rt d => rw [hm] at p; exact p
  | bk ρ' => rw [hm] at p; exact p
  | ct ρ' => rw [hm] at p; exact p
  | exc c q ρ' => rw [hm] at p; exact p
  | bad => rw [hm] at p; exact p
theorem mss_eqv (h1 : MSs Γ X W oL o sts o1 t m) (h : ((o1.all fun i => o2.contains i) && (o2.all fun i => o1.contains i)) = true := by rfl) : MSs Γ X W oL o sts o2 t m := by
  refine ⟨h1.pe, PuS.eqv (fun i => ?_) h1.pu⟩
  obtain ⟨ha, hb⟩ := (Bool.and_eq_true _ _).mp h
  have h : _ ∧ _ := ⟨List.all_eq_true.mp ha, List.all_eq_true.mp hb⟩
  exact ⟨fun z => by simpa using h.1 i z, fun z => by simpa using h.2 i z⟩
end
/-! ### sorted -/
def lexB : List Int → List Int → Bool
  | [], [] => false
  | [], _ :: _ => true
  | _ :: _, [] => false
  | x :: xs, y :: ys => if x = y then lexB xs ys else decide (x < y)
theorem lexB_irr : ∀ xs, lexB xs xs = false
  | [] => rfl
  | x :: xs => by unfold lexB; rw [if_pos rfl]; exact lexB_irr xs
theorem lexB_tot : ∀ {xs ys}, lexB xs ys = false → lexB ys xs = false → xs = ys
  | [], [], _, _ => rfl
  | [], _ :: _, h, _ => by cases h
  | _ :: _, [], _, h => by cases h
  | x :: xs, y :: ys, h1, h2 => by
    unfold lexB at h1 h2
    by_cases e : x = y
    · subst e
      rw [if_pos rfl] at h1 h2
      rw [lexB_tot h1 h2]
    · rw [if_neg e] at h1
      rw [if_neg (Ne.symm e)] at h2
      have := of_decide_eq_false h1
      have := of_decide_eq_false h2
      omega
theorem lexB_asym : ∀ {xs ys}, lexB xs ys = true → lexB ys xs = false
  | [], [], h => by cases h
  | [], _ :: _, _ => rfl
  | _ :: _, [], h => by cases h
  | x :: xs, y :: ys, h => by
    unfold lexB at h ⊢
    by_cases e : x = y
    · subst e
      rw [if_pos rfl] at h ⊢
      exact lexB_asym h
    · rw [if_neg e] at h
      rw [if_neg (Ne.symm e)]
      have := of_decide_eq_true h
      exact decide_eq_false (by omega)
theorem lexB_tr : ∀ {xs ys zs}, lexB ys xs = false → lexB zs ys = false → lexB zs xs = false
  | [], [], [], _, _ => rfl
  | [], [], _ :: _, _, h => by simp [lexB]
  | [], _ :: _, [], _, h => by simp [lexB] at h
  | [], _ :: _, _ :: _, _, _ => by simp [lexB]
  | _ :: _, [], _, h, _ => by simp [lexB] at h
  | _ :: _, _ :: _, [], _, h => by simp [lexB] at h
  | x :: xs, y :: ys, z :: zs, h1, h2 => by
    unfold lexB at h1 h2 ⊢
    by_cases e : y = x
    · subst e
      rw [if_pos rfl] at h1
      by_cases e2 : z = y
      · subst e2
        rw [if_pos rfl] at h2 ⊢
        exact lexB_tr h1 h2
      · rw [if_neg e2] at h2 ⊢
        exact h2
    · rw [if_neg e] at h1
      have q1 := of_decide_eq_false h1
      by_cases e2 : z = y
      · subst e2
        rw [if_neg e]
        exact h1
      · rw [if_neg e2] at h2
        have q2 := of_decide_eq_false h2
        have e3 : z ≠ x := by omega
        rw [if_neg e3]
        exact decide_eq_false (by omega)
/-- a datum's ints, to sort by -/
def D.key' : D → List Int
  | .int i => [i]
  | .tup ds => (D.ints ds).getD []
  | _ => []
def leD (a b : D) : Bool := !lexB b.key' a.key'
def sortD (ds : List D) : List D := ds.mergeSort leD
theorem leD_tr (a b c : D) (h1 : leD a b = true) (h2 : leD b c = true) : leD a c = true := by
  unfold leD at *
  rw [Bool.not_eq_true'] at *
  exact lexB_tr h1 h2
theorem leD_tot (a b : D) : (leD a b || leD b a) = true := by
  unfold leD
  cases h : lexB b.key' a.key' with
  | false => rfl
  | true => rw [lexB_asym h]; rfl
/-- there is just one such list -/
theorem sortD_eq {ds es : List D} (hp : es.Perm ds) (hs : es.Pairwise fun a b => leD a b = true) (hk : ∀ a ∈ ds, ∀ b ∈ ds, a.key' = b.key' → a = b) : es = sortD ds := by
  have m := List.mergeSort_perm ds leD
  refine List.Perm.eq_of_pairwise (le := fun a b => leD a b = true) (fun a b ha hb h1 h2 => ?_) hs (List.pairwise_mergeSort leD_tr leD_tot ds) (hp.trans m.symm)
  refine hk a (hp.subset ha) b (m.subset hb) ?_
  unfold leD at h1 h2
  rw [Bool.not_eq_true'] at h1 h2
  exact lexB_tot h2 h1
theorem RpL.perm {G : Gc} {F : Hp} {xs ys : List V} (h : ys.Perm xs) : ∀ {ds : List D}, RpL G F ds xs → ∃ es, es.Perm ds ∧ RpL G F es ys := by
  induction h with
  | nil => intro ds r; exact ⟨ds, List.Perm.refl _, r⟩
  | cons x p ih =>
    intro ds r
    cases r with
    | cons h1 r1 =>
      obtain ⟨es, q1, q2⟩ := ih r1
      exact ⟨_ :: es, List.Perm.cons _ q1, .cons h1 q2⟩
  | swap x y l =>
    intro ds r
    cases r with
    | cons h1 r1 =>
      cases r1 with
      | cons h2 r2 => exact ⟨_, List.Perm.swap _ _ _, .cons h2 (.cons h1 r2)⟩
  | trans p q ih1 ih2 =>
    intro ds r
    obtain ⟨es, q1, q2⟩ := ih2 r
    obtain ⟨fs, q3, q4⟩ := ih1 q2
    exact ⟨fs, q3.trans q1, q4⟩
end G
namespace G
open PySem L2
def D.isI : D → Bool
  | .int _ => true
  | _ => false
def allI (ds : List D) : Bool := ds.all D.isI
/-- sorted of a list of ints -/
def D.sortI : D → R D
  | .lst ds => if allI ds = true then .ok (.lst (sortD ds)) else .bad
  | _ => .bad
theorem allI_ints : ∀ {ds : List D} {G : Gc} {F : Hp} {vs : List V}, allI ds = true → RpL G F ds vs → ∃ ns : List Int, ds = ns.map D.int ∧ vs = ns.map V.int
  | [], _, _, _, _, .nil => ⟨[], rfl, rfl⟩
  | d :: ds, _, _, _, h, .cons h1 r => by
    have hd : allI ds = true := by unfold allI at h ⊢; rw [List.all_cons, Bool.and_eq_true] at h; exact h.2
    obtain ⟨ns, e1, e2⟩ := allI_ints hd r
    have h0 : d.isI = true := by unfold allI at h; rw [List.all_cons, Bool.and_eq_true] at h; exact h.1
    cases d with
    | int i => cases h1; exact ⟨i :: ns, by rw [e1]; rfl, by rw [e2]; rfl⟩
    | _ => cases h0
theorem ints_rp {G : Gc} {F : Hp} : ∀ ns : List Int, RpL G F (ns.map D.int) (ns.map V.int)
  | [] => .nil
  | n :: ns => .cons (.int n) (ints_rp ns)
theorem le_int {a b : Int} : leD (.int a) (.int b) = decide (a ≤ b) := by
  unfold leD D.key' lexB
  by_cases h : b = a
  · subst h; simp [lexB]
  · rw [if_neg h]
    by_cases h2 : a ≤ b
    · rw [decide_eq_true h2, decide_eq_false (by omega)]; rfl
    · rw [decide_eq_false h2, decide_eq_true (by omega)]; rfl
theorem sortI_ints {ns ns' : List Int} (hp : ns'.Perm ns) (hs : ns'.Pairwise (· ≤ ·)) : ns'.map D.int = sortD (ns.map D.int) := by
  refine sortD_eq (hp.map _) ?_ fun a ha b hb h => ?_
  · rw [List.pairwise_map]
    exact hs.imp fun {a b} h => by rw [le_int]; exact decide_eq_true h
  · obtain ⟨x, _, rfl⟩ := List.mem_map.mp ha
    obtain ⟨y, _, rfl⟩ := List.mem_map.mp hb
    have : x = y := by simpa [D.key'] using h
    rw [this]
section
variable {G : Gc} {W : WX}
theorem pu_sortI : PuCO G W (rSortedI G.K) (d1 D.sortI) := by
  refine pu_c1O (fun {B F0 F H o σ ρ Q v d} rel rv h => ?_)
  cases rv with
  | @lst a vs ds h1 r1 =>
    obtain ⟨c, h⟩ := Res.ifP h
    obtain ⟨ns, e1, e2⟩ := allI_ints c r1
    subst e1 e2
    refine ⟨a, ns, rfl, .inl (.inl (rel.core.fh _ _ h1)), fun ns' l hp hs hl => ?_⟩
    rw [← sortI_ints hp hs] at h
    exact h.newO rel hl (.lst upd_same (ints_rp ns'))
  | _ => exact h.elim
end
end G
/-! E2: sorted of lists of tuples of ints, of any lengths, the first of them the empty one (so that the tongue compares whole tuples). -/
namespace TpL
open PySem PySem.Spec PySem.W PyProof.Rows L2
/-- v is a tuple of these numbers -/
def IsTp (h : Heap) (v : Value) (ns : List Int) : Prop :=
  ∃ (a : Addr) (dd : Option Addr) (items : Array Value) (n : Nat) (sl : Array (Option Value)), v = .ref a ∧ h.get? a = some { cls := .type "tuple", dict := dd, data := .seq items n, slots := sl } ∧ IntsAre items.toList ns
theorem IsTp.keeps {h h' : Heap} {v : Value} {ns : List Int} (x : IsTp h v ns) (k : ∀ b o, v = .ref b → h.get? b = some o → h'.get? b = some o) : IsTp h' v ns := by
  obtain ⟨a, dd, items, n, sl, e, g, i⟩ := x
  exact ⟨a, dd, items, n, sl, e, k _ _ e g, i⟩
theorem IsTp.type {M : Model} {h : Heap} {v : Value} {ns : List Int} (x : IsTp h v ns) : Looks M h (typeOf v) (.type "tuple") := by
  obtain ⟨a, dd, items, n, sl, rfl, g, i⟩ := x
  exact (Looks.ld g).andThen .now
section
variable {prog : Program} {w : World} {A : Around} {E : Value → Shared → Prop} {s : Shared}
theorem lt_tp {v u : Value} {ns ms : List Int} {Q : Bool → Shared → Prop} (hu : A.units < cLine) (hv : IsTp s.heap v ns) (hw : IsTp s.heap u ms) (h : Q (HT.lexLt ns ms) s) : wpAny (model prog w) A (keyLt' oneType' v u) Q E s := by
  obtain ⟨a, dd, items, n, sl, rfl, ga, ia⟩ := hv
  obtain ⟨b, dd2, items2, n2, sl2, rfl, gb, ib⟩ := hw
  rw [keyLt'_oneType, oneLt'_eq]
  simp only [if_true]
  refine wpAny_bind (wpAny_cRoomFor hu ?_)
  refine wpAny_bind (wpAny_callSpecialIfBound?_slot (T := "tuple") ⟨_, ga, rfl⟩ F.slot_tuple_lt (call_meets F.slot_tuple_lt ⟨_, ga, rfl⟩ F.entry_tuple_lt (F.args_tuple_lt_2 _ _) (NtL.nt_lt_ints a b _ _ items items2 n n2 dd dd2 sl sl2 ns ms ia ib) ⟨ga, gb, fun M A' Q' E' s' k q => ?_, ?_⟩))
  · exact wpAny_isInstance (T := "tuple") (U := "tuple") ⟨_, k _ _ gb, rfl⟩ AutoSeq1.sub_tuple_tuple q
  · exact wpAny_truthy_bool h
/-- what list.sort looks at first -/
theorem kind_tp {vs : List Value} {k : Value → List Int} {Q : SortKind → Shared → Prop} (hv : ∀ v ∈ vs, IsTp s.heap v (k v)) (h1 : ∃ v r, vs = v :: r ∧ k v = []) (h : Q oneType' s) : wpAny (model prog w) A (keyKind' vs.toArray) Q E s := by
  obtain ⟨v0, r0, rfl, hk0⟩ := h1
  rw [kat_kind_eq, List.mapM_toArray, map_eq_pure_bind]
  have firsts : ∀ (l : List Value) {P : List (Option Value) → Shared → Prop}, (∀ v ∈ l, IsTp s.heap v (k v)) → (∀ fs : List (Option Value), (∀ v r, l = v :: r → k v = [] → ∃ gs, fs = none :: gs) → P fs s) → wpAny (model prog w) A (l.mapM firstOfTuple') P E s := by
    intro l
    induction l with
    | nil => intro P _ hP; rw [List.mapM_nil]; exact wpAny_pure (hP [] fun v r e => by cases e)
    | cons v l ih =>
      intro P hl hP
      rw [List.mapM_cons]
      have tv := (hl v (.head _)).type (M := model prog w)
      obtain ⟨a, dd, items, n, sl, rfl, ga, ia⟩ := hl v (.head _)
      rw [kas_first_eq]
      refine wpAny_bind (wpAny_bind (tv.here ?_))
      rw [if_neg (by first | decide | simp)]
      refine wpAny_bind (listItems_at ga rfl (wpAny_pure ?_))
      refine wpAny_bind (ih (fun u hu => hl u (.tail _ hu)) fun fs _ => wpAny_pure (hP _ fun v' r' e he => ?_))
      cases e
      rw [he] at ia
      have z : items.toList = [] := by cases hh : items.toList with
        | nil => rfl
        | cons _ _ => rw [hh] at ia; cases ia
      have z2 : items = #[] := by simpa using z
      subst z2
      exact ⟨fs, rfl⟩
  refine wpAny_bind (wpAny_bind (firsts _ hv fun fs hf => wpAny_pure ?_))
  obtain ⟨gs, rfl⟩ := hf v0 r0 rfl hk0
  rw [if_neg (by simp), if_neg (by simp)]
  rw [oneTypeOnly'_eq, List.mapM_toArray, map_eq_pure_bind]
  refine wpAny_bind (wpAny_bind (wpAny_bind (kas_mapM (r := Value.type "tuple") _ (fun v hm Q' hq => ((hv v hm).type (M := model prog w)).here hq) (wpAny_pure ?_))))
  have hall : ((List.map (fun _ => Value.type "tuple") (v0 :: r0)).toArray.all fun x => x == Value.type "tuple") = true := by simp
  have h0 : (List.map (fun _ => Value.type "tuple") (v0 :: r0)).toArray[0]? = some (Value.type "tuple") := by simp
  rw [h0]
  simp only [hall, if_true]
  exact wpAny_pure (wpAny_pure h)
/-- tuples none of which is empty: item by item -/
theorem lexK {b : Bool} {xs ys : List Value} {ns ms : List Int} {Q : Bool → Shared → Prop} (hx : IntsAre xs ns) : ∀ (i : Nat) {ys : List Value} {ms : List Int}, IntsAre ys ms → Q (HT.lexLt ns ms) s → KatLex prog w A b (decide (xs.length < ys.length)) Q (xs.zip ys) i s := by
  induction hx with
  | nil =>
    intro i ys ms hy h
    cases hy with
    | nil => exact kat_nil h
    | cons q u hy => exact kat_nil (by rw [decide_eq_true (by simp)]; exact h)
  | @cons p t xs ns hx ih =>
    intro i ys ms hy h
    cases hy with
    | nil => exact kat_nil (by rw [decide_eq_false (by simp)]; exact h)
    | @cons q u ys ms hy =>
      have el : decide ((Value.int p t :: xs).length < (Value.int q u :: ys).length) = decide (xs.length < ys.length) := by simp only [List.length_cons, Nat.add_lt_add_iff_right]
      rw [el, List.zip_cons_cons]
      refine kat_cons (wpAny_eqBool_int ?_)
      rw [HT.lexLt_cons] at h
      by_cases e : p = q
      · rw [if_pos e] at h
        rw [beq_iff_eq.mpr e]
        exact kat_yes (ih (i + 1) hy h)
      · rw [if_neg e] at h
        rw [show (p == q) = false from beq_eq_false_iff_ne.mpr e]
        exact kat_no (TS.oneLt_ints _ h)
theorem lt_tpN {v u : Value} {ns ms : List Int} {Q : Bool → Shared → Prop} (hv : IsTp s.heap v ns) (hw : IsTp s.heap u ms) (h : Q (HT.lexLt ns ms) s) : wpAny (model prog w) A (keyLt' (tuples' true) v u) Q E s := by
  obtain ⟨a, dd, items, n, sl, rfl, ga, ia⟩ := hv
  obtain ⟨c, dd2, items2, n2, sl2, rfl, gb, ib⟩ := hw
  refine kat_lt ga rfl gb rfl ?_
  have := lexK (prog := prog) (w := w) (A := A) (s := s) (b := true) (ys := []) (ms := []) (Q := Q) ia 0 ib h
  rwa [Array.length_toList, Array.length_toList] at this
theorem kind_tpN {vs : List Value} {k : Value → List Int} {Q : SortKind → Shared → Prop} (hv : ∀ v ∈ vs, IsTp s.heap v (k v)) (h1 : ∀ v ∈ vs, k v ≠ []) (h0 : vs ≠ []) (h : Q (tuples' true) s) : wpAny (model prog w) A (keyKind' vs.toArray) Q E s := by
  have key : ∀ l : List Value, (∀ v ∈ l, IsTp s.heap v (k v)) → (∀ v ∈ l, k v ≠ []) → ∃ fs : List Value, KatTups s.heap l fs ∧ fs.length = l.length ∧ ∀ f ∈ fs, ∃ n t, f = Value.int n t := by
    intro l
    induction l with
    | nil => intro _ _; exact ⟨[], KatTups.nil, rfl, fun _ q => nomatch q⟩
    | cons v l ih =>
      intro hl hk
      obtain ⟨fs, t, e, q⟩ := ih (fun x hx => hl x (.tail _ hx)) fun x hx => hk x (.tail _ hx)
      obtain ⟨a, dd, items, n, sl, rfl, ga, ia⟩ := hl v (.head _)
      have hne := hk _ (.head _)
      cases hi : items.toList with
      | nil => rw [hi] at ia; generalize k (Value.ref a) = z at ia hne; cases ia; exact absurd rfl hne
      | cons f r =>
        have hf : items[0]? = some f := by rw [← Array.getElem?_toList, hi]; rfl
        have hint : ∃ n t, f = Value.int n t := by
          rw [hi] at ia
          generalize k (Value.ref a) = z at ia hne
          cases ia
          exact ⟨_, _, rfl⟩
        exact ⟨f :: fs, KatTups.cons ga rfl rfl hf t, by rw [List.length_cons, List.length_cons, e], fun x hx => (List.mem_cons.mp hx).elim (fun z => by rw [z]; exact hint) (q x)⟩
  obtain ⟨fs, t, e, q⟩ := key vs hv h1
  refine kat_kind (T := .type "int") t (by rw [e]; exact List.length_pos_iff.mpr h0) (fun f hf => ?_) (by decide) (by exact h)
  obtain ⟨n, u, rfl⟩ := q f hf
  exact Looks.now
theorem tp_sortable {a : Addr} {vs : List Value} {k : Value → List Int} (hu : A.units < cLine) (hv : ∀ v ∈ vs, IsTp s.heap v (k v)) (h1 : (∃ v r, vs = v :: r ∧ k v = []) ∨ ((∀ v ∈ vs, k v ≠ []) ∧ vs ≠ [])) (ha : ∀ v ∈ vs, v ≠ .ref a) :
    SrtO.SortableO prog w A s a vs fun v u => HT.lexLt (k v) (k u) := by
  intro h' keep
  have hv' : ∀ v ∈ vs, IsTp h' v (k v) := fun v hm => (hv v hm).keeps fun b o e g => keep b o (fun z => ha v hm (by rw [e, z])) g
  rcases h1 with h1 | ⟨h1, h0⟩
  · refine ⟨oneType', fun Q E hq => kind_tp (s := { s with heap := h' }) hv' h1 hq, fun p q hp hq => ?_⟩
    exact lt_tp (s := { s with heap := h' }) (Q := fun r s' => s' = { s with heap := h' } ∧ r = HT.lexLt (k p.1) (k q.1)) (E := fun _ _ => False) hu (hv' p.1 hp) (hv' q.1 hq) ⟨rfl, rfl⟩
  · refine ⟨tuples' true, fun Q E hq => kind_tpN (s := { s with heap := h' }) hv' h1 h0 hq, fun p q hp hq => ?_⟩
    exact lt_tpN (s := { s with heap := h' }) (Q := fun r s' => s' = { s with heap := h' } ∧ r = HT.lexLt (k p.1) (k q.1)) (E := fun _ _ => False) (hv' p.1 hp) (hv' q.1 hq) ⟨rfl, rfl⟩
end
section
variable {prog : Program} {w : World} {A : Around} {E : Value → Shared → Prop} {s : Shared}
/-- sorted(l), l a list or a tuple -/
theorem sorted_seq {l : Addr} {T : String} {o : Obj} {n : Nat} {vs : List Value} {ltv : Value → Value → Bool} {Q : Value → Shared → Prop} (hT : T = "list" ∨ T = "tuple") (ho : s.heap.get? l = some o) (hc : o.cls = .type T) (hd : o.data = .seq vs.toArray n) (hz : vs.length ≤ sizeLine) (O : SrtO.Swo ltv)
    (hS : 2 ≤ vs.length → ∀ (h₁ : Heap) (a : Addr), h₁.get? a = some (seqObj "list" vs.toArray 0) → (∀ b o, s.heap.get? b = some o → b ≠ a ∧ h₁.get? b = some o) → SrtO.SortableO prog w A.in1.in1 { s with heap := h₁ } a vs ltv)
    (h : ∀ (h' : Heap) (d : Addr) (out : List Value), SrtO.Srtd ltv out → SrtO.Stb ltv out vs → (∀ b o, s.heap.get? b = some o → h'.get? b = some o) → s.heap.get? d = none → (∃ n, h'.get? d = some (seqObj "list" out.toArray n)) → Q (.ref d) { s with heap := h' }) :
    wpAny (model prog w) A (call (.builtin "sorted") [.ref l]) Q E s := by
  refine Calls.call_function_entry kind_sorted plain_sorted entry_sorted (args_sorted1 _) ?_
  unfold Builtin.«sorted»
  refine wpAny_bind (m := checkCount "sorted" 1 1 _) (wpAny_pure ?_)
  refine wpAny_bind (wpAny_collect_seq (T := T) l hT ho hc hd (fun h' keep => ?_) (by simpa using hz))
  rw [List.toList_toArray]
  refine wpAny_bind (wpAny_newList ?_ hz)
  have hoL : (h'.push (seqObj "list" vs.toArray 0)).get? h'.objs.size = some (seqObj "list" vs.toArray 0) := Heap.get?_push_size _ rfl
  have old : ∀ b o, s.heap.get? b = some o → b < h'.objs.size := fun b o q => Heap.lt_size (keep b o q)
  have keep1 : ∀ b o, s.heap.get? b = some o → b ≠ h'.objs.size ∧ (h'.push (seqObj "list" vs.toArray 0)).get? b = some o := fun b o q => ⟨Nat.ne_of_lt (old b o q), Heap.get?_push_of_some _ (keep b o q)⟩
  show wpAny _ _ _ _ _ { s with heap := h'.push (seqObj "list" vs.toArray 0) }
  refine wpAny_bind (wpAny_holding (wpAny_call_entry slot_list_sort ⟨_, hoL, rfl⟩ entry_list_sort (SrtO.list_sort_ord O hoL hz (fun h2 => hS h2 _ _ hoL keep1) fun out hs hb => ⟨_, rfl, ?_⟩) (args_list_sort _)))
  refine wpAny_pure ⟨_, rfl, h _ _ out hs hb (fun b o q => ?_) ?_ ?_⟩
  · rw [sortedHeap_old (Nat.ne_of_lt (old b o q)) (by rw [size_push']; exact Nat.lt_succ_of_lt (old b o q))]
    exact (keep1 b o q).2
  · cases q : s.heap.get? h'.objs.size with
    | none => rfl
    | some o' => exact absurd (old _ _ q) (Nat.lt_irrefl _)
  · exact sortedHeap_at hoL
end
theorem live {P : Program} {w : World} {H : Hp} {h : Heap} {a : Addr} {o : HO} (x : ObjOk P w H h a o) : ∃ u, h.get? a = some u := by
  cases o with
  | lst xs => obtain ⟨z, its, n, r, e⟩ := x; exact ⟨_, e⟩
  | tup xs => obtain ⟨z, its, r, ob, e, c⟩ := x; exact ⟨_, e⟩
  | dK kvs => obtain ⟨z, y, vs, r, ob, es, ep, e, c⟩ := x; exact ⟨_, e⟩
  | dT kvs => obtain ⟨z, y, xs, r, ob, es, ep, e, c⟩ := x; exact ⟨_, e⟩
  | set S n => obtain ⟨ob, es, ep, t, e, c⟩ := x; exact ⟨_, e⟩
  | ins C dx fs => obtain ⟨d, z, ne, e, mA, ⟨od, es, ep, e2, c⟩, r⟩ := x; exact ⟨_, e⟩
  | own y => obtain ⟨ob, e⟩ := x; exact ⟨_, e⟩
  | xd fs => obtain ⟨mA, ⟨od, es, ep, e, c⟩, r⟩ := x; exact ⟨_, e⟩
  | rng lo hi => obtain ⟨t, u, v, e⟩ := x; exact ⟨_, e⟩
  | frz ob u => obtain ⟨e, q⟩ := x; exact ⟨_, e⟩
  | tbl ps => exact ⟨_, x⟩
  | met f y => exact ⟨_, x⟩
  | ext φ => obtain ⟨p, ⟨o, e⟩, st⟩ := x; exact ⟨_, e⟩
theorem none_of {P : Program} {w : World} {H : Hp} {h : Heap} {a : Addr} (x : HOk P w H h) (e : h.get? a = none) : H a = none := by
  cases q : H a with
  | none => rfl
  | some u => obtain ⟨o, z⟩ := live (x a u q); rw [e] at z; cases z
/-- a list or a tuple -/
abbrev SqA (K : Frag) (H : Hp) (a : Addr) (xs : List V) : Prop := SqL K H a xs ∨ SqT K H a xs
section
variable {X : Cx} {pins : List (Addr × Obj)} {σ : L2.St} {H : Hp} {s : Shared}
theorem sqA_of {a : Addr} {xs : List V} (I : Inv X pins σ H s) (h : SqA X.K H a xs) : ∃ (its : List Value) (T : String) (o : Obj) (n : Nat), Vals xs its ∧ (T = "list" ∨ T = "tuple") ∧ s.heap.get? a = some o ∧ o.cls = .type T ∧ o.data = .seq its.toArray n ∧ xs.length ≤ sizeLine := by
  rcases h with h | h
  · obtain ⟨its, rv, ⟨o, n, e, hc, _, hd⟩, hz⟩ := I.list h
    exact ⟨its, _, o, n, rv, .inl rfl, e, hc, hd, hz⟩
  · obtain ⟨its, rv, ⟨o, e, hc, n, hd⟩, hz⟩ := I.tuple h
    exact ⟨its, _, o, n, rv, .inr rfl, e, hc, hd, hz⟩
end
/-- sorted(xs), xs a list or a tuple of ints -/
def rSoI (K : Frag) : List V → Hp → VK → Prop := fun vs H Q => ∃ (a : Addr) (ns : List Int), vs = [V.ref a] ∧ SqA K H a (ns.map V.int) ∧
  ∀ (ns' : List Int) (p : Addr), ns'.Perm ns → ns'.Pairwise (· ≤ ·) → H p = none → Q (.ref p) (upd H p (.lst (ns'.map V.int)))
/-- sorted(xs), xs a list or a tuple of tuples of ints, the first one empty -/
def rSoT (K : Frag) : List V → Hp → VK → Prop := fun vs H Q => ∃ (a : Addr) (xs : List V) (k : V → List Int), vs = [V.ref a] ∧ SqA K H a xs ∧ (∀ x ∈ xs, ∃ t, x = V.ref t ∧ H t = some (.tup ((k x).map V.int))) ∧ (2 ≤ xs.length → (∃ x r, xs = x :: r ∧ k x = []) ∨ ∀ x ∈ xs, k x ≠ []) ∧
  ∀ ys p, ys.Perm xs → ys.Pairwise (fun x y => HT.lexLt (k y) (k x) = false) → H p = none → Q (.ref p) (upd H p (.lst ys))
section
variable {X : Cx}
theorem cr_soI : CallR X (.builtin "sorted") (rSoI X.K) := by
  intro pins s σ H vs us Q I r h
  obtain ⟨a, ns, rfl, hs, q⟩ := h
  obtain ⟨its, T, o, n, rv, hT, ho, hc, hd, hz⟩ := sqA_of I hs
  rw [Vals.ref1 r]
  have hi := rv.ints
  refine sorted_seq hT ho hc hd (by rw [← rv.length]; exact hz) SrtO.swo_int (fun h2 h₁ a' _ _ => SrtO.ints_sortable hi h2) fun h' d out h1 h2 kp hd he => ?_
  obtain ⟨k1, k2, k3⟩ := SrtO.ints_out hi h1 h2
  obtain ⟨ep, he'⟩ := he
  have hlen : ((out.map SrtO.iv).map V.int).length ≤ sizeLine := by
    rw [List.length_map, k2.length_eq]
    rw [List.length_map] at hz
    exact hz
  have hn := none_of I.hok hd
  exact ⟨.ref d, upd H d (.lst ((out.map SrtO.iv).map V.int)), I.laidN (t' := s.toks) kp hd hn ⟨hlen, out, ep, vals_of_ints k1, he'⟩, rfl, q _ _ k2 k3 hn⟩
theorem cr_soT (hu : X.A.units + 65 < cLine) : CallR X (.builtin "sorted") (rSoT X.K) := by
  intro pins s σ H vs us Q I r h
  obtain ⟨a, xs, k, rfl, hs, hx, h1, q⟩ := h
  obtain ⟨its, T, o, n, rv, hT, ho, hc, hd, hz⟩ := sqA_of I hs
  rw [Vals.ref1 r]
  obtain ⟨e1, e2⟩ := refs_back rv fun x m => by
    obtain ⟨t, e, _⟩ := hx x m
    exact ⟨t, e⟩
  have hv : ∀ v ∈ its, IsTp s.heap v (k (backV v)) := fun v hv => by
    obtain ⟨t, rfl⟩ := e2 v hv
    have hm : V.ref t ∈ xs := by rw [e1]; exact List.mem_map.mpr ⟨_, hv, rfl⟩
    obtain ⟨t', e, ht⟩ := hx _ hm
    cases e
    obtain ⟨_, its2, r2, o2, ho2, hc2, n2, hd2⟩ := I.hok _ _ ht
    obtain ⟨c2, dd, da, sl⟩ := o2
    simp only at hc2 hd2
    subst hc2 hd2
    exact ⟨t, dd, _, n2, sl, rfl, ho2, by simpa [backV] using r2.ints⟩
  refine sorted_seq hT ho hc hd (by rw [← rv.length]; exact hz) (NtL.swo_lexL fun u => k (backV u)) (fun h2 h₁ a' ha' kk => ?_) fun h' d out h3 h4 kp hd he => ?_
  · refine tp_sortable (s := { s with heap := h₁ }) (by first | (show X.A.units + 1 + 1 < cLine; omega) | (show X.A.units + 2 < cLine; omega) | (show X.A.units < cLine; omega) | (simp [Around.in1]; omega)) (fun v hm => (hv v hm).keeps fun b o _ e => (kk b o e).2) ?_ fun v hm => ?_
    · rcases h1 (by rw [rv.length]; exact h2) with ⟨x, r, e, hk⟩ | hk
      · left
        cases its with
        | nil => cases rv; cases e
        | cons v its' =>
          rw [e1] at e
          cases e
          exact ⟨v, its', rfl, hk⟩
      · right
        refine ⟨fun v hv2 => hk _ (by rw [e1]; exact List.mem_map.mpr ⟨v, hv2, rfl⟩), fun z => ?_⟩
        rw [z] at h2
        simp at h2
    · obtain ⟨b, dd, items, n3, sl, e, g, _⟩ := hv v hm
      rw [e]
      intro z
      cases z
      exact (kk _ _ g).1 rfl
  · have h5 : ∀ u ∈ out, ∃ a, u = Value.ref a := fun u hu => e2 u (h4.perm.mem_iff.mp hu)
    obtain ⟨n, hn⟩ := he
    have hp : (out.map backV).Perm xs := by rw [e1]; exact h4.perm.map _
    have hno := none_of I.hok hd
    refine ⟨.ref d, upd H d (.lst (out.map backV)), I.laidN (t' := s.toks) kp hd hno ⟨?_, out, n, vals_back h5, hn⟩, rfl, q _ d hp (List.pairwise_map.mpr h3) hno⟩
    rw [hp.length_eq]
    exact hz
end
end TpL
/-! S15: sorted, plain. -/
namespace G
open PySem L2 TpL
theorem lexLt_eq : ∀ xs ys : List Int, HT.lexLt xs ys = lexB xs ys
  | [], [] => by rw [HT.lexLt_nil_nil]; rfl
  | [], _ :: _ => by rw [HT.lexLt_nil_cons]; rfl
  | _ :: _, [] => by rw [HT.lexLt_cons_nil]; rfl
  | x :: xs, y :: ys => by
    rw [HT.lexLt_cons, lexLt_eq xs ys]
    rfl
/-- a list's or a tuple's items -/
def D.items : D → Option (List D)
  | .lst ds => some ds
  | .tup ds => some ds
  | _ => none
def D.isTI : D → Bool
  | .tup ds => allI ds
  | _ => false
def D.isP : D → Bool
  | .tup [.int _, .int _] => true
  | _ => false
def D.sortI' (d : D) : R D := match d.items with
  | some ds => if allI ds = true then .ok (.lst (sortD ds)) else .bad
  | none => .bad
def headE : List D → Bool
  | d :: _ :: _ => d.key' == []
  | _ => true
def D.sortT (d : D) : R D := match d.items with
  | some ds => if (ds.all D.isTI && (headE ds || ds.all fun d => d.key' != [])) = true then .ok (.lst (sortD ds)) else .bad
  | none => .bad
def D.sortP : D → R D
  | .lst ds => if ds.all D.isP = true then .ok (.lst (sortD ds)) else .bad
  | _ => .bad
def intV : V → Option Int
  | .int i => some i
  | _ => none
def kF (F : Hp) : V → List Int
  | .ref t => match F t with
    | some (.tup vs) => vs.filterMap intV
    | _ => []
  | _ => []
theorem filt_ints : ∀ ns : List Int, (ns.map V.int).filterMap intV = ns
  | [] => rfl
  | n :: ns => by rw [List.map_cons, List.filterMap_cons]; show n :: _ = _; rw [filt_ints ns]
theorem ints_mapD : ∀ ns : List Int, D.ints (ns.map D.int) = some ns
  | [] => rfl
  | n :: ns => by
    show D.ints (D.int n :: ns.map D.int) = _
    unfold D.ints
    rw [ints_mapD ns]
    rfl
section
variable {G : Gc} {W : WX} {F : Hp}
theorem tI_of {d : D} {v : V} (h : d.isTI = true) (r : Rp G F d v) : ∃ t, v = .ref t ∧ F t = some (.tup ((kF F v).map V.int)) ∧ kF F v = d.key' ∧ d = .tup ((kF F v).map D.int) := by
  cases r with
  | @tup a vs ds h1 r1 =>
    obtain ⟨ns, e1, e2⟩ := allI_ints h r1
    subst e1 e2
    have ek : kF F (.ref a) = ns := by
      show (match F a with | some (.tup vs) => vs.filterMap intV | _ => []) = ns
      rw [h1]
      exact filt_ints ns
    rw [ek]
    refine ⟨a, rfl, h1, ?_, rfl⟩
    show ns = (D.ints (ns.map D.int)).getD []
    rw [ints_mapD]; rfl
  | _ => cases h
theorem keys_of : ∀ {ds : List D} {vs : List V}, ds.all D.isTI = true → RpL G F ds vs → vs.map (kF F) = ds.map D.key'
  | [], _, _, .nil => rfl
  | d :: ds, _, h, .cons h1 r => by
    rw [List.all_cons, Bool.and_eq_true] at h
    obtain ⟨t, _, _, e, _⟩ := tI_of h.1 h1
    rw [List.map_cons, List.map_cons, keys_of h.2 r, e]
theorem mem_of : ∀ {ds : List D} {vs : List V} {v : V}, RpL G F ds vs → v ∈ vs → ∃ d, d ∈ ds ∧ Rp G F d v
  | _, _, _, .nil, h => by cases h
  | _ :: _, _, _, .cons h1 r, h => by
    rcases List.mem_cons.mp h with e | h
    · subst e; exact ⟨_, .head _, h1⟩
    · obtain ⟨d, q1, q2⟩ := mem_of r h
      exact ⟨d, .tail _ q1, q2⟩
theorem sortT_out {ds : List D} {xs ys : List V} (h : ds.all D.isTI = true) (r : RpL G F ds xs) (hp : ys.Perm xs) (hs : ys.Pairwise fun x y => lexB (kF F y) (kF F x) = false) : RpL G F (sortD ds) ys := by
  obtain ⟨es, q1, q2⟩ := RpL.perm hp r
  have he : es.all D.isTI = true := by
    rw [List.all_eq_true] at h ⊢
    exact fun d hd => h d (q1.mem_iff.mp hd)
  have k := keys_of he q2
  have s1 : (ys.map (kF F)).Pairwise fun a b => lexB b a = false := List.pairwise_map.mpr hs
  rw [k] at s1
  have s2 := List.pairwise_map.mp s1
  have e := sortD_eq q1 (s2.imp fun {a b} z => by unfold leD; rw [z]; rfl) fun a ha b hb hk => by
    rw [List.all_eq_true] at h
    have ia := h a ha
    have ib := h b hb
    cases a with
    | tup as =>
      cases b with
      | tup bs =>
        have key : ∀ cs : List D, allI cs = true → ∃ ns : List Int, cs = ns.map D.int := fun cs => by
          induction cs with
          | nil => exact fun _ => ⟨[], rfl⟩
          | cons c cs ih =>
            intro z
            unfold allI at z
            rw [List.all_cons, Bool.and_eq_true] at z
            obtain ⟨ns, e⟩ := ih z.2
            cases c with
            | int i => exact ⟨i :: ns, by rw [e]; rfl⟩
            | _ => cases z.1
        obtain ⟨ns, e1⟩ := key as ia
        obtain ⟨ms, e2⟩ := key bs ib
        subst e1 e2
        have z : (D.ints (ns.map D.int)).getD [] = (D.ints (ms.map D.int)).getD [] := hk
        rw [ints_mapD, ints_mapD] at z
        rw [show ns = ms from z]
      | _ => cases ib
    | _ => cases ia
  rw [← e]
  exact q2
theorem items_of {B F0 F H : Hp} {o : List Nat} {σ : L2.St} {ρ : Env} {d : D} {v : V} {ds : List D} (rel : Rel G B F0 F H o σ ρ) (rv : Rp G F d v) (h : d.items = some ds) : ∃ a vs, v = .ref a ∧ SqA G.K H a vs ∧ RpL G F ds vs := by
  cases rv with
  | @lst a vs ds h1 r1 => cases h; exact ⟨a, vs, rfl, .inl (.inl (.inl (rel.core.fh _ _ h1))), r1⟩
  | @tup a vs ds h1 r1 => cases h; exact ⟨a, vs, rfl, .inr (.inl (.inl (rel.core.fh _ _ h1))), r1⟩
  | _ => cases h
theorem pu_sortI' : PuCO G W (rSoI G.K) (d1 D.sortI') := by
  refine pu_c1O (fun {B F0 F H o σ ρ Q v d} rel rv h => ?_)
  unfold D.sortI' at h
  cases hd : d.items with
  | none => rw [hd] at h; exact h.elim
  | some ds =>
    rw [hd] at h
    obtain ⟨c, h⟩ := Res.ifP h
    obtain ⟨a, vs, rfl, hs, r1⟩ := items_of rel rv hd
    obtain ⟨ns, e1, e2⟩ := allI_ints c r1
    subst e1 e2
    refine ⟨a, ns, rfl, hs, fun ns' l hp hso hl => ?_⟩
    rw [← sortI_ints hp hso] at h
    exact h.newO rel hl (.lst upd_same (ints_rp ns'))
theorem pu_sortT : PuCO G W (rSoT G.K) (d1 D.sortT) := by
  refine pu_c1O (fun {B F0 F H o σ ρ Q v d} rel rv h => ?_)
  unfold D.sortT at h
  cases hd : d.items with
  | none => rw [hd] at h; exact h.elim
  | some ds =>
    rw [hd] at h
    obtain ⟨c, h⟩ := Res.ifP h
    obtain ⟨ca, ch⟩ := (Bool.and_eq_true _ _).mp c
    obtain ⟨a, vs, rfl, hs, r1⟩ := items_of rel rv hd
    refine ⟨a, vs, kF F, rfl, hs, fun x hx => ?_, fun h2 => ?_, fun ys l hp hso hl => ?_⟩
    · obtain ⟨d, m, rd⟩ := mem_of r1 hx
      obtain ⟨t, e, f, _, _⟩ := tI_of (List.all_eq_true.mp ca d m) rd
      exact ⟨t, e, rel.core.fh _ _ f⟩
    · rcases (Bool.or_eq_true _ _).mp ch with ch | ch
      · left
        cases r1 with
        | nil => cases h2
        | @cons d v ds vs q1 q2 =>
          refine ⟨v, vs, rfl, ?_⟩
          obtain ⟨t, e, f, ek, _⟩ := tI_of (List.all_eq_true.mp ca d (.head _)) q1
          rw [ek]
          cases q2 with
          | nil => exact absurd h2 (by simp)
          | cons _ _ => exact eq_of_beq ch
      · right
        intro x hx
        obtain ⟨d, m, rd⟩ := mem_of r1 hx
        obtain ⟨t, e, f, ek, _⟩ := tI_of (List.all_eq_true.mp ca d m) rd
        rw [ek]
        have z := List.all_eq_true.mp ch d m
        intro q
        rw [q] at z
        cases z
    · exact h.newO rel hl (.lst upd_same (sortT_out ca r1 hp (hso.imp fun {x y} z => by rw [← lexLt_eq]; exact z)))
theorem pu_sortP : PuCO G W (rSortedPO G.K) (d1 D.sortP) := by
  refine pu_c1O (fun {B F0 F H o σ ρ Q v d} rel rv h => ?_)
  cases rv with
  | @lst a vs ds h1 r1 =>
    obtain ⟨c, h⟩ := Res.ifP h
    have ca : ds.all D.isTI = true := by
      rw [List.all_eq_true] at c ⊢
      intro d hd
      have z := c d hd
      unfold D.isP at z
      split at z
      · rfl
      · cases z
    refine ⟨a, vs, fun v => ((kF F v).getD 0 0, (kF F v).getD 1 0), rfl, .inl (.inl (rel.core.fh _ _ h1)), fun x hx => ?_, fun ys l hs hb hl => ?_⟩
    · obtain ⟨d, m, rd⟩ := mem_of r1 hx
      have z := List.all_eq_true.mp c d m
      obtain ⟨t, e, f, _, ed⟩ := tI_of (List.all_eq_true.mp ca d m) rd
      refine ⟨t, e, ?_⟩
      rw [ed] at z
      have f' := rel.core.fh _ _ f
      show H t = some (.tup [.int ((kF F x).getD 0 0), .int ((kF F x).getD 1 0)])
      generalize kF F x = ks at z f'
      match ks, z, f' with
      | [i, j], _, f' => exact f'
    · refine h.newO rel hl (.lst upd_same (sortT_out ca r1 hb.perm ?_))
      have two : ∀ y ∈ ys, ∃ i j, kF F y = [i, j] := fun y hy => by
        obtain ⟨d, m, rd⟩ := mem_of r1 (hb.perm.mem_iff.mp hy)
        have z := List.all_eq_true.mp c d m
        obtain ⟨t, e, f, _, ed⟩ := tI_of (List.all_eq_true.mp ca d m) rd
        rw [ed] at z
        generalize hk : kF F y = ks at z
        match ks, z with
        | [i, j], _ => exact ⟨i, j, rfl⟩
      refine List.Pairwise.imp_of_mem (fun {x y} hx hy z => ?_) hs
      obtain ⟨i, j, e1⟩ := two x hx
      obtain ⟨k, l, e2⟩ := two y hy
      have z' : SrtO.lexB ((kF F y).getD 0 0, (kF F y).getD 1 0) ((kF F x).getD 0 0, (kF F x).getD 1 0) = false := z
      rw [e1, e2] at z' ⊢
      have q := SrtO.lexB_no.mp z'
      simp only [List.getD_cons_zero, List.getD_cons_succ] at q
      unfold lexB
      by_cases h1 : k = i
      · rw [if_pos h1]
        unfold lexB
        by_cases h2 : l = j
        · rw [if_pos h2]; rfl
        · rw [if_neg h2]
          exact decide_eq_false (by omega)
      · rw [if_neg h1]
        exact decide_eq_false (by omega)
  | _ => exact h.elim
end
end G
/-! S16: range as a value, [::-1], list.remove, a comprehension over what is lent. -/
namespace G
open PySem L2
def rgC (a b : Int) : Bool := rangeOk a b && decide ((b - a).toNat ≤ 2 ^ 24)
theorem rgC_of {a b : Int} (h : rgC a b = true) : RgOk a b := by
  unfold rgC at h
  rw [Bool.and_eq_true] at h
  obtain ⟨h1, h2, h3, h4⟩ := rangeOk_of h.1
  exact ⟨h1, h2, h3, h4, of_decide_eq_true h.2⟩
theorem rg_rp {G : Gc} {F : Hp} (a b : Int) : RpL G F (rangeD a b) (rgV a b) := by
  unfold rangeD rgV
  generalize (b - a).toNat = n
  generalize List.range n = l
  induction l with
  | nil => exact .nil
  | cons x l ih => exact .cons (.int _) ih
def dRgT (a b : Int) : R D := if rgC a b = true then .ok (.tup (rangeD a b)) else .bad
def dRgL (a b : Int) : R D := if rgC a b = true then .ok (.lst (rangeD a b)) else .bad
def mRg1 (f : Int → Int → R D) (m : Env → R D) : Env → R D := fun ρ => (m ρ).bind fun x => match x with
  | .int n => f 0 n
  | _ => .bad
def mRg2 (f : Int → Int → R D) (m n : Env → R D) : Env → R D := fun ρ => (m ρ).bind fun x => (n ρ).bind fun y => match x, y with
  | .int i, .int j => f i j
  | _, _ => .bad
section
variable {G : Gc} {W : WX} {o o1 o2 oL : List Nat} {ta tb : TE} {ma mb : Env → R D}
theorem PuE.tupRg1 (ha : PuE G W o ta o1 ma) : PuE G W o (tTupRg (tRg1 ta)) o1 (mRg1 dRgT ma) := by
  intro B F0 F H σ ρ Q rel h
  refine ha rel ((Res.bnd h).imp fun d F1 H1 e1 r1 q v rv => ?_)
  cases rv with
  | int n =>
    obtain ⟨c, q⟩ := Res.ifP q
    exact ⟨n, rfl, rgC_of c, fun p hp => q.new r1 hp fun F' le e => .tup e (rg_rp 0 n)⟩
  | _ => exact q.elim
theorem PuE.tupRg2 (ha : PuE G W o ta o1 ma) (hb : PuE G W o1 tb o2 mb) : PuE G W o (tTupRg (tRg2 ta tb)) o2 (mRg2 dRgT ma mb) := by
  intro B F0 F H σ ρ Q rel h
  refine ha rel ((Res.bnd h).imp fun d F1 H1 e1 r1 q v rv => ?_)
  refine hb r1 ((Res.bnd q).imp fun d2 F2 H2 e2 r2 q w rw => ?_)
  cases rv with
  | int i =>
    cases rw with
    | int j =>
      obtain ⟨c, q⟩ := Res.ifP q
      exact ⟨i, j, rfl, rfl, rgC_of c, fun p hp => q.new r2 hp fun F' le e => .tup e (rg_rp i j)⟩
    | _ => exact q.elim
  | _ => cases rw <;> exact q.elim
theorem PuO.lstRg1 (ha : PuE G W o ta o1 ma) : PuO G W o (tLstRg (tRg1 ta)) o1 (mRg1 dRgL ma) := by
  intro B F0 F H σ ρ Q rel h
  refine ha rel ((Res.bnd h).imp fun d F1 H1 e1 r1 q v rv => ?_)
  cases rv with
  | int n =>
    obtain ⟨c, q⟩ := Res.ifP q
    exact ⟨n, rfl, rgC_of c, fun p hp => q.newO r1 hp (.lst upd_same (rg_rp 0 n))⟩
  | _ => exact q.elim
theorem PuO.lstRg2 (ha : PuE G W o ta o1 ma) (hb : PuE G W o1 tb o2 mb) : PuO G W o (tLstRg (tRg2 ta tb)) o2 (mRg2 dRgL ma mb) := by
  intro B F0 F H σ ρ Q rel h
  refine ha rel ((Res.bnd h).imp fun d F1 H1 e1 r1 q v rv => ?_)
  refine hb r1 ((Res.bnd q).imp fun d2 F2 H2 e2 r2 q w rw => ?_)
  cases rv with
  | int i =>
    cases rw with
    | int j =>
      obtain ⟨c, q⟩ := Res.ifP q
      exact ⟨i, j, rfl, rfl, rgC_of c, fun p hp => q.newO r2 hp (.lst upd_same (rg_rp i j))⟩
    | _ => exact q.elim
  | _ => cases rw <;> exact q.elim
theorem RpL.rev {F : Hp} {ds : List D} {vs : List V} (h : RpL G F ds vs) : RpL G F ds.reverse vs.reverse := by
  have go : ∀ {ds : List D} {vs : List V}, RpL G F ds vs → RpL G F ds.reverse vs.reverse := fun {ds} => by
    induction ds with
    | nil => intro vs r; cases r; exact .nil
    | cons d ds ih =>
      intro vs r
      cases r with
      | cons h1 r1 => rw [List.reverse_cons, List.reverse_cons]; exact (ih r1).append (.cons h1 .nil)
  exact go h
def D.revL : D → R D
  | .lst ds => .ok (.lst ds.reverse)
  | .scr ds => .ok (.lst ds.reverse)
  | _ => .bad
theorem PuO.revL (ha : PuE G W o ta o1 ma) : PuO G W o (tRevL G.K ta) o1 (m1 D.revL ma) := by
  intro B F0 F H σ ρ Q rel h
  refine ha rel ((Res.bnd h).imp fun d F1 H1 e1 r1 q v rv => ?_)
  cases rv with
  | @lst a vs ds h1 r2 => exact ⟨a, vs, rfl, .inl (.inl (r1.core.fh _ _ h1)), fun p hp => q.newO r1 hp (.lst upd_same (RpL.rev r2))⟩
  | @scr a vs ds h1 r2 => exact ⟨a, vs, rfl, r1.sqL h1, fun p hp => q.newO r1 hp (.lst upd_same (RpL.rev r2))⟩
  | _ => exact q.elim
end
section
variable {Γ : Gc} {X : Cx} [hG : HG Γ X] {W : WX} {o o1 o2 oL : List Nat} {a b c e elt tg iter : Expr} {ifs : List Expr} {x : Str} {p p2 pos py spos : Pos} {ta tb te : TE} {ma mb me : Env → R D} {wi : TI} {g : TG} {mi : Env → R (List D)} {mg : D → Env → R Env} {tt : TT} {mt : Env → R Bool}
theorem me_tupRg1 (hr : X.mg "range" = none) (ht : X.mg "tuple" = none) (hc : X.calm = true) (ha : ME Γ X W o a o1 ta ma) (hg : Gl X "range" := by rfl) (hg2 : Gl X "tuple" := by rfl) (na : starEach [a] X.env = (false, eval a X.env) :: starEach [] X.env := by rfl) (nb : starEach [.Call (.Name "range" p) [a] [] pos] X.env = (false, eval (.Call (.Name "range" p) [a] [] pos) X.env) :: starEach [] X.env := by rfl) :
    ME Γ X W o (.Call (.Name "tuple" p2) [.Call (.Name "range" p) [a] [] pos] [] py) o1 (tTupRg (tRg1 ta)) (mRg1 dRgT ma) := by
  obtain ⟨eG⟩ := hG
  subst eG
  exact ⟨pe_tupRg hc hg2 ht (prg_1 hg hr ha.pe na) nb, PuE.tupRg1 ha.pu⟩
theorem mo_lstRg1 (hr : X.mg "range" = none) (ht : X.mg "list" = none) (hc : X.calm = true) (ha : ME Γ X W o a o1 ta ma) (hg : Gl X "range" := by rfl) (hg2 : Gl X "list" := by rfl) (na : starEach [a] X.env = (false, eval a X.env) :: starEach [] X.env := by rfl) (nb : starEach [.Call (.Name "range" p) [a] [] pos] X.env = (false, eval (.Call (.Name "range" p) [a] [] pos) X.env) :: starEach [] X.env := by rfl) :
    MO Γ X W o (.Call (.Name "list" p2) [.Call (.Name "range" p) [a] [] pos] [] py) o1 (tLstRg (tRg1 ta)) (mRg1 dRgL ma) := by
  obtain ⟨eG⟩ := hG
  subst eG
  exact ⟨pe_listRg hc hg2 ht (prg_1 hg hr ha.pe na) nb, PuO.lstRg1 ha.pu⟩
theorem me_tupRg2 (hr : X.mg "range" = none) (ht : X.mg "tuple" = none) (hc : X.calm = true) (ha : ME Γ X W o a o1 ta ma) (hb : ME Γ X W o1 b o2 tb mb) (hg : Gl X "range" := by rfl) (hg2 : Gl X "tuple" := by rfl) (na : starEach [a, b] X.env = (false, eval a X.env) :: starEach [b] X.env := by rfl) (nc : starEach [b] X.env = (false, eval b X.env) :: starEach [] X.env := by rfl) (nd : (backTo pos (starEach [b] X.env)).any (·.1) = false := by rfl) (nb : starEach [.Call (.Name "range" p) [a, b] [] pos] X.env = (false, eval (.Call (.Name "range" p) [a, b] [] pos) X.env) :: starEach [] X.env := by rfl) :
    ME Γ X W o (.Call (.Name "tuple" p2) [.Call (.Name "range" p) [a, b] [] pos] [] py) o2 (tTupRg (tRg2 ta tb)) (mRg2 dRgT ma mb) := by
  obtain ⟨eG⟩ := hG
  subst eG
  exact ⟨pe_tupRg hc hg2 ht (prg_2 hg hr ha.pe hb.pe na nc nd) nb, PuE.tupRg2 ha.pu hb.pu⟩
theorem mo_lstRg2 (hr : X.mg "range" = none) (ht : X.mg "list" = none) (hc : X.calm = true) (ha : ME Γ X W o a o1 ta ma) (hb : ME Γ X W o1 b o2 tb mb) (hg : Gl X "range" := by rfl) (hg2 : Gl X "list" := by rfl) (na : starEach [a, b] X.env = (false, eval a X.env) :: starEach [b] X.env := by rfl) (nc : starEach [b] X.env = (false, eval b X.env) :: starEach [] X.env := by rfl) (nd : (backTo pos (starEach [b] X.env)).any (·.1) = false := by rfl) (nb : starEach [.Call (.Name "range" p) [a, b] [] pos] X.env = (false, eval (.Call (.Name "range" p) [a, b] [] pos) X.env) :: starEach [] X.env := by rfl) :
    MO Γ X W o (.Call (.Name "list" p2) [.Call (.Name "range" p) [a, b] [] pos] [] py) o2 (tLstRg (tRg2 ta tb)) (mRg2 dRgL ma mb) := by
  obtain ⟨eG⟩ := hG
  subst eG
  exact ⟨pe_listRg hc hg2 ht (prg_2 hg hr ha.pe hb.pe na nc nd) nb, PuO.lstRg2 ha.pu hb.pu⟩
theorem mo_revL {k : Nat} {p1 p3 : Pos} (ha : ME Γ X W o e o1 ta ma) : MO Γ X W o (.Subscript e (.Slice none none (some (.UnaryOp .USub (.Constant (.int 1) k p1) p2)) p3) pos) o1 (tRevL Γ.K ta) (m1 D.revL ma) := by
  obtain ⟨eG⟩ := hG
  subst eG
  exact ⟨pe_revL ha.pe, PuO.revL ha.pu⟩
theorem m_remove : Mtd Γ X "list" "remove" "list.remove" rRemI dRemove := ⟨PySem.F.plainAttrs_list, PySem.F.slot_list_remove, PySem.F.type_list_remove, mt_remove, pm_remove⟩
/-- .. where an own slot is lent to the comprehension -/
theorem ms_setLcB (i : Nat) {scope : Scope} (s0 : Shared) (H0 : Hp) (j : Nat) (own : List (Str × Nat)) (hc : X.calm = true) (hN : X.N.Nodup) (hi : MI Γ X W (o.filter (· != j)) tg iter (o.filter (· != j)) wi mi) (ok : blkC X.N X.env.scope scope own = true)
    (hg : ∀ (s : Shared) (H : Hp) (C : Addr) (cl : List (Str × Addr)) (fp : List Addr), MG Γ (B0 X scope s H C cl fp) (o.filter (· != j)) tg (o.filter (· != j)) g mg)
    (ht : ∀ (s : Shared) (H : Hp) (C : Addr) (cl : List (Str × Addr)) (fp : List Addr), MTs Γ (B0 X scope s H C cl fp) WN (o.filter (· != j)) ifs tt mt)
    (he : ∀ (s : Shared) (H : Hp) (C : Addr) (cl : List (Str × Addr)) (fp : List Addr), ME Γ (B0 X scope s H C cl fp) WN (o.filter (· != j)) elt (o.filter (· != j)) te me)
    (hw : GW g mg (own.map (·.2))) (hj : j ∈ o := by decide) (hv : ∀ i, i ∈ own.map (·.2) → i ∉ (o.filter (· != j)) := by decide) (hs : ∀ x, foldedSetIterable iter X.env x = pure x := by intro _; rfl) 
    (hy : X.N[i]? = some x := by rfl) (hyl : X.env.scope.names.lookup x = some .local := by rfl) (hsw : swapsWith (.ListComp elt [⟨tg, iter, ifs, 0⟩] scope pos) (some (.Name x py)) spos.line X.env = pure true := by rfl) :
    MS Γ X W oL o (.Assign [.Name x py] (.ListComp elt [⟨tg, iter, ifs, 0⟩] scope pos) spos) (i :: o.filter (· != i)) (tAsg (tLc wi g tt te (own.map (·.2))) (gName i)) (mSet i (mScalL (mLc (own.map (·.2)) mi mg mt me))) := by
  obtain ⟨eG⟩ := hG
  subst eG
  exact ⟨ps_setLc hc hN hy hyl hsw hi.pe (blkOk_by ok) (fun s H C cl fp => (hg s H C cl fp).pe) (fun s H C cl fp => (ht s H C cl fp).pe) (fun s H C cl fp => (he s H C cl fp).pe) hs,
    PuS.setO (PuO.borrow j hj (PuO.lc hi.pu hv hw (hg s0 H0 0 [] []).pu (ht s0 H0 0 [] []).pu (he s0 H0 0 [] []).pu))⟩
end
end G
/-! S17: the end of a law. -/
namespace G
open PySem L2
theorem law_end {K : PySem.W.Frag} {mg : Str → Option Value} {H : Hp} {a : Addr} {ns : List Int} {fn : List D → R D} (hS : SqL K H a (ns.map V.int)) (h : fn [.scr (ns.map D.int)] = .ok (.bl true)) : spM ⟨K, mg⟩ 1 fn [.ref a] H (fun v _ => v = .bl true) fun _ _ _ => False :=
  ⟨H, [.scr (ns.map D.int)], fun _ _ q => q, .cons (.scr hS (ints_rp ns)) .nil, rfl, by
    rw [h]
    intro F' H' v _ _ _ _ rv
    cases rv
    rfl⟩
end G
/-! E4: xs.index(k) over ints. -/
namespace G
open PySem L2
def D.indexI (ds : List D) : List D → R D
  | [.int k] => (match D.ints ds with
    | some ns => if k ∈ ns then .ok (.int (ns.idxOf k : Nat)) else .bad
    | none => .bad)
  | _ => .bad
def mIndex (a : Env → R D) (ms : Env → R (List D)) : Env → R D := fun ρ => (a ρ).bind fun x => match x with
  | .lst ds => (ms ρ).bind fun xs => D.indexI ds xs
  | _ => .bad
theorem before_ix {ns : List Int} {k : Int} {j : Nat} (h : j < ns.idxOf k) (h2 : j < ns.length) : ns[j] ≠ k := by
  have h3 := List.not_of_lt_findIdx (p := fun y => y == k) (xs := ns) (i := j) h
  intro e
  rw [e] at h3
  simp at h3
section
variable {Γ : Gc} {W : WX} {o o1 o2 : List Nat} {to : TE} {ts : TA} {mo : Env → R D} {ms : Env → R (List D)}
theorem PuE.index {K : PySem.W.Frag} (hK : Γ.K = K) (ho : PuE Γ W o to o1 mo) (ha : PuA Γ W o1 ts o2 ms) : PuE Γ W o (tBM K "list" (rIndex K) to ts) o2 (mIndex mo ms) := by
  subst hK
  intro B F0 F H σ ρ Q rel h
  refine ho rel ((Res.bnd h).imp fun d F1 H1 e1 r1 q v rv => ?_)
  cases rv with
  | @lst a vs ds h1 hr =>
    refine ⟨.inl ⟨rfl, vs, .inl (.inl (r1.core.fh _ _ h1))⟩, ?_⟩
    refine ha r1 ((Res.bnd (f := fun xs => D.indexI ds xs) q).imp fun xs F2 H2 e2 r2 q2 ws rws => ?_)
    match xs, q2, rws with
    | [.int k], z2, .cons (.int _) .nil =>
      unfold D.indexI at z2
      dsimp only at z2
      cases hn : D.ints ds with
      | none => rw [hn] at z2; exact z2.elim
      | some ns =>
        rw [hn] at z2
        dsimp only at z2
        by_cases hk : k ∈ ns
        · rw [if_pos hk] at z2
          have ed := ints_eq hn
          subst ed
          have ev := RpL.intsV hr
          subst ev
          have hj : ns.idxOf k < ns.length := List.idxOf_lt_length_iff.mpr hk
          refine ⟨a, ns.map V.int, .int k, ns.idxOf k, .int k, rfl, rfl, .inl (.inl (r2.core.fh _ _ (e2.le.ex _ _ rfl h1))), rfl, ?_, ?_, ?_, fun m z' hm hz => ?_, z2.here r2 (.int _)⟩
          · rw [List.all_map, List.all_eq_true]; exact fun _ _ => rfl
          · rw [List.getElem?_map, List.getElem?_eq_getElem hj, List.getElem_idxOf hj]; rfl
          · show (k == k) = true
            exact beq_self_eq_true k
          · rw [List.getElem?_map, List.getElem?_eq_getElem (by omega)] at hz
            cases hz
            show (ns[m]'(by omega) == k) = false
            exact beq_eq_false_iff_ne.mpr (before_ix hm (by omega))
        · rw [if_neg hk] at z2; exact z2.elim
    | [], z2, _ => exact z2.elim
    | [.non], z2, _ => exact z2.elim
    | [.bl _], z2, _ => exact z2.elim
    | [.str _], z2, _ => exact z2.elim
    | [.tup _], z2, _ => exact z2.elim
    | [.lst _], z2, _ => exact z2.elim
    | [.dic _ _ _], z2, _ => exact z2.elim
    | [.iset _], z2, _ => exact z2.elim
    | [.fn _], z2, _ => exact z2.elim
    | [.scr _], z2, _ => exact z2.elim
    | [.ktup _], z2, _ => exact z2.elim
    | [.ty _], z2, _ => exact z2.elim
    | y :: _ :: _, z2, _ => cases y <;> exact z2.elim
  | _ => exact q.elim
end
section
variable {Γ : Gc} {X : Cx} [hG : HG Γ X] {W : WX} {o o1 o2 : List Nat} {oe e : Expr} {es : List Expr} {apos cpos : Pos} {to : TE} {ts : TA} {mo : Env → R D} {ms : Env → R (List D)}
theorem me_index (ho : ME Γ X W o oe o1 to mo) (ha : MA Γ X W o1 (e :: es) o2 ts ms)
    (h1 : attributeBase oe "index" X.env (eval oe X.env) = eval oe X.env := by rfl)
    (h2 : ((backTo cpos (starEach (e :: es) X.env)).all (fun x => !x.1) && (backToKw cpos (keywordEach [] X.env)).all (fun x => x.1.isSome) && decide ((e :: es).length + ([] : List Keyword).length + (if ([] : List Keyword).isEmpty then 0 else 1) < 30)) = true := by rfl)
    (h3 : (apos.endLine == cpos.line) = true := by rfl) (h4 : starEach (e :: es) X.env = (false, eval e X.env) :: starEach es X.env := by rfl) (h5 : (backTo cpos (starEach es X.env)).any (·.1) = false := by rfl) :
    ME Γ X W o (.Call (.Attribute oe "index" apos) (e :: es) [] cpos) o2 (tBM Γ.K "list" (rIndex Γ.K) to ts) (mIndex mo ms) := by
  obtain ⟨eG⟩ := hG
  subst eG
  exact ⟨pe_bm PySem.F.plainAttrs_list PySem.F.slot_list_index PySem.F.type_list_index mt_index ho.pe ha.pe h1 h2 h3 h4 h5, PuE.index rfl ho.pu ha.pu⟩
end
end G
/-! E5: heads with one more Bool; dict displays, dict comprehensions, d[k] += e, != of dicts, constants of the module that are tuples. -/
namespace G
open PySem L2
/-! ### the head's Hook with one more Bool -/
section
open He
def obsEG (n : Nat) (fa : List Fa) (fn : List DefD) (ex : PySem.W.Frag → Bool) (g : Addr → Option Obj) : AlD × Bool := (obsDG n fa fn g, ex (frG g (asD g n)))
def hookE (n : Nat) (fa : List Fa) (fn : List DefD) (ex : PySem.W.Frag → Bool) : PySem.W.Hook :=
  ⟨AlD × Bool, fun s => obsEG n fa fn ex s.heap.get?, fun _ => (valD fn, true), fun _ h => ∃ K : PySem.W.Frag, K.In h ∧ SaysD fa fn K ∧ ex K = true,
    fun _ s e => ⟨frG s.heap.get? (asD s.heap.get? n), frG_in, congrArg (fun z : AlD × Bool => z.1) e, congrArg (fun z : AlD × Bool => z.2) e⟩,
    fun _ _ _ h k => h.elim fun K c => ⟨K, PySem.W.Frag.In.keeps c.1 k, c.2⟩⟩
theorem obsEG_eq {n : Nat} {fa : List Fa} {fn : List DefD} {ex : PySem.W.Frag → Bool} {g : Addr → Option Obj} {s : Shared} (h : ∀ a, g a = s.heap.get? a) : obsEG n fa fn ex g = (hookE n fa fn ex).obs s := by
  cases (funext h : g = s.heap.get?)
  rfl
end
/-! ### keys -/
def D.kk : D → Option Key
  | .int i => some (.inl i)
  | .str x => some (.inr x)
  | _ => none
theorem kk_of {F : Hp} {Γ : Gc} {d : D} {v : V} {j : Key} (r : Rp Γ F d v) (h : d.kk = some j) : v = kV j := by
  cases r <;> cases h <;> rfl
def RpP (Γ : Gc) (F : Hp) (ps : List (D × D)) (vs : List (V × V)) : Prop := RpL Γ F (ps.map fun p => p.1) (vs.map fun p => p.1) ∧ RpL Γ F (ps.map fun p => p.2) (vs.map fun p => p.2)
def PuP2 (Γ : Gc) (W : WX) (o : List Nat) (trs : List (TE × TE)) (o' : List Nat) (m : Env → R (List (D × D))) : Prop :=
  ∀ {B F0 F H : Hp} {σ : L2.St} {ρ : Env} {Q : List (V × V) → Hp → Prop}, Rel Γ B F0 F H o σ ρ → Res Γ W B F0 F H o' σ ρ (fun ps F' H' => ∀ vs, RpP Γ F' ps vs → Q vs H') (m ρ) → tPairs trs σ H Q
def mPNil : Env → R (List (D × D)) := fun _ => .ok []
def mPCons (k v : Env → R D) (r : Env → R (List (D × D))) : Env → R (List (D × D)) := fun ρ => (k ρ).bind fun x => (v ρ).bind fun y => (r ρ).bind fun ps => .ok ((x, y) :: ps)
def keysP : List (D × D) → Option (List (Key × D))
  | [] => some []
  | (k, d) :: r => match k.kk, keysP r with
    | some j, some ks => some ((j, d) :: ks)
    | _, _ => none
def dmergeG (ps : List (Key × D)) (acc : List DK × List D) : List DK × List D := ps.foldl (fun acc p => dput acc.1 acc.2 (dkK p.1) p.2) acc
def mDisp (m : Env → R (List (D × D))) : Env → R D := fun ρ => (m ρ).val.bind fun ps => match keysP ps with
  | some kd => if kd.length ≤ 15 then .ok (.dic false (dmergeG kd ([], [])).1 (dmergeG kd ([], [])).2) else .bad
  | none => .bad
section
variable {Γ : Gc} {W : WX} {o o1 o2 o3 oL : List Nat} {tk tv : TE} {mk mv : Env → R D} {trs : List (TE × TE)} {mp : Env → R (List (D × D))}
theorem PuP2.nil : PuP2 Γ W o [] o mPNil := fun {_ _ F H _ _ _} r q => q F H (Gr.refl F H) r [] ⟨.nil, .nil⟩
theorem PuP2.cons (hk : PuE Γ W o tk o1 mk) (hv : PuE Γ W o1 tv o2 mv) (hr : PuP2 Γ W o2 trs o3 mp) : PuP2 Γ W o ((tk, tv) :: trs) o3 (mPCons mk mv mp) := by
  intro B F0 F H σ ρ Q rel h
  refine hk rel ((Res.bnd h).imp fun x F1 H1 e1 r1 q1 v rv => ?_)
  refine hv r1 ((Res.bnd q1).imp fun y F2 H2 e2 r2 q2 w rw' => ?_)
  refine hr r2 ((Res.bnd q2).imp fun ps F3 H3 e3 r3 q3 vs rvs => ?_)
  exact q3 F3 H3 (Gr.refl F3 H3) r3 ((v, w) :: vs) ⟨.cons ((rv.mono e2.le).mono e3.le) rvs.1, .cons (rw'.mono e3.le) rvs.2⟩
theorem merge_map {F : Hp} : ∀ (ps : List (Key × D)) (vs : List V) (js : List Key) (us : List V) (ds : List D), js.length = us.length → RpL Γ F ds us → RpL Γ F (ps.map fun p => p.2) vs →
    ∃ (ks : List Key) (ws : List V), mergeK (js.zip us) ((ps.map fun p => p.1).zip vs) = ks.zip ws ∧ ks.length = ws.length ∧ RpL Γ F (dmergeG ps (js.map dkK, ds)).2 ws ∧ (dmergeG ps (js.map dkK, ds)).1 = ks.map dkK
  | [], _, js, us, ds, hl, r, _ => ⟨js, us, rfl, hl, r, rfl⟩
  | (k, d) :: ps, _, js, us, ds, hl, r, .cons (v := v) (vs := vs) h q => by
    obtain ⟨js', us', p1, p2, p3, p4⟩ := put_map dkK (fun _ _ => dkK_inj) k h js us ds hl r
    obtain ⟨ks, ws, q1, q2, q3, q4⟩ := merge_map ps vs js' us' (dput (js.map dkK) ds (dkK k) d).2 p2 p3 q
    refine ⟨ks, ws, ?_, q2, ?_, ?_⟩
    · show mergeK (putK (js.zip us) k v) _ = _
      rw [p1]
      exact q1
    · show RpL Γ F (dmergeG ps (dput (js.map dkK) ds (dkK k) d)).2 ws
      rw [← p4] at q3
      exact q3
    · show (dmergeG ps (dput (js.map dkK) ds (dkK k) d)).1 = _
      rw [← p4] at q4
      exact q4
theorem keysP_of {F : Hp} : ∀ {ps : List (D × D)} {vs : List (V × V)} {kd : List (Key × D)}, keysP ps = some kd → RpP Γ F ps vs → kd.map (fun p => p.2) = ps.map (fun p => p.2) ∧ kd.length = vs.length ∧ vs = ((kd.map fun p => p.1).zip (vs.map fun p => p.2)).map (fun kv => (kV kv.1, kv.2))
  | [], vs, kd, h, r => by
    cases h
    cases vs with
    | nil => exact ⟨rfl, rfl, rfl⟩
    | cons _ _ => cases r.1
  | (k, d) :: ps, vs, kd, h, r => by
    cases vs with
    | nil => cases r.1
    | cons v vs =>
      obtain ⟨r1, r2⟩ := r
      cases r1 with
      | cons a1 a2 =>
        cases r2 with
        | cons b1 b2 =>
          unfold keysP at h
          cases hk : k.kk with
          | none => rw [hk] at h; cases h
          | some j =>
            cases hp : keysP ps with
            | none => rw [hk, hp] at h; cases h
            | some ks =>
              rw [hk, hp] at h
              cases h
              obtain ⟨q1, q2, q3⟩ := keysP_of hp ⟨a2, b2⟩
              refine ⟨by rw [List.map_cons, List.map_cons, q1], by rw [List.length_cons, List.length_cons, q2], ?_⟩
              rw [List.map_cons, List.map_cons, List.zip_cons_cons, List.map_cons, ← q3]
              have := kk_of a1 hk
              obtain ⟨v1, v2⟩ := v
              dsimp only at this ⊢
              rw [this]
theorem PuO.disp (hp : PuP2 Γ W o trs o1 mp) : PuO Γ W o (tDisp trs) o1 (mDisp mp) := by
  intro B F0 F H σ ρ Q rel h p hpn
  unfold mDisp at h
  cases hm : mp ρ with
  | exc c z => rw [hm] at h; exact h.elim
  | bad => rw [hm] at h; exact h.elim
  | ok ps =>
    rw [hm] at h
    have h' : Res Γ W B F0 F H o1 σ ρ (kO Γ B o1 σ ρ Q) (match keysP ps with | some kd => if kd.length ≤ 15 then .ok (.dic false (dmergeG kd ([], [])).1 (dmergeG kd ([], [])).2) else .bad | none => .bad) := h
    cases hk : keysP ps with
    | none => rw [hk] at h'; exact h'.elim
    | some kd =>
      rw [hk] at h'
      obtain ⟨h15, h'⟩ := Res.ifP h'
      obtain ⟨r1, fD, bD, apD⟩ := rel.laidOwn (u := .dK []) hpn
      have f0D : F0 p = none := by
        cases z : F0 p with
        | none => rfl
        | some w => exact absurd bD (r1.core.f0 p (by rw [z]; simp))
      refine hp (r1.guard upd_same fD apD) ?_
      rw [hm]
      intro F' H' g r' vs rv
      obtain ⟨x1, x2, x3, x4⟩ := r'.unguard bD f0D r1.core.f0 (fun _ z => by cases z)
      obtain ⟨q1, q2, q3⟩ := keysP_of hk rv
      have rv2 := rv.2
      rw [← q1] at rv2
      obtain ⟨ks, ws, y1, y2, y3, y4⟩ := merge_map (Γ := Γ) kd (vs.map fun p => p.2) [] [] [] rfl .nil rv2
      refine ⟨x2, (kd.map fun p => p.1).zip (vs.map fun p => p.2), q3, ?_, ?_⟩
      · rw [List.length_zip, List.length_map, List.length_map]; omega
      · have ez : mergeK [] ((kd.map fun p => p.1).zip (vs.map fun p => p.2)) = ks.zip ws := y1
        have y3' : RpL Γ F' (dmergeG kd ([], [])).2 ws := y3
        have y4' : (dmergeG kd ([], [])).1 = ks.map dkK := y4
        rw [ez]
        rw [y4'] at h'
        refine h' F' (upd H' p (.dK (ks.zip ws))) ⟨g.le, fun b u z => ?_⟩ (x1.chg x3 bD x4) p (.dicK upd_same y2 y3') x3 bD x4
        have hb : b ≠ p := ne_of_none z hpn
        rw [upd_ne hb]
        exact g.same b u (by rw [upd_ne hb]; exact z)
end
/-! ### a dict comprehension -/
def dcD (mg : D → Env → R Env) (mt : Env → R Bool) (mk mv : Env → R D) : List D → Env → List DK × List D → R (List DK × List D)
  | [], _, acc => .ok acc
  | d :: ds, ρ, acc => (mg d ρ).val.bind fun ρ' => (mt ρ').val.bind fun b => bif b then (mk ρ').val.bind fun k => (mv ρ').val.bind fun v => (match k.kk with
    | some j => dcD mg mt mk mv ds ρ (dput acc.1 acc.2 (dkK j) v)
    | none => .bad) else dcD mg mt mk mv ds ρ acc
def mDc (vs : List Nat) (mi : Env → R (List D)) (mg : D → Env → R Env) (mt : Env → R Bool) (mk mv : Env → R D) : Env → R D := fun ρ =>
  (mi ρ).bind fun ds => if ds.length ≤ sizeLine then (dcD mg mt mk mv ds (wipeD ρ vs) ([], [])).val.bind fun acc => .ok (.dic false acc.1 acc.2) else .bad
section
variable {Γ : Gc} {W W1 : WX} {o : List Nat} {wi : TI} {g : TG} {tt : TT} {tk tv : TE} {mi : Env → R (List D)} {mg : D → Env → R Env} {mt : Env → R Bool} {mk mv : Env → R D}
theorem dput_len (ks : List DK) (ds : List D) (j : DK) (e : D) : (dput ks ds j e).1.length ≤ ks.length + 1 := by
  unfold dput
  split
  · exact Nat.le_succ _
  · rw [List.length_append, List.length_singleton]; exact Nat.le_refl _
theorem PuO.dc {vs : List Nat} (hi : PuI Γ W o wi o mi) (hv : ∀ i, i ∈ vs → i ∉ o) (hw : GW g mg vs) (hg : PuG Γ o g o mg) (ht : PuT Γ W1 o tt o mt) (hk : PuE Γ W1 o tk o mk) (hval : PuE Γ W1 o tv o mv) : PuO Γ W o (tDc wi g tt tk tv vs) o (mDc vs mi mg mt mk mv) := by
  intro B F0 F H σ ρ Q rel h
  refine hi rel ((Res.bnd h).imp fun ds F1 H1 e1 r1 q J Y p hpn => ?_)
  obtain ⟨hz, q⟩ := Res.ifP q
  obtain ⟨fin, hfin, q⟩ : ∃ fin, dcD mg mt mk mv ds (wipeD ρ vs) ([], []) = .ok fin ∧ Res Γ W B F0 F1 H1 o σ ρ (kO Γ B o σ ρ Q) (.ok (.dic false fin.1 fin.2)) := by
    cases hl : dcD mg mt mk mv ds (wipeD ρ vs) ([], []) with
    | ok xs => rw [hl] at q; exact ⟨xs, rfl, q⟩
    | exc c p => rw [hl] at q; exact q.elim
    | bad => rw [hl] at q; exact q.elim
  obtain ⟨r1D, fD, bD, apD⟩ := r1.laidOwn (u := .dK []) hpn
  have f0D : F0 p = none := by
    cases z : F0 p with
    | none => rfl
    | some w => exact absurd bD (r1.core.f0 p (by rw [z]; simp))
  have sD : Same H1 (upd H1 p (.dK [])) := fun b u z => by rw [upd_ne (ne_of_none z hpn)]; exact z
  let Inv : Nat → Hp → Prop := fun i H' => ∃ (F' : Hp) (js : List Key) (us : List V) (ds' : List D), Le F1 F' ∧ Same H1 H' ∧ Rel Γ B F0 F' H' o (wipe σ vs) (wipeD ρ vs) ∧ H' p = some (.dK (js.zip us)) ∧ js.length = us.length ∧ js.length ≤ i ∧ RpL Γ F' ds' us ∧ F' p = none ∧ Apart o (wipe σ vs) (wipeD ρ vs) p ∧
    dcD mg mt mk mv (ds.drop i) (wipeD ρ vs) (js.map dkK, ds') = .ok fin
  have apW : Apart o (wipe σ vs) (wipeD ρ vs) p := fun i d h1 h2 h3 => by
    have hi : i ∉ vs := fun z => hv i z h1
    rw [wipeD_get, if_neg fun z => hi z.1] at h2
    rw [wipe_get, if_neg fun z => hi z.1] at h3
    exact apD i d h1 h2 h3
  refine ⟨fun i m H' => m = ds.length - i ∧ i ≤ ds.length ∧ Inv i H', ⟨ds.length, by simp, Nat.zero_le _, F1, [], [], [], Le.refl F1, sD, r1D.wiped vs, upd_same, rfl, Nat.le_refl _, .nil, fD, apW, by simpa using hfin⟩, ?_⟩
  rintro i m H' ⟨rfl, hle, F', js, us, ds', le, sm, r', hacc, hlen, hji, racc, fD', ap', hrest⟩
  obtain ⟨y1, y2, y3⟩ := Y F' H' le r'.core.fh
  by_cases hlt : i < ds.length
  · have hd : ds[i]? = some ds[i] := List.getElem?_eq_getElem hlt
    rw [List.drop_eq_getElem_cons hlt] at hrest
    have hrest' : (mg ds[i] (wipeD ρ vs)).val.bind (fun ρ' => (mt ρ').val.bind fun b => bif b then (mk ρ').val.bind fun k => (mv ρ').val.bind fun v => (match k.kk with
      | some j => dcD mg mt mk mv (ds.drop (i + 1)) (wipeD ρ vs) (dput (js.map dkK) ds' (dkK j) v)
      | none => .bad) else dcD mg mt mk mv (ds.drop (i + 1)) (wipeD ρ vs) (js.map dkK, ds')) = .ok fin := hrest
    obtain ⟨ρ2, hm1, hm2⟩ := R.bind_eq hrest'
    obtain ⟨b, hb1, hb2⟩ := R.bind_eq hm2
    have hm1 := R.val_ok hm1
    have hb1 := R.val_ok hb1
    have hwd : wipeD ρ2 vs = wipeD ρ vs := (hw.2 _ _ _ hm1).trans (wipeD_wipeD ρ vs)
    refine .inr ⟨y1 i hlt, Inv (i + 1), fun H2 I2 => ⟨ds.length - (i + 1), by omega, rfl, hlt, I2⟩, fun x H3 hy => ?_⟩
    obtain ⟨F3, g3, f3, n3, rv⟩ := y3 i ds[i] x H3 hd hy
    have r3 := r'.grow g3.le f3 g3.same n3
    have h3D := g3.same p _ hacc
    have fD3 : F3 p = none := by
      cases z : F3 p with
      | none => rfl
      | some w =>
        rcases n3 p (by rw [z]; simp) with z | z | ⟨xs, z⟩
        · exact absurd fD' z
        · rw [hacc] at z; cases z
        · rw [hacc] at z; cases z
    have r3g := r3.guard h3D fD3 ap'
    have rw1 : wipe (wipe σ vs) vs = wipe σ vs := wipe_wipe σ vs
    have key := hw.1 x (wipe σ vs) H3 (fun σ2 H2 => tt σ2 H2 fun b H3 => if b = true then tk σ2 H3 fun y H4 => tv σ2 H4 fun z H5 => ∃ kvs k, y = kV k ∧ H5 p = some (.dK kvs) ∧ kvs.length < sizeLine ∧ Inv (i + 1) (upd H5 p (.dK (putK kvs k z))) else Inv (i + 1) H3)
    rw [rw1] at key
    refine key (hg r3g rv ⟨ρ2, hm1, fun σ2 r2 hwip => ht r2 ?_⟩)
    rw [hb1]
    intro F4 H4 g4 r4
    have back : ∀ {F5 H5 : Hp}, Gr F3 H3 F5 H5 → Rel Γ (upd B p (.dK (js.zip us))) F0 F5 H5 o σ2 ρ2 → Le F1 F5 ∧ Same H1 H5 ∧ Rel Γ B F0 F5 H5 o (wipe σ vs) (wipeD ρ vs) ∧ H5 p = some (.dK (js.zip us)) ∧ F5 p = none ∧ Apart o (wipe σ vs) (wipeD ρ vs) p := fun {F5 H5} g5 r5 => by
      obtain ⟨x1, x2, x3, x4⟩ := r5.unguard bD f0D r3.core.f0 (fun _ z => by cases z)
      have w1 := x1.wiped vs
      rw [hwip, hwd] at w1
      exact ⟨(le.trans g3.le).trans g5.le, (sm.trans g3.same).trans g5.same, w1, x2, x3, fun j f z1 z2 z3 => ap' j f z1 z2 z3⟩
    cases b with
    | false =>
      obtain ⟨z1, z2, z3, z4, z5, z6⟩ := back g4 r4
      exact ⟨F4, js, us, ds', z1, z2, z3, z4, hlen, by omega, (racc.mono g3.le).mono g4.le, z5, z6, hb2⟩
    | true =>
      have hb2' : (mk ρ2).val.bind (fun k => (mv ρ2).val.bind fun v => (match k.kk with
        | some j => dcD mg mt mk mv (ds.drop (i + 1)) (wipeD ρ vs) (dput (js.map dkK) ds' (dkK j) v)
        | none => .bad)) = .ok fin := hb2
      obtain ⟨k, hk1, hk2⟩ := R.bind_eq hb2'
      obtain ⟨v, hv1, hv2⟩ := R.bind_eq hk2
      have hk1 := R.val_ok hk1
      have hv1 := R.val_ok hv1
      refine hk r4 ?_
      rw [hk1]
      intro F5 H5 g5 r5 yv ry
      refine hval r5 ?_
      rw [hv1]
      intro F6 H6 g6 r6 zv rz
      obtain ⟨z1, z2, z3, z4, z5, z6⟩ := back ((g4.trans g5).trans g6) r6
      cases hkk : k.kk with
      | none => rw [hkk] at hv2; cases hv2
      | some j =>
        rw [hkk] at hv2
        have racc6 := (((racc.mono g3.le).mono g4.le).mono g5.le).mono g6.le
        obtain ⟨js', us', p1, p2, p3, p4⟩ := put_map dkK (fun _ _ => dkK_inj) j rz js us ds' hlen racc6
        have hl1 := dput_len (js.map dkK) ds' (dkK j) v
        have e4 : (dput (js.map dkK) ds' (dkK j) v).1.length = js'.length := by rw [p4, List.length_map]
        have ep : dput (js.map dkK) ds' (dkK j) v = (js'.map dkK, (dput (js.map dkK) ds' (dkK j) v).2) := by rw [← p4]
        refine ⟨js.zip us, j, kk_of ry hkk, z4, ?_, F6, js', us', (dput (js.map dkK) ds' (dkK j) v).2, z1, fun c u w => ?_, z3.chg z5 bD z6, by rw [upd_same, p1], p2, by rw [List.length_map] at hl1; omega, p3, z5, z6, by rw [← ep]; exact hv2⟩
        · rw [List.length_zip, ← hlen, Nat.min_self]; omega
        · have hc : c ≠ p := ne_of_none w hpn
          rw [upd_ne hc]
          exact z2 c u w
  · have e : i = ds.length := by omega
    subst e
    rw [List.drop_length] at hrest
    cases hrest
    exact .inl ⟨y2, q F' H' ⟨le, sm⟩ (r1.unwipe r' le hv) p (.dicK hacc hlen racc) fD' bD apD⟩
end
/-! ### d[k] += e, d the frame's own -/
def mDAug (i : Nat) (f : Int → Int → Int) (mk mv : Env → R D) : Env → Out := fun ρ => match ρ[i]? with
  | some (some (.dic t ks ds)) => oBind (mk ρ) ρ fun j => (match j.key with
    | some k => if isKind t k = true ∧ ks.length < sizeLine then (match dget ks ds k with
      | some (.int x) => oBind (mv ρ) ρ fun e => (match e with
        | .int y => .nx (ρ.set i (some (.dic t (dput ks ds k (.int (f x y))).1 (dput ks ds k (.int (f x y))).2)))
        | _ => .bad)
      | _ => .bad) else .bad
    | none => .bad)
  | _ => .bad
end G
/-! E6: the derivation rules for E5's dicts. -/
namespace G
open PySem L2 PyProof.Rows
section
variable {X : Cx}
/-- y = {k: v for ..} -/
theorem ps_setDc {i : Nat} {y : Str} {py : Pos} {kx vx tg iter : Expr} {ifs : List Expr} {scope : Scope} {own : List (Str × Nat)} {pos spos : Pos} {wi : TI} {g : TG} {tt : TT} {tk tv : TE} (hc : X.calm = true) (hN : X.N.Nodup) (hy : X.N[i]? = some y) (hyl : X.env.scope.names.lookup y = some .local)
    (hsw : swapsWith (.DictComp kx vx [⟨tg, iter, ifs, 0⟩] scope pos) (some (.Name y py)) spos.line X.env = pure true) (hi : PI X tg iter wi) (ok : BlkOk X.N X.env.scope scope own)
    (hg : ∀ (s : Shared) (H : Hp) (C : Addr) (cl : List (Str × Addr)) (fp : List Addr), PG (X.blk s H scope (compEnvC scope cl C X.env) fp) tg g)
    (ht : ∀ (s : Shared) (H : Hp) (C : Addr) (cl : List (Str × Addr)) (fp : List Addr), PTs (X.blk s H scope (compEnvC scope cl C X.env) fp) ifs tt)
    (hk : ∀ (s : Shared) (H : Hp) (C : Addr) (cl : List (Str × Addr)) (fp : List Addr), PE (X.blk s H scope (compEnvC scope cl C X.env) fp) kx tk)
    (hv : ∀ (s : Shared) (H : Hp) (C : Addr) (cl : List (Str × Addr)) (fp : List Addr), PE (X.blk s H scope (compEnvC scope cl C X.env) fp) vx tv) (hs : ∀ x, foldedSetIterable iter X.env x = pure x := by intro _; rfl) :
    PS X (.Assign [.Name y py] (.DictComp kx vx [⟨tg, iter, ifs, 0⟩] scope pos) spos) (tAsg (tDc wi g tt tk tv (own.map (·.2))) (gName i)) := by
  constructor
  intro pins s σ H D I h
  rw [exec_Assign_Name_used _ _ _ _ hsw]
  apply wpAny_bind; apply wpAny_standAt; apply wpAny_bind
  show wpAny _ X.A (do let _ ← comprehension (.DictComp kx vx [⟨tg, iter, ifs, 0⟩] scope pos) scope X.env (firstIterPos [⟨tg, iter, ifs, 0⟩] pos) newDict false (eval iter X.env) (some (assign (.Name y py) X.env))) _ _ s
  have h2 : tDc wi g tt tk tv (own.map (·.2)) σ H (fun x H1 => gName i x σ H1 D.nx) := h
  apply wpAny_bind
  refine thn (dc_core (Qf := fun _ z => SP X pins D .next z) hc hN I hi ok hg ht hk hv hs h2 fun L C t m K I2 q hn f => ?_) fun _ z hz => wpAny_pure (wpAny_pure hz)
  show wpAny _ _ (assign (.Name y py) X.env (.ref L)) _ _ _
  apply wpAny_assign_Name
  refine store_ok2 (v := V.ref L) I2 hN hy (.inl hyl) rfl (fun z I3 w => ?_) (.inr hyl)
  obtain ⟨a, sb, ha⟩ := w
  have hCa : C ≠ a := by
    rcases ha with e | e
    · rw [e]; exact f.2.1
    · exact fun e' => f.2.2.2.2.1 y a e e'.symm
  exact ⟨m, hn.sameBut sb hCa, fun k sb2 => ⟨_, K, I3.turned (t' := z.toks) (fun b u hb e => (sb2.2 b hb).trans e) f.1 f.2.1 f.2.2.2.1 f.2.2.2.2.1 f.2.2.2.2.2, q⟩⟩
/-- dicts with the same pairs -/
def rNeDR : R2 := fun x y H Q => ∃ a b ks ls, x = .ref a ∧ y = .ref b ∧ Rd H a (.dK ks) ∧ Rd H b (.dK ls) ∧ ks.length = ls.length ∧ (∀ p ∈ ks, valV ls p.1 = some p.2 ∧ flatB p.2 = true) ∧ Q (.bl false) H
theorem op_neDR (hu : X.A.units < cLine) : OpR X (compareOp .NotEq) rNeDR := by
  intro pins s σ H x y v u Q I rx ry h
  obtain ⟨a, b, ks, ls, e1, e2, ea, eb, hlen, hp, q⟩ := h
  subst e1 e2
  cases rx
  cases ry
  obtain ⟨_, ya, va, ra, da⟩ := dk_rd I.hok ea
  obtain ⟨_, yb, vb, rb, db⟩ := dk_rd I.hok eb
  have hl : va.length = vb.length := ra.length.symm.trans (hlen.trans rb.length)
  exact PySem.W.keq_ne (knd := mixKind X.prog X.w) (r := true) ya yb da db hu (fun _ => hits_all rb ra hp) (fin_bl I q (by simp [hl]))
end
/-- the same pairs, flat values -/
def sameDic (ks : List DK) (ds : List D) (ls : List DK) (es : List D) : Bool := decide (ks.length = ls.length) && ((ks.zip ds).all fun p => (match dget ls es p.1 with
  | some (.int j) => (match p.2 with
    | .int i => decide (i = j)
    | _ => false)
  | _ => false))
def D.neK : D → D → R D
  | .dic false ks ds, .dic false ls es => if sameDic ks ds ls es = true then .ok (.bl false) else .bad
  | _, _ => .bad
section
variable {Γ : Gc} {W : WX} {o o1 o2 oL : List Nat}
theorem zip_mem : ∀ {ks : List Key} {vs : List V} {ds : List D} {F : Hp} {p : Key × V}, ks.length = vs.length → RpL Γ F ds vs → p ∈ ks.zip vs → ∃ d, (dkK p.1, d) ∈ (ks.map dkK).zip ds ∧ Rp Γ F d p.2
  | [], _, _, _, _, _, _, h => by cases h
  | _ :: _, [], _, _, _, _, _, h => by cases h
  | k :: ks, v :: vs, d :: ds, F, p, hl, .cons h r, hm => by
    rw [List.zip_cons_cons] at hm
    rcases List.mem_cons.mp hm with e | hm
    · subst e
      exact ⟨d, by rw [List.map_cons, List.zip_cons_cons]; exact .head _, h⟩
    · obtain ⟨d', q1, q2⟩ := zip_mem (by simpa using hl) r hm
      exact ⟨d', by rw [List.map_cons, List.zip_cons_cons]; exact .tail _ q1, q2⟩
theorem pu_neK : PuR2 Γ W rNeDR D.neK := by
  intro B F0 F H o σ ρ Q v w a b rel ra rb h
  cases ra with
  | @dicK p js us ds h1 hl1 r1 =>
    cases rb with
    | @dicK q ls ws es h2 hl2 r2 =>
      obtain ⟨c, h⟩ := Res.ifP h
      unfold sameDic at c
      rw [Bool.and_eq_true] at c
      have hlen := of_decide_eq_true c.1
      rw [List.length_map, List.length_map] at hlen
      refine ⟨p, q, js.zip us, ls.zip ws, rfl, rfl, rel.rd h1, rel.rd h2, by rw [List.length_zip, List.length_zip, ← hl1, ← hl2, Nat.min_self, Nat.min_self, hlen], fun x hx => ?_, h.here rel (.bl _)⟩
      obtain ⟨d, m, rd⟩ := zip_mem hl1 r1 hx
      have z := List.all_eq_true.mp c.2 _ m
      dsimp only at z
      rcases dk_get (k := x.1) hl2 r2 with ⟨_, y2⟩ | ⟨v', d', y1, y2, y3⟩
      · rw [y2] at z; cases z
      · rw [y2] at z
        cases d' with
        | int j =>
          cases d with
          | int i =>
            have e := of_decide_eq_true (show decide (i = j) = true from z)
            subst e
            obtain ⟨x1, x2⟩ := x
            cases y3
            cases rd
            exact ⟨y1, rfl⟩
          | _ => cases z
        | _ => cases d <;> cases z
    | _ => exact h.elim
  | _ => cases rb <;> exact h.elim
theorem own_get {F H : Hp} {t : Bool} {ks : List DK} {ds : List D} {a : Addr} {y : V} {j d : D} {k : DK} (ow : Own Γ F H (.dic t ks ds) a) (fh : ∀ a u, F a = some u → H a = some u) (rj : Rp Γ F j y) (hk : j.key = some k) (ht : isKind t k = true) (hg : dget ks ds k = some d) : ∃ v, DGet H a y (some v) ∧ Rp Γ F d v := by
  cases ow with
  | @dicK _ js vs _ h1 hl r1 =>
    rcases key_of fh rj hk with ⟨i, rfl, rfl⟩ | ⟨_, _, rfl, _⟩
    · rcases dk_get (k := i) hl r1 with ⟨_, x2⟩ | ⟨v, e, x1, x2, x3⟩
      · rw [x2] at hg; cases hg
      · rw [x2] at hg; cases hg
        exact ⟨v, .inl ⟨_, i, .inl h1, rfl, x1.symm⟩, x3⟩
    · cases ht
  | @dicT _ js vs _ h1 hl r1 =>
    rcases key_of fh rj hk with ⟨i, rfl, rfl⟩ | ⟨ks', b, rfl, rfl, hb⟩
    · cases i <;> cases ht
    · rcases dt_get (k := ks') hl r1 with ⟨_, x2⟩ | ⟨v, e, x1, x2, x3⟩
      · rw [x2] at hg; cases hg
      · rw [x2] at hg; cases hg
        exact ⟨v, .inr ⟨_, ks', b, .inl h1, rfl, hb, x1.symm⟩, x3⟩
/-- d[k] += e -/
theorem PuS.daug {i : Nat} {tk tv : TE} {mk mv : Env → R D} (hi0 : i ∈ o) (hi1 : i ∈ o1) (hi2 : i ∈ o2) (hk : PuE Γ W o tk o1 mk) (hv : PuE Γ W o1 tv o2 mv) : PuS Γ W oL o (sDAug (tVar i) tk tv rAdd) o2 (mDAug i (fun x y => x + y) mk mv) := by
  intro B F0 F H σ ρ X rel h
  unfold mDAug at h
  cases hρ : ρ[i]? with
  | none => rw [hρ] at h; exact h.elim
  | some z =>
    cases z with
    | none => rw [hρ] at h; exact h.elim
    | some d =>
      cases d with
      | dic t ks ds =>
        rw [hρ] at h
        dsimp only at h
        obtain ⟨a, q1, _⟩ := rel.ow i _ hρ hi0
        refine ⟨.ref a, q1, hk rel ((Post.res h).imp fun j F1 H1 e1 r1 p y rj => ?_)⟩
        cases hj : j.key with
        | none => rw [hj] at p; exact p.elim
        | some k =>
          rw [hj] at p
          obtain ⟨⟨c1, c2⟩, p⟩ := Post.ifP p
          cases hg : dget ks ds k with
          | none => rw [hg] at p; exact p.elim
          | some x =>
            rw [hg] at p
            cases x with
            | int x =>
              dsimp only at p
              obtain ⟨b, q2, ow, _⟩ := r1.ow i _ hρ hi1
              rw [q1] at q2
              cases q2
              obtain ⟨v, g1, g2⟩ := own_get ow r1.core.fh rj hj c1 hg
              cases g2
              refine ⟨a, .int x, rfl, g1, hv r1 ((Post.res p).imp fun e F2 H2 e2 r2 p2 w rw' => ?_)⟩
              cases rw' with
              | int y' =>
                refine ⟨x, y', rfl, rfl, ?_⟩
                exact dput_end (N := X.nx) r2 hi2 hρ q1 (rj.mono e2.le) (.int (x + y')) hj c1 c2 fun H' r' => p2 F2 H' σ (Le.refl F2) r'
              | _ => exact p2.elim
            | _ => exact p.elim
      | _ => rw [hρ] at h; exact h.elim
end
/-! ### the rules -/
structure MPr (Γ : Gc) (X : Cx) (W : WX) (o : List Nat) (pos : Pos) (ks : List (Option Expr)) (vs : List Expr) (o' : List Nat) (trs : List (TE × TE)) (m : Env → R (List (D × D))) : Prop where
  pe : PPs X pos ks vs trs
  pu : PuP2 Γ W o trs o' m
section
variable {Γ : Gc} {X : Cx} [hG : HG Γ X] {W : WX} {o o1 o2 o3 oL : List Nat} {a b c e tg iter kx vx : Expr} {ks : List (Option Expr)} {vs : List Expr} {ifs : List Expr} {x : Str} {p p2 p3 pos py spos tpos : Pos} {ta tb te tk tv : TE} {ma mb me mk mv : Env → R D} {wi : TI} {g : TG} {mi : Env → R (List D)} {mg : D → Env → R Env} {tt : TT} {mt : Env → R Bool} {trs : List (TE × TE)} {mp : Env → R (List (D × D))}
theorem mpr_nil : MPr Γ X W o pos [] [] o [] mPNil := by
  obtain ⟨eG⟩ := hG
  subst eG
  exact ⟨pps_nil, PuP2.nil⟩
theorem mpr_cons (hk : ME Γ X W o a o1 tk mk) (hv : ME Γ X W o1 b o2 tv mv) (hr : MPr Γ X W o2 pos ks vs o3 trs mp) : MPr Γ X W o pos (some a :: ks) (b :: vs) o3 ((tk, tv) :: trs) (mPCons mk mv mp) := by
  obtain ⟨eG⟩ := hG
  subst eG
  exact ⟨pps_cons hk.pe hv.pe hr.pe, PuP2.cons hk.pu hv.pu hr.pu⟩
theorem mo_disp (h : MPr Γ X W o pos ks vs o1 trs mp) (h1 : ks.all (·.isSome) = true := by rfl) (h2 : ks.length = vs.length := by rfl) (h3 : ks ≠ [] := by exact List.cons_ne_nil _ _) (h4 : ks.length ≤ 15 := by decide) : MO Γ X W o (.Dict ks vs pos) o1 (tDisp trs) (mDisp mp) := by
  obtain ⟨eG⟩ := hG
  subst eG
  exact ⟨pe_disp h.pe h1 h2 h3 h4, PuO.disp h.pu⟩
theorem mo_dc {scope : Scope} (s0 : Shared) (H0 : Hp) (own : List (Str × Nat)) (hc : X.calm = true) (hN : X.N.Nodup) (hi : MI Γ X W o tg iter o wi mi) (ok : blkC X.N X.env.scope scope own = true)
    (hg : ∀ (s : Shared) (H : Hp) (C : Addr) (cl : List (Str × Addr)) (fp : List Addr), MG Γ (B0 X scope s H C cl fp) o tg o g mg)
    (ht : ∀ (s : Shared) (H : Hp) (C : Addr) (cl : List (Str × Addr)) (fp : List Addr), MTs Γ (B0 X scope s H C cl fp) WN o ifs tt mt)
    (hk : ∀ (s : Shared) (H : Hp) (C : Addr) (cl : List (Str × Addr)) (fp : List Addr), ME Γ (B0 X scope s H C cl fp) WN o kx o tk mk)
    (hv : ∀ (s : Shared) (H : Hp) (C : Addr) (cl : List (Str × Addr)) (fp : List Addr), ME Γ (B0 X scope s H C cl fp) WN o vx o tv mv)
    (hw : GW g mg (own.map (·.2))) (hn : ∀ i, i ∈ own.map (·.2) → i ∉ o := by decide) (hs : ∀ x, foldedSetIterable iter X.env x = pure x := by intro _; rfl) :
    MO Γ X W o (.DictComp kx vx [⟨tg, iter, ifs, 0⟩] scope pos) o (tDc wi g tt tk tv (own.map (·.2))) (mDc (own.map (·.2)) mi mg mt mk mv) := by
  obtain ⟨eG⟩ := hG
  subst eG
  exact ⟨pe_dc hc hN hi.pe (blkOk_by ok) (fun s H C cl fp => (hg s H C cl fp).pe) (fun s H C cl fp => (ht s H C cl fp).pe) (fun s H C cl fp => (hk s H C cl fp).pe) (fun s H C cl fp => (hv s H C cl fp).pe) hs,
    PuO.dc hi.pu hn hw (hg s0 H0 0 [] []).pu (ht s0 H0 0 [] []).pu (hk s0 H0 0 [] []).pu (hv s0 H0 0 [] []).pu⟩
theorem ms_setDc (i : Nat) {scope : Scope} (s0 : Shared) (H0 : Hp) (own : List (Str × Nat)) (hc : X.calm = true) (hN : X.N.Nodup) (hi : MI Γ X W o tg iter o wi mi) (ok : blkC X.N X.env.scope scope own = true)
    (hg : ∀ (s : Shared) (H : Hp) (C : Addr) (cl : List (Str × Addr)) (fp : List Addr), MG Γ (B0 X scope s H C cl fp) o tg o g mg)
    (ht : ∀ (s : Shared) (H : Hp) (C : Addr) (cl : List (Str × Addr)) (fp : List Addr), MTs Γ (B0 X scope s H C cl fp) WN o ifs tt mt)
    (hk : ∀ (s : Shared) (H : Hp) (C : Addr) (cl : List (Str × Addr)) (fp : List Addr), ME Γ (B0 X scope s H C cl fp) WN o kx o tk mk)
    (hv : ∀ (s : Shared) (H : Hp) (C : Addr) (cl : List (Str × Addr)) (fp : List Addr), ME Γ (B0 X scope s H C cl fp) WN o vx o tv mv)
    (hw : GW g mg (own.map (·.2))) (hn : ∀ i, i ∈ own.map (·.2) → i ∉ o := by decide) (hs : ∀ x, foldedSetIterable iter X.env x = pure x := by intro _; rfl)
    (hy : X.N[i]? = some x := by rfl) (hyl : X.env.scope.names.lookup x = some .local := by rfl) (hsw : swapsWith (.DictComp kx vx [⟨tg, iter, ifs, 0⟩] scope pos) (some (.Name x py)) spos.line X.env = pure true := by rfl) :
    MS Γ X W oL o (.Assign [.Name x py] (.DictComp kx vx [⟨tg, iter, ifs, 0⟩] scope pos) spos) (i :: o.filter (· != i)) (tAsg (tDc wi g tt tk tv (own.map (·.2))) (gName i)) (mSet i (mDc (own.map (·.2)) mi mg mt mk mv)) := by
  obtain ⟨eG⟩ := hG
  subst eG
  exact ⟨ps_setDc hc hN hy hyl hsw hi.pe (blkOk_by ok) (fun s H C cl fp => (hg s H C cl fp).pe) (fun s H C cl fp => (ht s H C cl fp).pe) (fun s H C cl fp => (hk s H C cl fp).pe) (fun s H C cl fp => (hv s H C cl fp).pe) hs,
    PuS.setO (PuO.dc hi.pu hn hw (hg s0 H0 0 [] []).pu (ht s0 H0 0 [] []).pu (hk s0 H0 0 [] []).pu (hv s0 H0 0 [] []).pu)⟩
theorem c_neK (hu : X.A.units + 65 < cLine) : CmpR Γ X W .NotEq rNeDR D.neK := by
  obtain ⟨eG⟩ := hG
  subst eG
  exact ⟨op_neDR (by omega), pu_neK⟩
theorem ms_daug (i : Nat) (hu : X.A.units + 1 < cLine) (hk : ME Γ X W o b o1 tk mk) (hv : ME Γ X W o1 a o2 tv mv) (hi0 : i ∈ o := by decide) (hi1 : i ∈ o1 := by decide) (hi2 : i ∈ o2 := by decide) (hN : X.N[i]? = some x := by rfl) (hvi : Vis X.env.scope x := by first | exact Or.inl rfl | exact Or.inr (Or.inl rfl) | exact Or.inr (Or.inr rfl)) (hd : (x == ("__debug__" : Str)) = false := by decide) (hcd : (x == ("__classdict__" : Str)) = false := by decide)
    (ha : ∀ ov iv new, augStore b ov iv new = (do holding [new, ov, iv] (setItem ov iv new); release [new, ov, iv] []; pure .next) := by intro _ _ _; rfl) :
    MS Γ X W oL o (.AugAssign (.Subscript (.Name x p) b tpos) .Add a pos) o2 (sDAug (tVar i) tk tv rAdd) (mDAug i (fun x y => x + y) mk mv) := by
  obtain ⟨eG⟩ := hG
  subst eG
  exact ⟨ps_daug hu (pe_var hN hvi hd hcd) hk.pe hv.pe in_add ha, PuS.daug hi0 hi1 hi2 hk.pu hv.pu⟩
/-- a tuple of the module -/
theorem me_gtup {q : Addr} {us : List V} {ds : List D} (hm : X.mg x = some (.ref q)) (hT : ∀ H, SqT X.K H q us) (hr : ∀ F, RpL Γ F ds us) (hg : Gl X x := by rfl) (hd : (x == ("__debug__" : Str)) = false := by decide) : ME Γ X W o (.Name x pos) o (tC (.ref q)) (mC (.ktup ds)) := by
  obtain ⟨eG⟩ := hG
  subst eG
  exact ⟨pe_glob hg hm rfl hd, PuE.c fun F => .ktup (hT F) (hr F)⟩
def mNotTru (m : Env → R D) : Env → R D := fun ρ => (m ρ).bind fun d => d.truth.bind fun k => .ok (.bl (!k))
theorem me_notT (h : ME Γ X W o a o1 ta ma) : ME Γ X W o (.UnaryOp .Not a pos) o1 (tNotT Γ.K ta) (mNotTru ma) := by
  obtain ⟨eG⟩ := hG
  subst eG
  refine ⟨pe_notT h.pe, ?_⟩
  intro B F0 F H σ ρ Q rel hr
  refine h.pu rel ((Res.bnd hr).imp fun d F1 H1 e1 r1 q v rv => ?_)
  have e : ∀ {k : Bool}, Res ⟨X.K, X.mg⟩ W B F0 F1 H1 o1 σ ρ (kE ⟨X.K, X.mg⟩ Q) (.ok (.bl (!k))) → Q (.bl (!k)) H1 := fun z => z.here r1 (.bl _)
  cases rv with
  | non => exact ⟨_, rfl, e q⟩
  | bl b => exact ⟨_, rfl, e q⟩
  | int i => exact ⟨_, rfl, e q⟩
  | @lst a vs ds h2 r2 => exact ⟨_, .inl ⟨vs, .inl (.inl (r1.core.fh _ _ h2)), rfl⟩, by rw [← r2.isEmpty]; exact e q⟩
  | @scr a vs ds h2 r2 => exact ⟨_, .inl ⟨vs, r1.sqL h2, rfl⟩, by rw [← r2.isEmpty]; exact e q⟩
  | @tup a vs ds h2 r2 => exact ⟨_, .inr (.inl ⟨vs, .inl (.inl (r1.core.fh _ _ h2)), rfl⟩), by rw [← r2.isEmpty]; exact e q⟩
  | @ktup a vs ds h2 r2 => exact ⟨_, .inr (.inl ⟨vs, r1.sqT h2, rfl⟩), by rw [← r2.isEmpty]; exact e q⟩
  | str x =>
    by_cases c : x.length ≤ sizeLine
    · have q' : Res ⟨X.K, X.mg⟩ W B F0 F1 H1 o1 σ ρ (kE ⟨X.K, X.mg⟩ Q) ((if x.length ≤ sizeLine then R.ok ((x.length : Int) != 0) else .bad).bind fun k => .ok (.bl (!k))) := q
      rw [if_pos c] at q'
      exact ⟨_, ⟨c, rfl⟩, e q'⟩
    · have q' : Res ⟨X.K, X.mg⟩ W B F0 F1 H1 o1 σ ρ (kE ⟨X.K, X.mg⟩ Q) ((if x.length ≤ sizeLine then R.ok ((x.length : Int) != 0) else .bad).bind fun k => .ok (.bl (!k))) := q
      rw [if_neg c] at q'
      exact q'.elim
  | _ => exact q.elim
end
end G
/-! E7: sorted(d), d a dict whose keys are tuples of ints, none empty. -/
namespace G
open PySem PySem.Spec PySem.W PyProof.Rows L2 TpL
section
variable {prog : Program} {w : World} {A : Around} {E : Value → Shared → Prop} {s : Shared}
/-- sorted of the keys of a dict at l -/
theorem sorted_keys {l : Addr} {o : Obj} {es : Array DictEntry} {ep : Nat} {vs : List Value} {ltv : Value → Value → Bool} {Q : Value → Shared → Prop} (lo : (l == sysModules) = false) (hx : o.ExactDict) (hd : o.data = .dict es ep) (ho : s.heap.get? l = some o) (hh : A.handled = none) (hz : vs.length ≤ sizeLine) (hv : es.toList.map (fun e => e.key) = vs) (O : SrtO.Swo ltv)
    (hS : 2 ≤ vs.length → ∀ (h₁ : Heap) (tk : Nat) (a : Addr), h₁.get? a = some (seqObj "list" vs.toArray 0) → (∀ b o, s.heap.get? b = some o → b ≠ a ∧ h₁.get? b = some o) → SrtO.SortableO prog w A.in1.in1 { s with heap := h₁, toks := tk } a vs ltv)
    (h : ∀ (h' : Heap) (tk : Nat) (d : Addr) (out : List Value), SrtO.Srtd ltv out → SrtO.Stb ltv out vs → (∀ b o, s.heap.get? b = some o → h'.get? b = some o) → s.heap.get? d = none → (∃ n, h'.get? d = some (seqObj "list" out.toArray n)) → Q (.ref d) { s with heap := h', toks := tk }) :
    wpAny (model prog w) A (call (.builtin "sorted") [.ref l]) Q E s := by
  have hsz : es.size ≤ sizeLine := by
    have := congrArg List.length hv
    rw [List.length_map, Array.length_toList] at this
    omega
  refine Calls.call_function_entry kind_sorted plain_sorted entry_sorted (args_sorted1 _) ?_
  unfold Builtin.«sorted»
  apply wpAny_bind (m := checkCount "sorted" 1 1 _)
  apply wpAny_pure
  refine wpAny_bind (kdu_collect (A := A.in1) (kdl_raw (prog := prog) (w := w) lo hx hd) (by first | exact hh | simpa using hh) ho hsz fun h' tk acc keep it => ?_)
  have ea : acc.toList = vs := by
    rw [← hv]
    refine List.ext_getElem? fun j => ?_
    rw [List.getElem?_map]
    cases hj : acc.toList[j]? with
    | none =>
      have h1 := List.getElem?_eq_none_iff.mp hj
      have h2 : acc.size = es.size := it.1
      rw [Array.length_toList] at h1
      rw [List.getElem?_eq_none (by rw [Array.length_toList]; omega)]
      rfl
    | some v =>
      obtain ⟨en, hen, hv2⟩ := it.2 j v (by rw [← Array.getElem?_toList]; exact hj)
      rw [Array.getElem?_toList, hen, hv2]
      rfl
  rw [ea]
  refine wpAny_bind (wpAny_newList ?_ hz)
  have hoL : (h'.push (seqObj "list" vs.toArray 0)).get? h'.objs.size = some (seqObj "list" vs.toArray 0) := Heap.get?_push_size _ rfl
  have old : ∀ b o, s.heap.get? b = some o → b < h'.objs.size := fun b o q => Heap.lt_size (keep b o q)
  have keep1 : ∀ b o, s.heap.get? b = some o → b ≠ h'.objs.size ∧ (h'.push (seqObj "list" vs.toArray 0)).get? b = some o := fun b o q => ⟨Nat.ne_of_lt (old b o q), Heap.get?_push_of_some _ (keep b o q)⟩
  show wpAny _ _ _ _ _ { s with heap := h'.push (seqObj "list" vs.toArray 0), toks := tk }
  refine wpAny_bind (wpAny_holding (wpAny_call_entry slot_list_sort ⟨_, hoL, rfl⟩ entry_list_sort (SrtO.list_sort_ord O hoL hz (fun h2 => hS h2 _ _ _ hoL keep1) fun out hs hb => ⟨_, rfl, ?_⟩) (args_list_sort _)))
  refine wpAny_pure ⟨_, rfl, h _ _ _ out hs hb (fun b o q => ?_) ?_ ?_⟩
  · rw [sortedHeap_old (Nat.ne_of_lt (old b o q)) (by rw [size_push']; exact Nat.lt_succ_of_lt (old b o q))]
    exact (keep1 b o q).2
  · cases q : s.heap.get? h'.objs.size with
    | none => rfl
    | some o' => exact absurd (old _ _ q) (Nat.lt_irrefl _)
  · exact sortedHeap_at hoL
end
/-- sorted(d): the keys of d are tuples of ints, none empty -/
def rSoD : List V → Hp → VK → Prop := fun vs H Q => ∃ (d : Addr) (kvs : List (List Key × V)), vs = [V.ref d] ∧ Rd H d (.dT kvs) ∧ (∀ p ∈ kvs, ∃ ns : List Int, p.1 = ns.map Sum.inl ∧ ns ≠ []) ∧
  ∀ (bs : List Addr) (ys : List V) (p : Addr), IsKeys H kvs bs → ys.Perm (bs.map V.ref) → ys.Pairwise (fun x y => HT.lexLt (kF H y) (kF H x) = false) → H p = none → Q (.ref p) (upd H p (.lst ys))
theorem isKeys_mem {H : Hp} {kvs : List (List Key × V)} {bs : List Addr} (h : IsKeys H kvs bs) : ∀ b ∈ bs, ∃ p ∈ kvs, H b = some (.tup (p.1.map kV)) := by
  unfold IsKeys at h
  induction h with
  | nil => exact fun _ q => nomatch q
  | @cons p q ps qs h1 h2 ih =>
    intro b hb
    rcases List.mem_cons.mp hb with e | hb
    · subst e; exact ⟨p, .head _, h1⟩
    · obtain ⟨p', m, e⟩ := ih b hb
      exact ⟨p', .tail _ m, e⟩
theorem inl_ints : ∀ ns : List Int, (ns.map (Sum.inl : Int → Key)).map kV = ns.map V.int
  | [] => rfl
  | n :: ns => congrArg (V.int n :: ·) (inl_ints ns)
section
variable {X : Cx}
theorem cr_soD (hc : X.calm = true) (hu : X.A.units + 65 < cLine) : CallR X (.builtin "sorted") rSoD := by
  intro pins s σ H xs us Q I r h
  obtain ⟨d, kvs, rfl, hd, hk, q⟩ := h
  obtain ⟨u, rfl, rx⟩ := r.one
  cases rx
  obtain ⟨z, hs, ks, pr, o, es, ep, ho, hx, hdt, he, hn⟩ := (show ObjOk X.prog X.w H s.heap d (.dT kvs) from hd.ok I.hok)
  have l1 : es.size = ks.length := size_of_entries he
  have l2 : kvs.length = ks.length := Paired.length pr
  have hvals : es.toList.map (fun e => e.key) = (ks.map fun x => x.2.1).map Value.ref := by
    refine List.ext_getElem? fun j => ?_
    rw [List.getElem?_map, List.getElem?_map, List.getElem?_map, Array.getElem?_toList]
    have qe := entry_at he j
    cases hb : ks[j]? with
    | none => rw [hb] at qe; rw [show es[j]? = none from qe]; rfl
    | some b => rw [hb] at qe; rw [show es[j]? = some _ from qe]; rfl
  have hIK := isKeys_of pr
  have hb := isKeys_mem hIK
  have hlen : (ks.map fun x => x.2.1).length = ks.length := List.length_map _
  generalize (ks.map fun x => x.2.1) = bs at hvals hb hIK hlen
  have hkey : ∀ b ∈ bs, ∃ ns : List Int, H b = some (.tup (ns.map V.int)) ∧ kF H (.ref b) = ns ∧ ns ≠ [] := fun b m => by
    obtain ⟨p, hp, e⟩ := hb b m
    obtain ⟨ns, e1, e2⟩ := hk p hp
    rw [e1, inl_ints] at e
    refine ⟨ns, e, ?_, e2⟩
    show (match H b with | some (.tup vs) => vs.filterMap intV | _ => []) = ns
    rw [e]
    exact filt_ints ns
  have hv : ∀ v ∈ bs.map Value.ref, IsTp s.heap v (kF H (backV v)) := fun v hv => by
    obtain ⟨b, m, rfl⟩ := List.mem_map.mp hv
    obtain ⟨ns, e1, e2, _⟩ := hkey b m
    obtain ⟨_, its2, r2, o2, ho2, hc2, n2, hd2⟩ := I.hok _ _ e1
    obtain ⟨c2, dd, da, sl⟩ := o2
    simp only at hc2 hd2
    subst hc2 hd2
    exact ⟨b, dd, _, n2, sl, rfl, ho2, by rw [show kF H (backV (Value.ref b)) = ns from e2]; simpa using r2.ints⟩
  have hbz : (bs.map Value.ref).length ≤ sizeLine := by rw [List.length_map]; omega
  refine sorted_keys hs hx hdt ho (I.ok.hd hc) hbz hvals (NtL.swo_lexL fun u => kF H (backV u)) (fun h2 h₁ tk a' ha' kk => ?_) fun h' tk d2 out h3 h4 kp hd2 he2 => ?_
  · refine tp_sortable (s := { s with heap := h₁, toks := tk }) (by first | (show X.A.units + 1 + 1 < cLine; omega) | (show X.A.units + 2 < cLine; omega) | (show X.A.units < cLine; omega) | (simp [Around.in1]; omega)) (fun v hm => (hv v hm).keeps fun b o _ e => (kk b o e).2) (.inr ⟨fun v hm => ?_, fun z => by rw [z] at h2; simp at h2⟩) fun v hm => ?_
    · obtain ⟨b, m, rfl⟩ := List.mem_map.mp hm
      obtain ⟨ns, _, e2, e3⟩ := hkey b m
      rw [show kF H (backV (Value.ref b)) = ns from e2]
      exact e3
    · obtain ⟨b, dd, items, n3, sl, e, g, _⟩ := hv v hm
      rw [e]
      intro z
      cases z
      exact (kk _ _ g).1 rfl
  · have h5 : ∀ u ∈ out, ∃ a, u = Value.ref a := fun u hu2 => by
      obtain ⟨b, _, e⟩ := List.mem_map.mp (h4.perm.mem_iff.mp hu2)
      exact ⟨b, e.symm⟩
    obtain ⟨n, hn2⟩ := he2
    have hp : (out.map backV).Perm (bs.map V.ref) := by
      have := h4.perm.map backV
      rw [List.map_map] at this
      exact this
    have hno := none_of I.hok hd2
    refine ⟨.ref d2, upd H d2 (.lst (out.map backV)), I.laidN (t' := tk) kp hd2 hno ⟨?_, out, n, vals_back h5, hn2⟩, rfl, q bs _ d2 hIK hp (List.pairwise_map.mpr h3) hno⟩
    rw [hp.length_eq, List.length_map]
    rw [List.length_map] at hbz
    exact hbz
end
def kInts : List Key → Option (List Int)
  | [] => some []
  | .inl i :: r => (kInts r).map (i :: ·)
  | .inr _ :: _ => none
def allInts : List DK → Option (List (List Int))
  | [] => some []
  | .t ks :: r => (match kInts ks, allInts r with
    | some ns, some nss => some (ns :: nss)
    | _, _ => none)
  | _ :: _ => none
def D.sortK : D → R D
  | .dic true ks _ => (match allInts ks with
    | some nss => if nss.all (fun ns => ns != []) = true then .ok (.lst (sortD (nss.map fun ns => D.tup (ns.map D.int)))) else .bad
    | none => .bad)
  | _ => .bad
theorem kInts_eq : ∀ {ks : List Key} {ns : List Int}, kInts ks = some ns → ks = ns.map Sum.inl
  | [], _, h => by cases h; rfl
  | .inl i :: r, ns, h => by
    unfold kInts at h
    cases q : kInts r with
    | none => rw [q] at h; cases h
    | some ms => rw [q] at h; cases h; rw [kInts_eq q]; rfl
  | .inr _ :: _, _, h => by cases h
theorem allInts_eq : ∀ {js : List (List Key)} {nss : List (List Int)}, allInts (js.map DK.t) = some nss → js = nss.map fun ns => ns.map Sum.inl
  | [], _, h => by cases h; rfl
  | k :: js, nss, h => by
    rw [List.map_cons] at h
    unfold allInts at h
    cases q1 : kInts k with
    | none => rw [q1] at h; cases h
    | some ns =>
      cases q2 : allInts (js.map DK.t) with
      | none => rw [q1, q2] at h; cases h
      | some ms => rw [q1, q2] at h; cases h; rw [List.map_cons, ← allInts_eq q2, ← kInts_eq q1]
section
variable {Γ : Gc} {W : WX}
theorem keys_rp {F H : Hp} (hF : ∀ a u, F a = some u → H a = some u) : ∀ (nss : List (List Int)) (vs : List V) (bs : List Addr), nss.length = vs.length → IsKeys H ((nss.map fun ns => ns.map Sum.inl).zip vs) bs → (∀ b ∈ bs, F b = H b) → RpL Γ F (nss.map fun ns => D.tup (ns.map D.int)) (bs.map V.ref)
  | [], _, bs, _, h, _ => by
    cases bs with
    | nil => exact .nil
    | cons b bs => unfold IsKeys at h; cases h
  | ns :: nss, [], bs, hl, _, _ => by cases hl
  | ns :: nss, v :: vs, bs, hl, h, hb => by
    unfold IsKeys at h
    rw [List.map_cons, List.zip_cons_cons] at h
    cases h with
    | @cons _ b _ bs h1 h2 =>
      refine .cons ?_ (keys_rp hF nss vs bs (by simpa using hl) h2 fun c hc => hb c (.tail _ hc))
      have e : H b = some (.tup (ns.map V.int)) := by rw [← inl_ints]; exact h1
      exact .tup (by rw [hb b (.head _)]; exact e) (RpL.ints ns)
theorem pu_sortK : PuCO Γ W rSoD (d1 D.sortK) := by
  refine pu_c1O (fun {B F0 F H o σ ρ Q v d} rel rv h => ?_)
  cases rv with
  | @dicT a js vs ds h1 hl r1 =>
    unfold D.sortK at h
    dsimp only at h
    cases hn : allInts (js.map DK.t) with
    | none => rw [hn] at h; exact h.elim
    | some nss =>
      rw [hn] at h
      obtain ⟨c, h⟩ := Res.ifP h
      have ej := allInts_eq hn
      subst ej
      rw [List.length_map] at hl
      refine ⟨a, _, rfl, rel.rd h1, fun p hp => ?_, fun bs ys p hIK hperm hso hpn => ?_⟩
      · obtain ⟨k, v⟩ := p
        have hk := (List.of_mem_zip hp).1
        obtain ⟨ns, m, e⟩ := List.mem_map.mp hk
        exact ⟨ns, e.symm, by have := List.all_eq_true.mp c ns m; intro z; rw [z] at this; cases this⟩
      · have hkey := isKeys_mem hIK
        let F' : Hp := fun b => match F b with
          | some u => some u
          | none => if b ∈ bs then H b else none
        have f1 : ∀ b u, F b = some u → F' b = some u := fun b u e => by show (match F b with | some u => some u | none => if b ∈ bs then H b else none) = _; rw [e]
        have f2 : ∀ b, F b = none → F' b = if b ∈ bs then H b else none := fun b e => by show (match F b with | some u => some u | none => if b ∈ bs then H b else none) = _; rw [e]
        have fh : ∀ b u, F' b = some u → H b = some u := fun b u e => by
          cases q : F b with
          | some u2 => rw [f1 b u2 q] at e; cases e; exact rel.core.fh b u q
          | none =>
            rw [f2 b q] at e
            split at e
            · exact e
            · cases e
        have fb : ∀ b ∈ bs, F' b = H b := fun b hb => by
          cases q : F b with
          | some u => rw [f1 b u q, rel.core.fh b u q]
          | none => rw [f2 b q, if_pos hb]
        have le : Le F F' := Le.of f1
        have nf : ∀ b, F' b ≠ none → F b ≠ none ∨ Gn H b := fun b e => by
          cases q : F b with
          | some w => exact .inl (by simp)
          | none =>
            rw [f2 b q] at e
            by_cases hb : b ∈ bs
            · obtain ⟨p, _, ep⟩ := hkey b hb
              exact .inr (.inr ⟨_, ep⟩)
            · rw [if_neg hb] at e; exact absurd rfl e
        have rel' := rel.grow le fh (fun _ _ q => q) nf
        have rk := keys_rp (Γ := Γ) fh nss vs bs hl hIK fb
        have hI : (nss.map fun ns => D.tup (ns.map D.int)).all D.isTI = true := by
          rw [List.all_map, List.all_eq_true]
          intro ns _
          show allI (ns.map D.int) = true
          unfold allI
          rw [List.all_map, List.all_eq_true]
          exact fun _ _ => rfl
        have hkF : ∀ y ∈ ys, kF F' y = kF H y := fun y hy => by
          obtain ⟨b, hb, e⟩ := List.mem_map.mp (hperm.mem_iff.mp hy)
          subst e
          show (match F' b with | some (.tup vs) => vs.filterMap intV | _ => []) = (match H b with | some (.tup vs) => vs.filterMap intV | _ => [])
          rw [fb b hb]
        have out := sortT_out hI rk hperm (hso.imp_of_mem fun {x y} hx hy z => by rw [hkF x hx, hkF y hy, ← lexLt_eq]; exact z)
        exact (Res.mono ⟨le, Same.refl H⟩ h).newO rel' hpn (.lst upd_same out)
  | _ => exact h.elim
end
end G
/-! E8: own errors: raise X(); try: .. except Y as n: return isinstance(n, X). -/
namespace G
open PySem PySem.Spec PyProof.Rows L2
/-- an own class of errors at C, known as x, made without arguments -/
structure ErrC (K : PySem.W.Frag) (mg : Str → Option Value) (x : Str) (C : Addr) : Prop where
  g : mg x = some (.ref C)
  ex : PySem.W.excIn K C He.veBase "ValueError.__new__" = true
  kp : PySem.W.keepIn K (.ref C) = true
  sb : PySem.W.subIn K (.ref C) (.type "BaseException") = some true
  ty : PySem.W.typeIn K (.ref C) = some (.type "type")
  is : ExcC K C
/-- X() -/
theorem pmk0 {X : Cx} {x : Str} {C : Addr} {p pos : Pos} (h : ErrC X.K X.mg x C) (hg : Gl X x := by rfl) (hdb : (x == ("__debug__" : Str)) = false := by decide) : L2N.PMk X (.Call (.Name x p) [] [] pos) (fun _ H Q => Q (.ref C) none H) := by
  intro pins s σ H Q I q
  refine wpAny_Call_Name_kw (ld_glob I hg h.g ?_ hdb)
  refine PySem.W.callWith_K0 I.kIn h.kp ?_
  show wpAny _ _ (call (.ref C) []) _ _ _
  obtain ⟨bm, N, nm, qn, bs, hdct, sn, sub, ab, col, dd, k0, k1, k2, k3, k5, mN, hC, hN, hni, T⟩ := exc_obj I.kIn h.ex
  obtain ⟨hp, g, dr, tk, os⟩ := s
  refine wpAny_call_exc_subT PySem.F.excBase_ValueError T hC hN hni (fun h' e hm => ?_) (by show 0 ≤ sizeLine; omega)
  exact L2N.mk_of I hm (raises_own h.sb h.ty) q (I.hok.gone hm.new)
def mRaise (c : Str) : Env → Out := fun ρ => .exc c none ρ
section
variable {Γ : Gc} {X : Cx} [hG : HG Γ X] {W : WX} {o oL : List Nat} {x : Str} {p pos pos2 : Pos}
theorem ms_raise {C : Addr} (h : ErrC X.K X.mg x C) (hc : X.calm = true) (tk : L2N.Takes X W) (hg : Gl X x := by rfl) (hdb : (x == ("__debug__" : Str)) = false := by decide) :
    MS Γ X W oL o (.Raise (some (.Call (.Name x p) [] [] pos)) none pos2) o (fun _ σ H => W (.ref C) none σ H) (mRaise x) := by
  obtain ⟨eG⟩ := hG
  subst eG
  refine ⟨L2N.ps_raise hc tk (pmk0 h hg hdb), fun {B F0 F H σ ρ D} rel q => ?_⟩
  obtain ⟨F', e, r⟩ := rel.bare
  exact q F' H σ (.ref C) none e r ⟨C, h.g, rfl, rfl⟩
end
/-! ### try: .. except Y as n: return isinstance(n, X) -/
instance {Γ : Gc} {X : Cx} [h : HG Γ X] {pn : List (Addr × Obj)} {xe : Value → Shared → Prop} : HG Γ (X.tr pn xe) := ⟨h.e⟩
/-- what the suite wants of the error in hand -/
def tIsE (K : PySem.W.Frag) (i : Nat) (cX : Value) (a : Addr) (cls : Value) (d : Option Addr) : TS := fun D σ H => ∃ C b, cls = .ref C ∧ d = none ∧ ExcC K C ∧ σ[i]? = some (some (.ref a)) ∧ PySem.W.kitOne K (.ref C) cX = some b ∧ D.rt (.bl b) H
section
variable {X : Cx} {x n y : Str} {i : Nat} {p1 p2 p3 p4 p5 p6 p7 p8 : Pos}
theorem pss_isE {a CX : Addr} {oe : Obj} {cls : Value} {d : Option Addr} {pn : List (Addr × Obj)} (hi : X.N[i]? = some n) (hv : Vis X.env.scope n) (hd1 : (n == ("__debug__" : Str)) = false) (hd2 : (n == ("__classdict__" : Str)) = false) (hz : L2N.Zn cls d oe) (hf : ∃ vs, oe.data = .fields vs)
    (hm : X.mg x = some (.ref CX)) (hg : Gl X x) (hdb : (x == ("__debug__" : Str)) = false) (n_is : X.mg "isinstance" = none) (g_is : Gl X "isinstance") (b_is : bootBuiltins "isinstance" = some (.builtin "isinstance"))
    (he : starEach [Expr.Name n p2, .Name x p3] X.env = (false, eval (.Name n p2) X.env) :: starEach [.Name x p3] X.env := by rfl) (hpl : (backTo p4 (starEach [Expr.Name x p3] X.env)).any (·.1) = false := by rfl) (he2 : starEach [Expr.Name x p3] X.env = (false, eval (.Name x p3) X.env) :: starEach [] X.env := by rfl) :
    PSs (X.suite a ((a, oe) :: pn)) [.Return (some (.Call (.Name "isinstance" p1) [.Name n p2, .Name x p3] [] p4)) p5] (tIsE X.K i (.ref CX) a cls d) := by
  refine ⟨fun pins s σ H D I h => ?_⟩
  obtain ⟨C, b, rfl, rfl, ec, hs, hk, q⟩ := h
  have cr : CallR (X.suite a ((a, oe) :: pn)) (.builtin "isinstance") (rIsE X.K C a) := call_isE ec hz.zc hf
  refine (pss_one (ps_ret (pe_callB cr g_is n_is b_is (pa_cons (pe_var hi hv hd1 hd2) (pa_cons (pe_glob (v := .ref CX) hg hm rfl hdb) pa_nil he2) he) (by decide) (by decide) he hpl))).run pins s σ H D I ?_
  exact ⟨_, hs, .ref CX, .ref CX, b, rfl, fun u hu => hu, hk, q⟩
end
/-- i: the error's slot; tbl: what isinstance tells of each class -/
def mTryIs (i : Nat) (tbl : Str → Option Bool) (mb : Env → Out) : Env → Out := fun ρ => match mb ρ with
  | .exc c none ρ' => if i < ρ'.length then (match tbl c with
    | some b => .rt (.bl b)
    | none => .bad) else .bad
  | .exc _ (some _) _ => .bad
  | r => r
section
variable {Γ : Gc} {X : Cx} [hG : HG Γ X] {W : WX} {o o' oL : List Nat} {x n y : Str} {i : Nat} {p1 p2 p3 p4 p5 p6 p7 p8 : Pos} {body : List Stmt} {tb : WX → TS} {mb : Env → Out}
theorem ms_tryIs {CX CY : Addr} {tbl : Str → Option Bool} (hT : ∀ c b, tbl c = some b → ∃ C, ErrC X.K X.mg c C ∧ PySem.W.exmOne X.K (.ref C) (.ref CY) = some true ∧ PySem.W.kitOne X.K (.ref C) (.ref CX) = some b) (hx : X.mg x = some (.ref CX)) (hy : X.mg y = some (.ref CY)) (n_is : X.mg "isinstance" = none) (nd : X.N.Nodup)
    (hb : ∀ (W : WX) (pn : List (Addr × Obj)) (xe : Value → Shared → Prop), L2N.Takes (X.tr pn xe) W → MSs Γ (X.tr pn xe) W oL o body o' (tb W) mb)
    (hs : X.stack = X.env :: X.outer := by rfl) (hf : X.env.frame = some X.env.locals := by rfl) (hi : X.N[i]? = some n := by rfl) (hln : X.env.kindOf n = some .local := by rfl) (hd1 : (n == ("__debug__" : Str)) = false := by decide) (hd2 : (n == ("__classdict__" : Str)) = false := by decide)
    (hg : Gl X x := by rfl) (hdb : (x == ("__debug__" : Str)) = false := by decide) (hgy : Gl X y := by rfl) (hdby : (y == ("__debug__" : Str)) = false := by decide) (g_is : Gl X "isinstance" := by rfl) (b_is : bootBuiltins "isinstance" = some (.builtin "isinstance") := by decide +kernel)
    (he : starEach [Expr.Name n p2, .Name x p3] X.env = (false, eval (.Name n p2) X.env) :: starEach [.Name x p3] X.env := by rfl) (hpl : (backTo p4 (starEach [Expr.Name x p3] X.env)).any (·.1) = false := by rfl) (he2 : starEach [Expr.Name x p3] X.env = (false, eval (.Name x p3) X.env) :: starEach [] X.env := by rfl) :
    MS Γ X W oL o (.Try body [.ExceptHandler (some (.Name y p6)) (some n) [.Return (some (.Call (.Name "isinstance" p1) [.Name n p2, .Name x p3] [] p4)) p5] p7] [] [] p8) o'
      (fun D σ H => tb (wAs X.K (.ref CY) i (tIsE X.K i (.ref CX)) (fun _ _ _ _ => False) D) D σ H) (mTryIs i tbl mb) := by
  have hpe := L2N.ps_try_as (X := X) (x := y) (n := n) (c := .ref CY) (i := i) (body := body) (np := p6) (pos := p8) (pos' := p7) (tb := tb) (ts := tIsE X.K i (.ref CX)) (Wout := fun _ _ _ _ => False) hs hf nd hi hln ⟨hgy, hdby, .inl hy⟩
    (fun _ _ z => by obtain ⟨_, _, _, _, _, _, _, _, _, _, _, _, _, _, _, _, z⟩ := z; exact z.elim) (fun W pn xe tk _ => (hb W pn xe tk).pe) (fun a oe cls d pn hz hf' => pss_isE (p1 := p1) (p5 := p5) hi (.inl hln) hd1 hd2 hz hf' hx hg hdb n_is g_is b_is he hpl he2)
  refine ⟨hpe, fun {B F0 F H σ ρ D} rel h => ?_⟩
  have hpu : PuS Γ (wAs X.K (.ref CY) i (tIsE X.K i (.ref CX)) (fun _ _ _ _ => False) D) oL o (tb (wAs X.K (.ref CY) i (tIsE X.K i (.ref CX)) (fun _ _ _ _ => False) D)) o' mb := (hb (wAs X.K (.ref CY) i (tIsE X.K i (.ref CX)) (fun _ _ _ _ => False) D) [] (fun _ _ => True) (fun _ _ _ => trivial)).pu
  obtain ⟨eG⟩ := hG
  subst eG
  refine hpu rel ?_
  unfold mTryIs at h
  cases hm : mb ρ with
  | nx ρ' => rw [hm] at h; exact h
  | rt e => rw [hm] at h; exact h
  | bk ρ' => rw [hm] at h; exact h
  | ct ρ' => rw [hm] at h; exact h
  | bad => rw [hm] at h; exact h
  | exc c q ρ' =>
    rw [hm] at h
    cases q with
    | some z => exact h.elim
    | none =>
      dsimp only at h
      split at h
      · rename_i hl
        cases ht : tbl c with
        | none => rw [ht] at h; exact h.elim
        | some b =>
          rw [ht] at h
          intro F' H' σ' cls dd le r' x'
          obtain ⟨C, g1, g2, g3⟩ := x'
          obtain ⟨C', e1, e2, e3⟩ := hT c b ht
          have eC : C' = C := by
            have := e1.g.symm.trans g1
            cases this
            rfl
          subst eC
          have g3' : dd = none := g3
          refine ⟨true, by rw [g2]; exact e2, fun _ a _ => ⟨C', b, g2, g3', e1.is, ?_, e3, h F' H' (.bl b) le r'.core (.bl b)⟩, fun z => nomatch z⟩
          rw [List.getElem?_set_self (by rw [r'.len]; exact hl)]
      · exact h.elim
end
/-! ### the facts of classes, told by the head -/
def tblOf (l : List (Str × Bool)) (c : Str) : Option Bool := (l.find? fun p => decide (p.1 = c)).map fun p => p.2
theorem tblOf_mem {l : List (Str × Bool)} {c : Str} {b : Bool} (h : tblOf l c = some b) : (c, b) ∈ l := by
  unfold tblOf at h
  rw [Option.map_eq_some_iff] at h
  obtain ⟨p, h1, h2⟩ := h
  have h3 := List.mem_of_find?_eq_some h1
  have h4 : p.1 = c := by
    have := List.find?_some h1
    simpa using this
  obtain ⟨p1, p2⟩ := p
  dsimp only at h2 h4
  subst h2 h4
  exact h3
/-- what isinstance tells of each class of l, caught by Y, asked for X -/
def TblOk (K : PySem.W.Frag) (mg : Str → Option Value) (Y X : Str) (l : List (Str × Bool)) : Prop := ∃ CX CY, mg X = some (.ref CX) ∧ mg Y = some (.ref CY) ∧ ∀ p ∈ l, ∃ C, ErrC K mg p.1 C ∧ PySem.W.exmOne K (.ref C) (.ref CY) = some true ∧ PySem.W.kitOne K (.ref C) (.ref CX) = some p.2
theorem TblOk.hT {K : PySem.W.Frag} {mg : Str → Option Value} {CX CY : Addr} {l : List (Str × Bool)} (h : ∀ p ∈ l, ∃ C, ErrC K mg p.1 C ∧ PySem.W.exmOne K (.ref C) (.ref CY) = some true ∧ PySem.W.kitOne K (.ref C) (.ref CX) = some p.2) : ∀ c b, tblOf l c = some b → ∃ C, ErrC K mg c C ∧ PySem.W.exmOne K (.ref C) (.ref CY) = some true ∧ PySem.W.kitOne K (.ref C) (.ref CX) = some b :=
  fun c b e => h (c, b) (tblOf_mem e)
def errB (K : PySem.W.Frag) (x : Str) : Bool := PySem.W.excIn K (He.ga K x) He.veBase "ValueError.__new__" && (PySem.W.keepIn K (.ref (He.ga K x)) && (PySem.W.subIn K (.ref (He.ga K x)) (.type "BaseException") == some true && (PySem.W.typeIn K (.ref (He.ga K x)) == some (.type "type") &&
  (PySem.W.findIn K (.ref (He.ga K x)) "__getattribute__" == some (some (.builtin "BaseException.__getattribute__")) && (PySem.W.findIn K (.ref (He.ga K x)) "__getattr__" == some none && (PySem.W.hasDictIn K (He.ga K x) && (PySem.W.findIn K (.ref (He.ga K x)) "__class__" == some (some (.builtin "object.__class__")) &&
  (PySem.W.specialIn K (.builtin "object.__class__") "__get__" == some (some (.builtin "getset_descriptor.__get__")) && (PySem.W.takesIn K (.builtin "object.__class__") == some true && PySem.W.mroIn K (He.ga K x) (.type "object") == some true)))))))))
theorem errB_ok {K : PySem.W.Frag} {mg : Str → Option Value} {x : Str} (g : mg x = some (.ref (He.ga K x))) (h : errB K x = true) : ErrC K mg x (He.ga K x) := by
  unfold errB at h
  simp only [Bool.and_eq_true, beq_iff_eq] at h
  obtain ⟨h1, h2, h3, h4, h5, h6, h7, h8, h9, h10, h11⟩ := h
  exact ⟨g, h1, h2, h3, h4, ⟨h5, h6, h3, h7, h8, h9, h10, h11⟩⟩
def rowB (K : PySem.W.Frag) (Y X c : Str) (b : Bool) : Bool := PySem.W.exmOne K (.ref (He.ga K c)) (.ref (He.ga K Y)) == some true && PySem.W.kitOne K (.ref (He.ga K c)) (.ref (He.ga K X)) == some b
theorem rowB_ok {K : PySem.W.Frag} {mg : Str → Option Value} {Y X c : Str} {b : Bool} (e : ErrC K mg c (He.ga K c)) (h : rowB K Y X c b = true) : ∃ C, ErrC K mg c C ∧ PySem.W.exmOne K (.ref C) (.ref (He.ga K Y)) = some true ∧ PySem.W.kitOne K (.ref C) (.ref (He.ga K X)) = some b := by
  unfold rowB at h
  simp only [Bool.and_eq_true, beq_iff_eq] at h
  exact ⟨_, e, h.1, h.2⟩
section
variable {Γ : Gc} {X : Cx} [hG : HG Γ X] {W : WX} {o o' oL : List Nat} {x n y : Str} {i : Nat} {p1 p2 p3 p4 p5 p6 p7 p8 : Pos} {body : List Stmt} {tb : WX → TS} {mb : Env → Out}
theorem ms_tryIsL {l : List (Str × Bool)} {CX CY : Addr} (i : Nat) (hx : X.mg x = some (.ref CX)) (hy : X.mg y = some (.ref CY)) (T : ∀ p ∈ l, ∃ C, ErrC X.K X.mg p.1 C ∧ PySem.W.exmOne X.K (.ref C) (.ref CY) = some true ∧ PySem.W.kitOne X.K (.ref C) (.ref CX) = some p.2) (n_is : X.mg "isinstance" = none) (nd : X.N.Nodup)
    (hb : ∀ (W : WX) (pn : List (Addr × Obj)) (xe : Value → Shared → Prop), L2N.Takes (X.tr pn xe) W → MSs Γ (X.tr pn xe) W oL o body o' (tb W) mb)
    (hs : X.stack = X.env :: X.outer := by rfl) (hf : X.env.frame = some X.env.locals := by rfl) (hi : X.N[i]? = some n := by rfl) (hln : X.env.kindOf n = some .local := by rfl) (hd1 : (n == ("__debug__" : Str)) = false := by decide) (hd2 : (n == ("__classdict__" : Str)) = false := by decide)
    (hg : Gl X x := by rfl) (hdb : (x == ("__debug__" : Str)) = false := by decide) (hgy : Gl X y := by rfl) (hdby : (y == ("__debug__" : Str)) = false := by decide) (g_is : Gl X "isinstance" := by rfl) (b_is : bootBuiltins "isinstance" = some (.builtin "isinstance") := by decide +kernel)
    (he : starEach [Expr.Name n p2, .Name x p3] X.env = (false, eval (.Name n p2) X.env) :: starEach [.Name x p3] X.env := by rfl) (hpl : (backTo p4 (starEach [Expr.Name x p3] X.env)).any (·.1) = false := by rfl) (he2 : starEach [Expr.Name x p3] X.env = (false, eval (.Name x p3) X.env) :: starEach [] X.env := by rfl) :
    MS Γ X W oL o (.Try body [.ExceptHandler (some (.Name y p6)) (some n) [.Return (some (.Call (.Name "isinstance" p1) [.Name n p2, .Name x p3] [] p4)) p5] p7] [] [] p8) o'
      (fun D σ H => tb (wAs X.K (.ref CY) i (tIsE X.K i (.ref CX)) (fun _ _ _ _ => False) D) D σ H) (mTryIs i (tblOf l) mb) :=
  ms_tryIs (TblOk.hT T) hx hy n_is nd hb hs hf hi hln hd1 hd2 hg hdb hgy hdby g_is b_is he hpl he2
end
end G
/-! E9: len(set(t)), t a tuple of ints. -/
namespace G
open PySem PySem.Spec PyProof.Rows L2
/-- each int once -/
def nubI : List Int → List Int
  | [] => []
  | x :: l => if x ∈ l then nubI l else x :: nubI l
theorem mem_nubI {x : Int} : ∀ {l : List Int}, x ∈ nubI l ↔ x ∈ l
  | [] => Iff.rfl
  | y :: l => by
    unfold nubI
    by_cases h : y ∈ l
    · rw [if_pos h, mem_nubI, List.mem_cons]
      exact ⟨.inr, fun z => z.elim (fun e => e ▸ h) id⟩
    · rw [if_neg h, List.mem_cons, List.mem_cons, mem_nubI]
theorem nodup_nubI : ∀ l : List Int, (nubI l).Nodup
  | [] => List.nodup_nil
  | y :: l => by
    unfold nubI
    by_cases h : y ∈ l
    · rw [if_pos h]
      exact nodup_nubI l
    · rw [if_neg h]
      exact List.nodup_cons.mpr ⟨fun z => h (mem_nubI.mp z), nodup_nubI l⟩
theorem len_nubI {l ks : List Int} (h : ks.Nodup) (hm : ∀ k, k ∈ l ↔ k ∈ ks) : ks.length = (nubI l).length :=
  Nat.le_antisymm (List.Nodup.length_le_of_subset h fun k hk => mem_nubI.mpr ((hm k).mpr hk)) (List.Nodup.length_le_of_subset (nodup_nubI l) fun k hk => (hm k).mp (mem_nubI.mp hk))
theorem len_nubI_le : ∀ l : List Int, (nubI l).length ≤ l.length
  | [] => Nat.le_refl _
  | y :: l => by
    have := len_nubI_le l
    unfold nubI
    split
    · rw [List.length_cons]; omega
    · rw [List.length_cons, List.length_cons]; omega
def tLenSetT (K : PySem.W.Frag) (ta : TE) : TE := fun σ H Q => ta σ H fun x H1 => ∃ (l : Addr) (ns : List Int), x = V.ref l ∧ SqT K H1 l (ns.map V.int) ∧ ns.length ≤ 1000 ∧ Q (.int ((nubI ns).length : Nat)) H1
section
variable {Γ : Gc} {X : Cx} {G : Gc} {W : WX} {o o1 : List Nat} {a : Expr} {p p2 q pos : Pos} {ta : TE} {ma : Env → R D}
theorem pe_lenSetT (hc : X.calm = true) (hg : Gl X "len") (hm : X.mg "len" = none) (hg2 : Gl X "set") (hm2 : X.mg "set" = none) (ha : PE X a ta)
    (na : starEach [a] X.env = (false, eval a X.env) :: starEach [] X.env) : PE X (.Call (.Name "len" p) [.Call (.Name "set" p2) [a] [] q] [] pos) (tLenSetT X.K ta) := by
  refine ⟨fun pins s σ H Q I h => ?_⟩
  refine Call_ (ld_blt I hg hm boot_len ?_)
  refine PyProof.Rows.callWith_builtin1 (PyProof.Rows.args_cons ?_ rfl) rfl rfl
  refine Call_ (ld_blt I hg2 hm2 boot_set ?_)
  refine PyProof.Rows.callWith_type1 (PyProof.Rows.args_cons (thn (ha.run pins s σ H _ I h) fun v s1 ⟨x, H1, I1, r1, q1⟩ => PyProof.Rows.args_nil ?_) na) na rfl
  obtain ⟨l, ns, rfl, hq, hl, q1⟩ := q1
  cases r1
  obtain ⟨its, r, pl, hz⟩ := I1.tuple hq
  have hi : IntsAre its.toArray.toList ns := ints_of_vals r
  refine call_set_tupI ns (I1.ok.hd hc) (show s1.heap.IsTuple l its.toArray from pl) hi (by unfold scanBound; omega) fun h' tk c R1 hcn k => PyProof.Rows.args_nil ?_
  obtain ⟨ob, es, ep, t, ho, hex, hdt, g, nd, hmm, hb, hf, hn, hr, hl2⟩ := R1
  have I2 : Inv X pins σ H1 { s1 with heap := h', toks := tk } := I1.kept fun b u e => k b u e
  have e : es.size = (nubI ns).length := by
    have := len_nubI (l := ns) nd fun j => by rw [← hmm j, decide_eq_true_eq]
    rw [List.length_map, Array.length_toList] at this
    exact this
  exact call_len_set ho hex hdt hf (by omega) ⟨.int ((nubI ns).length : Nat), H1, I2.tok _, ⟨_, by rw [e]⟩, q1⟩
def D.lenSet : D → R D
  | .tup ds => match D.ints ds with
    | some ns => if ns.length ≤ 1000 then .ok (.int ((nubI ns).length : Nat)) else .bad
    | none => .bad
  | _ => .bad
theorem PuE.lenSet (ha : PuE G W o ta o1 ma) : PuE G W o (tLenSetT G.K ta) o1 (m1 D.lenSet ma) := by
  intro B F0 F H σ ρ Q rel h
  refine ha rel ((Res.bnd h).imp fun d F1 H1 e1 r1 q v rv => ?_)
  cases rv with
  | @tup a vs ds h1 r2 =>
    unfold D.lenSet at q
    dsimp only at q
    cases e : D.ints ds with
    | none => rw [e] at q; exact q.elim
    | some ns =>
      rw [e] at q
      obtain ⟨c, q⟩ := Res.ifP q
      have e2 := ints_eq e
      subst e2
      have e3 : vs = ns.map V.int := r2.intsV
      subst e3
      exact ⟨a, ns, rfl, .inl (.inl (r1.core.fh _ _ h1)), c, q.here r1 (.int _)⟩
  | _ => exact q.elim
end
section
variable {Γ : Gc} {X : Cx} [hG : HG Γ X] {W : WX} {o o1 : List Nat} {a : Expr} {p p2 q pos : Pos} {ta : TE} {ma : Env → R D}
theorem me_lenSet (hc : X.calm = true) (hm : X.mg "len" = none) (hm2 : X.mg "set" = none) (ha : ME Γ X W o a o1 ta ma) (hg : Gl X "len" := by rfl) (hg2 : Gl X "set" := by rfl) (na : starEach [a] X.env = (false, eval a X.env) :: starEach [] X.env := by rfl) :
    ME Γ X W o (.Call (.Name "len" p) [.Call (.Name "set" p2) [a] [] q] [] pos) o1 (tLenSetT Γ.K ta) (m1 D.lenSet ma) := by
  obtain ⟨eG⟩ := hG
  subst eG
  exact ⟨pe_lenSetT hc hg hm hg2 hm2 ha.pe na, PuE.lenSet ha.pu⟩
end
end G
/-! S18: plain lemmas: ==, in, comprehensions, loops. -/
namespace G
open PySem L2
/-- ints, None, tuples and lists of such, nested at most so deep -/
def okD : Nat → D → Bool
  | _, .non => true
  | _, .int _ => true
  | _, .str x => PyData.strOk x
  | n + 1, .tup ds => ds.all (okD n)
  | n + 1, .lst ds => ds.all (okD n)
  | _, _ => false
theorem okD_int {n : Nat} {i : Int} : okD n (.int i) = true := by cases n <;> rfl
theorem okD_non {n : Nat} : okD n .non = true := by cases n <;> rfl
theorem okD_str {n : Nat} {x : Str} : okD n (.str x) = PyData.strOk x := by cases n <;> rfl
theorem okD_tup {n : Nat} {ds : List D} : okD (n + 1) (.tup ds) = ds.all (okD n) := rfl
theorem okD_lst {n : Nat} {ds : List D} : okD (n + 1) (.lst ds) = ds.all (okD n) := rfl
theorem okD_up : ∀ {n : Nat} {a : D}, okD n a = true → okD (n + 1) a = true
  | _, .non, _ => okD_non
  | _, .int _, _ => okD_int
  | _, .str _, h => by rw [okD_str] at h ⊢; exact h
  | n + 1, .tup ds, h => by
    rw [okD_tup, List.all_eq_true] at h ⊢
    exact fun d hd => okD_up (h d hd)
  | n + 1, .lst ds, h => by
    rw [okD_lst, List.all_eq_true] at h ⊢
    exact fun d hd => okD_up (h d hd)
  | 0, .tup _, h => by cases h
  | 0, .lst _, h => by cases h
  | 0, .bl _, h => by cases h
  | 0, .dic _ _ _, h => by cases h
  | 0, .iset _, h => by cases h
  | 0, .fn _, h => by cases h
  | 0, .scr _, h => by cases h
  | 0, .ktup _, h => by cases h
  | 0, .ty _, h => by cases h
  | _ + 1, .bl _, h => by cases h
  | _ + 1, .dic _ _ _, h => by cases h
  | _ + 1, .iset _, h => by cases h
  | _ + 1, .fn _, h => by cases h
  | _ + 1, .scr _, h => by cases h
  | _ + 1, .ktup _, h => by cases h
  | _ + 1, .ty _, h => by cases h
theorem okD_ups {n : Nat} {ds : List D} (h : ds.all (okD n) = true) : ds.all (okD (n + 1)) = true := by
  rw [List.all_eq_true] at h ⊢
  exact fun d hd => okD_up (h d hd)
/-- what it is as Python's data -/
structure PyOk (n : Nat) (a : D) (x : PyData) : Prop where
  py : a.py = some x
  lay : x.canLay0 = true
  dp : x.depth ≤ n
theorem pyL_ok {n : Nat} (ih : ∀ a, okD n a = true → ∃ x, PyOk n a x) : ∀ ds : List D, ds.all (okD n) = true → ∃ xs, D.pyL ds = some xs ∧ PyData.canLayAll0 xs = true ∧ PyData.depthAll xs ≤ n
  | [], _ => ⟨[], by simp [D.pyL], by simp [PyData.canLayAll0], by simp [PyData.depthAll]⟩
  | d :: ds, h => by
    rw [List.all_cons, Bool.and_eq_true] at h
    obtain ⟨x, h1, h2, h3⟩ := ih d h.1
    obtain ⟨xs, h4, h5, h6⟩ := pyL_ok ih ds h.2
    refine ⟨x :: xs, by simp [D.pyL, h1, h4], by simp [PyData.canLayAll0, h2, h5], by simp [PyData.depthAll]; omega⟩
theorem okD_py : ∀ (n : Nat) (a : D), okD n a = true → ∃ x, PyOk n a x
  | n, .non, _ => ⟨.none, by simp [D.py], by simp [PyData.canLay0], by simp [PyData.depth]⟩
  | n, .int i, _ => ⟨.int i, by simp [D.py], by simp [PyData.canLay0], by simp [PyData.depth]⟩
  | n, .str x, h => ⟨.str x, by simp [D.py], by rw [okD_str] at h; simp [PyData.canLay0, h], by simp [PyData.depth]⟩
  | n + 1, .tup ds, h => by
    obtain ⟨xs, h1, h2, h3⟩ := pyL_ok (okD_py n) ds h
    exact ⟨.tuple xs, by simp [D.py, h1], by simp [PyData.canLay0, h2], by simp [PyData.depth]; omega⟩
  | n + 1, .lst ds, h => by
    obtain ⟨xs, h1, h2, h3⟩ := pyL_ok (okD_py n) ds h
    exact ⟨.list xs, by simp [D.py, h1], by simp [PyData.canLay0, h2], by simp [PyData.depth]; omega⟩
  | 0, .tup _, h => by cases h
  | 0, .lst _, h => by cases h
  | 0, .bl _, h => by cases h
  | 0, .dic _ _ _, h => by cases h
  | 0, .iset _, h => by cases h
  | 0, .fn _, h => by cases h
  | 0, .scr _, h => by cases h
  | 0, .ktup _, h => by cases h
  | 0, .ty _, h => by cases h
  | _ + 1, .bl _, h => by cases h
  | _ + 1, .dic _ _ _, h => by cases h
  | _ + 1, .iset _, h => by cases h
  | _ + 1, .fn _, h => by cases h
  | _ + 1, .scr _, h => by cases h
  | _ + 1, .ktup _, h => by cases h
  | _ + 1, .ty _, h => by cases h
theorem pyL_inv {ds : List D} {xs : List PyData} (h : D.pyL ds = some xs) : (ds = [] ∧ xs = []) ∨ ∃ d es x ys, ds = d :: es ∧ xs = x :: ys ∧ d.py = some x ∧ D.pyL es = some ys := by
  cases ds with
  | nil => left; simp [D.pyL] at h; exact ⟨rfl, h⟩
  | cons d es =>
    right
    unfold D.pyL at h
    cases h1 : d.py with
    | none => rw [h1] at h; simp at h
    | some x =>
      cases h2 : D.pyL es with
      | none => rw [h1, h2] at h; simp at h
      | some ys => rw [h1, h2] at h; cases h; exact ⟨d, es, x, ys, rfl, rfl, h1, h2⟩
theorem eqvL {n : Nat} (ih : ∀ a b x y, okD n a = true → okD n b = true → a.py = some x → b.py = some y → (PyData.eqv x y = true ↔ a = b)) :
    ∀ (as bs : List D) (xs ys : List PyData), as.all (okD n) = true → bs.all (okD n) = true → D.pyL as = some xs → D.pyL bs = some ys → (PyData.eqvAll xs ys = true ↔ as = bs)
  | as, bs, xs, ys, ha, hb, h1, h2 => by
    rcases pyL_inv h1 with ⟨e1, e2⟩ | ⟨a, as', x, xs', e1, e2, p1, p2⟩
    · rcases pyL_inv h2 with ⟨e3, e4⟩ | ⟨b, bs', y, ys', e3, e4, p3, p4⟩
      · subst e1 e2 e3 e4; simp [PyData.eqvAll]
      · subst e1 e2 e3 e4; simp [PyData.eqvAll]
    · rcases pyL_inv h2 with ⟨e3, e4⟩ | ⟨b, bs', y, ys', e3, e4, p3, p4⟩
      · subst e1 e2 e3 e4; simp [PyData.eqvAll]
      · subst e1 e2 e3 e4
        rw [List.all_cons, Bool.and_eq_true] at ha hb
        have z := ih a b x y ha.1 hb.1 p1 p3
        have z2 := eqvL ih as' bs' xs' ys' ha.2 hb.2 p2 p4
        rw [PyData.eqvAll, Bool.and_eq_true, z, z2]
        simp
termination_by as => as.length
theorem okD_eqv : ∀ (n : Nat) (a b : D) (x y : PyData), okD n a = true → okD n b = true → a.py = some x → b.py = some y → (PyData.eqv x y = true ↔ a = b) := by
  intro n
  induction n with
  | zero =>
    intro a b x y ha hb h1 h2
    cases a <;> first | (cases ha; done) | skip
    all_goals (cases b <;> first | (cases hb; done) | skip)
    all_goals (simp [D.py] at h1 h2; subst h1 h2; simp [PyData.eqv])
  | succ n ih =>
    intro a b x y ha hb h1 h2
    cases a <;> first | (cases ha; done) | skip
    all_goals (cases b <;> first | (cases hb; done) | skip)
    all_goals simp only [D.py, Option.map_eq_some_iff, Option.some.injEq] at h1 h2
    all_goals first
      | (obtain ⟨xs, p1, rfl⟩ := h1; obtain ⟨ys, p2, rfl⟩ := h2; first | (have z := eqvL ih _ _ xs ys ha hb p1 p2; simp only [PyData.eqv, z, D.tup.injEq, D.lst.injEq]; done) | (simp [PyData.eqv]; done))
      | (obtain ⟨xs, p1, rfl⟩ := h1; subst h2; simp [PyData.eqv]; done)
      | (obtain ⟨ys, p2, rfl⟩ := h2; subst h1; simp [PyData.eqv]; done)
      | (subst h1 h2; simp [PyData.eqv]; done)
/-- the same datum -/
noncomputable def dq (a b : D) : Bool := @decide (a = b) (Classical.propDecidable _)
theorem dq_iff {a b : D} : dq a b = true ↔ a = b := by unfold dq; exact @decide_eq_true_iff _ (Classical.propDecidable _)
noncomputable def dIn (a : D) (ds : List D) : Bool := @decide (a ∈ ds) (Classical.propDecidable _)
theorem dIn_iff {a : D} {ds : List D} : dIn a ds = true ↔ a ∈ ds := by unfold dIn; exact @decide_eq_true_iff _ (Classical.propDecidable _)
theorem shaped_of {n : Nat} {a : D} {x : PyData} (h : PyOk n a x) (hn : n ≤ 64) : SeqAt.shaped x = true := by
  unfold SeqAt.shaped
  rw [h.lay, decide_eq_true (Nat.le_trans h.dp hn)]
  rfl
theorem bool_ext {a b : Bool} (h : a = true ↔ b = true) : a = b := by cases a <;> cases b <;> simp_all
theorem eq2_ok {n : Nat} {a b : D} {f : Bool → Bool} (hn : n ≤ 64) (ha : okD n a = true) (hb : okD n b = true) : D.eq2 a b f = .ok (.bl (f (dq a b))) := by
  obtain ⟨x, hx⟩ := okD_py n a ha
  obtain ⟨y, hy⟩ := okD_py n b hb
  unfold D.eq2
  rw [hx.py, hy.py]
  dsimp only
  rw [if_pos ⟨shaped_of hx hn, shaped_of hy hn⟩]
  have z : PyData.eqv x y = dq a b := bool_ext (by rw [okD_eqv n a b x y ha hb hx.py hy.py, dq_iff])
  rw [z]
theorem eq_ok {n : Nat} {a b : D} (hn : n ≤ 64) (ha : okD n a = true) (hb : okD n b = true) : D.eq a b = .ok (.bl (dq a b)) := eq2_ok hn ha hb
theorem ne_ok {n : Nat} {a b : D} (hn : n ≤ 64) (ha : okD n a = true) (hb : okD n b = true) : D.ne a b = .ok (.bl (!dq a b)) := eq2_ok hn ha hb
theorem in2_ok {n : Nat} {a b : D} {ds : List D} {f : Bool → Bool} (hb : b = .lst ds ∨ b = .tup ds) (hn : n < 64) (ha : okD n a = true) (hd : ds.all (okD n) = true) : D.in2 a b f = .ok (.bl (f (dIn a ds))) := by
  obtain ⟨x, hx⟩ := okD_py n a ha
  obtain ⟨ys, h1, h2, h3⟩ := pyL_ok (okD_py n) ds hd
  have any : (ys.any fun z => PyData.eqv z x) = dIn a ds := by
    have go : ∀ (ds : List D) (ys : List PyData), ds.all (okD n) = true → D.pyL ds = some ys → ((ys.any fun z => PyData.eqv z x) = true ↔ a ∈ ds) := by
      intro ds
      induction ds with
      | nil => intro ys _ h; simp [D.pyL] at h; subst h; simp
      | cons d ds ih =>
        intro ys hd h
        rcases pyL_inv h with ⟨e, _⟩ | ⟨d', es, y, ys', e1, e2, p1, p2⟩
        · cases e
        · cases e1
          subst e2
          rw [List.all_cons, Bool.and_eq_true] at hd
          rw [List.any_cons, Bool.or_eq_true, ih ys' hd.2 p2, okD_eqv n d a y x hd.1 ha p1 hx.py, List.mem_cons]
          constructor
          · rintro (h | h)
            · exact .inl h.symm
            · exact .inr h
          · rintro (h | h)
            · exact .inl h.symm
            · exact .inr h
    exact bool_ext ((go ds ys hd h1).trans dIn_iff.symm)
  have sh : SeqAt.shaped (.list ys) = true ∧ SeqAt.shaped (.tuple ys) = true := by
    refine ⟨?_, ?_⟩ <;> (unfold SeqAt.shaped; rw [Bool.and_eq_true]; refine ⟨by simp [PyData.canLay0, h2], decide_eq_true ?_⟩; show PyData.depthAll ys + 1 ≤ 64; omega)
  unfold D.in2
  rcases hb with rfl | rfl
  · dsimp only
    rw [hx.py, h1]
    dsimp only
    rw [if_pos ⟨shaped_of hx (by omega), sh.1⟩, any]
  · dsimp only
    rw [hx.py, h1]
    dsimp only
    rw [if_pos ⟨shaped_of hx (by omega), sh.2⟩, any]
theorem in_lst {n : Nat} {a : D} {ds : List D} (hn : n < 64) (ha : okD n a = true) (hd : ds.all (okD n) = true) : D.isIn a (.lst ds) = .ok (.bl (dIn a ds)) := in2_ok (.inl rfl) hn ha hd
theorem in_tup {n : Nat} {a : D} {ds : List D} (hn : n < 64) (ha : okD n a = true) (hd : ds.all (okD n) = true) : D.isIn a (.tup ds) = .ok (.bl (dIn a ds)) := in2_ok (.inr rfl) hn ha hd
theorem notIn_lst {n : Nat} {a : D} {ds : List D} (hn : n < 64) (ha : okD n a = true) (hd : ds.all (okD n) = true) : D.notIn a (.lst ds) = .ok (.bl (!dIn a ds)) := in2_ok (.inl rfl) hn ha hd
theorem notIn_tup {n : Nat} {a : D} {ds : List D} (hn : n < 64) (ha : okD n a = true) (hd : ds.all (okD n) = true) : D.notIn a (.tup ds) = .ok (.bl (!dIn a ds)) := in2_ok (.inr rfl) hn ha hd
/-! comprehensions -/
theorem lcD_ok {α : Type} {mg : D → Env → R Env} {mt : Env → R Bool} {me : Env → R D} {ρ : Env} {emb : α → D} (r : α → Env) (p : α → Bool) (f : α → D) : ∀ (l : List α), (∀ a ∈ l, mg (emb a) ρ = .ok (r a) ∧ mt (r a) = .ok (p a) ∧ (p a = true → me (r a) = .ok (f a))) → lcD mg mt me (l.map emb) ρ = .ok ((l.filter p).map f)
  | [], _ => rfl
  | a :: l, h => by
    obtain ⟨h1, h2, h3⟩ := h a (.head _)
    have ih := lcD_ok r p f l fun b hb => h b (.tail _ hb)
    rw [List.map_cons]
    unfold lcD
    rw [h1]
    show ((mt (r a)).val.bind _) = _
    rw [h2]
    show (bif p a then _ else _) = _
    cases hp : p a with
    | false => rw [List.filter_cons_of_neg (by rw [hp]; decide)]; exact ih
    | true =>
      rw [List.filter_cons_of_pos hp, List.map_cons]
      show ((me (r a)).val.bind _) = _
      rw [h3 hp, ih]
      rfl
theorem mLc_ok {α : Type} {vs : List Nat} {mi : Env → R (List D)} {mg : D → Env → R Env} {mt : Env → R Bool} {me : Env → R D} {ρ : Env} {emb : α → D} {l : List α} (r : α → Env) (p : α → Bool) (f : α → D) (hi : mi ρ = .ok (l.map emb)) (hl : l.length ≤ sizeLine)
    (h : ∀ a ∈ l, mg (emb a) (wipeD ρ vs) = .ok (r a) ∧ mt (r a) = .ok (p a) ∧ (p a = true → me (r a) = .ok (f a))) : mLc vs mi mg mt me ρ = .ok (.lst ((l.filter p).map f)) := by
  unfold mLc
  rw [hi, R.bind_ok, lcD_ok r p f l h]
  show (if _ then _ else _) = _
  rw [if_pos]
  rw [List.length_map]
  exact Nat.le_trans (List.length_filter_le _ _) hl
/-! loops -/
theorem loopD_fold {α S : Type} {f : D → Env → Out} {emb : α → D} (enc : S → Env) (step : S → α → S) : ∀ (l : List α) (s : S), (∀ s a, a ∈ l → f (emb a) (enc s) = .nx (enc (step s a))) → loopD f (l.map emb) (enc s) = .nx (enc (l.foldl step s))
  | [], s, _ => rfl
  | a :: l, s, h => by
    rw [List.map_cons]
    unfold loopD
    rw [h s a (.head _)]
    exact loopD_fold enc step l (step s a) fun s' b hb => h s' b (.tail _ hb)
end G
/-! S19: plain lemmas: arithmetic, subscripts, ranges, all/any. -/
namespace G
open PySem L2
theorem mod_ok {i j : Int} (h : j ≠ 0) : D.mod (.int i) (.int j) = .ok (.int (i.fmod j)) := by
  show (if modC i j = true then _ else _) = _
  rw [if_pos (show modC i j = true from decide_eq_true h)]
theorem fdiv_ok {i j : Int} (h : j ≠ 0) (h2 : j.natAbs < 1073741824) : D.fdiv (.int i) (.int j) = .ok (.int (i.fdiv j)) := by
  show (if divC i j = true then _ else _) = _
  rw [if_pos (by unfold divC; rw [decide_eq_true h, decide_eq_true h2]; rfl)]
theorem mul_okR {i j : Int} (h : -(2 ^ 64) < j) (h2 : j < 2 ^ 64) : D.mul (.int i) (.int j) = .ok (.int (i * j)) := by
  show (if mulC i j = true then _ else _) = _
  rw [if_pos (by unfold mulC; rw [decide_eq_true h, decide_eq_true h2]; simp)]
theorem mul_okL {i j : Int} (h : -(2 ^ 64) < i) (h2 : i < 2 ^ 64) : D.mul (.int i) (.int j) = .ok (.int (i * j)) := by
  show (if mulC i j = true then _ else _) = _
  rw [if_pos (by unfold mulC; rw [decide_eq_true h, decide_eq_true h2]; simp)]
theorem fmod_rg {i j : Int} (h : 0 < j) : 0 ≤ i.fmod j ∧ i.fmod j < j := ⟨Int.fmod_nonneg_of_pos i h, Int.fmod_lt_of_pos i h⟩
theorem dlt (i j : Int) : D.lt (.int i) (.int j) = .ok (.bl (decide (i < j))) := rfl
theorem dle (i j : Int) : D.le (.int i) (.int j) = .ok (.bl (decide (i ≤ j))) := rfl
theorem dgt (i j : Int) : D.gt (.int i) (.int j) = .ok (.bl (decide (j < i))) := rfl
theorem dge (i j : Int) : D.ge (.int i) (.int j) = .ok (.bl (decide (j ≤ i))) := rfl
theorem dq_int (i j : Int) : dq (.int i) (.int j) = decide (i = j) := bool_ext (by rw [dq_iff, D.int.injEq, decide_eq_true_iff])
theorem deq (i j : Int) : D.eq (.int i) (.int j) = .ok (.bl (decide (i = j))) := by rw [eq_ok (n := 0) (by decide) okD_int okD_int, dq_int]
theorem dne (i j : Int) : D.ne (.int i) (.int j) = .ok (.bl (!decide (i = j))) := by rw [ne_ok (n := 0) (by decide) okD_int okD_int, dq_int]
theorem atI_nat {α : Type} {xs : List α} {i : Int} {n : Nat} (e : i = (n : Int)) (h : n < xs.length) : atI xs i = some xs[n] := by
  subst e
  unfold atI ixN
  rw [if_pos (Int.natCast_nonneg n), if_pos (by omega)]
  show xs[((n : Int)).toNat]? = _
  rw [Int.toNat_natCast]
  exact List.getElem?_eq_getElem h
theorem atI_neg {α : Type} {xs : List α} (h : 0 < xs.length) : atI xs (-1) = some (xs[xs.length - 1]'(by omega)) := by
  unfold atI ixN
  rw [if_neg (by decide), if_pos (by omega)]
  show xs[(-1 + (xs.length : Int)).toNat]? = _
  rw [show (-1 + (xs.length : Int)).toNat = xs.length - 1 by omega]
  exact List.getElem?_eq_getElem (by omega)
theorem ix_lst {ds : List D} {i : Int} {d : D} (h : atI ds i = some d) : D.ix (.lst ds) (.int i) = .ok d := by
  show (match atI ds i with | some d => R.ok d | none => .bad) = _
  rw [h]
theorem ix_tup {ds : List D} {i : Int} {d : D} (h : atI ds i = some d) : D.ix (.tup ds) (.int i) = .ok d := by
  show (match atI ds i with | some d => R.ok d | none => .bad) = _
  rw [h]
theorem ix_scr {ds : List D} {i : Int} {d : D} (h : atI ds i = some d) : D.ix (.scr ds) (.int i) = .ok d := by
  show (match atI ds i with | some d => R.ok d | none => .bad) = _
  rw [h]
theorem all_ok {α : Type} (l : List α) (p : α → Bool) : D.all (.lst (l.map fun a => .bl (p a))) = .ok (.bl (l.all p)) := by
  have e : (l.map fun a => D.bl (p a)) = (l.map p).map D.bl := by rw [List.map_map]; rfl
  rw [e]
  unfold D.all dBls
  dsimp only
  rw [bls_map]
  dsimp only
  rw [List.all_map]
  rfl
theorem any_ok {α : Type} (l : List α) (p : α → Bool) : D.any (.lst (l.map fun a => .bl (p a))) = .ok (.bl (l.any p)) := by
  have e : (l.map fun a => D.bl (p a)) = (l.map p).map D.bl := by rw [List.map_map]; rfl
  rw [e]
  unfold D.any dBls
  dsimp only
  rw [bls_map]
  dsimp only
  rw [List.any_map]
  rfl
theorem fn_run {m : DefM} {ds : List D} (h : ds.length = m.n) : m.fn ds = (m.body (ds.map some ++ List.replicate m.k none)).res := by
  unfold DefM.fn
  rw [if_pos h]
/-- an int that is a number -/
abbrev nI (k : Nat) : D := .int (k : Int)
theorem range_nat (n : Nat) : rangeD 0 (n : Int) = (List.range n).map nI := by
  unfold rangeD
  rw [show (((n : Int) - 0).toNat) = n by omega]
  refine List.map_congr_left fun i _ => ?_
  rw [Int.zero_add]
theorem rangeOk_nat {n : Nat} (h : n ≤ 100000) : rangeOk 0 (n : Int) = true := by
  unfold rangeOk
  rw [decide_eq_true (by omega), decide_eq_true (by omega), decide_eq_true (by omega), decide_eq_true (by omega)]
  rfl
theorem range1_ok {n : Nat} (h : n ≤ 100000) : dRange1 (.int (n : Int)) = .ok ((List.range n).map nI) := by
  show (if rangeOk 0 (n : Int) = true then R.ok (rangeD 0 (n : Int)) else .bad) = _
  rw [if_pos (rangeOk_nat h), range_nat]
theorem len_lst (ds : List D) : D.len (.lst ds) = .ok (.int ds.length) := rfl
theorem len_tup (ds : List D) : D.len (.tup ds) = .ok (.int ds.length) := rfl
theorem mTup_ok {m : Env → R (List D)} {ρ : Env} {ds : List D} (h : m ρ = .ok ds) (hl : ds.length ≤ 16777216) : mTup m ρ = .ok (.tup ds) := by
  unfold mTup
  rw [h, R.bind_ok, if_pos (by rw [sizeLine_eq]; exact hl)]
theorem mLst_ok {m : Env → R (List D)} {ρ : Env} {ds : List D} (h : m ρ = .ok ds) (hl : ds.length ≤ 16777216) : mLst m ρ = .ok (.lst ds) := by
  unfold mLst
  rw [h, R.bind_ok, if_pos (by rw [sizeLine_eq]; exact hl)]
theorem sl_le {n : Nat} (h : n ≤ 16777216) : n ≤ sizeLine := by rw [sizeLine_eq]; exact h
theorem nI_ok {n : Nat} (l : List Nat) : (l.map nI).all (okD n) = true := by
  rw [List.all_map, List.all_eq_true]
  exact fun x _ => okD_int
theorem dIn_nI (k : Nat) (l : List Nat) : dIn (nI k) (l.map nI) = decide (k ∈ l) := bool_ext (by
  rw [dIn_iff, decide_eq_true_iff, List.mem_map]
  constructor
  · rintro ⟨a, h, e⟩
    have : (a : Int) = (k : Int) := by injection e
    have : a = k := by omega
    exact this ▸ h
  · exact fun h => ⟨k, h, rfl⟩)
theorem nI_inj {a b : Nat} (h : nI a = nI b) : a = b := by injection h; omega
theorem map_nI_inj : ∀ {l m : List Nat}, l.map nI = m.map nI → l = m
  | [], [], _ => rfl
  | [], _ :: _, h => by cases h
  | _ :: _, [], h => by cases h
  | a :: l, b :: m, h => by
    rw [List.map_cons, List.map_cons, List.cons.injEq] at h
    rw [nI_inj h.1, map_nI_inj h.2]
theorem mLc_map {α : Type} {vs : List Nat} {mi : Env → R (List D)} {mg : D → Env → R Env} {me : Env → R D} {ρ : Env} {emb : α → D} {l : List α} (r : α → Env) (f : α → D) (hi : mi ρ = .ok (l.map emb)) (hl : l.length ≤ 16777216)
    (h : ∀ a ∈ l, mg (emb a) (wipeD ρ vs) = .ok (r a) ∧ me (r a) = .ok (f a)) : mLc vs mi mg mYes me ρ = .ok (.lst (l.map f)) := by
  rw [mLc_ok r (fun _ => true) f hi (sl_le hl) fun a ha => ⟨(h a ha).1, rfl, fun _ => (h a ha).2⟩]
  rw [List.filter_eq_self.mpr fun _ _ => rfl]
theorem mLc_fil {α : Type} {vs : List Nat} {mi : Env → R (List D)} {mg : D → Env → R Env} {mt : Env → R Bool} {me : Env → R D} {ρ : Env} {emb : α → D} {l : List α} (r : α → Env) (p : α → Bool) (f : α → D) (hi : mi ρ = .ok (l.map emb)) (hl : l.length ≤ 16777216)
    (h : ∀ a ∈ l, mg (emb a) (wipeD ρ vs) = .ok (r a) ∧ mt (r a) = .ok (p a) ∧ (p a = true → me (r a) = .ok (f a))) : mLc vs mi mg mt me ρ = .ok (.lst ((l.filter p).map f)) := mLc_ok r p f hi (sl_le hl) h
theorem range2_nat {a b : Nat} (hb : b ≤ 100000) (ha : a ≤ 100000) : dRange2 (.int (a : Int)) (.int (b : Int)) = .ok ((List.range (b - a)).map fun i => nI (a + i)) := by
  show (if rangeOk (a : Int) (b : Int) = true then R.ok (rangeD (a : Int) (b : Int)) else .bad) = _
  rw [if_pos (by unfold rangeOk; rw [decide_eq_true (by omega), decide_eq_true (by omega), decide_eq_true (by omega), decide_eq_true (by omega)]; rfl)]
  unfold rangeD
  rw [show ((b : Int) - (a : Int)).toNat = b - a by omega]
  exact congrArg R.ok (List.map_congr_left fun i _ => by show D.int _ = D.int _; congr 1)
/-! statements, one behind another -/
theorem seq_res {a b : Env → Out} {ρ ρ' : Env} {r : R D} (h1 : a ρ = .nx ρ') (h2 : (b ρ').res = r) : (mSeq a b ρ).res = r := by
  unfold mSeq
  rw [h1]
  exact h2
theorem seq_nx {a b : Env → Out} {ρ ρ' : Env} {o : Out} (h1 : a ρ = .nx ρ') (h2 : b ρ' = o) : mSeq a b ρ = o := by
  unfold mSeq
  rw [h1]
  exact h2
theorem seq_rt {a b : Env → Out} {ρ : Env} {d : D} (h1 : a ρ = .rt d) : mSeq a b ρ = .rt d := by
  unfold mSeq
  rw [h1]
  rfl
theorem ret_res {a : Env → R D} {ρ : Env} {r : R D} (h : a ρ = r) : (mRet a ρ).res = r := by
  unfold mRet
  rw [h]
  cases r <;> rfl
theorem set_nx {a : Env → R D} {ρ : Env} {i : Nat} {d : D} (h : a ρ = .ok d) : mSet i a ρ = .nx (ρ.set i (some d)) := by
  unfold mSet
  rw [h]
  rfl
theorem for_nx {mi : Env → R (List D)} {mg : D → Env → R Env} {mb : Env → Out} {ρ ρ' : Env} {ds : List D} (hi : mi ρ = .ok ds) (hl : loopD (stepD mg mb) ds ρ = .nx ρ') : mFor mi mg mb ρ = .nx ρ' := by
  unfold mFor
  rw [hi]
  exact hl
theorem if_t {c : Env → R Bool} {a b : Env → Out} {ρ : Env} {o : Out} (h : c ρ = .ok true) (h2 : a ρ = o) : mIf c a b ρ = o := by
  unfold mIf
  rw [h]
  exact h2
theorem if_f {c : Env → R Bool} {a b : Env → Out} {ρ : Env} {o : Out} (h : c ρ = .ok false) (h2 : b ρ = o) : mIf c a b ρ = o := by
  unfold mIf
  rw [h]
  exact h2
theorem loop_nil {f : D → Env → Out} {ρ : Env} : loopD f [] ρ = .nx ρ := rfl
theorem loop_cons {mg : D → Env → R Env} {mb : Env → Out} {d : D} {ds : List D} {ρ ρ1 ρ2 : Env} {o : Out} (h1 : mg d ρ = .ok ρ1) (h2 : mb ρ1 = .nx ρ2) (h3 : loopD (stepD mg mb) ds ρ2 = o) : loopD (stepD mg mb) (d :: ds) ρ = o := by
  unfold loopD stepD
  rw [h1]
  dsimp only
  rw [h2]
  exact h3
theorem mut_append {ms : Env → R (List D)} {i : Nat} {ρ : Env} {xs : List D} {y : D} (h1 : ρ[i]? = some (some (.lst xs))) (h2 : ms ρ = .ok [y]) (h3 : xs.length < 16777216) : mMut "list" i dAppend ms kDrop ρ = .nx (ρ.set i (some (.lst (xs ++ [y])))) := by
  unfold mMut
  rw [h1]
  dsimp only
  rw [if_pos (show tyOk "list" (.lst xs) = true from rfl), h2]
  show (match dAppend (.lst xs) [y] with | .ok (d', e) => kDrop e (ρ.set i (some d')) | _ => .bad) = _
  have e : dAppend (.lst xs) [y] = .ok (.lst (xs ++ [y]), .non) := by
    unfold dAppend
    dsimp only
    rw [if_pos (by rw [sizeLine_eq]; exact h3)]
  rw [e]
  rfl
theorem mut_insert {ms : Env → R (List D)} {i n : Nat} {ρ : Env} {xs : List D} {y : D} (h1 : ρ[i]? = some (some (.lst xs))) (h2 : ms ρ = .ok [.int (n : Int), y]) (h3 : xs.length < 100000) (h4 : n ≤ 100000) : mMut "list" i dInsert ms kDrop ρ = .nx (ρ.set i (some (.lst (xs.take n ++ [y] ++ xs.drop n)))) := by
  unfold mMut
  rw [h1]
  dsimp only
  rw [if_pos (show tyOk "list" (.lst xs) = true from rfl), h2]
  show (match dInsert (.lst xs) [.int (n : Int), y] with | .ok (d', e) => kDrop e (ρ.set i (some d')) | _ => .bad) = _
  have e : dInsert (.lst xs) [.int (n : Int), y] = .ok (.lst (xs.take n ++ [y] ++ xs.drop n), .non) := by
    unfold dInsert
    dsimp only
    rw [if_pos ⟨by rw [sizeLine_eq]; omega, by omega, by omega⟩, Int.toNat_natCast]
  rw [e]
  rfl
end G
namespace L
open PySem PySem.Spec PyProof.Rows L2 G
def top (i : Nat) : Stmt := PySem.Challenge.pw_chesthours_k65_whole_forfeits_flow.main.body.getD i (.Pass ⟨0, 0, 0, 0⟩)
abbrev s__law_mixed : Stmt := top 48
theorem sc__law_mixed : FnScope ["cell", "k", "first"] ["cell", "k"] (defScope s__law_mixed) := ⟨rfl, rfl, rfl, by decide +kernel, rfl, by decide +kernel, by decide +kernel⟩
def b__law_mixed : G.Env → Out := (mSeq (mSet 2 (m2 D.add (m2 D.add (m2 D.mul (mCall (d1 D.toInt) (mCons (mVar 0) mNil)) (mC (.int 48271))) (m2 D.mul (mVar 1) (mC (.int 69621)))) (mC (.int 11)))) (mRet (m2 D.mod (mCall (d1 D.toInt) (mCons (m2 D.add (m2 D.mul (mVar 2) (mC (.int 16807))) (m2 D.fdiv (mVar 2) (mC (.int 8191)))) mNil)) (mC (.int 2147483647)))))
def m__law_mixed : DefM := ⟨2, 1, b__law_mixed⟩
theorem k__law_mixed {P : Program} {w : World} {K : PySem.W.Frag} {mg : Str → Option Value} {base : Heap} {f : Addr} {fd : FuncData} (F : FnP K "_law_mixed" s__law_mixed f fd) (g : mg "_law_mixed" = some (.ref f)) (n_int : mg "int" = none) : Fd P w K mg base 1 "_law_mixed" ["cell", "k"] f fd m__law_mixed.fn := by
  refine fd_of (k := 0) (N := ["cell", "k", "first"]) (m := m__law_mixed) F sc__law_mixed g (F.bindsN fun _ _ _ _ _ _ us hl => match us, hl with | [_, _], _ => rfl) rfl rfl fun cdv A outer s H E hr tk => ?_
  have nd := sc__law_mixed.nd
  have hu := hu65 hr
  show ∃ t o', MSs _ _ _ _ _ _ o' t b__law_mixed
  unfold b__law_mixed
  exact ⟨_, [], (mss_cons (ms_set 2 nd (me_add (me_add (me_mul (me_ct pu_int call_int1 n_int b_int (ma_cons (me_var 0) ma_nil)) me_int) (me_mul (me_var 1) me_int)) me_int)) (mss_one (ms_ret (me_mod (me_ct pu_int call_int1 n_int b_int (ma_cons (me_add (me_mul (me_var 2) me_int) (me_fdiv (me_var 2) me_int)) ma_nil)) me_int))))⟩
abbrev s__law_row : Stmt := top 49
theorem sc__law_row : FnScope ["cell", "many", "top", "found", "left", "great", "k"] ["cell", "many", "top"] (defScope s__law_row) := ⟨rfl, rfl, rfl, by decide +kernel, rfl, by decide +kernel, by decide +kernel⟩
def b__law_row : G.Env → Out := (mSeq (mSet 3 (mLst mNil)) (mSeq (mSet 4 (mCall (d1 D.toInt) (mCons (mVar 0) mNil))) (mSeq (mSet 5 (m2 D.ge (mVar 4) (mC (.int 1000000000000000000)))) (mSeq (mFor (mSq dRange1 (mVar 1)) (gnName 6) (mIf (mB (mVar 5)) (mSeq (mMut "list" 3 dAppend (mCons (m2 D.mod (mCall (d1 D.toInt) (mCons (mVar 4) mNil)) (mVar 2)) mNil) kDrop) (mSet 4 (m2 D.fdiv (mVar 4) (mVar 2)))) (mMut "list" 3 dAppend (mCons (m2 D.mod (m2 D.fdiv (mCallN 2 m__law_mixed.fn (mCons (mVar 0) (mCons (mVar 6) mNil))) (mC (.int 7))) (mVar 2)) mNil) kDrop))) (mRet (mVar 3))))))
def m__law_row : DefM := ⟨3, 4, b__law_row⟩
theorem k__law_row {P : Program} {w : World} {K : PySem.W.Frag} {mg : Str → Option Value} {base : Heap} {f : Addr} {fd : FuncData} (F : FnP K "_law_row" s__law_row f fd) (g : mg "_law_row" = some (.ref f)) {f__law_mixed : Addr} {fd__law_mixed : FuncData} (h__law_mixed : Fd P w K mg base 1 "_law_mixed" ["cell", "k"] f__law_mixed fd__law_mixed m__law_mixed.fn) (n_int : mg "int" = none) (n_range : mg "range" = none) : Fd P w K mg base 2 "_law_row" ["cell", "many", "top"] f fd m__law_row.fn := by
  refine fd_of (k := 1) (N := ["cell", "many", "top", "found", "left", "great", "k"]) (m := m__law_row) F sc__law_row g (F.bindsN fun _ _ _ _ _ _ us hl => match us, hl with | [_, _, _], _ => rfl) rfl rfl fun cdv A outer s H E hr tk => ?_
  have nd := sc__law_row.nd
  have hu := hu65 hr
  show ∃ t o', MSs _ _ _ _ _ _ o' t b__law_row
  unfold b__law_row
  exact ⟨_, [], (mss_cons (ms_setO 3 nd (mo_lst ma_nil)) (mss_cons (ms_set 4 nd (me_ct pu_int call_int1 n_int b_int (ma_cons (me_var 0) ma_nil))) (mss_cons (ms_set 5 nd (me_cmp c_ge (me_var 4) me_int)) (mss_cons (ms_weak [3] (ms_for (passes_of rfl) rfl (mi_range1 n_range (me_var 1)) (mg_name 6 nd) (mss_one (ms_if (mt_val (me_var 5)) (mss_cons (ms_mut m_append 3 (ma_cons (me_mod (me_ct pu_int call_int1 n_int b_int (ma_cons (me_var 4) ma_nil)) (me_var 2)) ma_nil)) (mss_one (ms_set 4 nd (me_fdiv (me_var 4) (me_var 2))))) (mss_one (ms_mut m_append 3 (ma_cons (me_mod (me_fdiv (me_call tk h__law_mixed (hr.mono (by decide)) (ma_cons (me_var 0) (ma_cons (me_var 6) ma_nil))) me_int) (me_var 2)) ma_nil))))))) (mss_one (ms_ret (me_var 3)))))))⟩
abbrev s__law_web : Stmt := top 46
theorem sc__law_web : FnScope ["cell", "more", "many", "marks", "order", "digits", "groups", "rows", "at", "group", "k", "giver", "taker", "place", "pair"] ["cell", "more"] (defScope s__law_web) := ⟨rfl, rfl, rfl, by decide +kernel, rfl, by decide +kernel, by decide +kernel⟩
def b__law_web : G.Env → Out := (mSeq (mSet 2 (m2 D.add (mC (.int 2)) (m2 D.ix (mCallN 3 m__law_row.fn (mCons (mVar 0) (mCons (mC (.int 1)) (mCons (mC (.int 4)) mNil)))) (mC (.int 0))))) (mSeq (mSet 3 (mCallN 3 m__law_row.fn (mCons (m2 D.add (m2 D.fdiv (mCall (d1 D.toInt) (mCons (mVar 0) mNil)) (mC (.int 5))) (mC (.int 3))) (mCons (mVar 2) (mCons (mC (.int 1000)) mNil))))) (mSeq (mSet 4 (mLc [14] (mSq D.seq (mCall (d1 D.sortP) (mCons (mLc [10] (mSq dRange1 (mVar 2)) (gnName 10) mYes (mTup (mCons (m2 D.ix (mVar 3) (mVar 10)) (mCons (mVar 10) mNil)))) mNil))) (gnName 14) mYes (m2 D.ix (mVar 14) (mC (.int 1))))) (mSeq (mSet 5 (mCallN 3 m__law_row.fn (mCons (mVar 1) (mCons (mC (.int 40)) (mCons (mC (.int 30)) mNil))))) (mSeq (mSet 6 (mLst (mCons (mVar 4) mNil))) (mSeq (mIf (mAnd (mB (m2 D.gt (mVar 2) (mC (.int 3)))) (mB (m2 D.lt (m2 D.ix (mVar 5) (mC (.int 0))) (mC (.int 12))))) (mSet 6 (mLst (mCons (mSl (mVar 4) mNoP (mPart (mC (.int 2)))) (mCons (mSl (mVar 4) (mPart (mC (.int 2))) mNoP) mNil)))) mNext) (mSeq (mSet 7 (mLst mNil)) (mSeq (mSet 8 (mC (.int 1))) (mSeq (mFor (mSq D.seq (mVar 6)) (gnName 9) (mFor (mSq dRange1 (mCall (d1 D.len) (mCons (mVar 9) mNil))) (gnName 10) (mSeq (mMut "list" 7 dAppend (mCons (mTup (mCons (m2 D.ix (mVar 9) (m2 D.sub (mVar 10) (mC (.int 1)))) (mCons (m2 D.ix (mVar 9) (mVar 10)) (mCons (m2 D.add (mC (.int 1)) (m2 D.mod (m2 D.ix (mVar 5) (mVar 8)) (mC (.int 3)))) mNil)))) mNil) kDrop) (mSet 8 (m2 D.add (mVar 8) (mC (.int 1))))))) (mSeq (mFor (mSq dRange1 (m2 D.mod (m2 D.ix (mVar 5) (mC (.int 10))) (mC (.int 4)))) (gnName 10) (mSeq (mSet 11 (m2 D.mod (m2 D.ix (mVar 5) (m2 D.add (mC (.int 11)) (m2 D.mul (mC (.int 3)) (mVar 10)))) (mVar 2))) (mSeq (mSet 12 (m2 D.mod (mCall (d1 D.toInt) (mCons (m2 D.add (m2 D.add (mVar 11) (mC (.int 1))) (m2 D.mod (m2 D.ix (mVar 5) (m2 D.add (mC (.int 12)) (m2 D.mul (mC (.int 3)) (mVar 10)))) (m2 D.sub (mVar 2) (mC (.int 1))))) mNil)) (mVar 2))) (mSeq (mSet 13 (m2 D.mod (m2 D.ix (mVar 5) (m2 D.add (mC (.int 13)) (m2 D.mul (mC (.int 3)) (mVar 10)))) (m2 D.add (mScal (mCall (d1 D.len) (mCons (mVar 7) mNil))) (mC (.int 1))))) (mMut "list" 7 dInsert (mCons (mVar 13) (mCons (mTup (mCons (mVar 11) (mCons (mVar 12) (mCons (m2 D.add (mC (.int 1)) (m2 D.mod (m2 D.ix (mVar 5) (m2 D.add (mC (.int 24)) (mVar 10))) (mC (.int 3)))) mNil)))) mNil)) kDrop))))) (mRet (mTup (mCons (mVar 2) (mCons (mCall (d1 D.toTup) (mCons (mVar 7) mNil)) mNil))))))))))))))
def m__law_web : DefM := ⟨2, 13, b__law_web⟩
theorem k__law_web {P : Program} {w : World} {K : PySem.W.Frag} {mg : Str → Option Value} {base : Heap} {f : Addr} {fd : FuncData} (F : FnP K "_law_web" s__law_web f fd) (g : mg "_law_web" = some (.ref f)) {f__law_row : Addr} {fd__law_row : FuncData} (h__law_row : Fd P w K mg base 2 "_law_row" ["cell", "many", "top"] f__law_row fd__law_row m__law_row.fn) (n_int : mg "int" = none) (n_sorted : mg "sorted" = none) (n_range : mg "range" = none) (n_len : mg "len" = none) (n_tuple : mg "tuple" = none) : Fd P w K mg base 3 "_law_web" ["cell", "more"] f fd m__law_web.fn := by
  refine fd_of (k := 2) (N := ["cell", "more", "many", "marks", "order", "digits", "groups", "rows", "at", "group", "k", "giver", "taker", "place", "pair"]) (m := m__law_web) F sc__law_web g (F.bindsN fun _ _ _ _ _ _ us hl => match us, hl with | [_, _], _ => rfl) rfl rfl fun cdv A outer s H E hr tk => ?_
  have nd := sc__law_web.nd
  have hu := hu65 hr
  show ∃ t o', MSs _ _ _ _ _ _ o' t b__law_web
  unfold b__law_web
  exact ⟨_, [], (mss_cons (ms_set 2 nd (me_add me_int (me_ix (me_call tk h__law_row (hr.mono (by decide)) (ma_cons (me_var 0) (ma_cons me_int (ma_cons me_int ma_nil)))) me_int))) (mss_cons (ms_set 3 nd (me_call tk h__law_row (hr.mono (by decide)) (ma_cons (me_add (me_fdiv (me_ct pu_int call_int1 n_int b_int (ma_cons (me_var 0) ma_nil)) me_int) me_int) (ma_cons (me_var 2) (ma_cons me_int ma_nil))))) (mss_cons (ms_weak [4] (ms_setLc 4 s H [("pair", 14)] rfl nd (mi_seq (me_o (mo_cb pu_sortP cr_sortedPO n_sorted b_sorted (ma_cons (me_o (mo_lc s H [("k", 10)] rfl nd (mi_range1 n_range (me_var 2)) (by first | (show blkC ["cell", "more", "many", "marks", "order", "digits", "groups", "rows", "at", "group", "k", "giver", "taker", "place", "pair"] (defScope s__law_web) _ _ = true; decide +kernel) | kernel_rfl) (fun _ _ _ _ _ => (mg_name 10 nd)) (fun _ _ _ _ _ => mts_nil) (fun _ _ _ _ _ => (me_tup (ma_cons (me_ix (me_var 3) (me_var 10)) (ma_cons (me_var 10) ma_nil)))) gw1)) ma_nil)))) (by first | (show blkC ["cell", "more", "many", "marks", "order", "digits", "groups", "rows", "at", "group", "k", "giver", "taker", "place", "pair"] (defScope s__law_web) _ _ = true; decide +kernel) | kernel_rfl) (fun _ _ _ _ _ => (mg_name 14 nd)) (fun _ _ _ _ _ => mts_nil) (fun _ _ _ _ _ => (me_ix (me_var 14) me_int)) gw1)) (mss_cons (ms_set 5 nd (me_call tk h__law_row (hr.mono (by decide)) (ma_cons (me_var 1) (ma_cons me_int (ma_cons me_int ma_nil))))) (mss_cons (ms_set 6 nd (me_o (mo_lst (ma_cons (me_var 4) ma_nil)))) (mss_cons (ms_if (mt_w (mw_and (mt_cmp c_gt (me_var 2) me_int) (mw_and1 (mt_cmp c_lt (me_ix (me_var 5) me_int) me_int)))) (mss_one (ms_set 6 nd (me_o (mo_lst (ma_cons (me_slice (me_var 4) mp_no (mp_some me_int)) (ma_cons (me_slice (me_var 4) (mp_some me_int) mp_no) ma_nil)))))) mss_nil) (mss_cons (ms_setO 7 nd (mo_lst ma_nil)) (mss_cons (ms_set 8 nd me_int) (mss_cons (ms_for (passes_of rfl) rfl (mi_seq (me_var 6)) (mg_name 9 nd) (mss_one (ms_for (passes_of rfl) rfl (mi_range1 n_range (me_cb pu_len call_lenAll n_len b_len (ma_cons (me_var 9) ma_nil))) (mg_name 10 nd) (mss_cons (ms_mut m_append 7 (ma_cons (me_tup (ma_cons (me_ix (me_var 9) (me_sub (me_var 10) me_int)) (ma_cons (me_ix (me_var 9) (me_var 10)) (ma_cons (me_add me_int (me_mod (me_ix (me_var 5) (me_var 8)) me_int)) ma_nil)))) ma_nil)) (mss_one (ms_set 8 nd (me_add (me_var 8) me_int))))))) (mss_cons (ms_weak [7] (ms_for (passes_of rfl) rfl (mi_range1 n_range (me_mod (me_ix (me_var 5) me_int) me_int)) (mg_name 10 nd) (mss_cons (ms_set 11 nd (me_mod (me_ix (me_var 5) (me_add me_int (me_mul me_int (me_var 10)))) (me_var 2))) (mss_cons (ms_set 12 nd (me_mod (me_ct pu_int call_int1 n_int b_int (ma_cons (me_add (me_add (me_var 11) me_int) (me_mod (me_ix (me_var 5) (me_add me_int (me_mul me_int (me_var 10)))) (me_sub (me_var 2) me_int))) ma_nil)) (me_var 2))) (mss_cons (ms_set 13 nd (me_mod (me_ix (me_var 5) (me_add me_int (me_mul me_int (me_var 10)))) (me_add (me_bor 7 (me_cb pu_len call_lenAll n_len b_len (ma_cons (me_var 7) ma_nil))) me_int))) (mss_one (ms_mut m_insert 7 (ma_cons (me_var 13) (ma_cons (me_tup (ma_cons (me_var 11) (ma_cons (me_var 12) (ma_cons (me_add me_int (me_mod (me_ix (me_var 5) (me_add me_int (me_var 10))) me_int)) ma_nil)))) ma_nil))))))))) (mss_one (ms_ret (me_tup (ma_cons (me_var 2) (ma_cons (me_ct pu_tuple call_tuple_of n_tuple b_tuple (ma_cons (me_var 7) ma_nil)) ma_nil)))))))))))))))⟩
abbrev s__law_at : Stmt := top 47
theorem sc__law_at : FnScope ["script", "k"] ["script", "k"] (defScope s__law_at) := ⟨rfl, rfl, rfl, by decide +kernel, rfl, by decide +kernel, by decide +kernel⟩
def b__law_at : G.Env → Out := (mSeq (mIf (mB (m2 D.lt (mVar 1) (mCall (d1 D.len) (mCons (mVar 0) mNil)))) (mRet (mCall (d1 D.toInt) (mCons (m2 D.ix (mVar 0) (mVar 1)) mNil))) mNext) (mRet (m2 D.add (mC (.int 5)) (m2 D.mul (mC (.int 3)) (mVar 1)))))
def m__law_at : DefM := ⟨2, 0, b__law_at⟩
theorem k__law_at {P : Program} {w : World} {K : PySem.W.Frag} {mg : Str → Option Value} {base : Heap} {f : Addr} {fd : FuncData} (F : FnP K "_law_at" s__law_at f fd) (g : mg "_law_at" = some (.ref f)) (n_len : mg "len" = none) (n_int : mg "int" = none) : Fd P w K mg base 1 "_law_at" ["script", "k"] f fd m__law_at.fn := by
  refine fd_of (k := 0) (N := ["script", "k"]) (m := m__law_at) F sc__law_at g (F.bindsN fun _ _ _ _ _ _ us hl => match us, hl with | [_, _], _ => rfl) rfl rfl fun cdv A outer s H E hr tk => ?_
  have nd := sc__law_at.nd
  have hu := hu65 hr
  show ∃ t o', MSs _ _ _ _ _ _ o' t b__law_at
  unfold b__law_at
  exact ⟨_, [], (mss_cons (ms_if (mt_cmp c_lt (me_var 1) (me_cb pu_len call_lenAll n_len b_len (ma_cons (me_var 0) ma_nil))) (mss_one (ms_ret (me_ct pu_int call_int1 n_int b_int (ma_cons (me_ix (me_var 0) (me_var 1)) ma_nil)))) mss_nil) (mss_one (ms_ret (me_add me_int (me_mul me_int (me_var 1))))))⟩
abbrev s_is_tuple_of : Stmt := top 10
theorem sc_is_tuple_of : FnScope ["thing", "many"] ["thing", "many"] (defScope s_is_tuple_of) := ⟨rfl, rfl, rfl, by decide +kernel, rfl, by decide +kernel, by decide +kernel⟩
def b_is_tuple_of : G.Env → Out := (mRet (mAndV (mCall (d2 D.isi) (mCons (mVar 0) (mCons (mC (.ty "tuple")) mNil))) (m2 D.eq (mCall (d1 D.len) (mCons (mVar 0) mNil)) (mVar 1))))
def m_is_tuple_of : DefM := ⟨2, 0, b_is_tuple_of⟩
theorem k_is_tuple_of {P : Program} {w : World} {K : PySem.W.Frag} {mg : Str → Option Value} {base : Heap} {f : Addr} {fd : FuncData} (F : FnP K "is_tuple_of" s_is_tuple_of f fd) (g : mg "is_tuple_of" = some (.ref f)) (n_isinstance : mg "isinstance" = none) (n_tuple : mg "tuple" = none) (n_len : mg "len" = none) : Fd P w K mg base 1 "is_tuple_of" ["thing", "many"] f fd m_is_tuple_of.fn := by
  refine fd_of (k := 0) (N := ["thing", "many"]) (m := m_is_tuple_of) F sc_is_tuple_of g (F.bindsN fun _ _ _ _ _ _ us hl => match us, hl with | [_, _], _ => rfl) rfl rfl fun cdv A outer s H E hr tk => ?_
  have nd := sc_is_tuple_of.nd
  have hu := hu65 hr
  show ∃ t o', MSs _ _ _ _ _ _ o' t b_is_tuple_of
  unfold b_is_tuple_of
  exact ⟨_, [], (mss_one (ms_ret (me_and (me_cb pu_isi call_isi n_isinstance b_isi (ma_cons (me_var 0) (ma_cons (me_ty n_tuple b_tuple) ma_nil))) (me_one (me_cmp (c_eq hu) (me_cb pu_len call_lenAll n_len b_len (ma_cons (me_var 0) ma_nil)) (me_var 1))))))⟩
abbrev s_is_integer : Stmt := top 7
theorem sc_is_integer : FnScope ["thing"] ["thing"] (defScope s_is_integer) := ⟨rfl, rfl, rfl, by decide +kernel, rfl, by decide +kernel, by decide +kernel⟩
def b_is_integer : G.Env → Out := (mRet (mAndV (mCall (d2 D.isi) (mCons (mVar 0) (mCons (mC (.ty "int")) mNil))) (mNotV (mCall (d2 D.isi) (mCons (mVar 0) (mCons (mC (.ty "bool")) mNil))))))
def m_is_integer : DefM := ⟨1, 0, b_is_integer⟩
theorem k_is_integer {P : Program} {w : World} {K : PySem.W.Frag} {mg : Str → Option Value} {base : Heap} {f : Addr} {fd : FuncData} (F : FnP K "is_integer" s_is_integer f fd) (g : mg "is_integer" = some (.ref f)) (n_isinstance : mg "isinstance" = none) (n_int : mg "int" = none) (n_bool : mg "bool" = none) : Fd P w K mg base 1 "is_integer" ["thing"] f fd m_is_integer.fn := by
  refine fd_of (k := 0) (N := ["thing"]) (m := m_is_integer) F sc_is_integer g (F.bindsN fun _ _ _ _ _ _ us hl => match us, hl with | [_], _ => rfl) rfl rfl fun cdv A outer s H E hr tk => ?_
  have nd := sc_is_integer.nd
  have hu := hu65 hr
  show ∃ t o', MSs _ _ _ _ _ _ o' t b_is_integer
  unfold b_is_integer
  exact ⟨_, [], (mss_one (ms_ret (me_and (me_cb pu_isi call_isi n_isinstance b_isi (ma_cons (me_var 0) (ma_cons (me_ty n_int b_int) ma_nil))) (me_one (me_not (me_cb pu_isi call_isi n_isinstance b_isi (ma_cons (me_var 0) (ma_cons (me_ty n_bool b_bool) ma_nil))))))))⟩
abbrev s_is_between : Stmt := top 8
theorem sc_is_between : FnScope ["thing", "least", "most"] ["thing", "least", "most"] (defScope s_is_between) := ⟨rfl, rfl, rfl, by decide +kernel, rfl, by decide +kernel, by decide +kernel⟩
def b_is_between : G.Env → Out := (mRet (mAndV (mCallN 1 m_is_integer.fn (mCons (mVar 0) mNil)) (mChain D.le D.le (mVar 1) (mVar 0) (mVar 2))))
def m_is_between : DefM := ⟨3, 0, b_is_between⟩
theorem k_is_between {P : Program} {w : World} {K : PySem.W.Frag} {mg : Str → Option Value} {base : Heap} {f : Addr} {fd : FuncData} (F : FnP K "is_between" s_is_between f fd) (g : mg "is_between" = some (.ref f)) {f_is_integer : Addr} {fd_is_integer : FuncData} (h_is_integer : Fd P w K mg base 1 "is_integer" ["thing"] f_is_integer fd_is_integer m_is_integer.fn) : Fd P w K mg base 2 "is_between" ["thing", "least", "most"] f fd m_is_between.fn := by
  refine fd_of (k := 1) (N := ["thing", "least", "most"]) (m := m_is_between) F sc_is_between g (F.bindsN fun _ _ _ _ _ _ us hl => match us, hl with | [_, _, _], _ => rfl) rfl rfl fun cdv A outer s H E hr tk => ?_
  have nd := sc_is_between.nd
  have hu := hu65 hr
  show ∃ t o', MSs _ _ _ _ _ _ o' t b_is_between
  unfold b_is_between
  exact ⟨_, [], (mss_one (ms_ret (me_and (me_call tk h_is_integer (hr.mono (by decide)) (ma_cons (me_var 0) ma_nil)) (me_one (me_chain c_le c_le (me_var 1) (me_var 0) (me_var 2))))))⟩
abbrev s_is_under : Stmt := top 9
theorem sc_is_under : FnScope ["thing", "many"] ["thing", "many"] (defScope s_is_under) := ⟨rfl, rfl, rfl, by decide +kernel, rfl, by decide +kernel, by decide +kernel⟩
def b_is_under : G.Env → Out := (mRet (mAndV (mCallN 1 m_is_integer.fn (mCons (mVar 0) mNil)) (mChain D.le D.lt (mC (.int 0)) (mVar 0) (mVar 1))))
def m_is_under : DefM := ⟨2, 0, b_is_under⟩
theorem k_is_under {P : Program} {w : World} {K : PySem.W.Frag} {mg : Str → Option Value} {base : Heap} {f : Addr} {fd : FuncData} (F : FnP K "is_under" s_is_under f fd) (g : mg "is_under" = some (.ref f)) {f_is_integer : Addr} {fd_is_integer : FuncData} (h_is_integer : Fd P w K mg base 1 "is_integer" ["thing"] f_is_integer fd_is_integer m_is_integer.fn) : Fd P w K mg base 2 "is_under" ["thing", "many"] f fd m_is_under.fn := by
  refine fd_of (k := 1) (N := ["thing", "many"]) (m := m_is_under) F sc_is_under g (F.bindsN fun _ _ _ _ _ _ us hl => match us, hl with | [_, _], _ => rfl) rfl rfl fun cdv A outer s H E hr tk => ?_
  have nd := sc_is_under.nd
  have hu := hu65 hr
  show ∃ t o', MSs _ _ _ _ _ _ o' t b_is_under
  unfold b_is_under
  exact ⟨_, [], (mss_one (ms_ret (me_and (me_call tk h_is_integer (hr.mono (by decide)) (ma_cons (me_var 0) ma_nil)) (me_one (me_chain c_le c_lt me_int (me_var 0) (me_var 1))))))⟩
abbrev s_is_row : Stmt := top 18
theorem sc_is_row : FnScope ["many", "thing"] ["many", "thing"] (defScope s_is_row) := ⟨rfl, rfl, rfl, by decide +kernel, rfl, by decide +kernel, by decide +kernel⟩
def b_is_row : G.Env → Out := (mSeq (mIf (mOr (mNot (mB (mCallN 2 m_is_tuple_of.fn (mCons (mVar 1) (mCons (mC (.int 3)) mNil))))) (mOr (mNot (mB (mCallN 2 m_is_under.fn (mCons (m2 D.ix (mVar 1) (mC (.int 0))) (mCons (mVar 0) mNil))))) (mNot (mB (mCallN 2 m_is_under.fn (mCons (m2 D.ix (mVar 1) (mC (.int 1))) (mCons (mVar 0) mNil))))))) (mRet (mC (.bl false))) mNext) (mRet (mAndV (m2 D.ne (m2 D.ix (mVar 1) (mC (.int 0))) (m2 D.ix (mVar 1) (mC (.int 1)))) (mCallN 3 m_is_between.fn (mCons (m2 D.ix (mVar 1) (mC (.int 2))) (mCons (mC (.int 1)) (mCons (mC (.int (9))) mNil)))))))
def m_is_row : DefM := ⟨2, 0, b_is_row⟩
theorem k_is_row {P : Program} {w : World} {K : PySem.W.Frag} {mg : Str → Option Value} {base : Heap} {f : Addr} {fd : FuncData} (F : FnP K "is_row" s_is_row f fd) (g : mg "is_row" = some (.ref f)) {f_is_tuple_of : Addr} {fd_is_tuple_of : FuncData} (h_is_tuple_of : Fd P w K mg base 1 "is_tuple_of" ["thing", "many"] f_is_tuple_of fd_is_tuple_of m_is_tuple_of.fn) {f_is_under : Addr} {fd_is_under : FuncData} (h_is_under : Fd P w K mg base 2 "is_under" ["thing", "many"] f_is_under fd_is_under m_is_under.fn) {f_is_between : Addr} {fd_is_between : FuncData} (h_is_between : Fd P w K mg base 2 "is_between" ["thing", "least", "most"] f_is_between fd_is_between m_is_between.fn) (c_MOST_DELAY : ∃ t, mg "MOST_DELAY" = some (.int (9) t)) : Fd P w K mg base 3 "is_row" ["many", "thing"] f fd m_is_row.fn := by
  refine fd_of (k := 2) (N := ["many", "thing"]) (m := m_is_row) F sc_is_row g (F.bindsN fun _ _ _ _ _ _ us hl => match us, hl with | [_, _], _ => rfl) rfl rfl fun cdv A outer s H E hr tk => ?_
  have nd := sc_is_row.nd
  have hu := hu65 hr
  show ∃ t o', MSs _ _ _ _ _ _ o' t b_is_row
  unfold b_is_row
  exact ⟨_, [], (mss_cons (ms_if (mt_w (mw_or (mt_not (mt_val (me_call tk h_is_tuple_of (hr.mono (by decide)) (ma_cons (me_var 1) (ma_cons me_int ma_nil))))) (mw_or (mt_not (mt_val (me_call tk h_is_under (hr.mono (by decide)) (ma_cons (me_ix (me_var 1) me_int) (ma_cons (me_var 0) ma_nil))))) (mw_or1 (mt_not (mt_val (me_call tk h_is_under (hr.mono (by decide)) (ma_cons (me_ix (me_var 1) me_int) (ma_cons (me_var 0) ma_nil))))))))) (mss_one (ms_ret me_bl)) mss_nil) (mss_one (ms_ret (me_and (me_cmp (c_ne hu) (me_ix (me_var 1) me_int) (me_ix (me_var 1) me_int)) (me_one (me_call tk h_is_between (hr.mono (by decide)) (ma_cons (me_ix (me_var 1) me_int) (ma_cons me_int (ma_cons (me_gintE c_MOST_DELAY) ma_nil)))))))))⟩
abbrev s_is_web : Stmt := top 19
theorem sc_is_web : FnScope ["thing", "many", "rows", "givers", "takers", "row", "person"] ["thing"] (defScope s_is_web) := ⟨rfl, rfl, rfl, by decide +kernel, rfl, by decide +kernel, by decide +kernel⟩
def b_is_web : G.Env → Out := (mSeq (mIf (mOr (mNot (mB (mCallN 2 m_is_tuple_of.fn (mCons (mVar 0) (mCons (mC (.int 2)) mNil))))) (mNot (mB (mCallN 3 m_is_between.fn (mCons (m2 D.ix (mVar 0) (mC (.int 0))) (mCons (mC (.int (2))) (mCons (mC (.int (6))) mNil))))))) (mRet (mC (.bl false))) mNext) (mSeq (mTg (mVar 0) (gnTup 2 (gnCons (gnName 1) (gnCons (gnName 2) gnNil)))) (mSeq (mIf (mOr (mNot (mB (mCall (d2 D.isi) (mCons (mVar 2) (mCons (mC (.ty "tuple")) mNil))))) (mNot (mB (mChain D.le D.le (mC (.int 1)) (mCall (d1 D.len) (mCons (mVar 2) mNil)) (mC (.int (10))))))) (mRet (mC (.bl false))) mNext) (mSeq (mIf (mNot (mB (mCall (d1 D.all) (mCons (mLc [5] (mSq D.seq (mVar 2)) (gnName 5) mYes (mCall0 2 m_is_row.fn (mCons (mVar 1) (mCons (mVar 5) mNil)))) mNil)))) (mRet (mC (.bl false))) mNext) (mSeq (mTg (mTup (mCons (mLc [5] (mSq D.seq (mVar 2)) (gnName 5) mYes (m2 D.ix (mVar 5) (mC (.int 0)))) (mCons (mLc [5] (mSq D.seq (mVar 2)) (gnName 5) mYes (m2 D.ix (mVar 5) (mC (.int 1)))) mNil))) (gnTup 2 (gnCons (gnName 3) (gnCons (gnName 4) gnNil)))) (mRet (mCall (d1 D.all) (mCons (mLc [6] (mSq dRange1 (mVar 1)) (gnName 6) mYes (mAndV (m2 D.isIn (mVar 6) (mVar 3)) (m2 D.isIn (mVar 6) (mVar 4)))) mNil))))))))
def m_is_web : DefM := ⟨1, 6, b_is_web⟩
theorem k_is_web {P : Program} {w : World} {K : PySem.W.Frag} {mg : Str → Option Value} {base : Heap} {f : Addr} {fd : FuncData} (F : FnP K "is_web" s_is_web f fd) (g : mg "is_web" = some (.ref f)) {f_is_tuple_of : Addr} {fd_is_tuple_of : FuncData} (h_is_tuple_of : Fd P w K mg base 1 "is_tuple_of" ["thing", "many"] f_is_tuple_of fd_is_tuple_of m_is_tuple_of.fn) {f_is_between : Addr} {fd_is_between : FuncData} (h_is_between : Fd P w K mg base 2 "is_between" ["thing", "least", "most"] f_is_between fd_is_between m_is_between.fn) {f_is_row : Addr} {fd_is_row : FuncData} (h_is_row : Fd P w K mg base 3 "is_row" ["many", "thing"] f_is_row fd_is_row m_is_row.fn) (n_isinstance : mg "isinstance" = none) (n_tuple : mg "tuple" = none) (n_len : mg "len" = none) (n_all : mg "all" = none) (n_range : mg "range" = none) (c_FEWEST_PERSONS : ∃ t, mg "FEWEST_PERSONS" = some (.int (2) t)) (c_MOST_PERSONS : ∃ t, mg "MOST_PERSONS" = some (.int (6) t)) (c_MOST_TRANSFERS : ∃ t, mg "MOST_TRANSFERS" = some (.int (10) t)) : Fd P w K mg base 4 "is_web" ["thing"] f fd m_is_web.fn := by
  refine fd_of (k := 3) (N := ["thing", "many", "rows", "givers", "takers", "row", "person"]) (m := m_is_web) F sc_is_web g (F.bindsN fun _ _ _ _ _ _ us hl => match us, hl with | [_], _ => rfl) rfl rfl fun cdv A outer s H E hr tk => ?_
  have nd := sc_is_web.nd
  have hu := hu65 hr
  show ∃ t o', MSs _ _ _ _ _ _ o' t b_is_web
  unfold b_is_web
  exact ⟨_, [], (mss_cons (ms_if (mt_w (mw_or (mt_not (mt_val (me_call tk h_is_tuple_of (hr.mono (by decide)) (ma_cons (me_var 0) (ma_cons me_int ma_nil))))) (mw_or1 (mt_not (mt_val (me_call tk h_is_between (hr.mono (by decide)) (ma_cons (me_ix (me_var 0) me_int) (ma_cons (me_gintE c_FEWEST_PERSONS) (ma_cons (me_gintE c_MOST_PERSONS) ma_nil))))))))) (mss_one (ms_ret me_bl)) mss_nil) (mss_cons (ms_tg (me_var 0) (mg_tup rfl (mgs_cons (mg_name 1 nd) (mgs_cons (mg_name 2 nd) mgs_nil)))) (mss_cons (ms_if (mt_w (mw_or (mt_not (mt_val (me_cb pu_isi call_isi n_isinstance b_isi (ma_cons (me_var 2) (ma_cons (me_ty n_tuple b_tuple) ma_nil))))) (mw_or1 (mt_not (mt_chain c_le c_le me_int (me_cb pu_len call_lenAll n_len b_len (ma_cons (me_var 2) ma_nil)) (me_gintE c_MOST_TRANSFERS)))))) (mss_one (ms_ret me_bl)) mss_nil) (mss_cons (ms_if (mt_not (mt_val (me_cb pu_all (cr_all rfl) n_all b_all (ma_cons (me_o (mo_lc s H [("row", 5)] rfl nd (mi_seq (me_var 2)) (by first | (show blkC ["thing", "many", "rows", "givers", "takers", "row", "person"] (defScope s_is_web) _ _ = true; decide +kernel) | kernel_rfl) (fun _ _ _ _ _ => (mg_name 5 nd)) (fun _ _ _ _ _ => mts_nil) (fun _ _ _ _ _ => (me_callC h_is_row (hr.mono (by decide)) (ma_cons (me_var 1) (ma_cons (me_var 5) ma_nil)))) gw1)) ma_nil)))) (mss_one (ms_ret me_bl)) mss_nil) (mss_cons (ms_tg (me_tup (ma_cons (me_o (mo_lc s H [("row", 5)] rfl nd (mi_seq (me_var 2)) (by first | (show blkC ["thing", "many", "rows", "givers", "takers", "row", "person"] (defScope s_is_web) _ _ = true; decide +kernel) | kernel_rfl) (fun _ _ _ _ _ => (mg_name 5 nd)) (fun _ _ _ _ _ => mts_nil) (fun _ _ _ _ _ => (me_ix (me_var 5) me_int)) gw1)) (ma_cons (me_o (mo_lc s H [("row", 5)] rfl nd (mi_seq (me_var 2)) (by first | (show blkC ["thing", "many", "rows", "givers", "takers", "row", "person"] (defScope s_is_web) _ _ = true; decide +kernel) | kernel_rfl) (fun _ _ _ _ _ => (mg_name 5 nd)) (fun _ _ _ _ _ => mts_nil) (fun _ _ _ _ _ => (me_ix (me_var 5) me_int)) gw1)) ma_nil))) (mg_tup rfl (mgs_cons (mg_name 3 nd) (mgs_cons (mg_name 4 nd) mgs_nil)))) (mss_one (ms_ret (me_cb pu_all (cr_all rfl) n_all b_all (ma_cons (me_o (mo_lc s H [("person", 6)] rfl nd (mi_range1 n_range (me_var 1)) (by first | (show blkC ["thing", "many", "rows", "givers", "takers", "row", "person"] (defScope s_is_web) _ _ = true; decide +kernel) | kernel_rfl) (fun _ _ _ _ _ => (mg_name 6 nd)) (fun _ _ _ _ _ => mts_nil) (fun _ _ _ _ _ => (me_and (me_cmp (c_in hu) (me_var 6) (me_var 3)) (me_one (me_cmp (c_in hu) (me_var 6) (me_var 4))))) gw1)) ma_nil)))))))))⟩
abbrev s_need_web : Stmt := top 20
theorem sc_need_web : FnScope ["thing"] ["thing"] (defScope s_need_web) := ⟨rfl, rfl, rfl, by decide +kernel, rfl, by decide +kernel, by decide +kernel⟩
def b_need_web : G.Env → Out := (mIf (mNot (mB (mCallN 1 m_is_web.fn (mCons (mVar 0) mNil)))) (mRaise "NoWeb") mNext)
def m_need_web : DefM := ⟨1, 0, b_need_web⟩
theorem k_need_web {P : Program} {w : World} {K : PySem.W.Frag} {mg : Str → Option Value} {base : Heap} {f : Addr} {fd : FuncData} (F : FnP K "need_web" s_need_web f fd) (g : mg "need_web" = some (.ref f)) {f_is_web : Addr} {fd_is_web : FuncData} (h_is_web : Fd P w K mg base 4 "is_web" ["thing"] f_is_web fd_is_web m_is_web.fn) {a_NoWeb : Addr} (e_NoWeb : ErrC K mg "NoWeb" a_NoWeb) : Fd P w K mg base 5 "need_web" ["thing"] f fd m_need_web.fn := by
  refine fd_of (k := 4) (N := ["thing"]) (m := m_need_web) F sc_need_web g (F.bindsN fun _ _ _ _ _ _ us hl => match us, hl with | [_], _ => rfl) rfl rfl fun cdv A outer s H E hr tk => ?_
  have nd := sc_need_web.nd
  have hu := hu65 hr
  show ∃ t o', MSs _ _ _ _ _ _ o' t b_need_web
  unfold b_need_web
  exact ⟨_, [], (mss_one (ms_if (mt_not (mt_val (me_call tk h_is_web (hr.mono (by decide)) (ma_cons (me_var 0) ma_nil)))) (mss_one (ms_raise e_NoWeb rfl tk)) mss_nil))⟩
abbrev s_need_person : Stmt := top 21
theorem sc_need_person : FnScope ["web", "thing"] ["web", "thing"] (defScope s_need_person) := ⟨rfl, rfl, rfl, by decide +kernel, rfl, by decide +kernel, by decide +kernel⟩
def b_need_person : G.Env → Out := (mIf (mNot (mB (mCallN 2 m_is_under.fn (mCons (mVar 1) (mCons (m2 D.ix (mVar 0) (mC (.int 0))) mNil))))) (mRaise "NoPerson") mNext)
def m_need_person : DefM := ⟨2, 0, b_need_person⟩
theorem k_need_person {P : Program} {w : World} {K : PySem.W.Frag} {mg : Str → Option Value} {base : Heap} {f : Addr} {fd : FuncData} (F : FnP K "need_person" s_need_person f fd) (g : mg "need_person" = some (.ref f)) {f_is_under : Addr} {fd_is_under : FuncData} (h_is_under : Fd P w K mg base 2 "is_under" ["thing", "many"] f_is_under fd_is_under m_is_under.fn) {a_NoPerson : Addr} (e_NoPerson : ErrC K mg "NoPerson" a_NoPerson) : Fd P w K mg base 3 "need_person" ["web", "thing"] f fd m_need_person.fn := by
  refine fd_of (k := 2) (N := ["web", "thing"]) (m := m_need_person) F sc_need_person g (F.bindsN fun _ _ _ _ _ _ us hl => match us, hl with | [_, _], _ => rfl) rfl rfl fun cdv A outer s H E hr tk => ?_
  have nd := sc_need_person.nd
  have hu := hu65 hr
  show ∃ t o', MSs _ _ _ _ _ _ o' t b_need_person
  unfold b_need_person
  exact ⟨_, [], (mss_one (ms_if (mt_not (mt_val (me_call tk h_is_under (hr.mono (by decide)) (ma_cons (me_var 1) (ma_cons (me_ix (me_var 0) me_int) ma_nil))))) (mss_one (ms_raise e_NoPerson rfl tk)) mss_nil))⟩
abbrev s_need_base : Stmt := top 27
theorem sc_need_base : FnScope ["base"] ["base"] (defScope s_need_base) := ⟨rfl, rfl, rfl, by decide +kernel, rfl, by decide +kernel, by decide +kernel⟩
def b_need_base : G.Env → Out := (mIf (mNot (mB (mCallN 3 m_is_between.fn (mCons (mVar 0) (mCons (mC (.int 1)) (mCons (mC (.int (1000))) mNil)))))) (mRaise "NoBase") mNext)
def m_need_base : DefM := ⟨1, 0, b_need_base⟩
theorem k_need_base {P : Program} {w : World} {K : PySem.W.Frag} {mg : Str → Option Value} {base : Heap} {f : Addr} {fd : FuncData} (F : FnP K "need_base" s_need_base f fd) (g : mg "need_base" = some (.ref f)) {f_is_between : Addr} {fd_is_between : FuncData} (h_is_between : Fd P w K mg base 2 "is_between" ["thing", "least", "most"] f_is_between fd_is_between m_is_between.fn) (c_MOST_BASE : ∃ t, mg "MOST_BASE" = some (.int (1000) t)) {a_NoBase : Addr} (e_NoBase : ErrC K mg "NoBase" a_NoBase) : Fd P w K mg base 3 "need_base" ["base"] f fd m_need_base.fn := by
  refine fd_of (k := 2) (N := ["base"]) (m := m_need_base) F sc_need_base g (F.bindsN fun _ _ _ _ _ _ us hl => match us, hl with | [_], _ => rfl) rfl rfl fun cdv A outer s H E hr tk => ?_
  have nd := sc_need_base.nd
  have hu := hu65 hr
  show ∃ t o', MSs _ _ _ _ _ _ o' t b_need_base
  unfold b_need_base
  exact ⟨_, [], (mss_one (ms_if (mt_not (mt_val (me_call tk h_is_between (hr.mono (by decide)) (ma_cons (me_var 0) (ma_cons me_int (ma_cons (me_gintE c_MOST_BASE) ma_nil)))))) (mss_one (ms_raise e_NoBase rfl tk)) mss_nil))⟩
abbrev s_need_case : Stmt := top 30
theorem sc_need_case : FnScope ["web", "leader", "base"] ["web", "leader", "base"] (defScope s_need_case) := ⟨rfl, rfl, rfl, by decide +kernel, rfl, by decide +kernel, by decide +kernel⟩
def b_need_case : G.Env → Out := (mSeq (mDrop (mCallN 1 m_need_web.fn (mCons (mVar 0) mNil))) (mSeq (mDrop (mCallN 2 m_need_person.fn (mCons (mVar 0) (mCons (mVar 1) mNil)))) (mDrop (mCallN 1 m_need_base.fn (mCons (mVar 2) mNil)))))
def m_need_case : DefM := ⟨3, 0, b_need_case⟩
theorem k_need_case {P : Program} {w : World} {K : PySem.W.Frag} {mg : Str → Option Value} {base : Heap} {f : Addr} {fd : FuncData} (F : FnP K "need_case" s_need_case f fd) (g : mg "need_case" = some (.ref f)) {f_need_web : Addr} {fd_need_web : FuncData} (h_need_web : Fd P w K mg base 5 "need_web" ["thing"] f_need_web fd_need_web m_need_web.fn) {f_need_person : Addr} {fd_need_person : FuncData} (h_need_person : Fd P w K mg base 3 "need_person" ["web", "thing"] f_need_person fd_need_person m_need_person.fn) {f_need_base : Addr} {fd_need_base : FuncData} (h_need_base : Fd P w K mg base 3 "need_base" ["base"] f_need_base fd_need_base m_need_base.fn) : Fd P w K mg base 6 "need_case" ["web", "leader", "base"] f fd m_need_case.fn := by
  refine fd_of (k := 5) (N := ["web", "leader", "base"]) (m := m_need_case) F sc_need_case g (F.bindsN fun _ _ _ _ _ _ us hl => match us, hl with | [_, _, _], _ => rfl) rfl rfl fun cdv A outer s H E hr tk => ?_
  have nd := sc_need_case.nd
  have hu := hu65 hr
  show ∃ t o', MSs _ _ _ _ _ _ o' t b_need_case
  unfold b_need_case
  exact ⟨_, [], (mss_cons (ms_expr (me_call tk h_need_web (hr.mono (by decide)) (ma_cons (me_var 0) ma_nil))) (mss_cons (ms_expr (me_call tk h_need_person (hr.mono (by decide)) (ma_cons (me_var 0) (ma_cons (me_var 1) ma_nil)))) (mss_one (ms_expr (me_call tk h_need_base (hr.mono (by decide)) (ma_cons (me_var 2) ma_nil))))))⟩
abbrev s_got_by : Stmt := top 23
theorem sc_got_by : FnScope ["web", "person", "number", "row"] ["web", "person"] (defScope s_got_by) := ⟨rfl, rfl, rfl, by decide +kernel, rfl, by decide +kernel, by decide +kernel⟩
def b_got_by : G.Env → Out := (mRet (mLc [2, 3] (mSq (dEnum D.seq) (m2 D.ix (mVar 0) (mC (.int 1)))) (gnTup 2 (gnCons (gnName 2) (gnCons (gnName 3) gnNil))) (mB (m2 D.eq (m2 D.ix (mVar 3) (mC (.int 1))) (mVar 1))) (mVar 2)))
def m_got_by : DefM := ⟨2, 2, b_got_by⟩
theorem k_got_by {P : Program} {w : World} {K : PySem.W.Frag} {mg : Str → Option Value} {base : Heap} {f : Addr} {fd : FuncData} (F : FnP K "got_by" s_got_by f fd) (g : mg "got_by" = some (.ref f)) (n_enumerate : mg "enumerate" = none) : Fd P w K mg base 1 "got_by" ["web", "person"] f fd m_got_by.fn := by
  refine fd_of (k := 0) (N := ["web", "person", "number", "row"]) (m := m_got_by) F sc_got_by g (F.bindsN fun _ _ _ _ _ _ us hl => match us, hl with | [_, _], _ => rfl) rfl rfl fun cdv A outer s H E hr tk => ?_
  have nd := sc_got_by.nd
  have hu := hu65 hr
  show ∃ t o', MSs _ _ _ _ _ _ o' t b_got_by
  unfold b_got_by
  exact ⟨_, [], (mss_one (ms_ret (me_o (mo_lc s H [("number", 2), ("row", 3)] rfl nd (mi_enum n_enumerate (me_ix (me_var 0) me_int)) (by first | (show blkC ["web", "person", "number", "row"] (defScope s_got_by) _ _ = true; decide +kernel) | kernel_rfl) (fun _ _ _ _ _ => (mg_tup rfl (mgs_cons (mg_name 2 nd) (mgs_cons (mg_name 3 nd) mgs_nil)))) (fun _ _ _ _ _ => (mts_one (mt_cmp (c_eq hu) (me_ix (me_var 3) me_int) (me_var 1)))) (fun _ _ _ _ _ => (me_var 2)) gw2))))⟩
abbrev s_steps_to : Stmt := top 35
theorem sc_steps_to : FnScope ["web", "leader", "first", "order", "at", "here", "number", "giver"] ["web", "leader"] (defScope s_steps_to) := ⟨rfl, rfl, rfl, by decide +kernel, rfl, by decide +kernel, by decide +kernel⟩
def b_steps_to : G.Env → Out := (mSeq (mSet 2 (mDisp (mPCons (mVar 1) (mC .non) mPNil))) (mSeq (mSet 3 (mLst (mCons (mVar 1) mNil))) (mSeq (mSet 4 (mC (.int 0))) (mSeq (mWhile (mB (m2 D.lt (mVar 4) (mScal (mCall (d1 D.len) (mCons (mVar 3) mNil))))) (mSeq (mSet 5 (mScal (m2 D.ix (mVar 3) (mVar 4)))) (mSeq (mAug 4 (fun i j => i + j) (mC (.int 1))) (mFor (mSq D.seq (mCallN 2 m_got_by.fn (mCons (mVar 0) (mCons (mVar 5) mNil)))) (gnName 6) (mSeq (mSet 7 (m2 D.ix (m2 D.ix (m2 D.ix (mVar 0) (mC (.int 1))) (mVar 6)) (mC (.int 0)))) (mIf (mB (m2 D.notIn (mVar 7) (mVar 2))) (mSeq (mDPut 2 (mVar 7) (mVar 6)) (mMut "list" 3 dAppend (mCons (mVar 7) mNil) kDrop)) mNext)))))) (mRet (mVar 2))))))
def m_steps_to : DefM := ⟨2, 6, b_steps_to⟩
theorem k_steps_to {P : Program} {w : World} {K : PySem.W.Frag} {mg : Str → Option Value} {base : Heap} {f : Addr} {fd : FuncData} (F : FnP K "steps_to" s_steps_to f fd) (g : mg "steps_to" = some (.ref f)) {f_got_by : Addr} {fd_got_by : FuncData} (h_got_by : Fd P w K mg base 1 "got_by" ["web", "person"] f_got_by fd_got_by m_got_by.fn) (n_len : mg "len" = none) : Fd P w K mg base 2 "steps_to" ["web", "leader"] f fd m_steps_to.fn := by
  refine fd_of (k := 1) (N := ["web", "leader", "first", "order", "at", "here", "number", "giver"]) (m := m_steps_to) F sc_steps_to g (F.bindsN fun _ _ _ _ _ _ us hl => match us, hl with | [_, _], _ => rfl) rfl rfl fun cdv A outer s H E hr tk => ?_
  have nd := sc_steps_to.nd
  have hu := hu65 hr
  show ∃ t o', MSs _ _ _ _ _ _ o' t b_steps_to
  unfold b_steps_to
  exact ⟨_, [], (mss_cons (ms_setO 2 nd (mo_disp (mpr_cons (me_var 1) me_non mpr_nil))) (mss_cons (ms_setO 3 nd (mo_lst (ma_cons (me_var 1) ma_nil))) (mss_cons (ms_set 4 nd me_int) (mss_cons (ms_weak [3, 2] (ms_while (passes_of rfl) (mt_cmp c_lt (me_var 4) (me_bor 3 (me_cb pu_len call_lenAll n_len b_len (ma_cons (me_var 3) ma_nil)))) (mss_cons (ms_set 5 nd (me_bor 3 (me_ix (me_var 3) (me_var 4)))) (mss_cons (ms_aug 4 nd a_add me_int) (mss_one (ms_for (passes_of rfl) rfl (mi_seq (me_call tk h_got_by (hr.mono (by decide)) (ma_cons (me_var 0) (ma_cons (me_var 5) ma_nil)))) (mg_name 6 nd) (mss_cons (ms_set 7 nd (me_ix (me_ix (me_ix (me_var 0) me_int) (me_var 6)) me_int)) (mss_one (ms_if (mt_bor 2 (mt_cmp (c_notIn hu) (me_var 7) (me_var 2))) (mss_cons (ms_dput 2 (Nat.lt_of_le_of_lt (Nat.add_le_add_left (by decide : 1 ≤ 65) _) hu) (me_var 6) (me_var 7)) (mss_one (ms_mut m_append 3 (ma_cons (me_var 7) ma_nil)))) mss_nil))))))))) (mss_one (ms_ret (me_var 2)))))))⟩
abbrev s_shut_in : Stmt := top 37
theorem sc_shut_in : FnScope ["web", "first", "person"] ["web", "first"] (defScope s_shut_in) := ⟨rfl, rfl, rfl, by decide +kernel, rfl, by decide +kernel, by decide +kernel⟩
def b_shut_in : G.Env → Out := (mRet (mCall (d1 D.toTup) (mCons (mLc [2] (mSq dRange1 (m2 D.ix (mVar 0) (mC (.int 0)))) (gnName 2) (mB (m2 D.notIn (mVar 2) (mVar 1))) (mVar 2)) mNil)))
def m_shut_in : DefM := ⟨2, 1, b_shut_in⟩
theorem k_shut_in {P : Program} {w : World} {K : PySem.W.Frag} {mg : Str → Option Value} {base : Heap} {f : Addr} {fd : FuncData} (F : FnP K "shut_in" s_shut_in f fd) (g : mg "shut_in" = some (.ref f)) (n_tuple : mg "tuple" = none) (n_range : mg "range" = none) : Fd P w K mg base 1 "shut_in" ["web", "first"] f fd m_shut_in.fn := by
  refine fd_of (k := 0) (N := ["web", "first", "person"]) (m := m_shut_in) F sc_shut_in g (F.bindsN fun _ _ _ _ _ _ us hl => match us, hl with | [_, _], _ => rfl) rfl rfl fun cdv A outer s H E hr tk => ?_
  have nd := sc_shut_in.nd
  have hu := hu65 hr
  show ∃ t o', MSs _ _ _ _ _ _ o' t b_shut_in
  unfold b_shut_in
  exact ⟨_, [], (mss_one (ms_ret (me_ct pu_tuple call_tuple_of n_tuple b_tuple (ma_cons (me_o (mo_lc s H [("person", 2)] rfl nd (mi_range1 n_range (me_ix (me_var 0) me_int)) (by first | (show blkC ["web", "first", "person"] (defScope s_shut_in) _ _ = true; decide +kernel) | kernel_rfl) (fun _ _ _ _ _ => (mg_name 2 nd)) (fun _ _ _ _ _ => (mts_one (mt_cmp (c_notIn hu) (me_var 2) (me_var 1)))) (fun _ _ _ _ _ => (me_var 2)) gw1)) ma_nil))))⟩
abbrev s_way_on : Stmt := top 36
theorem sc_way_on : FnScope ["web", "first", "number", "found", "here"] ["web", "first", "number"] (defScope s_way_on) := ⟨rfl, rfl, rfl, by decide +kernel, rfl, by decide +kernel, by decide +kernel⟩
def b_way_on : G.Env → Out := (mSeq (mSet 3 (mLst (mCons (mVar 2) mNil))) (mSeq (mSet 4 (m2 D.ix (m2 D.ix (m2 D.ix (mVar 0) (mC (.int 1))) (mVar 2)) (mC (.int 1)))) (mSeq (mWhile (mB (m2 D.isnt (m2 D.dgetE (mVar 1) (mVar 4)) (mC .non))) (mSeq (mMut "list" 3 dAppend (mCons (m2 D.dgetE (mVar 1) (mVar 4)) mNil) kDrop) (mSet 4 (m2 D.ix (m2 D.ix (m2 D.ix (mVar 0) (mC (.int 1))) (m2 D.dgetE (mVar 1) (mVar 4))) (mC (.int 1)))))) (mRet (mCall (d1 D.toTup) (mCons (mVar 3) mNil))))))
def m_way_on : DefM := ⟨3, 2, b_way_on⟩
theorem k_way_on {P : Program} {w : World} {K : PySem.W.Frag} {mg : Str → Option Value} {base : Heap} {f : Addr} {fd : FuncData} (F : FnP K "way_on" s_way_on f fd) (g : mg "way_on" = some (.ref f)) (n_tuple : mg "tuple" = none) : Fd P w K mg base 1 "way_on" ["web", "first", "number"] f fd m_way_on.fn := by
  refine fd_of (k := 0) (N := ["web", "first", "number", "found", "here"]) (m := m_way_on) F sc_way_on g (F.bindsN fun _ _ _ _ _ _ us hl => match us, hl with | [_, _, _], _ => rfl) rfl rfl fun cdv A outer s H E hr tk => ?_
  have nd := sc_way_on.nd
  have hu := hu65 hr
  show ∃ t o', MSs _ _ _ _ _ _ o' t b_way_on
  unfold b_way_on
  exact ⟨_, [], (mss_cons (ms_setO 3 nd (mo_lst (ma_cons (me_var 2) ma_nil))) (mss_cons (ms_set 4 nd (me_ix (me_ix (me_ix (me_var 0) me_int) (me_var 2)) me_int)) (mss_cons (ms_weak [3] (ms_while (passes_of rfl) (mt_cmp c_isnt (me_dget hu (me_var 1) (me_var 4)) me_non) (mss_cons (ms_mut m_append 3 (ma_cons (me_dget hu (me_var 1) (me_var 4)) ma_nil)) (mss_one (ms_set 4 nd (me_ix (me_ix (me_ix (me_var 0) me_int) (me_dget hu (me_var 1) (me_var 4))) me_int)))))) (mss_one (ms_ret (me_ct pu_tuple call_tuple_of n_tuple b_tuple (ma_cons (me_var 3) ma_nil)))))))⟩
abbrev s_amounts_by : Stmt := top 39
theorem sc_amounts_by : FnScope ["web", "base", "ways", "number", "way"] ["web", "base", "ways"] (defScope s_amounts_by) := ⟨rfl, rfl, rfl, by decide +kernel, rfl, by decide +kernel, by decide +kernel⟩
def b_amounts_by : G.Env → Out := (mRet (mCall (d1 D.toTup) (mCons (mLc [3] (mSq dRange1 (mCall (d1 D.len) (mCons (m2 D.ix (mVar 0) (mC (.int 1))) mNil))) (gnName 3) mYes (m2 D.mul (mVar 1) (mCall (d1 D.len) (mCons (mLc [4] (mSq D.seq (mVar 2)) (gnName 4) (mB (m2 D.isIn (mVar 3) (mVar 4))) (mVar 4)) mNil)))) mNil)))
def m_amounts_by : DefM := ⟨3, 2, b_amounts_by⟩
theorem k_amounts_by {P : Program} {w : World} {K : PySem.W.Frag} {mg : Str → Option Value} {base : Heap} {f : Addr} {fd : FuncData} (F : FnP K "amounts_by" s_amounts_by f fd) (g : mg "amounts_by" = some (.ref f)) (n_tuple : mg "tuple" = none) (n_range : mg "range" = none) (n_len : mg "len" = none) : Fd P w K mg base 1 "amounts_by" ["web", "base", "ways"] f fd m_amounts_by.fn := by
  refine fd_of (k := 0) (N := ["web", "base", "ways", "number", "way"]) (m := m_amounts_by) F sc_amounts_by g (F.bindsN fun _ _ _ _ _ _ us hl => match us, hl with | [_, _, _], _ => rfl) rfl rfl fun cdv A outer s H E hr tk => ?_
  have nd := sc_amounts_by.nd
  have hu := hu65 hr
  show ∃ t o', MSs _ _ _ _ _ _ o' t b_amounts_by
  unfold b_amounts_by
  exact ⟨_, [], (mss_one (ms_ret (me_ct pu_tuple call_tuple_of n_tuple b_tuple (ma_cons (me_o (mo_lc s H [("number", 3)] rfl nd (mi_range1 n_range (me_cb pu_len call_lenAll n_len b_len (ma_cons (me_ix (me_var 0) me_int) ma_nil))) (by first | (show blkC ["web", "base", "ways", "number", "way"] (defScope s_amounts_by) _ _ = true; decide +kernel) | kernel_rfl) (fun _ _ _ _ _ => (mg_name 3 nd)) (fun _ _ _ _ _ => mts_nil) (fun _ _ _ _ _ => (me_mul (me_var 1) (me_cb pu_len call_lenAll n_len b_len (ma_cons (me_o (mo_lc s H [("way", 4)] rfl nd (mi_seq (me_var 2)) (by first | (show blkC ["web", "base", "ways", "number", "way"] (defScope s_amounts_by) _ _ = true; decide +kernel) | kernel_rfl) (fun _ _ _ _ _ => (mg_name 4 nd)) (fun _ _ _ _ _ => (mts_one (mt_cmp (c_in hu) (me_var 3) (me_var 4)))) (fun _ _ _ _ _ => (me_var 4)) gw1)) ma_nil)))) gw1)) ma_nil))))⟩
abbrev s_forfeits : Stmt := top 38
theorem sc_forfeits : FnScope ["web", "leader", "base", "first", "ways", "number"] ["web", "leader", "base"] (defScope s_forfeits) := ⟨rfl, rfl, rfl, by decide +kernel, rfl, by decide +kernel, by decide +kernel⟩
def b_forfeits : G.Env → Out := (mSeq (mDrop (mCallN 3 m_need_case.fn (mCons (mVar 0) (mCons (mVar 1) (mCons (mVar 2) mNil))))) (mSeq (mSet 3 (mCallN 2 m_steps_to.fn (mCons (mVar 0) (mCons (mVar 1) mNil)))) (mSeq (mIf (mTru (mCallN 2 m_shut_in.fn (mCons (mVar 0) (mCons (mVar 3) mNil)))) (mRet (mTup (mCons (mC (.str "lot")) (mCons (mCallN 2 m_shut_in.fn (mCons (mVar 0) (mCons (mVar 3) mNil))) mNil)))) mNext) (mSeq (mSet 4 (mCall (d1 D.toTup) (mCons (mLc [5] (mSq dRange1 (mCall (d1 D.len) (mCons (m2 D.ix (mVar 0) (mC (.int 1))) mNil))) (gnName 5) mYes (mCall0 3 m_way_on.fn (mCons (mVar 0) (mCons (mVar 3) (mCons (mVar 5) mNil))))) mNil))) (mRet (mTup (mCons (mC (.str "ways")) (mCons (mVar 4) (mCons (mCallN 3 m_amounts_by.fn (mCons (mVar 0) (mCons (mVar 2) (mCons (mVar 4) mNil)))) mNil)))))))))
def m_forfeits : DefM := ⟨3, 3, b_forfeits⟩
theorem k_forfeits {P : Program} {w : World} {K : PySem.W.Frag} {mg : Str → Option Value} {base : Heap} {f : Addr} {fd : FuncData} (F : FnP K "forfeits" s_forfeits f fd) (g : mg "forfeits" = some (.ref f)) {f_need_case : Addr} {fd_need_case : FuncData} (h_need_case : Fd P w K mg base 6 "need_case" ["web", "leader", "base"] f_need_case fd_need_case m_need_case.fn) {f_steps_to : Addr} {fd_steps_to : FuncData} (h_steps_to : Fd P w K mg base 2 "steps_to" ["web", "leader"] f_steps_to fd_steps_to m_steps_to.fn) {f_shut_in : Addr} {fd_shut_in : FuncData} (h_shut_in : Fd P w K mg base 1 "shut_in" ["web", "first"] f_shut_in fd_shut_in m_shut_in.fn) {f_way_on : Addr} {fd_way_on : FuncData} (h_way_on : Fd P w K mg base 1 "way_on" ["web", "first", "number"] f_way_on fd_way_on m_way_on.fn) {f_amounts_by : Addr} {fd_amounts_by : FuncData} (h_amounts_by : Fd P w K mg base 1 "amounts_by" ["web", "base", "ways"] f_amounts_by fd_amounts_by m_amounts_by.fn) (n_tuple : mg "tuple" = none) (n_range : mg "range" = none) (n_len : mg "len" = none) : Fd P w K mg base 7 "forfeits" ["web", "leader", "base"] f fd m_forfeits.fn := by
  refine fd_of (k := 6) (N := ["web", "leader", "base", "first", "ways", "number"]) (m := m_forfeits) F sc_forfeits g (F.bindsN fun _ _ _ _ _ _ us hl => match us, hl with | [_, _, _], _ => rfl) rfl rfl fun cdv A outer s H E hr tk => ?_
  have nd := sc_forfeits.nd
  have hu := hu65 hr
  show ∃ t o', MSs _ _ _ _ _ _ o' t b_forfeits
  unfold b_forfeits
  exact ⟨_, [], (mss_cons (ms_expr (me_call tk h_need_case (hr.mono (by decide)) (ma_cons (me_var 0) (ma_cons (me_var 1) (ma_cons (me_var 2) ma_nil))))) (mss_cons (ms_set 3 nd (me_call tk h_steps_to (hr.mono (by decide)) (ma_cons (me_var 0) (ma_cons (me_var 1) ma_nil)))) (mss_cons (ms_if (mt_truth (me_call tk h_shut_in (hr.mono (by decide)) (ma_cons (me_var 0) (ma_cons (me_var 3) ma_nil)))) (mss_one (ms_ret (me_tup (ma_cons me_str (ma_cons (me_call tk h_shut_in (hr.mono (by decide)) (ma_cons (me_var 0) (ma_cons (me_var 3) ma_nil))) ma_nil))))) mss_nil) (mss_cons (ms_set 4 nd (me_ct pu_tuple call_tuple_of n_tuple b_tuple (ma_cons (me_o (mo_lc s H [("number", 5)] rfl nd (mi_range1 n_range (me_cb pu_len call_lenAll n_len b_len (ma_cons (me_ix (me_var 0) me_int) ma_nil))) (by first | (show blkC ["web", "leader", "base", "first", "ways", "number"] (defScope s_forfeits) _ _ = true; decide +kernel) | kernel_rfl) (fun _ _ _ _ _ => (mg_name 5 nd)) (fun _ _ _ _ _ => mts_nil) (fun _ _ _ _ _ => (me_callC h_way_on (hr.mono (by decide)) (ma_cons (me_var 0) (ma_cons (me_var 3) (ma_cons (me_var 5) ma_nil))))) gw1)) ma_nil))) (mss_one (ms_ret (me_tup (ma_cons me_str (ma_cons (me_var 4) (ma_cons (me_call tk h_amounts_by (hr.mono (by decide)) (ma_cons (me_var 0) (ma_cons (me_var 2) (ma_cons (me_var 4) ma_nil)))) ma_nil))))))))))⟩
abbrev s__law_gets : Stmt := top 57
theorem sc__law_gets : FnScope ["web", "person", "k"] ["web", "person"] (defScope s__law_gets) := ⟨rfl, rfl, rfl, by decide +kernel, rfl, by decide +kernel, by decide +kernel⟩
def b__law_gets : G.Env → Out := (mRet (mLc [2] (mSq dRange1 (mCall (d1 D.len) (mCons (m2 D.ix (mVar 0) (mC (.int 1))) mNil))) (gnName 2) (mB (m2 D.eq (m2 D.ix (m2 D.ix (m2 D.ix (mVar 0) (mC (.int 1))) (mVar 2)) (mC (.int 1))) (mVar 1))) (mVar 2)))
def m__law_gets : DefM := ⟨2, 1, b__law_gets⟩
theorem k__law_gets {P : Program} {w : World} {K : PySem.W.Frag} {mg : Str → Option Value} {base : Heap} {f : Addr} {fd : FuncData} (F : FnP K "_law_gets" s__law_gets f fd) (g : mg "_law_gets" = some (.ref f)) (n_range : mg "range" = none) (n_len : mg "len" = none) : Fd P w K mg base 1 "_law_gets" ["web", "person"] f fd m__law_gets.fn := by
  refine fd_of (k := 0) (N := ["web", "person", "k"]) (m := m__law_gets) F sc__law_gets g (F.bindsN fun _ _ _ _ _ _ us hl => match us, hl with | [_, _], _ => rfl) rfl rfl fun cdv A outer s H E hr tk => ?_
  have nd := sc__law_gets.nd
  have hu := hu65 hr
  show ∃ t o', MSs _ _ _ _ _ _ o' t b__law_gets
  unfold b__law_gets
  exact ⟨_, [], (mss_one (ms_ret (me_o (mo_lc s H [("k", 2)] rfl nd (mi_range1 n_range (me_cb pu_len call_lenAll n_len b_len (ma_cons (me_ix (me_var 0) me_int) ma_nil))) (by first | (show blkC ["web", "person", "k"] (defScope s__law_gets) _ _ = true; decide +kernel) | kernel_rfl) (fun _ _ _ _ _ => (mg_name 2 nd)) (fun _ _ _ _ _ => (mts_one (mt_cmp (c_eq hu) (me_ix (me_ix (me_ix (me_var 0) me_int) (me_var 2)) me_int) (me_var 1)))) (fun _ _ _ _ _ => (me_var 2)) gw1))))⟩
abbrev s__law_steps : Stmt := top 54
theorem sc__law_steps : FnScope ["web", "leader", "first", "order", "at", "k"] ["web", "leader"] (defScope s__law_steps) := ⟨rfl, rfl, rfl, by decide +kernel, rfl, by decide +kernel, by decide +kernel⟩
def b__law_steps : G.Env → Out := (mSeq (mSet 2 (mDisp (mPCons (mVar 1) (mC .non) mPNil))) (mSeq (mSet 3 (mLst (mCons (mVar 1) mNil))) (mSeq (mSet 4 (mC (.int 0))) (mSeq (mWhile (mB (m2 D.lt (mVar 4) (mScal (mCall (d1 D.len) (mCons (mVar 3) mNil))))) (mSeq (mFor (mSq D.seq (mCallN 2 m__law_gets.fn (mCons (mVar 0) (mCons (mScal (m2 D.ix (mVar 3) (mVar 4))) mNil)))) (gnName 5) (mIf (mB (m2 D.notIn (m2 D.ix (m2 D.ix (m2 D.ix (mVar 0) (mC (.int 1))) (mVar 5)) (mC (.int 0))) (mVar 2))) (mSeq (mDPut 2 (m2 D.ix (m2 D.ix (m2 D.ix (mVar 0) (mC (.int 1))) (mVar 5)) (mC (.int 0))) (mVar 5)) (mMut "list" 3 dAppend (mCons (m2 D.ix (m2 D.ix (m2 D.ix (mVar 0) (mC (.int 1))) (mVar 5)) (mC (.int 0))) mNil) kDrop)) mNext)) (mSet 4 (m2 D.add (mVar 4) (mC (.int 1)))))) (mRet (mVar 2))))))
def m__law_steps : DefM := ⟨2, 4, b__law_steps⟩
theorem k__law_steps {P : Program} {w : World} {K : PySem.W.Frag} {mg : Str → Option Value} {base : Heap} {f : Addr} {fd : FuncData} (F : FnP K "_law_steps" s__law_steps f fd) (g : mg "_law_steps" = some (.ref f)) {f__law_gets : Addr} {fd__law_gets : FuncData} (h__law_gets : Fd P w K mg base 1 "_law_gets" ["web", "person"] f__law_gets fd__law_gets m__law_gets.fn) (n_len : mg "len" = none) : Fd P w K mg base 2 "_law_steps" ["web", "leader"] f fd m__law_steps.fn := by
  refine fd_of (k := 1) (N := ["web", "leader", "first", "order", "at", "k"]) (m := m__law_steps) F sc__law_steps g (F.bindsN fun _ _ _ _ _ _ us hl => match us, hl with | [_, _], _ => rfl) rfl rfl fun cdv A outer s H E hr tk => ?_
  have nd := sc__law_steps.nd
  have hu := hu65 hr
  show ∃ t o', MSs _ _ _ _ _ _ o' t b__law_steps
  unfold b__law_steps
  exact ⟨_, [], (mss_cons (ms_setO 2 nd (mo_disp (mpr_cons (me_var 1) me_non mpr_nil))) (mss_cons (ms_setO 3 nd (mo_lst (ma_cons (me_var 1) ma_nil))) (mss_cons (ms_set 4 nd me_int) (mss_cons (ms_weak [3, 2] (ms_while (passes_of rfl) (mt_cmp c_lt (me_var 4) (me_bor 3 (me_cb pu_len call_lenAll n_len b_len (ma_cons (me_var 3) ma_nil)))) (mss_cons (ms_for (passes_of rfl) rfl (mi_seq (me_call tk h__law_gets (hr.mono (by decide)) (ma_cons (me_var 0) (ma_cons (me_bor 3 (me_ix (me_var 3) (me_var 4))) ma_nil)))) (mg_name 5 nd) (mss_one (ms_if (mt_bor 2 (mt_cmp (c_notIn hu) (me_ix (me_ix (me_ix (me_var 0) me_int) (me_var 5)) me_int) (me_var 2))) (mss_cons (ms_dput 2 (Nat.lt_of_le_of_lt (Nat.add_le_add_left (by decide : 1 ≤ 65) _) hu) (me_var 5) (me_ix (me_ix (me_ix (me_var 0) me_int) (me_var 5)) me_int)) (mss_one (ms_mut m_append 3 (ma_cons (me_ix (me_ix (me_ix (me_var 0) me_int) (me_var 5)) me_int) ma_nil)))) mss_nil))) (mss_one (ms_set 4 nd (me_add (me_var 4) me_int)))))) (mss_one (ms_ret (me_var 2)))))))⟩
abbrev s_is_trail : Stmt := top 41
theorem sc_is_trail : FnScope ["web", "thing", "one", "at"] ["web", "thing"] (defScope s_is_trail) := ⟨rfl, rfl, rfl, by decide +kernel, rfl, by decide +kernel, by decide +kernel⟩
def b_is_trail : G.Env → Out := (mSeq (mIf (mOr (mNot (mB (mCall (d2 D.isi) (mCons (mVar 1) (mCons (mC (.ty "tuple")) mNil))))) (mB (m2 D.eq (mCall (d1 D.len) (mCons (mVar 1) mNil)) (mC (.int 0))))) (mRet (mC (.bl false))) mNext) (mSeq (mIf (mOr (mNot (mB (mCall (d1 D.all) (mCons (mLc [2] (mSq D.seq (mVar 1)) (gnName 2) mYes (mCall0 3 m_is_between.fn (mCons (mVar 2) (mCons (mC (.int 0)) (mCons (m2 D.sub (mCall (d1 D.len) (mCons (m2 D.ix (mVar 0) (mC (.int 1))) mNil)) (mC (.int 1))) mNil))))) mNil)))) (mB (m2 D.ne (m1 D.lenSet (mVar 1)) (mCall (d1 D.len) (mCons (mVar 1) mNil))))) (mRet (mC (.bl false))) mNext) (mRet (mCall (d1 D.all) (mCons (mLc [3] (mRange2 (mC (.int 1)) (mCall (d1 D.len) (mCons (mVar 1) mNil))) (gnName 3) mYes (m2 D.eq (m2 D.ix (m2 D.ix (m2 D.ix (mVar 0) (mC (.int 1))) (m2 D.ix (mVar 1) (m2 D.sub (mVar 3) (mC (.int 1))))) (mC (.int 1))) (m2 D.ix (m2 D.ix (m2 D.ix (mVar 0) (mC (.int 1))) (m2 D.ix (mVar 1) (mVar 3))) (mC (.int 0))))) mNil)))))
def m_is_trail : DefM := ⟨2, 2, b_is_trail⟩
theorem k_is_trail {P : Program} {w : World} {K : PySem.W.Frag} {mg : Str → Option Value} {base : Heap} {f : Addr} {fd : FuncData} (F : FnP K "is_trail" s_is_trail f fd) (g : mg "is_trail" = some (.ref f)) {f_is_between : Addr} {fd_is_between : FuncData} (h_is_between : Fd P w K mg base 2 "is_between" ["thing", "least", "most"] f_is_between fd_is_between m_is_between.fn) (n_isinstance : mg "isinstance" = none) (n_tuple : mg "tuple" = none) (n_len : mg "len" = none) (n_all : mg "all" = none) (n_set : mg "set" = none) (n_range : mg "range" = none) : Fd P w K mg base 3 "is_trail" ["web", "thing"] f fd m_is_trail.fn := by
  refine fd_of (k := 2) (N := ["web", "thing", "one", "at"]) (m := m_is_trail) F sc_is_trail g (F.bindsN fun _ _ _ _ _ _ us hl => match us, hl with | [_, _], _ => rfl) rfl rfl fun cdv A outer s H E hr tk => ?_
  have nd := sc_is_trail.nd
  have hu := hu65 hr
  show ∃ t o', MSs _ _ _ _ _ _ o' t b_is_trail
  unfold b_is_trail
  exact ⟨_, [], (mss_cons (ms_if (mt_w (mw_or (mt_not (mt_val (me_cb pu_isi call_isi n_isinstance b_isi (ma_cons (me_var 1) (ma_cons (me_ty n_tuple b_tuple) ma_nil))))) (mw_or1 (mt_cmp (c_eq hu) (me_cb pu_len call_lenAll n_len b_len (ma_cons (me_var 1) ma_nil)) me_int)))) (mss_one (ms_ret me_bl)) mss_nil) (mss_cons (ms_if (mt_w (mw_or (mt_not (mt_val (me_cb pu_all (cr_all rfl) n_all b_all (ma_cons (me_o (mo_lc s H [("one", 2)] rfl nd (mi_seq (me_var 1)) (by first | (show blkC ["web", "thing", "one", "at"] (defScope s_is_trail) _ _ = true; decide +kernel) | kernel_rfl) (fun _ _ _ _ _ => (mg_name 2 nd)) (fun _ _ _ _ _ => mts_nil) (fun _ _ _ _ _ => (me_callC h_is_between (hr.mono (by decide)) (ma_cons (me_var 2) (ma_cons me_int (ma_cons (me_sub (me_cb pu_len call_lenAll n_len b_len (ma_cons (me_ix (me_var 0) me_int) ma_nil)) me_int) ma_nil))))) gw1)) ma_nil)))) (mw_or1 (mt_cmp (c_ne hu) (me_lenSet rfl n_len n_set (me_var 1)) (me_cb pu_len call_lenAll n_len b_len (ma_cons (me_var 1) ma_nil)))))) (mss_one (ms_ret me_bl)) mss_nil) (mss_one (ms_ret (me_cb pu_all (cr_all rfl) n_all b_all (ma_cons (me_o (mo_lc s H [("at", 3)] rfl nd (mi_range2 n_range me_int (me_cb pu_len call_lenAll n_len b_len (ma_cons (me_var 1) ma_nil))) (by first | (show blkC ["web", "thing", "one", "at"] (defScope s_is_trail) _ _ = true; decide +kernel) | kernel_rfl) (fun _ _ _ _ _ => (mg_name 3 nd)) (fun _ _ _ _ _ => mts_nil) (fun _ _ _ _ _ => (me_cmp (c_eq hu) (me_ix (me_ix (me_ix (me_var 0) me_int) (me_ix (me_var 1) (me_sub (me_var 3) me_int))) me_int) (me_ix (me_ix (me_ix (me_var 0) me_int) (me_ix (me_var 1) (me_var 3))) me_int))) gw1)) ma_nil))))))⟩
abbrev s_are_right_ways : Stmt := top 42
theorem sc_are_right_ways : FnScope ["web", "leader", "ways", "number", "way", "takers", "one"] ["web", "leader", "ways"] (defScope s_are_right_ways) := ⟨rfl, rfl, rfl, by decide +kernel, rfl, by decide +kernel, by decide +kernel⟩
def b_are_right_ways : G.Env → Out := (mSeq (mIf (mOr (mNot (mB (mCallN 2 m_is_tuple_of.fn (mCons (mVar 2) (mCons (mCall (d1 D.len) (mCons (m2 D.ix (mVar 0) (mC (.int 1))) mNil)) mNil))))) (mNot (mB (mCall (d1 D.all) (mCons (mLc [4] (mSq D.seq (mVar 2)) (gnName 4) mYes (mCall0 2 m_is_trail.fn (mCons (mVar 0) (mCons (mVar 4) mNil)))) mNil))))) (mRet (mC (.bl false))) mNext) (mSeq (mFor (mSq (dEnum D.seq) (mVar 2)) (gnTup 2 (gnCons (gnName 3) (gnCons (gnName 4) gnNil))) (mSeq (mSet 5 (mLc [6] (mSq D.seq (mVar 4)) (gnName 6) mYes (m2 D.ix (m2 D.ix (m2 D.ix (mVar 0) (mC (.int 1))) (mVar 6)) (mC (.int 1))))) (mIf (mOr (mB (m2 D.ne (m2 D.ix (mVar 4) (mC (.int 0))) (mVar 3))) (mOr (mB (m2 D.ne (m2 D.ix (mVar 5) (m1 D.neg (mC (.int 1)))) (mVar 1))) (mB (m2 D.isIn (mVar 1) (mSl (mVar 5) mNoP (mPart (m1 D.neg (mC (.int 1))))))))) (mRet (mC (.bl false))) mNext))) (mRet (mC (.bl true)))))
def m_are_right_ways : DefM := ⟨3, 4, b_are_right_ways⟩
theorem k_are_right_ways {P : Program} {w : World} {K : PySem.W.Frag} {mg : Str → Option Value} {base : Heap} {f : Addr} {fd : FuncData} (F : FnP K "are_right_ways" s_are_right_ways f fd) (g : mg "are_right_ways" = some (.ref f)) {f_is_tuple_of : Addr} {fd_is_tuple_of : FuncData} (h_is_tuple_of : Fd P w K mg base 1 "is_tuple_of" ["thing", "many"] f_is_tuple_of fd_is_tuple_of m_is_tuple_of.fn) {f_is_trail : Addr} {fd_is_trail : FuncData} (h_is_trail : Fd P w K mg base 3 "is_trail" ["web", "thing"] f_is_trail fd_is_trail m_is_trail.fn) (n_len : mg "len" = none) (n_all : mg "all" = none) (n_enumerate : mg "enumerate" = none) : Fd P w K mg base 4 "are_right_ways" ["web", "leader", "ways"] f fd m_are_right_ways.fn := by
  refine fd_of (k := 3) (N := ["web", "leader", "ways", "number", "way", "takers", "one"]) (m := m_are_right_ways) F sc_are_right_ways g (F.bindsN fun _ _ _ _ _ _ us hl => match us, hl with | [_, _, _], _ => rfl) rfl rfl fun cdv A outer s H E hr tk => ?_
  have nd := sc_are_right_ways.nd
  have hu := hu65 hr
  show ∃ t o', MSs _ _ _ _ _ _ o' t b_are_right_ways
  unfold b_are_right_ways
  exact ⟨_, [], (mss_cons (ms_if (mt_w (mw_or (mt_not (mt_val (me_call tk h_is_tuple_of (hr.mono (by decide)) (ma_cons (me_var 2) (ma_cons (me_cb pu_len call_lenAll n_len b_len (ma_cons (me_ix (me_var 0) me_int) ma_nil)) ma_nil))))) (mw_or1 (mt_not (mt_val (me_cb pu_all (cr_all rfl) n_all b_all (ma_cons (me_o (mo_lc s H [("way", 4)] rfl nd (mi_seq (me_var 2)) (by first | (show blkC ["web", "leader", "ways", "number", "way", "takers", "one"] (defScope s_are_right_ways) _ _ = true; decide +kernel) | kernel_rfl) (fun _ _ _ _ _ => (mg_name 4 nd)) (fun _ _ _ _ _ => mts_nil) (fun _ _ _ _ _ => (me_callC h_is_trail (hr.mono (by decide)) (ma_cons (me_var 0) (ma_cons (me_var 4) ma_nil)))) gw1)) ma_nil))))))) (mss_one (ms_ret me_bl)) mss_nil) (mss_cons (ms_for (passes_of rfl) rfl (mi_enum n_enumerate (me_var 2)) (mg_tup rfl (mgs_cons (mg_name 3 nd) (mgs_cons (mg_name 4 nd) mgs_nil))) (mss_cons (ms_weak [5] (ms_setLc 5 s H [("one", 6)] rfl nd (mi_seq (me_var 4)) (by first | (show blkC ["web", "leader", "ways", "number", "way", "takers", "one"] (defScope s_are_right_ways) _ _ = true; decide +kernel) | kernel_rfl) (fun _ _ _ _ _ => (mg_name 6 nd)) (fun _ _ _ _ _ => mts_nil) (fun _ _ _ _ _ => (me_ix (me_ix (me_ix (me_var 0) me_int) (me_var 6)) me_int)) gw1)) (mss_one (ms_if (mt_w (mw_or (mt_cmp (c_ne hu) (me_ix (me_var 4) me_int) (me_var 3)) (mw_or (mt_cmp (c_ne hu) (me_ix (me_var 5) (me_neg me_int)) (me_var 1)) (mw_or1 (mt_cmp (c_in hu) (me_var 1) (me_slice (me_var 5) mp_no (mp_some (me_neg me_int)))))))) (mss_one (ms_ret me_bl)) mss_nil)))) (mss_one (ms_ret me_bl))))⟩
abbrev s_are_under : Stmt := top 11
theorem sc_are_under : FnScope ["thing", "many", "one"] ["thing", "many"] (defScope s_are_under) := ⟨rfl, rfl, rfl, by decide +kernel, rfl, by decide +kernel, by decide +kernel⟩
def b_are_under : G.Env → Out := (mRet (mAndV (mCall (d2 D.isi) (mCons (mVar 0) (mCons (mC (.ty "tuple")) mNil))) (mCall (d1 D.all) (mCons (mLc [2] (mSq D.seq (mVar 0)) (gnName 2) mYes (mCall0 2 m_is_under.fn (mCons (mVar 2) (mCons (mVar 1) mNil)))) mNil))))
def m_are_under : DefM := ⟨2, 1, b_are_under⟩
theorem k_are_under {P : Program} {w : World} {K : PySem.W.Frag} {mg : Str → Option Value} {base : Heap} {f : Addr} {fd : FuncData} (F : FnP K "are_under" s_are_under f fd) (g : mg "are_under" = some (.ref f)) {f_is_under : Addr} {fd_is_under : FuncData} (h_is_under : Fd P w K mg base 2 "is_under" ["thing", "many"] f_is_under fd_is_under m_is_under.fn) (n_isinstance : mg "isinstance" = none) (n_tuple : mg "tuple" = none) (n_all : mg "all" = none) : Fd P w K mg base 3 "are_under" ["thing", "many"] f fd m_are_under.fn := by
  refine fd_of (k := 2) (N := ["thing", "many", "one"]) (m := m_are_under) F sc_are_under g (F.bindsN fun _ _ _ _ _ _ us hl => match us, hl with | [_, _], _ => rfl) rfl rfl fun cdv A outer s H E hr tk => ?_
  have nd := sc_are_under.nd
  have hu := hu65 hr
  show ∃ t o', MSs _ _ _ _ _ _ o' t b_are_under
  unfold b_are_under
  exact ⟨_, [], (mss_one (ms_ret (me_and (me_cb pu_isi call_isi n_isinstance b_isi (ma_cons (me_var 0) (ma_cons (me_ty n_tuple b_tuple) ma_nil))) (me_one (me_cb pu_all (cr_all rfl) n_all b_all (ma_cons (me_o (mo_lc s H [("one", 2)] rfl nd (mi_seq (me_var 0)) (by first | (show blkC ["thing", "many", "one"] (defScope s_are_under) _ _ = true; decide +kernel) | kernel_rfl) (fun _ _ _ _ _ => (mg_name 2 nd)) (fun _ _ _ _ _ => mts_nil) (fun _ _ _ _ _ => (me_callC h_is_under (hr.mono (by decide)) (ma_cons (me_var 2) (ma_cons (me_var 1) ma_nil)))) gw1)) ma_nil))))))⟩
abbrev s_is_lot : Stmt := top 12
theorem sc_is_lot : FnScope ["thing", "many", "at"] ["thing", "many"] (defScope s_is_lot) := ⟨rfl, rfl, rfl, by decide +kernel, rfl, by decide +kernel, by decide +kernel⟩
def b_is_lot : G.Env → Out := (mRet (mAndV (mCallN 2 m_are_under.fn (mCons (mVar 0) (mCons (mVar 1) mNil))) (mCall (d1 D.all) (mCons (mLc [2] (mRange2 (mC (.int 1)) (mCall (d1 D.len) (mCons (mVar 0) mNil))) (gnName 2) mYes (m2 D.lt (m2 D.ix (mVar 0) (m2 D.sub (mVar 2) (mC (.int 1)))) (m2 D.ix (mVar 0) (mVar 2)))) mNil))))
def m_is_lot : DefM := ⟨2, 1, b_is_lot⟩
theorem k_is_lot {P : Program} {w : World} {K : PySem.W.Frag} {mg : Str → Option Value} {base : Heap} {f : Addr} {fd : FuncData} (F : FnP K "is_lot" s_is_lot f fd) (g : mg "is_lot" = some (.ref f)) {f_are_under : Addr} {fd_are_under : FuncData} (h_are_under : Fd P w K mg base 3 "are_under" ["thing", "many"] f_are_under fd_are_under m_are_under.fn) (n_all : mg "all" = none) (n_range : mg "range" = none) (n_len : mg "len" = none) : Fd P w K mg base 4 "is_lot" ["thing", "many"] f fd m_is_lot.fn := by
  refine fd_of (k := 3) (N := ["thing", "many", "at"]) (m := m_is_lot) F sc_is_lot g (F.bindsN fun _ _ _ _ _ _ us hl => match us, hl with | [_, _], _ => rfl) rfl rfl fun cdv A outer s H E hr tk => ?_
  have nd := sc_is_lot.nd
  have hu := hu65 hr
  show ∃ t o', MSs _ _ _ _ _ _ o' t b_is_lot
  unfold b_is_lot
  exact ⟨_, [], (mss_one (ms_ret (me_and (me_call tk h_are_under (hr.mono (by decide)) (ma_cons (me_var 0) (ma_cons (me_var 1) ma_nil))) (me_one (me_cb pu_all (cr_all rfl) n_all b_all (ma_cons (me_o (mo_lc s H [("at", 2)] rfl nd (mi_range2 n_range me_int (me_cb pu_len call_lenAll n_len b_len (ma_cons (me_var 0) ma_nil))) (by first | (show blkC ["thing", "many", "at"] (defScope s_is_lot) _ _ = true; decide +kernel) | kernel_rfl) (fun _ _ _ _ _ => (mg_name 2 nd)) (fun _ _ _ _ _ => mts_nil) (fun _ _ _ _ _ => (me_cmp c_lt (me_ix (me_var 0) (me_sub (me_var 2) me_int)) (me_ix (me_var 0) (me_var 2)))) gw1)) ma_nil))))))⟩
abbrev s_is_forfeit_paper : Stmt := top 43
theorem sc_is_forfeit_paper : FnScope ["web", "leader", "base", "thing", "inside", "row"] ["web", "leader", "base", "thing"] (defScope s_is_forfeit_paper) := ⟨rfl, rfl, rfl, by decide +kernel, rfl, by decide +kernel, by decide +kernel⟩
def b_is_forfeit_paper : G.Env → Out := (mSeq (mDrop (mCallN 3 m_need_case.fn (mCons (mVar 0) (mCons (mVar 1) (mCons (mVar 2) mNil))))) (mSeq (mIf (mOr (mNot (mB (mCall (d2 D.isi) (mCons (mVar 3) (mCons (mC (.ty "tuple")) mNil))))) (mOr (mB (m2 D.lt (mCall (d1 D.len) (mCons (mVar 3) mNil)) (mC (.int 2)))) (mNot (mB (mCall (d2 D.isi) (mCons (m2 D.ix (mVar 3) (mC (.int 0))) (mCons (mC (.ty "str")) mNil))))))) (mRet (mC (.bl false))) mNext) (mSeq (mIf (mAnd (mB (m2 D.eq (m2 D.ix (mVar 3) (mC (.int 0))) (mC (.str "ways")))) (mB (m2 D.eq (mCall (d1 D.len) (mCons (mVar 3) mNil)) (mC (.int 3))))) (mRet (mAndV (mCallN 3 m_are_right_ways.fn (mCons (mVar 0) (mCons (mVar 1) (mCons (m2 D.ix (mVar 3) (mC (.int 1))) mNil)))) (m2 D.eq (m2 D.ix (mVar 3) (mC (.int 2))) (mCallN 3 m_amounts_by.fn (mCons (mVar 0) (mCons (mVar 2) (mCons (m2 D.ix (mVar 3) (mC (.int 1))) mNil))))))) mNext) (mSeq (mIf (mOr (mB (m2 D.ne (m2 D.ix (mVar 3) (mC (.int 0))) (mC (.str "lot")))) (mOr (mB (m2 D.ne (mCall (d1 D.len) (mCons (mVar 3) mNil)) (mC (.int 2)))) (mNot (mB (mCallN 2 m_is_lot.fn (mCons (m2 D.ix (mVar 3) (mC (.int 1))) (mCons (m2 D.ix (mVar 0) (mC (.int 0))) mNil))))))) (mRet (mC (.bl false))) mNext) (mSeq (mSet 4 (m2 D.ix (mVar 3) (mC (.int 1)))) (mSeq (mIf (mOr (mB (m2 D.eq (mCall (d1 D.len) (mCons (mVar 4) mNil)) (mC (.int 0)))) (mB (m2 D.isIn (mVar 1) (mVar 4)))) (mRet (mC (.bl false))) mNext) (mRet (mCall (d1 D.all) (mCons (mLc [5] (mSq D.seq (m2 D.ix (mVar 0) (mC (.int 1)))) (gnName 5) (mB (m2 D.isIn (m2 D.ix (mVar 5) (mC (.int 0))) (mVar 4))) (m2 D.isIn (m2 D.ix (mVar 5) (mC (.int 1))) (mVar 4))) mNil)))))))))
def m_is_forfeit_paper : DefM := ⟨4, 2, b_is_forfeit_paper⟩
theorem k_is_forfeit_paper {P : Program} {w : World} {K : PySem.W.Frag} {mg : Str → Option Value} {base : Heap} {f : Addr} {fd : FuncData} (F : FnP K "is_forfeit_paper" s_is_forfeit_paper f fd) (g : mg "is_forfeit_paper" = some (.ref f)) {f_need_case : Addr} {fd_need_case : FuncData} (h_need_case : Fd P w K mg base 6 "need_case" ["web", "leader", "base"] f_need_case fd_need_case m_need_case.fn) {f_are_right_ways : Addr} {fd_are_right_ways : FuncData} (h_are_right_ways : Fd P w K mg base 4 "are_right_ways" ["web", "leader", "ways"] f_are_right_ways fd_are_right_ways m_are_right_ways.fn) {f_amounts_by : Addr} {fd_amounts_by : FuncData} (h_amounts_by : Fd P w K mg base 1 "amounts_by" ["web", "base", "ways"] f_amounts_by fd_amounts_by m_amounts_by.fn) {f_is_lot : Addr} {fd_is_lot : FuncData} (h_is_lot : Fd P w K mg base 4 "is_lot" ["thing", "many"] f_is_lot fd_is_lot m_is_lot.fn) (n_isinstance : mg "isinstance" = none) (n_tuple : mg "tuple" = none) (n_len : mg "len" = none) (n_str : mg "str" = none) (n_all : mg "all" = none) : Fd P w K mg base 7 "is_forfeit_paper" ["web", "leader", "base", "thing"] f fd m_is_forfeit_paper.fn := by
  refine fd_of (k := 6) (N := ["web", "leader", "base", "thing", "inside", "row"]) (m := m_is_forfeit_paper) F sc_is_forfeit_paper g (F.bindsN fun _ _ _ _ _ _ us hl => match us, hl with | [_, _, _, _], _ => rfl) rfl rfl fun cdv A outer s H E hr tk => ?_
  have nd := sc_is_forfeit_paper.nd
  have hu := hu65 hr
  show ∃ t o', MSs _ _ _ _ _ _ o' t b_is_forfeit_paper
  unfold b_is_forfeit_paper
  exact ⟨_, [], (mss_cons (ms_expr (me_call tk h_need_case (hr.mono (by decide)) (ma_cons (me_var 0) (ma_cons (me_var 1) (ma_cons (me_var 2) ma_nil))))) (mss_cons (ms_if (mt_w (mw_or (mt_not (mt_val (me_cb pu_isi call_isi n_isinstance b_isi (ma_cons (me_var 3) (ma_cons (me_ty n_tuple b_tuple) ma_nil))))) (mw_or (mt_cmp c_lt (me_cb pu_len call_lenAll n_len b_len (ma_cons (me_var 3) ma_nil)) me_int) (mw_or1 (mt_not (mt_val (me_cb pu_isi call_isi n_isinstance b_isi (ma_cons (me_ix (me_var 3) me_int) (ma_cons (me_ty n_str b_str) ma_nil))))))))) (mss_one (ms_ret me_bl)) mss_nil) (mss_cons (ms_if (mt_w (mw_and (mt_cmp (c_eq hu) (me_ix (me_var 3) me_int) me_str) (mw_and1 (mt_cmp (c_eq hu) (me_cb pu_len call_lenAll n_len b_len (ma_cons (me_var 3) ma_nil)) me_int)))) (mss_one (ms_ret (me_and (me_call tk h_are_right_ways (hr.mono (by decide)) (ma_cons (me_var 0) (ma_cons (me_var 1) (ma_cons (me_ix (me_var 3) me_int) ma_nil)))) (me_one (me_cmp (c_eq hu) (me_ix (me_var 3) me_int) (me_call tk h_amounts_by (hr.mono (by decide)) (ma_cons (me_var 0) (ma_cons (me_var 2) (ma_cons (me_ix (me_var 3) me_int) ma_nil))))))))) mss_nil) (mss_cons (ms_if (mt_w (mw_or (mt_cmp (c_ne hu) (me_ix (me_var 3) me_int) me_str) (mw_or (mt_cmp (c_ne hu) (me_cb pu_len call_lenAll n_len b_len (ma_cons (me_var 3) ma_nil)) me_int) (mw_or1 (mt_not (mt_val (me_call tk h_is_lot (hr.mono (by decide)) (ma_cons (me_ix (me_var 3) me_int) (ma_cons (me_ix (me_var 0) me_int) ma_nil))))))))) (mss_one (ms_ret me_bl)) mss_nil) (mss_cons (ms_set 4 nd (me_ix (me_var 3) me_int)) (mss_cons (ms_if (mt_w (mw_or (mt_cmp (c_eq hu) (me_cb pu_len call_lenAll n_len b_len (ma_cons (me_var 4) ma_nil)) me_int) (mw_or1 (mt_cmp (c_in hu) (me_var 1) (me_var 4))))) (mss_one (ms_ret me_bl)) mss_nil) (mss_one (ms_ret (me_cb pu_all (cr_all rfl) n_all b_all (ma_cons (me_o (mo_lc s H [("row", 5)] rfl nd (mi_seq (me_ix (me_var 0) me_int)) (by first | (show blkC ["web", "leader", "base", "thing", "inside", "row"] (defScope s_is_forfeit_paper) _ _ = true; decide +kernel) | kernel_rfl) (fun _ _ _ _ _ => (mg_name 5 nd)) (fun _ _ _ _ _ => (mts_one (mt_cmp (c_in hu) (me_ix (me_var 5) me_int) (me_var 4)))) (fun _ _ _ _ _ => (me_cmp (c_in hu) (me_ix (me_var 5) me_int) (me_var 4))) gw1)) ma_nil))))))))))⟩
abbrev s__law_good_ways : Stmt := top 58
theorem sc__law_good_ways : FnScope ["web", "leader", "ways", "k", "way", "takers", "at", "one"] ["web", "leader", "ways"] (defScope s__law_good_ways) := ⟨rfl, rfl, rfl, by decide +kernel, rfl, by decide +kernel, by decide +kernel⟩
def b__law_good_ways : G.Env → Out := (mSeq (mFor (mSq dRange1 (mCall (d1 D.len) (mCons (m2 D.ix (mVar 0) (mC (.int 1))) mNil))) (gnName 3) (mSeq (mSet 4 (m2 D.ix (mVar 2) (mVar 3))) (mSeq (mIf (mOr (mNot (mB (mCall (d2 D.isi) (mCons (mVar 4) (mCons (mC (.ty "tuple")) mNil))))) (mOr (mNot (mTru (mVar 4))) (mOr (mB (m2 D.ne (m2 D.ix (mVar 4) (mC (.int 0))) (mVar 3))) (mB (m2 D.ne (m1 D.lenSet (mVar 4)) (mCall (d1 D.len) (mCons (mVar 4) mNil))))))) (mRet (mC (.bl false))) mNext) (mSeq (mSet 5 (mLc [7] (mSq D.seq (mVar 4)) (gnName 7) mYes (m2 D.ix (m2 D.ix (m2 D.ix (mVar 0) (mC (.int 1))) (mVar 7)) (mC (.int 1))))) (mSeq (mFor (mRange2 (mC (.int 1)) (mCall (d1 D.len) (mCons (mVar 4) mNil))) (gnName 6) (mIf (mB (m2 D.ne (m2 D.ix (m2 D.ix (m2 D.ix (mVar 0) (mC (.int 1))) (m2 D.ix (mVar 4) (mVar 6))) (mC (.int 0))) (m2 D.ix (mVar 5) (m2 D.sub (mVar 6) (mC (.int 1)))))) (mRet (mC (.bl false))) mNext)) (mIf (mOr (mB (m2 D.ne (m2 D.ix (mVar 5) (m1 D.neg (mC (.int 1)))) (mVar 1))) (mB (m2 D.isIn (mVar 1) (mSl (mVar 5) mNoP (mPart (m1 D.neg (mC (.int 1)))))))) (mRet (mC (.bl false))) mNext)))))) (mRet (mC (.bl true))))
def m__law_good_ways : DefM := ⟨3, 5, b__law_good_ways⟩
theorem k__law_good_ways {P : Program} {w : World} {K : PySem.W.Frag} {mg : Str → Option Value} {base : Heap} {f : Addr} {fd : FuncData} (F : FnP K "_law_good_ways" s__law_good_ways f fd) (g : mg "_law_good_ways" = some (.ref f)) (n_range : mg "range" = none) (n_len : mg "len" = none) (n_isinstance : mg "isinstance" = none) (n_tuple : mg "tuple" = none) (n_set : mg "set" = none) : Fd P w K mg base 1 "_law_good_ways" ["web", "leader", "ways"] f fd m__law_good_ways.fn := by
  refine fd_of (k := 0) (N := ["web", "leader", "ways", "k", "way", "takers", "at", "one"]) (m := m__law_good_ways) F sc__law_good_ways g (F.bindsN fun _ _ _ _ _ _ us hl => match us, hl with | [_, _, _], _ => rfl) rfl rfl fun cdv A outer s H E hr tk => ?_
  have nd := sc__law_good_ways.nd
  have hu := hu65 hr
  show ∃ t o', MSs _ _ _ _ _ _ o' t b__law_good_ways
  unfold b__law_good_ways
  exact ⟨_, [], (mss_cons (ms_for (passes_of rfl) rfl (mi_range1 n_range (me_cb pu_len call_lenAll n_len b_len (ma_cons (me_ix (me_var 0) me_int) ma_nil))) (mg_name 3 nd) (mss_cons (ms_set 4 nd (me_ix (me_var 2) (me_var 3))) (mss_cons (ms_if (mt_w (mw_or (mt_not (mt_val (me_cb pu_isi call_isi n_isinstance b_isi (ma_cons (me_var 4) (ma_cons (me_ty n_tuple b_tuple) ma_nil))))) (mw_or (mt_not (mt_truth (me_var 4))) (mw_or (mt_cmp (c_ne hu) (me_ix (me_var 4) me_int) (me_var 3)) (mw_or1 (mt_cmp (c_ne hu) (me_lenSet rfl n_len n_set (me_var 4)) (me_cb pu_len call_lenAll n_len b_len (ma_cons (me_var 4) ma_nil)))))))) (mss_one (ms_ret me_bl)) mss_nil) (mss_cons (ms_weak [5] (ms_setLc 5 s H [("one", 7)] rfl nd (mi_seq (me_var 4)) (by first | (show blkC ["web", "leader", "ways", "k", "way", "takers", "at", "one"] (defScope s__law_good_ways) _ _ = true; decide +kernel) | kernel_rfl) (fun _ _ _ _ _ => (mg_name 7 nd)) (fun _ _ _ _ _ => mts_nil) (fun _ _ _ _ _ => (me_ix (me_ix (me_ix (me_var 0) me_int) (me_var 7)) me_int)) gw1)) (mss_cons (ms_for (passes_of rfl) rfl (mi_range2 n_range me_int (me_cb pu_len call_lenAll n_len b_len (ma_cons (me_var 4) ma_nil))) (mg_name 6 nd) (mss_one (ms_if (mt_cmp (c_ne hu) (me_ix (me_ix (me_ix (me_var 0) me_int) (me_ix (me_var 4) (me_var 6))) me_int) (me_ix (me_var 5) (me_sub (me_var 6) me_int))) (mss_one (ms_ret me_bl)) mss_nil))) (mss_one (ms_if (mt_w (mw_or (mt_cmp (c_ne hu) (me_ix (me_var 5) (me_neg me_int)) (me_var 1)) (mw_or1 (mt_cmp (c_in hu) (me_var 1) (me_slice (me_var 5) mp_no (mp_some (me_neg me_int))))))) (mss_one (ms_ret me_bl)) mss_nil))))))) (mss_one (ms_ret me_bl)))⟩
abbrev s_forfeit_amounts : Stmt := top 40
theorem sc_forfeit_amounts : FnScope ["web", "base", "ways", "way"] ["web", "base", "ways"] (defScope s_forfeit_amounts) := ⟨rfl, rfl, rfl, by decide +kernel, rfl, by decide +kernel, by decide +kernel⟩
def b_forfeit_amounts : G.Env → Out := (mSeq (mDrop (mCallN 1 m_need_web.fn (mCons (mVar 0) mNil))) (mSeq (mDrop (mCallN 1 m_need_base.fn (mCons (mVar 1) mNil))) (mSeq (mIf (mOr (mNot (mB (mCall (d2 D.isi) (mCons (mVar 2) (mCons (mC (.ty "tuple")) mNil))))) (mNot (mB (mCall (d1 D.all) (mCons (mLc [3] (mSq D.seq (mVar 2)) (gnName 3) mYes (mCall0 2 m_is_trail.fn (mCons (mVar 0) (mCons (mVar 3) mNil)))) mNil))))) (mRaise "NoForfeits") mNext) (mRet (mCallN 3 m_amounts_by.fn (mCons (mVar 0) (mCons (mVar 1) (mCons (mVar 2) mNil))))))))
def m_forfeit_amounts : DefM := ⟨3, 1, b_forfeit_amounts⟩
theorem k_forfeit_amounts {P : Program} {w : World} {K : PySem.W.Frag} {mg : Str → Option Value} {base : Heap} {f : Addr} {fd : FuncData} (F : FnP K "forfeit_amounts" s_forfeit_amounts f fd) (g : mg "forfeit_amounts" = some (.ref f)) {f_need_web : Addr} {fd_need_web : FuncData} (h_need_web : Fd P w K mg base 5 "need_web" ["thing"] f_need_web fd_need_web m_need_web.fn) {f_need_base : Addr} {fd_need_base : FuncData} (h_need_base : Fd P w K mg base 3 "need_base" ["base"] f_need_base fd_need_base m_need_base.fn) {f_is_trail : Addr} {fd_is_trail : FuncData} (h_is_trail : Fd P w K mg base 3 "is_trail" ["web", "thing"] f_is_trail fd_is_trail m_is_trail.fn) {f_amounts_by : Addr} {fd_amounts_by : FuncData} (h_amounts_by : Fd P w K mg base 1 "amounts_by" ["web", "base", "ways"] f_amounts_by fd_amounts_by m_amounts_by.fn) (n_isinstance : mg "isinstance" = none) (n_tuple : mg "tuple" = none) (n_all : mg "all" = none) {a_NoForfeits : Addr} (e_NoForfeits : ErrC K mg "NoForfeits" a_NoForfeits) : Fd P w K mg base 6 "forfeit_amounts" ["web", "base", "ways"] f fd m_forfeit_amounts.fn := by
  refine fd_of (k := 5) (N := ["web", "base", "ways", "way"]) (m := m_forfeit_amounts) F sc_forfeit_amounts g (F.bindsN fun _ _ _ _ _ _ us hl => match us, hl with | [_, _, _], _ => rfl) rfl rfl fun cdv A outer s H E hr tk => ?_
  have nd := sc_forfeit_amounts.nd
  have hu := hu65 hr
  show ∃ t o', MSs _ _ _ _ _ _ o' t b_forfeit_amounts
  unfold b_forfeit_amounts
  exact ⟨_, [], (mss_cons (ms_expr (me_call tk h_need_web (hr.mono (by decide)) (ma_cons (me_var 0) ma_nil))) (mss_cons (ms_expr (me_call tk h_need_base (hr.mono (by decide)) (ma_cons (me_var 1) ma_nil))) (mss_cons (ms_if (mt_w (mw_or (mt_not (mt_val (me_cb pu_isi call_isi n_isinstance b_isi (ma_cons (me_var 2) (ma_cons (me_ty n_tuple b_tuple) ma_nil))))) (mw_or1 (mt_not (mt_val (me_cb pu_all (cr_all rfl) n_all b_all (ma_cons (me_o (mo_lc s H [("way", 3)] rfl nd (mi_seq (me_var 2)) (by first | (show blkC ["web", "base", "ways", "way"] (defScope s_forfeit_amounts) _ _ = true; decide +kernel) | kernel_rfl) (fun _ _ _ _ _ => (mg_name 3 nd)) (fun _ _ _ _ _ => mts_nil) (fun _ _ _ _ _ => (me_callC h_is_trail (hr.mono (by decide)) (ma_cons (me_var 0) (ma_cons (me_var 3) ma_nil)))) gw1)) ma_nil))))))) (mss_one (ms_raise e_NoForfeits rfl tk)) mss_nil) (mss_one (ms_ret (me_call tk h_amounts_by (hr.mono (by decide)) (ma_cons (me_var 0) (ma_cons (me_var 1) (ma_cons (me_var 2) ma_nil)))))))))⟩
abbrev s__law_gives : Stmt := top 56
theorem sc__law_gives : FnScope ["web", "person", "k"] ["web", "person"] (defScope s__law_gives) := ⟨rfl, rfl, rfl, by decide +kernel, rfl, by decide +kernel, by decide +kernel⟩
def b__law_gives : G.Env → Out := (mRet (mLc [2] (mSq dRange1 (mCall (d1 D.len) (mCons (m2 D.ix (mVar 0) (mC (.int 1))) mNil))) (gnName 2) (mB (m2 D.eq (m2 D.ix (m2 D.ix (m2 D.ix (mVar 0) (mC (.int 1))) (mVar 2)) (mC (.int 0))) (mVar 1))) (mVar 2)))
def m__law_gives : DefM := ⟨2, 1, b__law_gives⟩
theorem k__law_gives {P : Program} {w : World} {K : PySem.W.Frag} {mg : Str → Option Value} {base : Heap} {f : Addr} {fd : FuncData} (F : FnP K "_law_gives" s__law_gives f fd) (g : mg "_law_gives" = some (.ref f)) (n_range : mg "range" = none) (n_len : mg "len" = none) : Fd P w K mg base 1 "_law_gives" ["web", "person"] f fd m__law_gives.fn := by
  refine fd_of (k := 0) (N := ["web", "person", "k"]) (m := m__law_gives) F sc__law_gives g (F.bindsN fun _ _ _ _ _ _ us hl => match us, hl with | [_, _], _ => rfl) rfl rfl fun cdv A outer s H E hr tk => ?_
  have nd := sc__law_gives.nd
  have hu := hu65 hr
  show ∃ t o', MSs _ _ _ _ _ _ o' t b__law_gives
  unfold b__law_gives
  exact ⟨_, [], (mss_one (ms_ret (me_o (mo_lc s H [("k", 2)] rfl nd (mi_range1 n_range (me_cb pu_len call_lenAll n_len b_len (ma_cons (me_ix (me_var 0) me_int) ma_nil))) (by first | (show blkC ["web", "person", "k"] (defScope s__law_gives) _ _ = true; decide +kernel) | kernel_rfl) (fun _ _ _ _ _ => (mg_name 2 nd)) (fun _ _ _ _ _ => (mts_one (mt_cmp (c_eq hu) (me_ix (me_ix (me_ix (me_var 0) me_int) (me_var 2)) me_int) (me_var 1)))) (fun _ _ _ _ _ => (me_var 2)) gw1))))⟩
abbrev s__law_honest : Stmt := top 51
theorem sc__law_honest : FnScope ["web", "leader", "person", "lot", "k"] ["web", "leader", "person", "lot"] (defScope s__law_honest) := ⟨rfl, rfl, rfl, by decide +kernel, rfl, by decide +kernel, by decide +kernel⟩
def b__law_honest : G.Env → Out := (mSeq (mIf (mOr (mB (m2 D.eq (mVar 2) (mVar 1))) (mB (mCall (d1 D.any) (mCons (mLc [4] (mSq D.seq (mCallN 2 m__law_gives.fn (mCons (mVar 0) (mCons (mVar 2) mNil)))) (gnName 4) mYes (m2 D.isIn (mVar 4) (mVar 3))) mNil)))) (mRet (mCall (d1 D.all) (mCons (mLc [4] (mSq D.seq (mCallN 2 m__law_gets.fn (mCons (mVar 0) (mCons (mVar 2) mNil)))) (gnName 4) mYes (m2 D.isIn (mVar 4) (mVar 3))) mNil))) mNext) (mRet (mC (.bl true))))
def m__law_honest : DefM := ⟨4, 1, b__law_honest⟩
theorem k__law_honest {P : Program} {w : World} {K : PySem.W.Frag} {mg : Str → Option Value} {base : Heap} {f : Addr} {fd : FuncData} (F : FnP K "_law_honest" s__law_honest f fd) (g : mg "_law_honest" = some (.ref f)) {f__law_gives : Addr} {fd__law_gives : FuncData} (h__law_gives : Fd P w K mg base 1 "_law_gives" ["web", "person"] f__law_gives fd__law_gives m__law_gives.fn) {f__law_gets : Addr} {fd__law_gets : FuncData} (h__law_gets : Fd P w K mg base 1 "_law_gets" ["web", "person"] f__law_gets fd__law_gets m__law_gets.fn) (n_any : mg "any" = none) (n_all : mg "all" = none) : Fd P w K mg base 2 "_law_honest" ["web", "leader", "person", "lot"] f fd m__law_honest.fn := by
  refine fd_of (k := 1) (N := ["web", "leader", "person", "lot", "k"]) (m := m__law_honest) F sc__law_honest g (F.bindsN fun _ _ _ _ _ _ us hl => match us, hl with | [_, _, _, _], _ => rfl) rfl rfl fun cdv A outer s H E hr tk => ?_
  have nd := sc__law_honest.nd
  have hu := hu65 hr
  show ∃ t o', MSs _ _ _ _ _ _ o' t b__law_honest
  unfold b__law_honest
  exact ⟨_, [], (mss_cons (ms_if (mt_w (mw_or (mt_cmp (c_eq hu) (me_var 2) (me_var 1)) (mw_or1 (mt_val (me_cb pu_any (cr_any rfl) n_any b_any (ma_cons (me_o (mo_lc s H [("k", 4)] rfl nd (mi_seq (me_call tk h__law_gives (hr.mono (by decide)) (ma_cons (me_var 0) (ma_cons (me_var 2) ma_nil)))) (by first | (show blkC ["web", "leader", "person", "lot", "k"] (defScope s__law_honest) _ _ = true; decide +kernel) | kernel_rfl) (fun _ _ _ _ _ => (mg_name 4 nd)) (fun _ _ _ _ _ => mts_nil) (fun _ _ _ _ _ => (me_cmp (c_in hu) (me_var 4) (me_var 3))) gw1)) ma_nil)))))) (mss_one (ms_ret (me_cb pu_all (cr_all rfl) n_all b_all (ma_cons (me_o (mo_lc s H [("k", 4)] rfl nd (mi_seq (me_call tk h__law_gets (hr.mono (by decide)) (ma_cons (me_var 0) (ma_cons (me_var 2) ma_nil)))) (by first | (show blkC ["web", "leader", "person", "lot", "k"] (defScope s__law_honest) _ _ = true; decide +kernel) | kernel_rfl) (fun _ _ _ _ _ => (mg_name 4 nd)) (fun _ _ _ _ _ => mts_nil) (fun _ _ _ _ _ => (me_cmp (c_in hu) (me_var 4) (me_var 3))) gw1)) ma_nil)))) mss_nil) (mss_one (ms_ret me_bl)))⟩
abbrev s__law_net : Stmt := top 50
theorem sc__law_net : FnScope ["web", "amounts", "person", "lot", "paid", "k"] ["web", "amounts", "person", "lot"] (defScope s__law_net) := ⟨rfl, rfl, rfl, by decide +kernel, rfl, by decide +kernel, by decide +kernel⟩
def b__law_net : G.Env → Out := (mSeq (mSet 4 (mCall (d1 D.sum) (mCons (mLc [5] (mSq D.seq (mCallN 2 m__law_gives.fn (mCons (mVar 0) (mCons (mVar 2) mNil)))) (gnName 5) (mB (m2 D.notIn (mVar 5) (mVar 3))) (m2 D.ix (mVar 1) (mVar 5))) mNil))) (mRet (m2 D.sub (mVar 4) (mCall (d1 D.sum) (mCons (mLc [5] (mSq D.seq (mCallN 2 m__law_gets.fn (mCons (mVar 0) (mCons (mVar 2) mNil)))) (gnName 5) (mB (m2 D.notIn (mVar 5) (mVar 3))) (m2 D.ix (mVar 1) (mVar 5))) mNil)))))
def m__law_net : DefM := ⟨4, 2, b__law_net⟩
theorem k__law_net {P : Program} {w : World} {K : PySem.W.Frag} {mg : Str → Option Value} {base : Heap} {f : Addr} {fd : FuncData} (F : FnP K "_law_net" s__law_net f fd) (g : mg "_law_net" = some (.ref f)) {f__law_gives : Addr} {fd__law_gives : FuncData} (h__law_gives : Fd P w K mg base 1 "_law_gives" ["web", "person"] f__law_gives fd__law_gives m__law_gives.fn) {f__law_gets : Addr} {fd__law_gets : FuncData} (h__law_gets : Fd P w K mg base 1 "_law_gets" ["web", "person"] f__law_gets fd__law_gets m__law_gets.fn) (n_sum : mg "sum" = none) : Fd P w K mg base 2 "_law_net" ["web", "amounts", "person", "lot"] f fd m__law_net.fn := by
  refine fd_of (k := 1) (N := ["web", "amounts", "person", "lot", "paid", "k"]) (m := m__law_net) F sc__law_net g (F.bindsN fun _ _ _ _ _ _ us hl => match us, hl with | [_, _, _, _], _ => rfl) rfl rfl fun cdv A outer s H E hr tk => ?_
  have nd := sc__law_net.nd
  have hu := hu65 hr
  show ∃ t o', MSs _ _ _ _ _ _ o' t b__law_net
  unfold b__law_net
  exact ⟨_, [], (mss_cons (ms_set 4 nd (me_cb pu_sum (cr_sum rfl) n_sum b_sum (ma_cons (me_o (mo_lc s H [("k", 5)] rfl nd (mi_seq (me_call tk h__law_gives (hr.mono (by decide)) (ma_cons (me_var 0) (ma_cons (me_var 2) ma_nil)))) (by first | (show blkC ["web", "amounts", "person", "lot", "paid", "k"] (defScope s__law_net) _ _ = true; decide +kernel) | kernel_rfl) (fun _ _ _ _ _ => (mg_name 5 nd)) (fun _ _ _ _ _ => (mts_one (mt_cmp (c_notIn hu) (me_var 5) (me_var 3)))) (fun _ _ _ _ _ => (me_ix (me_var 1) (me_var 5))) gw1)) ma_nil))) (mss_one (ms_ret (me_sub (me_var 4) (me_cb pu_sum (cr_sum rfl) n_sum b_sum (ma_cons (me_o (mo_lc s H [("k", 5)] rfl nd (mi_seq (me_call tk h__law_gets (hr.mono (by decide)) (ma_cons (me_var 0) (ma_cons (me_var 2) ma_nil)))) (by first | (show blkC ["web", "amounts", "person", "lot", "paid", "k"] (defScope s__law_net) _ _ = true; decide +kernel) | kernel_rfl) (fun _ _ _ _ _ => (mg_name 5 nd)) (fun _ _ _ _ _ => (mts_one (mt_cmp (c_notIn hu) (me_var 5) (me_var 3)))) (fun _ _ _ _ _ => (me_ix (me_var 1) (me_var 5))) gw1)) ma_nil))))))⟩
abbrev s__law_short_of : Stmt := top 52
theorem sc__law_short_of : FnScope ["web", "leader", "base", "amounts", "person", "lot", "left", "k"] ["web", "leader", "base", "amounts", "person", "lot"] (defScope s__law_short_of) := ⟨rfl, rfl, rfl, by decide +kernel, rfl, by decide +kernel, by decide +kernel⟩
def b__law_short_of : G.Env → Out := (mSeq (mIf (mNot (mB (mCallN 4 m__law_honest.fn (mCons (mVar 0) (mCons (mVar 1) (mCons (mVar 4) (mCons (mVar 5) mNil))))))) (mRet (mC (.bl false))) mNext) (mSeq (mSet 6 (mLc [7] (mSq D.seq (mCallN 2 m__law_gives.fn (mCons (mVar 0) (mCons (mVar 4) mNil)))) (gnName 7) (mB (m2 D.notIn (mVar 7) (mVar 5))) (mVar 7))) (mRet (m2 D.lt (mCallN 4 m__law_net.fn (mCons (mVar 0) (mCons (mVar 3) (mCons (mVar 4) (mCons (mVar 5) mNil))))) (m2 D.mul (mVar 2) (mCall (d1 D.len) (mCons (mVar 6) mNil)))))))
def m__law_short_of : DefM := ⟨6, 2, b__law_short_of⟩
theorem k__law_short_of {P : Program} {w : World} {K : PySem.W.Frag} {mg : Str → Option Value} {base : Heap} {f : Addr} {fd : FuncData} (F : FnP K "_law_short_of" s__law_short_of f fd) (g : mg "_law_short_of" = some (.ref f)) {f__law_honest : Addr} {fd__law_honest : FuncData} (h__law_honest : Fd P w K mg base 2 "_law_honest" ["web", "leader", "person", "lot"] f__law_honest fd__law_honest m__law_honest.fn) {f__law_gives : Addr} {fd__law_gives : FuncData} (h__law_gives : Fd P w K mg base 1 "_law_gives" ["web", "person"] f__law_gives fd__law_gives m__law_gives.fn) {f__law_net : Addr} {fd__law_net : FuncData} (h__law_net : Fd P w K mg base 2 "_law_net" ["web", "amounts", "person", "lot"] f__law_net fd__law_net m__law_net.fn) (n_len : mg "len" = none) : Fd P w K mg base 3 "_law_short_of" ["web", "leader", "base", "amounts", "person", "lot"] f fd m__law_short_of.fn := by
  refine fd_of (k := 2) (N := ["web", "leader", "base", "amounts", "person", "lot", "left", "k"]) (m := m__law_short_of) F sc__law_short_of g (F.bindsN fun _ _ _ _ _ _ us hl => match us, hl with | [_, _, _, _, _, _], _ => rfl) rfl rfl fun cdv A outer s H E hr tk => ?_
  have nd := sc__law_short_of.nd
  have hu := hu65 hr
  show ∃ t o', MSs _ _ _ _ _ _ o' t b__law_short_of
  unfold b__law_short_of
  exact ⟨_, [], (mss_cons (ms_if (mt_not (mt_val (me_call tk h__law_honest (hr.mono (by decide)) (ma_cons (me_var 0) (ma_cons (me_var 1) (ma_cons (me_var 4) (ma_cons (me_var 5) ma_nil))))))) (mss_one (ms_ret me_bl)) mss_nil) (mss_cons (ms_weak [6] (ms_setLc 6 s H [("k", 7)] rfl nd (mi_seq (me_call tk h__law_gives (hr.mono (by decide)) (ma_cons (me_var 0) (ma_cons (me_var 4) ma_nil)))) (by first | (show blkC ["web", "leader", "base", "amounts", "person", "lot", "left", "k"] (defScope s__law_short_of) _ _ = true; decide +kernel) | kernel_rfl) (fun _ _ _ _ _ => (mg_name 7 nd)) (fun _ _ _ _ _ => (mts_one (mt_cmp (c_notIn hu) (me_var 7) (me_var 5)))) (fun _ _ _ _ _ => (me_var 7)) gw1)) (mss_one (ms_ret (me_cmp c_lt (me_call tk h__law_net (hr.mono (by decide)) (ma_cons (me_var 0) (ma_cons (me_var 3) (ma_cons (me_var 4) (ma_cons (me_var 5) ma_nil))))) (me_mul (me_var 2) (me_cb pu_len call_lenAll n_len b_len (ma_cons (me_var 6) ma_nil))))))))⟩
abbrev s__law_right_amounts : Stmt := top 53
theorem sc__law_right_amounts : FnScope ["web", "leader", "base", "amounts", "lots", "k", "person", "near", "seen", "lot", "key"] ["web", "leader", "base", "amounts"] (defScope s__law_right_amounts) := ⟨rfl, rfl, rfl, by decide +kernel, rfl, by decide +kernel, by decide +kernel⟩
def b__law_right_amounts : G.Env → Out := (mSeq (mSet 4 (mLst (mCons (mTup mNil) mNil))) (mSeq (mFor (mSq dRange1 (mCall (d1 D.len) (mCons (m2 D.ix (mVar 0) (mC (.int 1))) mNil))) (gnName 5) (mSet 4 (m2 D.add (mVar 4) (mLc [9] (mSq D.seq (mVar 4)) (gnName 9) mYes (m2 D.add (mVar 9) (mTup (mCons (mVar 5) mNil))))))) (mSeq (mFor (mSq dRange1 (m2 D.ix (mVar 0) (mC (.int 0)))) (gnName 6) (mSeq (mSet 7 (m2 D.add (mCallN 2 m__law_gives.fn (mCons (mVar 0) (mCons (mVar 6) mNil))) (mCallN 2 m__law_gets.fn (mCons (mVar 0) (mCons (mVar 6) mNil))))) (mSeq (mSet 8 (mDic true)) (mFor (mSq D.seq (mVar 4)) (gnName 9) (mSeq (mSet 10 (mCall (d1 D.toTup) (mCons (mLc [5] (mSq D.seq (mVar 9)) (gnName 5) (mB (m2 D.isIn (mVar 5) (mVar 7))) (mVar 5)) mNil))) (mIf (mB (m2 D.notIn (mVar 10) (mVar 8))) (mSeq (mDPut 8 (mVar 10) (mC (.bl true))) (mIf (mB (mCallN 6 m__law_short_of.fn (mCons (mVar 0) (mCons (mVar 1) (mCons (mVar 2) (mCons (mVar 3) (mCons (mVar 6) (mCons (mVar 10) mNil)))))))) (mRet (mC (.bl false))) mNext)) mNext)))))) (mRet (mC (.bl true))))))
def m__law_right_amounts : DefM := ⟨4, 7, b__law_right_amounts⟩
theorem k__law_right_amounts {P : Program} {w : World} {K : PySem.W.Frag} {mg : Str → Option Value} {base : Heap} {f : Addr} {fd : FuncData} (F : FnP K "_law_right_amounts" s__law_right_amounts f fd) (g : mg "_law_right_amounts" = some (.ref f)) {f__law_gives : Addr} {fd__law_gives : FuncData} (h__law_gives : Fd P w K mg base 1 "_law_gives" ["web", "person"] f__law_gives fd__law_gives m__law_gives.fn) {f__law_gets : Addr} {fd__law_gets : FuncData} (h__law_gets : Fd P w K mg base 1 "_law_gets" ["web", "person"] f__law_gets fd__law_gets m__law_gets.fn) {f__law_short_of : Addr} {fd__law_short_of : FuncData} (h__law_short_of : Fd P w K mg base 3 "_law_short_of" ["web", "leader", "base", "amounts", "person", "lot"] f__law_short_of fd__law_short_of m__law_short_of.fn) (n_range : mg "range" = none) (n_len : mg "len" = none) (n_tuple : mg "tuple" = none) : Fd P w K mg base 4 "_law_right_amounts" ["web", "leader", "base", "amounts"] f fd m__law_right_amounts.fn := by
  refine fd_of (k := 3) (N := ["web", "leader", "base", "amounts", "lots", "k", "person", "near", "seen", "lot", "key"]) (m := m__law_right_amounts) F sc__law_right_amounts g (F.bindsN fun _ _ _ _ _ _ us hl => match us, hl with | [_, _, _, _], _ => rfl) rfl rfl fun cdv A outer s H E hr tk => ?_
  have nd := sc__law_right_amounts.nd
  have hu := hu65 hr
  show ∃ t o', MSs _ _ _ _ _ _ o' t b__law_right_amounts
  unfold b__law_right_amounts
  exact ⟨_, [], (mss_cons (ms_set 4 nd (me_o (mo_lst (ma_cons (me_tup ma_nil) ma_nil)))) (mss_cons (ms_for (passes_of rfl) rfl (mi_range1 n_range (me_cb pu_len call_lenAll n_len b_len (ma_cons (me_ix (me_var 0) me_int) ma_nil))) (mg_name 5 nd) (mss_one (ms_set 4 nd (me_add (me_var 4) (me_o (mo_lc s H [("lot", 9)] rfl nd (mi_seq (me_var 4)) (by first | (show blkC ["web", "leader", "base", "amounts", "lots", "k", "person", "near", "seen", "lot", "key"] (defScope s__law_right_amounts) _ _ = true; decide +kernel) | kernel_rfl) (fun _ _ _ _ _ => (mg_name 9 nd)) (fun _ _ _ _ _ => mts_nil) (fun _ _ _ _ _ => (me_add (me_var 9) (me_tup (ma_cons (me_var 5) ma_nil)))) gw1)))))) (mss_cons (ms_for (passes_of rfl) rfl (mi_range1 n_range (me_ix (me_var 0) me_int)) (mg_name 6 nd) (mss_weak [8] (mss_cons (ms_set 7 nd (me_add (me_call tk h__law_gives (hr.mono (by decide)) (ma_cons (me_var 0) (ma_cons (me_var 6) ma_nil))) (me_call tk h__law_gets (hr.mono (by decide)) (ma_cons (me_var 0) (ma_cons (me_var 6) ma_nil))))) (mss_cons (ms_setO 8 nd mo_dicT) (mss_one (ms_for (passes_of rfl) rfl (mi_seq (me_var 4)) (mg_name 9 nd) (mss_cons (ms_set 10 nd (me_ct pu_tuple call_tuple_of n_tuple b_tuple (ma_cons (me_o (mo_lc s H [("k", 5)] rfl nd (mi_seq (me_var 9)) (by first | (show blkC ["web", "leader", "base", "amounts", "lots", "k", "person", "near", "seen", "lot", "key"] (defScope s__law_right_amounts) _ _ = true; decide +kernel) | kernel_rfl) (fun _ _ _ _ _ => (mg_name 5 nd)) (fun _ _ _ _ _ => (mts_one (mt_cmp (c_in hu) (me_var 5) (me_var 7)))) (fun _ _ _ _ _ => (me_var 5)) gw1)) ma_nil))) (mss_one (ms_if (mt_bor 8 (mt_cmp (c_notIn hu) (me_var 10) (me_var 8))) (mss_cons (ms_dput 8 (Nat.lt_of_le_of_lt (Nat.add_le_add_left (by decide : 1 ≤ 65) _) hu) me_bl (me_var 10)) (mss_one (ms_if (mt_val (me_call tk h__law_short_of (hr.mono (by decide)) (ma_cons (me_var 0) (ma_cons (me_var 1) (ma_cons (me_var 2) (ma_cons (me_var 3) (ma_cons (me_var 6) (ma_cons (me_var 10) ma_nil)))))))) (mss_one (ms_ret me_bl)) mss_nil))) mss_nil))))))))) (mss_one (ms_ret me_bl)))))⟩
abbrev s_are_amounts : Stmt := top 28
theorem sc_are_amounts : FnScope ["web", "thing", "one"] ["web", "thing"] (defScope s_are_amounts) := ⟨rfl, rfl, rfl, by decide +kernel, rfl, by decide +kernel, by decide +kernel⟩
def b_are_amounts : G.Env → Out := (mSeq (mIf (mNot (mB (mCallN 2 m_is_tuple_of.fn (mCons (mVar 1) (mCons (mCall (d1 D.len) (mCons (m2 D.ix (mVar 0) (mC (.int 1))) mNil)) mNil))))) (mRet (mC (.bl false))) mNext) (mRet (mCall (d1 D.all) (mCons (mLc [2] (mSq D.seq (mVar 1)) (gnName 2) mYes (mCall0 3 m_is_between.fn (mCons (mVar 2) (mCons (mC (.int 0)) (mCons (mC (.int (1000000))) mNil))))) mNil))))
def m_are_amounts : DefM := ⟨2, 1, b_are_amounts⟩
theorem k_are_amounts {P : Program} {w : World} {K : PySem.W.Frag} {mg : Str → Option Value} {base : Heap} {f : Addr} {fd : FuncData} (F : FnP K "are_amounts" s_are_amounts f fd) (g : mg "are_amounts" = some (.ref f)) {f_is_tuple_of : Addr} {fd_is_tuple_of : FuncData} (h_is_tuple_of : Fd P w K mg base 1 "is_tuple_of" ["thing", "many"] f_is_tuple_of fd_is_tuple_of m_is_tuple_of.fn) {f_is_between : Addr} {fd_is_between : FuncData} (h_is_between : Fd P w K mg base 2 "is_between" ["thing", "least", "most"] f_is_between fd_is_between m_is_between.fn) (n_len : mg "len" = none) (n_all : mg "all" = none) (c_MOST_FORFEIT : ∃ t, mg "MOST_FORFEIT" = some (.int (1000000) t)) : Fd P w K mg base 3 "are_amounts" ["web", "thing"] f fd m_are_amounts.fn := by
  refine fd_of (k := 2) (N := ["web", "thing", "one"]) (m := m_are_amounts) F sc_are_amounts g (F.bindsN fun _ _ _ _ _ _ us hl => match us, hl with | [_, _], _ => rfl) rfl rfl fun cdv A outer s H E hr tk => ?_
  have nd := sc_are_amounts.nd
  have hu := hu65 hr
  show ∃ t o', MSs _ _ _ _ _ _ o' t b_are_amounts
  unfold b_are_amounts
  exact ⟨_, [], (mss_cons (ms_if (mt_not (mt_val (me_call tk h_is_tuple_of (hr.mono (by decide)) (ma_cons (me_var 1) (ma_cons (me_cb pu_len call_lenAll n_len b_len (ma_cons (me_ix (me_var 0) me_int) ma_nil)) ma_nil))))) (mss_one (ms_ret me_bl)) mss_nil) (mss_one (ms_ret (me_cb pu_all (cr_all rfl) n_all b_all (ma_cons (me_o (mo_lc s H [("one", 2)] rfl nd (mi_seq (me_var 1)) (by first | (show blkC ["web", "thing", "one"] (defScope s_are_amounts) _ _ = true; decide +kernel) | kernel_rfl) (fun _ _ _ _ _ => (mg_name 2 nd)) (fun _ _ _ _ _ => mts_nil) (fun _ _ _ _ _ => (me_callC h_is_between (hr.mono (by decide)) (ma_cons (me_var 2) (ma_cons me_int (ma_cons (me_gintE c_MOST_FORFEIT) ma_nil))))) gw1)) ma_nil)))))⟩
abbrev s_given_by : Stmt := top 22
theorem sc_given_by : FnScope ["web", "person", "number", "row"] ["web", "person"] (defScope s_given_by) := ⟨rfl, rfl, rfl, by decide +kernel, rfl, by decide +kernel, by decide +kernel⟩
def b_given_by : G.Env → Out := (mRet (mLc [2, 3] (mSq (dEnum D.seq) (m2 D.ix (mVar 0) (mC (.int 1)))) (gnTup 2 (gnCons (gnName 2) (gnCons (gnName 3) gnNil))) (mB (m2 D.eq (m2 D.ix (mVar 3) (mC (.int 0))) (mVar 1))) (mVar 2)))
def m_given_by : DefM := ⟨2, 2, b_given_by⟩
theorem k_given_by {P : Program} {w : World} {K : PySem.W.Frag} {mg : Str → Option Value} {base : Heap} {f : Addr} {fd : FuncData} (F : FnP K "given_by" s_given_by f fd) (g : mg "given_by" = some (.ref f)) (n_enumerate : mg "enumerate" = none) : Fd P w K mg base 1 "given_by" ["web", "person"] f fd m_given_by.fn := by
  refine fd_of (k := 0) (N := ["web", "person", "number", "row"]) (m := m_given_by) F sc_given_by g (F.bindsN fun _ _ _ _ _ _ us hl => match us, hl with | [_, _], _ => rfl) rfl rfl fun cdv A outer s H E hr tk => ?_
  have nd := sc_given_by.nd
  have hu := hu65 hr
  show ∃ t o', MSs _ _ _ _ _ _ o' t b_given_by
  unfold b_given_by
  exact ⟨_, [], (mss_one (ms_ret (me_o (mo_lc s H [("number", 2), ("row", 3)] rfl nd (mi_enum n_enumerate (me_ix (me_var 0) me_int)) (by first | (show blkC ["web", "person", "number", "row"] (defScope s_given_by) _ _ = true; decide +kernel) | kernel_rfl) (fun _ _ _ _ _ => (mg_tup rfl (mgs_cons (mg_name 2 nd) (mgs_cons (mg_name 3 nd) mgs_nil)))) (fun _ _ _ _ _ => (mts_one (mt_cmp (c_eq hu) (me_ix (me_var 3) me_int) (me_var 1)))) (fun _ _ _ _ _ => (me_var 2)) gw2))))⟩
abbrev s_net_of : Stmt := top 31
theorem sc_net_of : FnScope ["web", "amounts", "person", "lot", "paid", "number"] ["web", "amounts", "person", "lot"] (defScope s_net_of) := ⟨rfl, rfl, rfl, by decide +kernel, rfl, by decide +kernel, by decide +kernel⟩
def b_net_of : G.Env → Out := (mSeq (mSet 4 (mCall (d1 D.sum) (mCons (mLc [5] (mSq D.seq (mCallN 2 m_given_by.fn (mCons (mVar 0) (mCons (mVar 2) mNil)))) (gnName 5) (mB (m2 D.notIn (mVar 5) (mVar 3))) (m2 D.ix (mVar 1) (mVar 5))) mNil))) (mRet (m2 D.sub (mVar 4) (mCall (d1 D.sum) (mCons (mLc [5] (mSq D.seq (mCallN 2 m_got_by.fn (mCons (mVar 0) (mCons (mVar 2) mNil)))) (gnName 5) (mB (m2 D.notIn (mVar 5) (mVar 3))) (m2 D.ix (mVar 1) (mVar 5))) mNil)))))
def m_net_of : DefM := ⟨4, 2, b_net_of⟩
theorem k_net_of {P : Program} {w : World} {K : PySem.W.Frag} {mg : Str → Option Value} {base : Heap} {f : Addr} {fd : FuncData} (F : FnP K "net_of" s_net_of f fd) (g : mg "net_of" = some (.ref f)) {f_given_by : Addr} {fd_given_by : FuncData} (h_given_by : Fd P w K mg base 1 "given_by" ["web", "person"] f_given_by fd_given_by m_given_by.fn) {f_got_by : Addr} {fd_got_by : FuncData} (h_got_by : Fd P w K mg base 1 "got_by" ["web", "person"] f_got_by fd_got_by m_got_by.fn) (n_sum : mg "sum" = none) : Fd P w K mg base 2 "net_of" ["web", "amounts", "person", "lot"] f fd m_net_of.fn := by
  refine fd_of (k := 1) (N := ["web", "amounts", "person", "lot", "paid", "number"]) (m := m_net_of) F sc_net_of g (F.bindsN fun _ _ _ _ _ _ us hl => match us, hl with | [_, _, _, _], _ => rfl) rfl rfl fun cdv A outer s H E hr tk => ?_
  have nd := sc_net_of.nd
  have hu := hu65 hr
  show ∃ t o', MSs _ _ _ _ _ _ o' t b_net_of
  unfold b_net_of
  exact ⟨_, [], (mss_cons (ms_set 4 nd (me_cb pu_sum (cr_sum rfl) n_sum b_sum (ma_cons (me_o (mo_lc s H [("number", 5)] rfl nd (mi_seq (me_call tk h_given_by (hr.mono (by decide)) (ma_cons (me_var 0) (ma_cons (me_var 2) ma_nil)))) (by first | (show blkC ["web", "amounts", "person", "lot", "paid", "number"] (defScope s_net_of) _ _ = true; decide +kernel) | kernel_rfl) (fun _ _ _ _ _ => (mg_name 5 nd)) (fun _ _ _ _ _ => (mts_one (mt_cmp (c_notIn hu) (me_var 5) (me_var 3)))) (fun _ _ _ _ _ => (me_ix (me_var 1) (me_var 5))) gw1)) ma_nil))) (mss_one (ms_ret (me_sub (me_var 4) (me_cb pu_sum (cr_sum rfl) n_sum b_sum (ma_cons (me_o (mo_lc s H [("number", 5)] rfl nd (mi_seq (me_call tk h_got_by (hr.mono (by decide)) (ma_cons (me_var 0) (ma_cons (me_var 2) ma_nil)))) (by first | (show blkC ["web", "amounts", "person", "lot", "paid", "number"] (defScope s_net_of) _ _ = true; decide +kernel) | kernel_rfl) (fun _ _ _ _ _ => (mg_name 5 nd)) (fun _ _ _ _ _ => (mts_one (mt_cmp (c_notIn hu) (me_var 5) (me_var 3)))) (fun _ _ _ _ _ => (me_ix (me_var 1) (me_var 5))) gw1)) ma_nil))))))⟩
abbrev s_due_of : Stmt := top 32
theorem sc_due_of : FnScope ["web", "base", "person", "lot", "number"] ["web", "base", "person", "lot"] (defScope s_due_of) := ⟨rfl, rfl, rfl, by decide +kernel, rfl, by decide +kernel, by decide +kernel⟩
def b_due_of : G.Env → Out := (mRet (m2 D.mul (mVar 1) (mCall (d1 D.len) (mCons (mLc [4] (mSq D.seq (mCallN 2 m_given_by.fn (mCons (mVar 0) (mCons (mVar 2) mNil)))) (gnName 4) (mB (m2 D.notIn (mVar 4) (mVar 3))) (mVar 4)) mNil))))
def m_due_of : DefM := ⟨4, 1, b_due_of⟩
theorem k_due_of {P : Program} {w : World} {K : PySem.W.Frag} {mg : Str → Option Value} {base : Heap} {f : Addr} {fd : FuncData} (F : FnP K "due_of" s_due_of f fd) (g : mg "due_of" = some (.ref f)) {f_given_by : Addr} {fd_given_by : FuncData} (h_given_by : Fd P w K mg base 1 "given_by" ["web", "person"] f_given_by fd_given_by m_given_by.fn) (n_len : mg "len" = none) : Fd P w K mg base 2 "due_of" ["web", "base", "person", "lot"] f fd m_due_of.fn := by
  refine fd_of (k := 1) (N := ["web", "base", "person", "lot", "number"]) (m := m_due_of) F sc_due_of g (F.bindsN fun _ _ _ _ _ _ us hl => match us, hl with | [_, _, _, _], _ => rfl) rfl rfl fun cdv A outer s H E hr tk => ?_
  have nd := sc_due_of.nd
  have hu := hu65 hr
  show ∃ t o', MSs _ _ _ _ _ _ o' t b_due_of
  unfold b_due_of
  exact ⟨_, [], (mss_one (ms_ret (me_mul (me_var 1) (me_cb pu_len call_lenAll n_len b_len (ma_cons (me_o (mo_lc s H [("number", 4)] rfl nd (mi_seq (me_call tk h_given_by (hr.mono (by decide)) (ma_cons (me_var 0) (ma_cons (me_var 2) ma_nil)))) (by first | (show blkC ["web", "base", "person", "lot", "number"] (defScope s_due_of) _ _ = true; decide +kernel) | kernel_rfl) (fun _ _ _ _ _ => (mg_name 4 nd)) (fun _ _ _ _ _ => (mts_one (mt_cmp (c_notIn hu) (me_var 4) (me_var 3)))) (fun _ _ _ _ _ => (me_var 4)) gw1)) ma_nil)))))⟩
abbrev s_short_at : Stmt := top 33
theorem sc_short_at : FnScope ["web", "leader", "base", "amounts", "every", "person", "gives", "number", "lot", "one"] ["web", "leader", "base", "amounts"] (defScope s_short_at) := ⟨rfl, rfl, rfl, by decide +kernel, rfl, by decide +kernel, by decide +kernel⟩
def b_short_at : G.Env → Out := (mSeq (mSet 4 (mRg1 dRgL (mCall (d1 D.len) (mCons (m2 D.ix (mVar 0) (mC (.int 1))) mNil)))) (mSeq (mFor (mSq dRange1 (m2 D.ix (mVar 0) (mC (.int 0)))) (gnName 5) (mSeq (mSet 6 (mCallN 2 m_given_by.fn (mCons (mVar 0) (mCons (mVar 5) mNil)))) (mSeq (mFor (mSq D.seq (mVar 6)) (gnName 7) (mIf (mB (m2 D.lt (m2 D.ix (mVar 3) (mVar 7)) (mVar 2))) (mRet (mTup (mCons (mVar 5) (mCons (mCall (d1 D.toTup) (mCons (mLc [9] (mSq D.seq (mVar 4)) (gnName 9) (mB (m2 D.ne (mVar 9) (mVar 7))) (mVar 9)) mNil)) mNil)))) mNext)) (mIf (mB (m2 D.ne (mVar 5) (mVar 1))) (mSeq (mSet 8 (mTup mNil)) (mIf (mB (m2 D.lt (mCallN 4 m_net_of.fn (mCons (mVar 0) (mCons (mVar 3) (mCons (mVar 5) (mCons (mVar 8) mNil))))) (mCallN 4 m_due_of.fn (mCons (mVar 0) (mCons (mVar 2) (mCons (mVar 5) (mCons (mVar 8) mNil))))))) (mRet (mTup (mCons (mVar 5) (mCons (mVar 8) mNil)))) mNext)) mNext)))) (mRet (mC .non))))
def m_short_at : DefM := ⟨4, 6, b_short_at⟩
theorem k_short_at {P : Program} {w : World} {K : PySem.W.Frag} {mg : Str → Option Value} {base : Heap} {f : Addr} {fd : FuncData} (F : FnP K "short_at" s_short_at f fd) (g : mg "short_at" = some (.ref f)) {f_given_by : Addr} {fd_given_by : FuncData} (h_given_by : Fd P w K mg base 1 "given_by" ["web", "person"] f_given_by fd_given_by m_given_by.fn) {f_net_of : Addr} {fd_net_of : FuncData} (h_net_of : Fd P w K mg base 2 "net_of" ["web", "amounts", "person", "lot"] f_net_of fd_net_of m_net_of.fn) {f_due_of : Addr} {fd_due_of : FuncData} (h_due_of : Fd P w K mg base 2 "due_of" ["web", "base", "person", "lot"] f_due_of fd_due_of m_due_of.fn) (n_list : mg "list" = none) (n_range : mg "range" = none) (n_len : mg "len" = none) (n_tuple : mg "tuple" = none) : Fd P w K mg base 3 "short_at" ["web", "leader", "base", "amounts"] f fd m_short_at.fn := by
  refine fd_of (k := 2) (N := ["web", "leader", "base", "amounts", "every", "person", "gives", "number", "lot", "one"]) (m := m_short_at) F sc_short_at g (F.bindsN fun _ _ _ _ _ _ us hl => match us, hl with | [_, _, _, _], _ => rfl) rfl rfl fun cdv A outer s H E hr tk => ?_
  have nd := sc_short_at.nd
  have hu := hu65 hr
  show ∃ t o', MSs _ _ _ _ _ _ o' t b_short_at
  unfold b_short_at
  exact ⟨_, [], (mss_cons (ms_set 4 nd (me_o (mo_lstRg1 n_range n_list rfl (me_cb pu_len call_lenAll n_len b_len (ma_cons (me_ix (me_var 0) me_int) ma_nil))))) (mss_cons (ms_for (passes_of rfl) rfl (mi_range1 n_range (me_ix (me_var 0) me_int)) (mg_name 5 nd) (mss_cons (ms_set 6 nd (me_call tk h_given_by (hr.mono (by decide)) (ma_cons (me_var 0) (ma_cons (me_var 5) ma_nil)))) (mss_cons (ms_for (passes_of rfl) rfl (mi_seq (me_var 6)) (mg_name 7 nd) (mss_one (ms_if (mt_cmp c_lt (me_ix (me_var 3) (me_var 7)) (me_var 2)) (mss_one (ms_ret (me_tup (ma_cons (me_var 5) (ma_cons (me_ct pu_tuple call_tuple_of n_tuple b_tuple (ma_cons (me_o (mo_lc s H [("one", 9)] rfl nd (mi_seq (me_var 4)) (by first | (show blkC ["web", "leader", "base", "amounts", "every", "person", "gives", "number", "lot", "one"] (defScope s_short_at) _ _ = true; decide +kernel) | kernel_rfl) (fun _ _ _ _ _ => (mg_name 9 nd)) (fun _ _ _ _ _ => (mts_one (mt_cmp (c_ne hu) (me_var 9) (me_var 7)))) (fun _ _ _ _ _ => (me_var 9)) gw1)) ma_nil)) ma_nil))))) mss_nil))) (mss_one (ms_if (mt_cmp (c_ne hu) (me_var 5) (me_var 1)) (mss_cons (ms_set 8 nd (me_tup ma_nil)) (mss_one (ms_if (mt_cmp c_lt (me_call tk h_net_of (hr.mono (by decide)) (ma_cons (me_var 0) (ma_cons (me_var 3) (ma_cons (me_var 5) (ma_cons (me_var 8) ma_nil))))) (me_call tk h_due_of (hr.mono (by decide)) (ma_cons (me_var 0) (ma_cons (me_var 2) (ma_cons (me_var 5) (ma_cons (me_var 8) ma_nil)))))) (mss_one (ms_ret (me_tup (ma_cons (me_var 5) (ma_cons (me_var 8) ma_nil))))) mss_nil))) mss_nil))))) (mss_one (ms_ret me_non))))⟩
abbrev s_is_forfeits : Stmt := top 34
theorem sc_is_forfeits : FnScope ["web", "leader", "base", "thing"] ["web", "leader", "base", "thing"] (defScope s_is_forfeits) := ⟨rfl, rfl, rfl, by decide +kernel, rfl, by decide +kernel, by decide +kernel⟩
def b_is_forfeits : G.Env → Out := (mSeq (mDrop (mCallN 3 m_need_case.fn (mCons (mVar 0) (mCons (mVar 1) (mCons (mVar 2) mNil))))) (mRet (mAndV (mCallN 2 m_are_amounts.fn (mCons (mVar 0) (mCons (mVar 3) mNil))) (m2 D.is (mCallN 4 m_short_at.fn (mCons (mVar 0) (mCons (mVar 1) (mCons (mVar 2) (mCons (mVar 3) mNil))))) (mC .non)))))
def m_is_forfeits : DefM := ⟨4, 0, b_is_forfeits⟩
theorem k_is_forfeits {P : Program} {w : World} {K : PySem.W.Frag} {mg : Str → Option Value} {base : Heap} {f : Addr} {fd : FuncData} (F : FnP K "is_forfeits" s_is_forfeits f fd) (g : mg "is_forfeits" = some (.ref f)) {f_need_case : Addr} {fd_need_case : FuncData} (h_need_case : Fd P w K mg base 6 "need_case" ["web", "leader", "base"] f_need_case fd_need_case m_need_case.fn) {f_are_amounts : Addr} {fd_are_amounts : FuncData} (h_are_amounts : Fd P w K mg base 3 "are_amounts" ["web", "thing"] f_are_amounts fd_are_amounts m_are_amounts.fn) {f_short_at : Addr} {fd_short_at : FuncData} (h_short_at : Fd P w K mg base 3 "short_at" ["web", "leader", "base", "amounts"] f_short_at fd_short_at m_short_at.fn) : Fd P w K mg base 7 "is_forfeits" ["web", "leader", "base", "thing"] f fd m_is_forfeits.fn := by
  refine fd_of (k := 6) (N := ["web", "leader", "base", "thing"]) (m := m_is_forfeits) F sc_is_forfeits g (F.bindsN fun _ _ _ _ _ _ us hl => match us, hl with | [_, _, _, _], _ => rfl) rfl rfl fun cdv A outer s H E hr tk => ?_
  have nd := sc_is_forfeits.nd
  have hu := hu65 hr
  show ∃ t o', MSs _ _ _ _ _ _ o' t b_is_forfeits
  unfold b_is_forfeits
  exact ⟨_, [], (mss_cons (ms_expr (me_call tk h_need_case (hr.mono (by decide)) (ma_cons (me_var 0) (ma_cons (me_var 1) (ma_cons (me_var 2) ma_nil))))) (mss_one (ms_ret (me_and (me_call tk h_are_amounts (hr.mono (by decide)) (ma_cons (me_var 0) (ma_cons (me_var 3) ma_nil))) (me_one (me_cmp c_is (me_call tk h_short_at (hr.mono (by decide)) (ma_cons (me_var 0) (ma_cons (me_var 1) (ma_cons (me_var 2) (ma_cons (me_var 3) ma_nil))))) me_non))))))⟩
abbrev s_need_amounts : Stmt := top 29
theorem sc_need_amounts : FnScope ["web", "thing"] ["web", "thing"] (defScope s_need_amounts) := ⟨rfl, rfl, rfl, by decide +kernel, rfl, by decide +kernel, by decide +kernel⟩
def b_need_amounts : G.Env → Out := (mIf (mNot (mB (mCallN 2 m_are_amounts.fn (mCons (mVar 0) (mCons (mVar 1) mNil))))) (mRaise "NoForfeits") mNext)
def m_need_amounts : DefM := ⟨2, 0, b_need_amounts⟩
theorem k_need_amounts {P : Program} {w : World} {K : PySem.W.Frag} {mg : Str → Option Value} {base : Heap} {f : Addr} {fd : FuncData} (F : FnP K "need_amounts" s_need_amounts f fd) (g : mg "need_amounts" = some (.ref f)) {f_are_amounts : Addr} {fd_are_amounts : FuncData} (h_are_amounts : Fd P w K mg base 3 "are_amounts" ["web", "thing"] f_are_amounts fd_are_amounts m_are_amounts.fn) {a_NoForfeits : Addr} (e_NoForfeits : ErrC K mg "NoForfeits" a_NoForfeits) : Fd P w K mg base 4 "need_amounts" ["web", "thing"] f fd m_need_amounts.fn := by
  refine fd_of (k := 3) (N := ["web", "thing"]) (m := m_need_amounts) F sc_need_amounts g (F.bindsN fun _ _ _ _ _ _ us hl => match us, hl with | [_, _], _ => rfl) rfl rfl fun cdv A outer s H E hr tk => ?_
  have nd := sc_need_amounts.nd
  have hu := hu65 hr
  show ∃ t o', MSs _ _ _ _ _ _ o' t b_need_amounts
  unfold b_need_amounts
  exact ⟨_, [], (mss_one (ms_if (mt_not (mt_val (me_call tk h_are_amounts (hr.mono (by decide)) (ma_cons (me_var 0) (ma_cons (me_var 1) ma_nil))))) (mss_one (ms_raise e_NoForfeits rfl tk)) mss_nil))⟩
abbrev s_forfeit_owed : Stmt := top 44
theorem sc_forfeit_owed : FnScope ["web", "leader", "amounts", "number"] ["web", "leader", "amounts"] (defScope s_forfeit_owed) := ⟨rfl, rfl, rfl, by decide +kernel, rfl, by decide +kernel, by decide +kernel⟩
def b_forfeit_owed : G.Env → Out := (mSeq (mDrop (mCallN 1 m_need_web.fn (mCons (mVar 0) mNil))) (mSeq (mDrop (mCallN 2 m_need_person.fn (mCons (mVar 0) (mCons (mVar 1) mNil)))) (mSeq (mDrop (mCallN 2 m_need_amounts.fn (mCons (mVar 0) (mCons (mVar 2) mNil)))) (mRet (mCall (d1 D.sum) (mCons (mLc [3] (mSq D.seq (mCallN 2 m_got_by.fn (mCons (mVar 0) (mCons (mVar 1) mNil)))) (gnName 3) mYes (m2 D.ix (mVar 2) (mVar 3))) mNil))))))
def m_forfeit_owed : DefM := ⟨3, 1, b_forfeit_owed⟩
theorem k_forfeit_owed {P : Program} {w : World} {K : PySem.W.Frag} {mg : Str → Option Value} {base : Heap} {f : Addr} {fd : FuncData} (F : FnP K "forfeit_owed" s_forfeit_owed f fd) (g : mg "forfeit_owed" = some (.ref f)) {f_need_web : Addr} {fd_need_web : FuncData} (h_need_web : Fd P w K mg base 5 "need_web" ["thing"] f_need_web fd_need_web m_need_web.fn) {f_need_person : Addr} {fd_need_person : FuncData} (h_need_person : Fd P w K mg base 3 "need_person" ["web", "thing"] f_need_person fd_need_person m_need_person.fn) {f_need_amounts : Addr} {fd_need_amounts : FuncData} (h_need_amounts : Fd P w K mg base 4 "need_amounts" ["web", "thing"] f_need_amounts fd_need_amounts m_need_amounts.fn) {f_got_by : Addr} {fd_got_by : FuncData} (h_got_by : Fd P w K mg base 1 "got_by" ["web", "person"] f_got_by fd_got_by m_got_by.fn) (n_sum : mg "sum" = none) : Fd P w K mg base 6 "forfeit_owed" ["web", "leader", "amounts"] f fd m_forfeit_owed.fn := by
  refine fd_of (k := 5) (N := ["web", "leader", "amounts", "number"]) (m := m_forfeit_owed) F sc_forfeit_owed g (F.bindsN fun _ _ _ _ _ _ us hl => match us, hl with | [_, _, _], _ => rfl) rfl rfl fun cdv A outer s H E hr tk => ?_
  have nd := sc_forfeit_owed.nd
  have hu := hu65 hr
  show ∃ t o', MSs _ _ _ _ _ _ o' t b_forfeit_owed
  unfold b_forfeit_owed
  exact ⟨_, [], (mss_cons (ms_expr (me_call tk h_need_web (hr.mono (by decide)) (ma_cons (me_var 0) ma_nil))) (mss_cons (ms_expr (me_call tk h_need_person (hr.mono (by decide)) (ma_cons (me_var 0) (ma_cons (me_var 1) ma_nil)))) (mss_cons (ms_expr (me_call tk h_need_amounts (hr.mono (by decide)) (ma_cons (me_var 0) (ma_cons (me_var 2) ma_nil)))) (mss_one (ms_ret (me_cb pu_sum (cr_sum rfl) n_sum b_sum (ma_cons (me_o (mo_lc s H [("number", 3)] rfl nd (mi_seq (me_call tk h_got_by (hr.mono (by decide)) (ma_cons (me_var 0) (ma_cons (me_var 1) ma_nil)))) (by first | (show blkC ["web", "leader", "amounts", "number"] (defScope s_forfeit_owed) _ _ = true; decide +kernel) | kernel_rfl) (fun _ _ _ _ _ => (mg_name 3 nd)) (fun _ _ _ _ _ => mts_nil) (fun _ _ _ _ _ => (me_ix (me_var 2) (me_var 3))) gw1)) ma_nil)))))))⟩
abbrev s__law_amounts : Stmt := top 55
theorem sc__law_amounts : FnScope ["cell", "more", "web", "leader", "base", "digits", "first", "amounts", "k", "here"] ["cell", "more", "web", "leader", "base"] (defScope s__law_amounts) := ⟨rfl, rfl, rfl, by decide +kernel, rfl, by decide +kernel, by decide +kernel⟩
def b__law_amounts : G.Env → Out := (mSeq (mSet 5 (mCallN 3 m__law_row.fn (mCons (mVar 0) (mCons (mC (.int 20)) (mCons (mC (.int 60)) mNil))))) (mSeq (mSet 6 (mCallN 2 m__law_steps.fn (mCons (mVar 2) (mCons (mVar 3) mNil)))) (mSeq (mSet 7 (mLc [8] (mSq dRange1 (mCall (d1 D.len) (mCons (m2 D.ix (mVar 2) (mC (.int 1))) mNil))) (gnName 8) mYes (m2 D.ix (mVar 5) (mVar 8)))) (mSeq (mIf (mAnd (mB (m2 D.lt (m2 D.ix (mVar 5) (mC (.int 12))) (mC (.int 40)))) (mB (m2 D.eq (mCall (d1 D.len) (mCons (mVar 6) mNil)) (m2 D.ix (mVar 2) (mC (.int 0)))))) (mSeq (mSet 7 (mScalL (mLc [8] (mSq D.seq (mVar 7)) (gnName 8) mYes (mVar 4)))) (mSeq (mFor (mSq dRange1 (mCall (d1 D.len) (mCons (m2 D.ix (mVar 2) (mC (.int 1))) mNil))) (gnName 8) (mSeq (mSet 9 (m2 D.ix (m2 D.ix (m2 D.ix (mVar 2) (mC (.int 1))) (mVar 8)) (mC (.int 1)))) (mWhile (mB (m2 D.isnt (m2 D.dgetE (mVar 6) (mVar 9)) (mC .non))) (mSeq (mLPut 7 (m2 D.dgetE (mVar 6) (mVar 9)) (m2 D.add (mScal (m2 D.ix (mVar 7) (m2 D.dgetE (mVar 6) (mVar 9)))) (mVar 4))) (mSet 9 (m2 D.ix (m2 D.ix (m2 D.ix (mVar 2) (mC (.int 1))) (m2 D.dgetE (mVar 6) (mVar 9))) (mC (.int 1)))))))) (mSeq (mSet 7 (mScalL (mLc [8] (mSq dRange1 (mCall (d1 D.len) (mCons (mVar 7) mNil))) (gnName 8) mYes (m2 D.add (m2 D.ix (mVar 7) (mVar 8)) (m2 D.mul (m2 D.fdiv (m2 D.ix (mVar 5) (mVar 8)) (mC (.int 20))) (mCall (d1 D.toInt) (mCons (m2 D.lt (m2 D.ix (mVar 5) (mC (.int 13))) (mC (.int 20))) mNil))))))) (mIf (mB (m2 D.lt (m2 D.ix (mVar 5) (mC (.int 14))) (mC (.int 20)))) (mLPut 7 (m2 D.mod (m2 D.ix (mVar 5) (mC (.int 15))) (mScal (mCall (d1 D.len) (mCons (mVar 7) mNil)))) (mCall (d2 D.max2) (mCons (mC (.int 0)) (mCons (m2 D.sub (mScal (m2 D.ix (mVar 7) (m2 D.mod (m2 D.ix (mVar 5) (mC (.int 15))) (mCall (d1 D.len) (mCons (mVar 7) mNil))))) (mC (.int 1))) mNil)))) mNext)))) mNext) (mRet (mCall (d1 D.toTup) (mCons (mVar 7) mNil)))))))
def m__law_amounts : DefM := ⟨5, 5, b__law_amounts⟩
theorem k__law_amounts {P : Program} {w : World} {K : PySem.W.Frag} {mg : Str → Option Value} {base : Heap} {f : Addr} {fd : FuncData} (F : FnP K "_law_amounts" s__law_amounts f fd) (g : mg "_law_amounts" = some (.ref f)) {f__law_row : Addr} {fd__law_row : FuncData} (h__law_row : Fd P w K mg base 2 "_law_row" ["cell", "many", "top"] f__law_row fd__law_row m__law_row.fn) {f__law_steps : Addr} {fd__law_steps : FuncData} (h__law_steps : Fd P w K mg base 2 "_law_steps" ["web", "leader"] f__law_steps fd__law_steps m__law_steps.fn) (n_range : mg "range" = none) (n_len : mg "len" = none) (n_int : mg "int" = none) (n_max : mg "max" = none) (n_tuple : mg "tuple" = none) : Fd P w K mg base 3 "_law_amounts" ["cell", "more", "web", "leader", "base"] f fd m__law_amounts.fn := by
  refine fd_of (k := 2) (N := ["cell", "more", "web", "leader", "base", "digits", "first", "amounts", "k", "here"]) (m := m__law_amounts) F sc__law_amounts g (F.bindsN fun _ _ _ _ _ _ us hl => match us, hl with | [_, _, _, _, _], _ => rfl) rfl rfl fun cdv A outer s H E hr tk => ?_
  have nd := sc__law_amounts.nd
  have hu := hu65 hr
  show ∃ t o', MSs _ _ _ _ _ _ o' t b__law_amounts
  unfold b__law_amounts
  exact ⟨_, [], (mss_cons (ms_set 5 nd (me_call tk h__law_row (hr.mono (by decide)) (ma_cons (me_var 0) (ma_cons me_int (ma_cons me_int ma_nil))))) (mss_cons (ms_set 6 nd (me_call tk h__law_steps (hr.mono (by decide)) (ma_cons (me_var 2) (ma_cons (me_var 3) ma_nil)))) (mss_cons (ms_setO 7 nd (mo_lc s H [("k", 8)] rfl nd (mi_range1 n_range (me_cb pu_len call_lenAll n_len b_len (ma_cons (me_ix (me_var 2) me_int) ma_nil))) (by first | (show blkC ["cell", "more", "web", "leader", "base", "digits", "first", "amounts", "k", "here"] (defScope s__law_amounts) _ _ = true; decide +kernel) | kernel_rfl) (fun _ _ _ _ _ => (mg_name 8 nd)) (fun _ _ _ _ _ => mts_nil) (fun _ _ _ _ _ => (me_ix (me_var 5) (me_var 8))) gw1)) (mss_cons (ms_weak [7] (ms_if (mt_w (mw_and (mt_cmp c_lt (me_ix (me_var 5) me_int) me_int) (mw_and1 (mt_cmp (c_eq hu) (me_cb pu_len call_lenAll n_len b_len (ma_cons (me_var 6) ma_nil)) (me_ix (me_var 2) me_int))))) (mss_cons (ms_setO 7 nd (mo_bor 7 (mo_lc s H [("k", 8)] rfl nd (mi_seq (me_var 7)) (by first | (show blkC ["cell", "more", "web", "leader", "base", "digits", "first", "amounts", "k", "here"] (defScope s__law_amounts) _ _ = true; decide +kernel) | kernel_rfl) (fun _ _ _ _ _ => (mg_name 8 nd)) (fun _ _ _ _ _ => mts_nil) (fun _ _ _ _ _ => (me_var 4)) gw1))) (mss_cons (ms_for (passes_of rfl) rfl (mi_range1 n_range (me_cb pu_len call_lenAll n_len b_len (ma_cons (me_ix (me_var 2) me_int) ma_nil))) (mg_name 8 nd) (mss_cons (ms_set 9 nd (me_ix (me_ix (me_ix (me_var 2) me_int) (me_var 8)) me_int)) (mss_one (ms_while (passes_of rfl) (mt_cmp c_isnt (me_dget hu (me_var 6) (me_var 9)) me_non) (mss_cons (ms_lput 7 (me_add (me_bor 7 (me_ix (me_var 7) (me_dget hu (me_var 6) (me_var 9)))) (me_var 4)) (me_dget hu (me_var 6) (me_var 9))) (mss_one (ms_set 9 nd (me_ix (me_ix (me_ix (me_var 2) me_int) (me_dget hu (me_var 6) (me_var 9))) me_int)))))))) (mss_cons (ms_setO 7 nd (mo_bor 7 (mo_lc s H [("k", 8)] rfl nd (mi_range1 n_range (me_cb pu_len call_lenAll n_len b_len (ma_cons (me_var 7) ma_nil))) (by first | (show blkC ["cell", "more", "web", "leader", "base", "digits", "first", "amounts", "k", "here"] (defScope s__law_amounts) _ _ = true; decide +kernel) | kernel_rfl) (fun _ _ _ _ _ => (mg_name 8 nd)) (fun _ _ _ _ _ => mts_nil) (fun _ _ _ _ _ => (me_add (me_ix (me_var 7) (me_var 8)) (me_mul (me_fdiv (me_ix (me_var 5) (me_var 8)) me_int) (me_ct pu_int call_int1 n_int b_int (ma_cons (me_cmp c_lt (me_ix (me_var 5) me_int) me_int) ma_nil))))) gw1))) (mss_one (ms_if (mt_cmp c_lt (me_ix (me_var 5) me_int) me_int) (mss_one (ms_lput 7 (me_cb pu_max2 (call_max2 rfl) n_max b_max (ma_cons me_int (ma_cons (me_sub (me_bor 7 (me_ix (me_var 7) (me_mod (me_ix (me_var 5) me_int) (me_cb pu_len call_lenAll n_len b_len (ma_cons (me_var 7) ma_nil))))) me_int) ma_nil))) (me_mod (me_ix (me_var 5) me_int) (me_bor 7 (me_cb pu_len call_lenAll n_len b_len (ma_cons (me_var 7) ma_nil)))))) mss_nil))))) mss_nil)) (mss_one (ms_ret (me_ct pu_tuple call_tuple_of n_tuple b_tuple (ma_cons (me_var 7) ma_nil))))))))⟩
abbrev s_law : Stmt := top 59
theorem sc_law : FnScope ["script", "web", "many", "leader", "base", "told", "first", "lot", "amounts", "drawn", "owed", "more", "broken", "k", "way"] ["script"] (defScope s_law) := ⟨rfl, rfl, rfl, by decide +kernel, rfl, by decide +kernel, by decide +kernel⟩
def b_law : G.Env → Out := (mSeq (mSet 1 (mCallN 2 m__law_web.fn (mCons (mCallN 2 m__law_at.fn (mCons (mVar 0) (mCons (mC (.int 0)) mNil))) (mCons (mCallN 2 m__law_at.fn (mCons (mVar 0) (mCons (mC (.int 1)) mNil))) mNil)))) (mSeq (mSet 2 (mCall (d1 D.len) (mCons (m2 D.ix (mVar 1) (mC (.int 1))) mNil))) (mSeq (mSet 3 (m2 D.ix (mCallN 3 m__law_row.fn (mCons (mCallN 2 m__law_at.fn (mCons (mVar 0) (mCons (mC (.int 2)) mNil))) (mCons (mC (.int 1)) (mCons (m2 D.ix (mVar 1) (mC (.int 0))) mNil)))) (mC (.int 0)))) (mSeq (mSet 4 (m2 D.add (mC (.int 1)) (m2 D.ix (mCallN 3 m__law_row.fn (mCons (mCallN 2 m__law_at.fn (mCons (mVar 0) (mCons (mC (.int 2)) mNil))) (mCons (mC (.int 2)) (mCons (mC (.int 9)) mNil)))) (mC (.int 1))))) (mSeq (mSet 5 (mCallN 3 m_forfeits.fn (mCons (mVar 1) (mCons (mVar 3) (mCons (mVar 4) mNil))))) (mSeq (mSet 6 (mCallN 2 m__law_steps.fn (mCons (mVar 1) (mCons (mVar 3) mNil)))) (mSeq (mIf (mOr (mNot (mB (mCall (d2 D.isi) (mCons (mVar 5) (mCons (mC (.ty "tuple")) mNil))))) (mB (m2 D.isnt (mCallN 4 m_is_forfeit_paper.fn (mCons (mVar 1) (mCons (mVar 3) (mCons (mVar 4) (mCons (mVar 5) mNil))))) (mC (.bl true))))) (mRet (mC (.bl false))) mNext) (mSeq (mIf (mB (m2 D.lt (mCall (d1 D.len) (mCons (mVar 6) mNil)) (m2 D.ix (mVar 1) (mC (.int 0))))) (mSeq (mSet 7 (mCall (d1 D.toTup) (mCons (mLc [13] (mSq dRange1 (m2 D.ix (mVar 1) (mC (.int 0)))) (gnName 13) (mB (m2 D.notIn (mVar 13) (mVar 6))) (mVar 13)) mNil))) (mSeq (mIf (mB (m2 D.isnt (mCallN 4 m_is_forfeit_paper.fn (mCons (mVar 1) (mCons (mVar 3) (mCons (mVar 4) (mCons (mTup (mCons (mC (.str "lot")) (mCons (mTup mNil) mNil))) mNil))))) (mC (.bl false)))) (mRet (mC (.bl false))) mNext) (mRet (mAndV (m2 D.eq (mVar 5) (mTup (mCons (mC (.str "lot")) (mCons (mVar 7) mNil)))) (m2 D.is (mCallN 4 m_is_forfeit_paper.fn (mCons (mVar 1) (mCons (mVar 3) (mCons (mVar 4) (mCons (mTup (mCons (mC (.str "lot")) (mCons (mRg1 dRgT (m2 D.ix (mVar 1) (mC (.int 0)))) mNil))) mNil))))) (mC (.bl false))))))) mNext) (mSeq (mIf (mOr (mB (m2 D.ne (m2 D.ix (mVar 5) (mC (.int 0))) (mC (.str "ways")))) (mOr (mB (m2 D.ne (mCall (d1 D.len) (mCons (mVar 5) mNil)) (mC (.int 3)))) (mOr (mB (m2 D.ne (mCall (d1 D.len) (mCons (m2 D.ix (mVar 5) (mC (.int 1))) mNil)) (mVar 2))) (mNot (mB (mCallN 3 m__law_good_ways.fn (mCons (mVar 1) (mCons (mVar 3) (mCons (m2 D.ix (mVar 5) (mC (.int 1))) mNil))))))))) (mRet (mC (.bl false))) mNext) (mSeq (mSet 8 (mCall (d1 D.toTup) (mCons (mLc [13] (mSq dRange1 (mVar 2)) (gnName 13) mYes (m2 D.mul (mVar 4) (mCall (d1 D.len) (mCons (mLc [14] (mSq D.seq (m2 D.ix (mVar 5) (mC (.int 1)))) (gnName 14) (mB (m2 D.isIn (mVar 13) (mVar 14))) (mVar 14)) mNil)))) mNil))) (mSeq (mIf (mOr (mB (m2 D.ne (m2 D.ix (mVar 5) (mC (.int 2))) (mVar 8))) (mB (m2 D.ne (mCallN 3 m_forfeit_amounts.fn (mCons (mVar 1) (mCons (mVar 4) (mCons (m2 D.ix (mVar 5) (mC (.int 1))) mNil)))) (mVar 8)))) (mRet (mC (.bl false))) mNext) (mSeq (mIf (mOr (mNot (mB (mCallN 4 m__law_right_amounts.fn (mCons (mVar 1) (mCons (mVar 3) (mCons (mVar 4) (mCons (mVar 8) mNil))))))) (mB (m2 D.isnt (mCallN 4 m_is_forfeits.fn (mCons (mVar 1) (mCons (mVar 3) (mCons (mVar 4) (mCons (mVar 8) mNil))))) (mC (.bl true))))) (mRet (mC (.bl false))) mNext) (mSeq (mIf (mB (m2 D.ne (mCallN 3 m_forfeit_owed.fn (mCons (mVar 1) (mCons (mVar 3) (mCons (mVar 8) mNil)))) (m2 D.mul (mVar 4) (mVar 2)))) (mRet (mC (.bl false))) mNext) (mSeq (mSet 9 (mCallN 5 m__law_amounts.fn (mCons (mCallN 2 m__law_at.fn (mCons (mVar 0) (mCons (mC (.int 3)) mNil))) (mCons (mCallN 2 m__law_at.fn (mCons (mVar 0) (mCons (mC (.int 4)) mNil))) (mCons (mVar 1) (mCons (mVar 3) (mCons (mVar 4) mNil))))))) (mSeq (mSet 10 (mCall (d1 D.sum) (mCons (mLc [13] (mSq D.seq (mCallN 2 m__law_gets.fn (mCons (mVar 1) (mCons (mVar 3) mNil)))) (gnName 13) mYes (m2 D.ix (mVar 9) (mVar 13))) mNil))) (mSeq (mIf (mB (m2 D.ne (mCallN 3 m_forfeit_owed.fn (mCons (mVar 1) (mCons (mVar 3) (mCons (mVar 9) mNil)))) (mVar 10))) (mRet (mC (.bl false))) mNext) (mSeq (mIf (mAnd (mB (mCallN 4 m__law_right_amounts.fn (mCons (mVar 1) (mCons (mVar 3) (mCons (mVar 4) (mCons (mVar 9) mNil)))))) (mB (m2 D.lt (mVar 10) (m2 D.mul (mVar 4) (mVar 2))))) (mRet (mC (.bl false))) mNext) (mSeq (mSet 11 (m2 D.add (mTup (mCons (m2 D.add (m2 D.ix (mVar 8) (mC (.int 0))) (mC (.int 1))) mNil)) (mSl (mVar 8) (mPart (mC (.int 1))) mNoP))) (mSeq (mIf (mB (m2 D.isnt (mCallN 4 m_is_forfeit_paper.fn (mCons (mVar 1) (mCons (mVar 3) (mCons (mVar 4) (mCons (mTup (mCons (mC (.str "ways")) (mCons (m2 D.ix (mVar 5) (mC (.int 1))) (mCons (mVar 11) mNil)))) mNil))))) (mC (.bl false)))) (mRet (mC (.bl false))) mNext) (mSeq (mSet 12 (m2 D.add (mTup (mCons (m2 D.add (m2 D.ix (m2 D.ix (mVar 5) (mC (.int 1))) (mC (.int 0))) (mSl (m2 D.ix (m2 D.ix (mVar 5) (mC (.int 1))) (mC (.int 0))) (mPart (m1 D.neg (mC (.int 1)))) mNoP)) mNil)) (mSl (m2 D.ix (mVar 5) (mC (.int 1))) (mPart (mC (.int 1))) mNoP))) (mRet (m2 D.is (mCallN 4 m_is_forfeit_paper.fn (mCons (mVar 1) (mCons (mVar 3) (mCons (mVar 4) (mCons (mTup (mCons (mC (.str "ways")) (mCons (mVar 12) (mCons (mVar 8) mNil)))) mNil))))) (mC (.bl false))))))))))))))))))))))))
def m_law : DefM := ⟨1, 14, b_law⟩
theorem k_law {P : Program} {w : World} {K : PySem.W.Frag} {mg : Str → Option Value} {base : Heap} {f : Addr} {fd : FuncData} (F : FnP K "law" s_law f fd) (g : mg "law" = some (.ref f)) {f__law_web : Addr} {fd__law_web : FuncData} (h__law_web : Fd P w K mg base 3 "_law_web" ["cell", "more"] f__law_web fd__law_web m__law_web.fn) {f__law_at : Addr} {fd__law_at : FuncData} (h__law_at : Fd P w K mg base 1 "_law_at" ["script", "k"] f__law_at fd__law_at m__law_at.fn) {f__law_row : Addr} {fd__law_row : FuncData} (h__law_row : Fd P w K mg base 2 "_law_row" ["cell", "many", "top"] f__law_row fd__law_row m__law_row.fn) {f_forfeits : Addr} {fd_forfeits : FuncData} (h_forfeits : Fd P w K mg base 7 "forfeits" ["web", "leader", "base"] f_forfeits fd_forfeits m_forfeits.fn) {f__law_steps : Addr} {fd__law_steps : FuncData} (h__law_steps : Fd P w K mg base 2 "_law_steps" ["web", "leader"] f__law_steps fd__law_steps m__law_steps.fn) {f_is_forfeit_paper : Addr} {fd_is_forfeit_paper : FuncData} (h_is_forfeit_paper : Fd P w K mg base 7 "is_forfeit_paper" ["web", "leader", "base", "thing"] f_is_forfeit_paper fd_is_forfeit_paper m_is_forfeit_paper.fn) {f__law_good_ways : Addr} {fd__law_good_ways : FuncData} (h__law_good_ways : Fd P w K mg base 1 "_law_good_ways" ["web", "leader", "ways"] f__law_good_ways fd__law_good_ways m__law_good_ways.fn) {f_forfeit_amounts : Addr} {fd_forfeit_amounts : FuncData} (h_forfeit_amounts : Fd P w K mg base 6 "forfeit_amounts" ["web", "base", "ways"] f_forfeit_amounts fd_forfeit_amounts m_forfeit_amounts.fn) {f__law_right_amounts : Addr} {fd__law_right_amounts : FuncData} (h__law_right_amounts : Fd P w K mg base 4 "_law_right_amounts" ["web", "leader", "base", "amounts"] f__law_right_amounts fd__law_right_amounts m__law_right_amounts.fn) {f_is_forfeits : Addr} {fd_is_forfeits : FuncData} (h_is_forfeits : Fd P w K mg base 7 "is_forfeits" ["web", "leader", "base", "thing"] f_is_forfeits fd_is_forfeits m_is_forfeits.fn) {f_forfeit_owed : Addr} {fd_forfeit_owed : FuncData} (h_forfeit_owed : Fd P w K mg base 6 "forfeit_owed" ["web", "leader", "amounts"] f_forfeit_owed fd_forfeit_owed m_forfeit_owed.fn) {f__law_amounts : Addr} {fd__law_amounts : FuncData} (h__law_amounts : Fd P w K mg base 3 "_law_amounts" ["cell", "more", "web", "leader", "base"] f__law_amounts fd__law_amounts m__law_amounts.fn) {f__law_gets : Addr} {fd__law_gets : FuncData} (h__law_gets : Fd P w K mg base 1 "_law_gets" ["web", "person"] f__law_gets fd__law_gets m__law_gets.fn) (n_len : mg "len" = none) (n_isinstance : mg "isinstance" = none) (n_tuple : mg "tuple" = none) (n_range : mg "range" = none) (n_sum : mg "sum" = none) : Fd P w K mg base 8 "law" ["script"] f fd m_law.fn := by
  refine fd_of (k := 7) (N := ["script", "web", "many", "leader", "base", "told", "first", "lot", "amounts", "drawn", "owed", "more", "broken", "k", "way"]) (m := m_law) F sc_law g (F.bindsN fun _ _ _ _ _ _ us hl => match us, hl with | [_], _ => rfl) rfl rfl fun cdv A outer s H E hr tk => ?_
  have nd := sc_law.nd
  have hu := hu65 hr
  show ∃ t o', MSs _ _ _ _ _ _ o' t b_law
  unfold b_law
  exact ⟨_, [], (mss_cons (ms_set 1 nd (me_call tk h__law_web (hr.mono (by decide)) (ma_cons (me_call tk h__law_at (hr.mono (by decide)) (ma_cons (me_var 0) (ma_cons me_int ma_nil))) (ma_cons (me_call tk h__law_at (hr.mono (by decide)) (ma_cons (me_var 0) (ma_cons me_int ma_nil))) ma_nil)))) (mss_cons (ms_set 2 nd (me_cb pu_len call_lenAll n_len b_len (ma_cons (me_ix (me_var 1) me_int) ma_nil))) (mss_cons (ms_set 3 nd (me_ix (me_call tk h__law_row (hr.mono (by decide)) (ma_cons (me_call tk h__law_at (hr.mono (by decide)) (ma_cons (me_var 0) (ma_cons me_int ma_nil))) (ma_cons me_int (ma_cons (me_ix (me_var 1) me_int) ma_nil)))) me_int)) (mss_cons (ms_set 4 nd (me_add me_int (me_ix (me_call tk h__law_row (hr.mono (by decide)) (ma_cons (me_call tk h__law_at (hr.mono (by decide)) (ma_cons (me_var 0) (ma_cons me_int ma_nil))) (ma_cons me_int (ma_cons me_int ma_nil)))) me_int))) (mss_cons (ms_set 5 nd (me_call tk h_forfeits (hr.mono (by decide)) (ma_cons (me_var 1) (ma_cons (me_var 3) (ma_cons (me_var 4) ma_nil))))) (mss_cons (ms_set 6 nd (me_call tk h__law_steps (hr.mono (by decide)) (ma_cons (me_var 1) (ma_cons (me_var 3) ma_nil)))) (mss_cons (ms_if (mt_w (mw_or (mt_not (mt_val (me_cb pu_isi call_isi n_isinstance b_isi (ma_cons (me_var 5) (ma_cons (me_ty n_tuple b_tuple) ma_nil))))) (mw_or1 (mt_cmp c_isnt (me_call tk h_is_forfeit_paper (hr.mono (by decide)) (ma_cons (me_var 1) (ma_cons (me_var 3) (ma_cons (me_var 4) (ma_cons (me_var 5) ma_nil))))) me_bl)))) (mss_one (ms_ret me_bl)) mss_nil) (mss_cons (ms_if (mt_cmp c_lt (me_cb pu_len call_lenAll n_len b_len (ma_cons (me_var 6) ma_nil)) (me_ix (me_var 1) me_int)) (mss_cons (ms_set 7 nd (me_ct pu_tuple call_tuple_of n_tuple b_tuple (ma_cons (me_o (mo_lc s H [("k", 13)] rfl nd (mi_range1 n_range (me_ix (me_var 1) me_int)) (by first | (show blkC ["script", "web", "many", "leader", "base", "told", "first", "lot", "amounts", "drawn", "owed", "more", "broken", "k", "way"] (defScope s_law) _ _ = true; decide +kernel) | kernel_rfl) (fun _ _ _ _ _ => (mg_name 13 nd)) (fun _ _ _ _ _ => (mts_one (mt_cmp (c_notIn hu) (me_var 13) (me_var 6)))) (fun _ _ _ _ _ => (me_var 13)) gw1)) ma_nil))) (mss_cons (ms_if (mt_cmp c_isnt (me_call tk h_is_forfeit_paper (hr.mono (by decide)) (ma_cons (me_var 1) (ma_cons (me_var 3) (ma_cons (me_var 4) (ma_cons (me_tup (ma_cons me_str (ma_cons (me_tup ma_nil) ma_nil))) ma_nil))))) me_bl) (mss_one (ms_ret me_bl)) mss_nil) (mss_one (ms_ret (me_and (me_cmp (c_eq hu) (me_var 5) (me_tup (ma_cons me_str (ma_cons (me_var 7) ma_nil)))) (me_one (me_cmp c_is (me_call tk h_is_forfeit_paper (hr.mono (by decide)) (ma_cons (me_var 1) (ma_cons (me_var 3) (ma_cons (me_var 4) (ma_cons (me_tup (ma_cons me_str (ma_cons (me_tupRg1 n_range n_tuple rfl (me_ix (me_var 1) me_int)) ma_nil))) ma_nil))))) me_bl))))))) mss_nil) (mss_cons (ms_if (mt_w (mw_or (mt_cmp (c_ne hu) (me_ix (me_var 5) me_int) me_str) (mw_or (mt_cmp (c_ne hu) (me_cb pu_len call_lenAll n_len b_len (ma_cons (me_var 5) ma_nil)) me_int) (mw_or (mt_cmp (c_ne hu) (me_cb pu_len call_lenAll n_len b_len (ma_cons (me_ix (me_var 5) me_int) ma_nil)) (me_var 2)) (mw_or1 (mt_not (mt_val (me_call tk h__law_good_ways (hr.mono (by decide)) (ma_cons (me_var 1) (ma_cons (me_var 3) (ma_cons (me_ix (me_var 5) me_int) ma_nil))))))))))) (mss_one (ms_ret me_bl)) mss_nil) (mss_cons (ms_set 8 nd (me_ct pu_tuple call_tuple_of n_tuple b_tuple (ma_cons (me_o (mo_lc s H [("k", 13)] rfl nd (mi_range1 n_range (me_var 2)) (by first | (show blkC ["script", "web", "many", "leader", "base", "told", "first", "lot", "amounts", "drawn", "owed", "more", "broken", "k", "way"] (defScope s_law) _ _ = true; decide +kernel) | kernel_rfl) (fun _ _ _ _ _ => (mg_name 13 nd)) (fun _ _ _ _ _ => mts_nil) (fun _ _ _ _ _ => (me_mul (me_var 4) (me_cb pu_len call_lenAll n_len b_len (ma_cons (me_o (mo_lc s H [("way", 14)] rfl nd (mi_seq (me_ix (me_var 5) me_int)) (by first | (show blkC ["script", "web", "many", "leader", "base", "told", "first", "lot", "amounts", "drawn", "owed", "more", "broken", "k", "way"] (defScope s_law) _ _ = true; decide +kernel) | kernel_rfl) (fun _ _ _ _ _ => (mg_name 14 nd)) (fun _ _ _ _ _ => (mts_one (mt_cmp (c_in hu) (me_var 13) (me_var 14)))) (fun _ _ _ _ _ => (me_var 14)) gw1)) ma_nil)))) gw1)) ma_nil))) (mss_cons (ms_if (mt_w (mw_or (mt_cmp (c_ne hu) (me_ix (me_var 5) me_int) (me_var 8)) (mw_or1 (mt_cmp (c_ne hu) (me_call tk h_forfeit_amounts (hr.mono (by decide)) (ma_cons (me_var 1) (ma_cons (me_var 4) (ma_cons (me_ix (me_var 5) me_int) ma_nil)))) (me_var 8))))) (mss_one (ms_ret me_bl)) mss_nil) (mss_cons (ms_if (mt_w (mw_or (mt_not (mt_val (me_call tk h__law_right_amounts (hr.mono (by decide)) (ma_cons (me_var 1) (ma_cons (me_var 3) (ma_cons (me_var 4) (ma_cons (me_var 8) ma_nil))))))) (mw_or1 (mt_cmp c_isnt (me_call tk h_is_forfeits (hr.mono (by decide)) (ma_cons (me_var 1) (ma_cons (me_var 3) (ma_cons (me_var 4) (ma_cons (me_var 8) ma_nil))))) me_bl)))) (mss_one (ms_ret me_bl)) mss_nil) (mss_cons (ms_if (mt_cmp (c_ne hu) (me_call tk h_forfeit_owed (hr.mono (by decide)) (ma_cons (me_var 1) (ma_cons (me_var 3) (ma_cons (me_var 8) ma_nil)))) (me_mul (me_var 4) (me_var 2))) (mss_one (ms_ret me_bl)) mss_nil) (mss_cons (ms_set 9 nd (me_call tk h__law_amounts (hr.mono (by decide)) (ma_cons (me_call tk h__law_at (hr.mono (by decide)) (ma_cons (me_var 0) (ma_cons me_int ma_nil))) (ma_cons (me_call tk h__law_at (hr.mono (by decide)) (ma_cons (me_var 0) (ma_cons me_int ma_nil))) (ma_cons (me_var 1) (ma_cons (me_var 3) (ma_cons (me_var 4) ma_nil))))))) (mss_cons (ms_set 10 nd (me_cb pu_sum (cr_sum rfl) n_sum b_sum (ma_cons (me_o (mo_lc s H [("k", 13)] rfl nd (mi_seq (me_call tk h__law_gets (hr.mono (by decide)) (ma_cons (me_var 1) (ma_cons (me_var 3) ma_nil)))) (by first | (show blkC ["script", "web", "many", "leader", "base", "told", "first", "lot", "amounts", "drawn", "owed", "more", "broken", "k", "way"] (defScope s_law) _ _ = true; decide +kernel) | kernel_rfl) (fun _ _ _ _ _ => (mg_name 13 nd)) (fun _ _ _ _ _ => mts_nil) (fun _ _ _ _ _ => (me_ix (me_var 9) (me_var 13))) gw1)) ma_nil))) (mss_cons (ms_if (mt_cmp (c_ne hu) (me_call tk h_forfeit_owed (hr.mono (by decide)) (ma_cons (me_var 1) (ma_cons (me_var 3) (ma_cons (me_var 9) ma_nil)))) (me_var 10)) (mss_one (ms_ret me_bl)) mss_nil) (mss_cons (ms_if (mt_w (mw_and (mt_val (me_call tk h__law_right_amounts (hr.mono (by decide)) (ma_cons (me_var 1) (ma_cons (me_var 3) (ma_cons (me_var 4) (ma_cons (me_var 9) ma_nil)))))) (mw_and1 (mt_cmp c_lt (me_var 10) (me_mul (me_var 4) (me_var 2)))))) (mss_one (ms_ret me_bl)) mss_nil) (mss_cons (ms_set 11 nd (me_add (me_tup (ma_cons (me_add (me_ix (me_var 8) me_int) me_int) ma_nil)) (me_slice (me_var 8) (mp_some me_int) mp_no))) (mss_cons (ms_if (mt_cmp c_isnt (me_call tk h_is_forfeit_paper (hr.mono (by decide)) (ma_cons (me_var 1) (ma_cons (me_var 3) (ma_cons (me_var 4) (ma_cons (me_tup (ma_cons me_str (ma_cons (me_ix (me_var 5) me_int) (ma_cons (me_var 11) ma_nil)))) ma_nil))))) me_bl) (mss_one (ms_ret me_bl)) mss_nil) (mss_cons (ms_set 12 nd (me_add (me_tup (ma_cons (me_add (me_ix (me_ix (me_var 5) me_int) me_int) (me_slice (me_ix (me_ix (me_var 5) me_int) me_int) (mp_some (me_neg me_int)) mp_no)) ma_nil)) (me_slice (me_ix (me_var 5) me_int) (mp_some me_int) mp_no))) (mss_one (ms_ret (me_cmp c_is (me_call tk h_is_forfeit_paper (hr.mono (by decide)) (ma_cons (me_var 1) (ma_cons (me_var 3) (ma_cons (me_var 4) (ma_cons (me_tup (ma_cons me_str (ma_cons (me_var 12) (ma_cons (me_var 8) ma_nil)))) ma_nil))))) me_bl)))))))))))))))))))))))⟩
end L
namespace L
open PySem L2 G
theorem f_int (i : Int) : m_is_integer.fn [.int i] = .ok (.bl true) := rfl
theorem f_between (i a b : Int) : m_is_between.fn [.int i, .int a, .int b] = .ok (.bl (decide (a ≤ i) && decide (i ≤ b))) := by
  rw [fn_run rfl]
  simp only [mSeq, mSet, mRet, mRetN, mNext, mDrop, mIf, mVar, mC, m1, m2, mCons, mNil, mCall, mCallN, mCall0, mB, mAnd, mOr, mNot, mAndV, mOrV, mNotV, mIte, mChain, mTg, mPar, gnName, gnTup, gnCons, gnNil, d1, d2, D.toB, oBind_ok, Out.seq_nx, Out.seq_rt, R.bind_ok, R.val, Out.res, List.length_cons, List.length_nil, List.map_cons, List.map_nil, List.replicate_succ, List.replicate_zero, List.cons_append, List.nil_append, List.getElem?_cons_zero, List.getElem?_cons_succ, List.set_cons_zero, List.set_cons_succ, Nat.reduceAdd, if_true, cond_true, cond_false, D.add, D.sub, dI0, D.toInt, Bool.not_true, Bool.not_false, id_eq, m_is_between, b_is_between, f_int, dle]
  cases h : decide (a ≤ i) <;> simp only [mSeq, mSet, mRet, mRetN, mNext, mDrop, mIf, mVar, mC, m1, m2, mCons, mNil, mCall, mCallN, mCall0, mB, mAnd, mOr, mNot, mAndV, mOrV, mNotV, mIte, mChain, mTg, mPar, gnName, gnTup, gnCons, gnNil, d1, d2, D.toB, oBind_ok, Out.seq_nx, Out.seq_rt, R.bind_ok, R.val, Out.res, List.length_cons, List.length_nil, List.map_cons, List.map_nil, List.replicate_succ, List.replicate_zero, List.cons_append, List.nil_append, List.getElem?_cons_zero, List.getElem?_cons_succ, List.set_cons_zero, List.set_cons_succ, Nat.reduceAdd, if_true, cond_true, cond_false, D.add, D.sub, dI0, D.toInt, Bool.not_true, Bool.not_false, id_eq, Bool.true_and, Bool.false_and]
theorem f_under (i n : Int) : m_is_under.fn [.int i, .int n] = .ok (.bl (decide (0 ≤ i) && decide (i < n))) := by
  rw [fn_run rfl]
  simp only [mSeq, mSet, mRet, mRetN, mNext, mDrop, mIf, mVar, mC, m1, m2, mCons, mNil, mCall, mCallN, mCall0, mB, mAnd, mOr, mNot, mAndV, mOrV, mNotV, mIte, mChain, mTg, mPar, gnName, gnTup, gnCons, gnNil, d1, d2, D.toB, oBind_ok, Out.seq_nx, Out.seq_rt, R.bind_ok, R.val, Out.res, List.length_cons, List.length_nil, List.map_cons, List.map_nil, List.replicate_succ, List.replicate_zero, List.cons_append, List.nil_append, List.getElem?_cons_zero, List.getElem?_cons_succ, List.set_cons_zero, List.set_cons_succ, Nat.reduceAdd, if_true, cond_true, cond_false, D.add, D.sub, dI0, D.toInt, Bool.not_true, Bool.not_false, id_eq, m_is_under, b_is_under, f_int, dle, dlt]
  cases h : decide (0 ≤ i) <;> simp only [mSeq, mSet, mRet, mRetN, mNext, mDrop, mIf, mVar, mC, m1, m2, mCons, mNil, mCall, mCallN, mCall0, mB, mAnd, mOr, mNot, mAndV, mOrV, mNotV, mIte, mChain, mTg, mPar, gnName, gnTup, gnCons, gnNil, d1, d2, D.toB, oBind_ok, Out.seq_nx, Out.seq_rt, R.bind_ok, R.val, Out.res, List.length_cons, List.length_nil, List.map_cons, List.map_nil, List.replicate_succ, List.replicate_zero, List.cons_append, List.nil_append, List.getElem?_cons_zero, List.getElem?_cons_succ, List.set_cons_zero, List.set_cons_succ, Nat.reduceAdd, if_true, cond_true, cond_false, D.add, D.sub, dI0, D.toInt, Bool.not_true, Bool.not_false, id_eq, Bool.true_and, Bool.false_and]
theorem f_tupleOf (ds : List D) (n : Int) : m_is_tuple_of.fn [.tup ds, .int n] = .ok (.bl (decide ((ds.length : Int) = n))) := by
  have h : D.isi (.tup ds) (.ty "tuple") = .ok (.bl true) := rfl
  rw [fn_run rfl]
  simp only [mSeq, mSet, mRet, mRetN, mNext, mDrop, mIf, mVar, mC, m1, m2, mCons, mNil, mCall, mCallN, mCall0, mB, mAnd, mOr, mNot, mAndV, mOrV, mNotV, mIte, mChain, mTg, mPar, gnName, gnTup, gnCons, gnNil, d1, d2, D.toB, oBind_ok, Out.seq_nx, Out.seq_rt, R.bind_ok, R.val, Out.res, List.length_cons, List.length_nil, List.map_cons, List.map_nil, List.replicate_succ, List.replicate_zero, List.cons_append, List.nil_append, List.getElem?_cons_zero, List.getElem?_cons_succ, List.set_cons_zero, List.set_cons_succ, Nat.reduceAdd, if_true, cond_true, cond_false, D.add, D.sub, dI0, D.toInt, Bool.not_true, Bool.not_false, id_eq, m_is_tuple_of, b_is_tuple_of, h, len_tup, deq]
/-- a lot as data -/
abbrev lotD (l : List Nat) : D := .tup (l.map nI)
theorem f_areUnder (l : List Nat) (n : Nat) (hl : l.length ≤ 1000) : m_are_under.fn [lotD l, .int n] = .ok (.bl (l.all fun x => decide (x < n))) := by
  have h : D.isi (.tup (l.map nI)) (.ty "tuple") = .ok (.bl true) := rfl
  rw [fn_run rfl]
  simp only [mSeq, mSet, mRet, mRetN, mNext, mDrop, mIf, mVar, mC, m1, m2, mCons, mNil, mCall, mCallN, mCall0, mB, mAnd, mOr, mNot, mAndV, mOrV, mNotV, mIte, mChain, mTg, mPar, gnName, gnTup, gnCons, gnNil, d1, d2, D.toB, oBind_ok, Out.seq_nx, Out.seq_rt, R.bind_ok, R.val, Out.res, List.length_cons, List.length_nil, List.map_cons, List.map_nil, List.replicate_succ, List.replicate_zero, List.cons_append, List.nil_append, List.getElem?_cons_zero, List.getElem?_cons_succ, List.set_cons_zero, List.set_cons_succ, Nat.reduceAdd, if_true, cond_true, cond_false, D.add, D.sub, dI0, D.toInt, Bool.not_true, Bool.not_false, id_eq, m_are_under, b_are_under, h]
  rw [mLc_map (emb := nI) (l := l) (r := fun a => [some (.tup (l.map nI)), some (.int n), some (nI a)]) (f := fun a => .bl (decide (a < n))) rfl (by omega) fun a _ => ⟨rfl, ?_⟩]
  · simp only [mSeq, mSet, mRet, mRetN, mNext, mDrop, mIf, mVar, mC, m1, m2, mCons, mNil, mCall, mCallN, mCall0, mB, mAnd, mOr, mNot, mAndV, mOrV, mNotV, mIte, mChain, mTg, mPar, gnName, gnTup, gnCons, gnNil, d1, d2, D.toB, oBind_ok, Out.seq_nx, Out.seq_rt, R.bind_ok, R.val, Out.res, List.length_cons, List.length_nil, List.map_cons, List.map_nil, List.replicate_succ, List.replicate_zero, List.cons_append, List.nil_append, List.getElem?_cons_zero, List.getElem?_cons_succ, List.set_cons_zero, List.set_cons_succ, Nat.reduceAdd, if_true, cond_true, cond_false, D.add, D.sub, dI0, D.toInt, Bool.not_true, Bool.not_false, id_eq, all_ok]
  · simp only [mSeq, mSet, mRet, mRetN, mNext, mDrop, mIf, mVar, mC, m1, m2, mCons, mNil, mCall, mCallN, mCall0, mB, mAnd, mOr, mNot, mAndV, mOrV, mNotV, mIte, mChain, mTg, mPar, gnName, gnTup, gnCons, gnNil, d1, d2, D.toB, oBind_ok, Out.seq_nx, Out.seq_rt, R.bind_ok, R.val, Out.res, List.length_cons, List.length_nil, List.map_cons, List.map_nil, List.replicate_succ, List.replicate_zero, List.cons_append, List.nil_append, List.getElem?_cons_zero, List.getElem?_cons_succ, List.set_cons_zero, List.set_cons_succ, Nat.reduceAdd, if_true, cond_true, cond_false, D.add, D.sub, dI0, D.toInt, Bool.not_true, Bool.not_false, id_eq, f_under]
    have e1 : decide (0 ≤ (a : Int)) = true := decide_eq_true (by omega)
    have e2 : decide ((a : Int) < (n : Int)) = decide (a < n) := bool_ext (by rw [decide_eq_true_iff, decide_eq_true_iff]; omega)
    rw [e1, e2]
    rfl
def Lot (n : Nat) (l : List Nat) : Prop := (∀ x ∈ l, x < n) ∧ l.Pairwise (· < ·)
theorem f_isLot {n : Nat} {l : List Nat} (h : Lot n l) (hl : l.length ≤ 1000) : m_is_lot.fn [lotD l, .int n] = .ok (.bl true) := by
  have e : (l.all fun x => decide (x < n)) = true := by
    rw [List.all_eq_true]
    exact fun x hx => decide_eq_true (h.1 x hx)
  rw [fn_run rfl]
  simp only [mSeq, mSet, mRet, mRetN, mNext, mDrop, mIf, mVar, mC, m1, m2, mCons, mNil, mCall, mCallN, mCall0, mB, mAnd, mOr, mNot, mAndV, mOrV, mNotV, mIte, mChain, mTg, mPar, gnName, gnTup, gnCons, gnNil, d1, d2, D.toB, oBind_ok, Out.seq_nx, Out.seq_rt, R.bind_ok, R.val, Out.res, List.length_cons, List.length_nil, List.map_cons, List.map_nil, List.replicate_succ, List.replicate_zero, List.cons_append, List.nil_append, List.getElem?_cons_zero, List.getElem?_cons_succ, List.set_cons_zero, List.set_cons_succ, Nat.reduceAdd, if_true, cond_true, cond_false, D.add, D.sub, dI0, D.toInt, Bool.not_true, Bool.not_false, id_eq, m_is_lot, b_is_lot, f_areUnder l n hl, e]
  rw [mLc_map (emb := fun i => nI (1 + i)) (l := List.range (l.length - 1)) (r := fun i => [some (lotD l), some (.int n), some (nI (1 + i))]) (f := fun i => .bl true) ?hi (by rw [List.length_range]; omega) fun i hi => ⟨rfl, ?hm⟩]
  case hi =>
    simp only [mSeq, mSet, mRet, mRetN, mNext, mDrop, mIf, mVar, mC, m1, m2, mCons, mNil, mCall, mCallN, mCall0, mB, mAnd, mOr, mNot, mAndV, mOrV, mNotV, mIte, mChain, mTg, mPar, gnName, gnTup, gnCons, gnNil, d1, d2, D.toB, oBind_ok, Out.seq_nx, Out.seq_rt, R.bind_ok, R.val, Out.res, List.length_cons, List.length_nil, List.map_cons, List.map_nil, List.replicate_succ, List.replicate_zero, List.cons_append, List.nil_append, List.getElem?_cons_zero, List.getElem?_cons_succ, List.set_cons_zero, List.set_cons_succ, Nat.reduceAdd, if_true, cond_true, cond_false, D.add, D.sub, dI0, D.toInt, Bool.not_true, Bool.not_false, id_eq, mRange2, len_tup, List.length_map]
    exact range2_nat (a := 1) (by omega) (by omega)
  case hm =>
    have hi := List.mem_range.mp hi
    have h1 : D.ix (lotD l) (.int (((1 + i : Nat) : Int) - 1)) = .ok (nI (l[i]'(by omega))) := ix_tup (by
      rw [atI_nat (n := i) (by omega) (by rw [List.length_map]; omega), List.getElem_map])
    have h2 : D.ix (lotD l) (nI (1 + i)) = .ok (nI (l[1 + i]'(by omega))) := ix_tup (by
      rw [atI_nat (n := 1 + i) rfl (by rw [List.length_map]; omega), List.getElem_map])
    simp only [mSeq, mSet, mRet, mRetN, mNext, mDrop, mIf, mVar, mC, m1, m2, mCons, mNil, mCall, mCallN, mCall0, mB, mAnd, mOr, mNot, mAndV, mOrV, mNotV, mIte, mChain, mTg, mPar, gnName, gnTup, gnCons, gnNil, d1, d2, D.toB, oBind_ok, Out.seq_nx, Out.seq_rt, R.bind_ok, R.val, Out.res, List.length_cons, List.length_nil, List.map_cons, List.map_nil, List.replicate_succ, List.replicate_zero, List.cons_append, List.nil_append, List.getElem?_cons_zero, List.getElem?_cons_succ, List.set_cons_zero, List.set_cons_succ, Nat.reduceAdd, if_true, cond_true, cond_false, D.add, D.sub, dI0, D.toInt, Bool.not_true, Bool.not_false, id_eq, h1, h2, dlt]
    have z := List.pairwise_iff_getElem.mp h.2 i (1 + i) (by omega) (by omega) (by omega)
    rw [decide_eq_true (by omega)]
  simp only [mSeq, mSet, mRet, mRetN, mNext, mDrop, mIf, mVar, mC, m1, m2, mCons, mNil, mCall, mCallN, mCall0, mB, mAnd, mOr, mNot, mAndV, mOrV, mNotV, mIte, mChain, mTg, mPar, gnName, gnTup, gnCons, gnNil, d1, d2, D.toB, oBind_ok, Out.seq_nx, Out.seq_rt, R.bind_ok, R.val, Out.res, List.length_cons, List.length_nil, List.map_cons, List.map_nil, List.replicate_succ, List.replicate_zero, List.cons_append, List.nil_append, List.getElem?_cons_zero, List.getElem?_cons_succ, List.set_cons_zero, List.set_cons_succ, Nat.reduceAdd, if_true, cond_true, cond_false, D.add, D.sub, dI0, D.toInt, Bool.not_true, Bool.not_false, id_eq]
  have z := all_ok (List.range (l.length - 1)) (fun _ => true)
  rw [z]
  simp only [mSeq, mSet, mRet, mRetN, mNext, mDrop, mIf, mVar, mC, m1, m2, mCons, mNil, mCall, mCallN, mCall0, mB, mAnd, mOr, mNot, mAndV, mOrV, mNotV, mIte, mChain, mTg, mPar, gnName, gnTup, gnCons, gnNil, d1, d2, D.toB, oBind_ok, Out.seq_nx, Out.seq_rt, R.bind_ok, R.val, Out.res, List.length_cons, List.length_nil, List.map_cons, List.map_nil, List.replicate_succ, List.replicate_zero, List.cons_append, List.nil_append, List.getElem?_cons_zero, List.getElem?_cons_succ, List.set_cons_zero, List.set_cons_succ, Nat.reduceAdd, if_true, cond_true, cond_false, D.add, D.sub, dI0, D.toInt, Bool.not_true, Bool.not_false, id_eq]
  have z2 : ((List.range (l.length - 1)).all fun _ => true) = true := List.all_eq_true.mpr fun _ _ => rfl
  rw [z2]
def mixed (c k : Int) : Int := ((c * 48271 + k * 69621 + 11) * 16807 + (c * 48271 + k * 69621 + 11).fdiv 8191).fmod 2147483647
theorem f_mixed (c k : Int) : m__law_mixed.fn [.int c, .int k] = .ok (.int (mixed c k)) := by
  rw [fn_run rfl]
  simp only [mSeq, mSet, mRet, mRetN, mNext, mDrop, mIf, mVar, mC, m1, m2, mCons, mNil, mCall, mCallN, mCall0, mB, mAnd, mOr, mNot, mAndV, mOrV, mNotV, mIte, mChain, mTg, mPar, gnName, gnTup, gnCons, gnNil, d1, d2, D.toB, oBind_ok, Out.seq_nx, Out.seq_rt, R.bind_ok, R.val, Out.res, List.length_cons, List.length_nil, List.map_cons, List.map_nil, List.replicate_succ, List.replicate_zero, List.cons_append, List.nil_append, List.getElem?_cons_zero, List.getElem?_cons_succ, List.set_cons_zero, List.set_cons_succ, Nat.reduceAdd, if_true, cond_true, cond_false, D.add, D.sub, dI0, D.toInt, Bool.not_true, Bool.not_false, id_eq, m__law_mixed, b__law_mixed]
  rw [mul_okR (by omega) (by omega), mul_okR (by omega) (by omega)]
  simp only [mSeq, mSet, mRet, mRetN, mNext, mDrop, mIf, mVar, mC, m1, m2, mCons, mNil, mCall, mCallN, mCall0, mB, mAnd, mOr, mNot, mAndV, mOrV, mNotV, mIte, mChain, mTg, mPar, gnName, gnTup, gnCons, gnNil, d1, d2, D.toB, oBind_ok, Out.seq_nx, Out.seq_rt, R.bind_ok, R.val, Out.res, List.length_cons, List.length_nil, List.map_cons, List.map_nil, List.replicate_succ, List.replicate_zero, List.cons_append, List.nil_append, List.getElem?_cons_zero, List.getElem?_cons_succ, List.set_cons_zero, List.set_cons_succ, Nat.reduceAdd, if_true, cond_true, cond_false, D.add, D.sub, dI0, D.toInt, Bool.not_true, Bool.not_false, id_eq]
  rw [mul_okR (by omega) (by omega), fdiv_ok (by omega) (by omega)]
  simp only [mSeq, mSet, mRet, mRetN, mNext, mDrop, mIf, mVar, mC, m1, m2, mCons, mNil, mCall, mCallN, mCall0, mB, mAnd, mOr, mNot, mAndV, mOrV, mNotV, mIte, mChain, mTg, mPar, gnName, gnTup, gnCons, gnNil, d1, d2, D.toB, oBind_ok, Out.seq_nx, Out.seq_rt, R.bind_ok, R.val, Out.res, List.length_cons, List.length_nil, List.map_cons, List.map_nil, List.replicate_succ, List.replicate_zero, List.cons_append, List.nil_append, List.getElem?_cons_zero, List.getElem?_cons_succ, List.set_cons_zero, List.set_cons_succ, Nat.reduceAdd, if_true, cond_true, cond_false, D.add, D.sub, dI0, D.toInt, Bool.not_true, Bool.not_false, id_eq]
  rw [mod_ok (by omega)]
  rfl
def rowB : G.Env → Out := (mIf (mB (mVar 5)) (mSeq (mMut "list" 3 dAppend (mCons (m2 D.mod (mCall (d1 D.toInt) (mCons (mVar 4) mNil)) (mVar 2)) mNil) kDrop) (mSet 4 (m2 D.fdiv (mVar 4) (mVar 2)))) (mMut "list" 3 dAppend (mCons (m2 D.mod (m2 D.fdiv (mCallN 2 m__law_mixed.fn (mCons (mVar 0) (mCons (mVar 6) mNil))) (mC (.int 7))) (mVar 2)) mNil) kDrop))
theorem f_row (c : Int) (many : Nat) (top : Int) (hm : many ≤ 1000) (h0 : 0 < top) (h1 : top < 1000000) : ∃ l : List Int, m__law_row.fn [.int c, .int many, .int top] = .ok (.lst (l.map D.int)) ∧ l.length = many ∧ ∀ x ∈ l, 0 ≤ x ∧ x < top := by
  have step : ∀ (ks : List Nat) (found : List Int) (left : Int) (g : Bool) (v : Option D), found.length + ks.length ≤ 2000 → ∃ (l : List Int) (left' : Int) (v' : Option D),
      loopD (stepD (gnName 6) rowB) (ks.map nI) [some (.int c), some (.int many), some (.int top), some (.lst (found.map D.int)), some (.int left), some (.bl g), v] = .nx [some (.int c), some (.int many), some (.int top), some (.lst ((found ++ l).map D.int)), some (.int left'), some (.bl g), v'] ∧ l.length = ks.length ∧ ∀ x ∈ l, 0 ≤ x ∧ x < top := by
    intro ks
    induction ks with
    | nil => intro found left g v _; exact ⟨[], left, v, by rw [List.append_nil]; rfl, rfl, fun _ h => by cases h⟩
    | cons k ks ih =>
      intro found left g v hl
      rw [List.length_cons] at hl
      cases g with
      | true =>
        obtain ⟨l, left', v', e, e2, e3⟩ := ih (found ++ [left.fmod top]) (left.fdiv top) true (some (nI k)) (by rw [List.length_append, List.length_singleton]; omega)
        refine ⟨left.fmod top :: l, left', v', loop_cons (ρ1 := [some (.int c), some (.int many), some (.int top), some (.lst (found.map D.int)), some (.int left), some (.bl true), some (nI k)]) (ρ2 := [some (.int c), some (.int many), some (.int top), some (.lst ((found ++ [left.fmod top]).map D.int)), some (.int (left.fdiv top)), some (.bl true), some (nI k)]) rfl ?_ ?_, by rw [List.length_cons, List.length_cons, e2], fun x hx => ?_⟩
        · refine if_t rfl (seq_nx (mut_append (xs := found.map D.int) (y := .int (left.fmod top)) rfl ?_ (by rw [List.length_map]; omega)) ?_)
          · simp only [mSeq, mSet, mRet, mRetN, mNext, mDrop, mIf, mVar, mC, m1, m2, mCons, mNil, mCall, mCallN, mCall0, mB, mAnd, mOr, mNot, mAndV, mOrV, mNotV, mIte, mChain, mTg, mPar, gnName, gnTup, gnCons, gnNil, d1, d2, D.toB, oBind_ok, Out.seq_nx, Out.seq_rt, R.bind_ok, R.val, Out.res, List.length_cons, List.length_nil, List.map_cons, List.map_nil, List.replicate_succ, List.replicate_zero, List.cons_append, List.nil_append, List.getElem?_cons_zero, List.getElem?_cons_succ, List.set_cons_zero, List.set_cons_succ, Nat.reduceAdd, if_true, cond_true, cond_false, D.add, D.sub, dI0, D.toInt, Bool.not_true, Bool.not_false, id_eq, mod_ok (i := left) (j := top) (by omega)]
          · refine (set_nx (d := .int (left.fdiv top)) ?_).trans ?_
            · simp only [mSeq, mSet, mRet, mRetN, mNext, mDrop, mIf, mVar, mC, m1, m2, mCons, mNil, mCall, mCallN, mCall0, mB, mAnd, mOr, mNot, mAndV, mOrV, mNotV, mIte, mChain, mTg, mPar, gnName, gnTup, gnCons, gnNil, d1, d2, D.toB, oBind_ok, Out.seq_nx, Out.seq_rt, R.bind_ok, R.val, Out.res, List.length_cons, List.length_nil, List.map_cons, List.map_nil, List.replicate_succ, List.replicate_zero, List.cons_append, List.nil_append, List.getElem?_cons_zero, List.getElem?_cons_succ, List.set_cons_zero, List.set_cons_succ, Nat.reduceAdd, if_true, cond_true, cond_false, D.add, D.sub, dI0, D.toInt, Bool.not_true, Bool.not_false, id_eq, fdiv_ok (i := left) (j := top) (by omega) (by omega)]
            · rw [List.map_append]; rfl
        · rw [e, List.append_assoc]; rfl
        · rcases List.mem_cons.mp hx with rfl | hx
          · exact fmod_rg h0
          · exact e3 x hx
      | false =>
        obtain ⟨l, left', v', e, e2, e3⟩ := ih (found ++ [((mixed c k).fdiv 7).fmod top]) left false (some (nI k)) (by rw [List.length_append, List.length_singleton]; omega)
        refine ⟨((mixed c k).fdiv 7).fmod top :: l, left', v', loop_cons (ρ1 := [some (.int c), some (.int many), some (.int top), some (.lst (found.map D.int)), some (.int left), some (.bl false), some (nI k)]) (ρ2 := [some (.int c), some (.int many), some (.int top), some (.lst ((found ++ [((mixed c k).fdiv 7).fmod top]).map D.int)), some (.int left), some (.bl false), some (nI k)]) rfl ?_ ?_, by rw [List.length_cons, List.length_cons, e2], fun x hx => ?_⟩
        · refine if_f rfl ((mut_append (xs := found.map D.int) (y := .int (((mixed c k).fdiv 7).fmod top)) rfl ?_ (by rw [List.length_map]; omega)).trans ?_)
          · simp only [mSeq, mSet, mRet, mRetN, mNext, mDrop, mIf, mVar, mC, m1, m2, mCons, mNil, mCall, mCallN, mCall0, mB, mAnd, mOr, mNot, mAndV, mOrV, mNotV, mIte, mChain, mTg, mPar, gnName, gnTup, gnCons, gnNil, d1, d2, D.toB, oBind_ok, Out.seq_nx, Out.seq_rt, R.bind_ok, R.val, Out.res, List.length_cons, List.length_nil, List.map_cons, List.map_nil, List.replicate_succ, List.replicate_zero, List.cons_append, List.nil_append, List.getElem?_cons_zero, List.getElem?_cons_succ, List.set_cons_zero, List.set_cons_succ, Nat.reduceAdd, if_true, cond_true, cond_false, D.add, D.sub, dI0, D.toInt, Bool.not_true, Bool.not_false, id_eq, f_mixed]
            rw [fdiv_ok (by omega) (by omega)]
            simp only [mSeq, mSet, mRet, mRetN, mNext, mDrop, mIf, mVar, mC, m1, m2, mCons, mNil, mCall, mCallN, mCall0, mB, mAnd, mOr, mNot, mAndV, mOrV, mNotV, mIte, mChain, mTg, mPar, gnName, gnTup, gnCons, gnNil, d1, d2, D.toB, oBind_ok, Out.seq_nx, Out.seq_rt, R.bind_ok, R.val, Out.res, List.length_cons, List.length_nil, List.map_cons, List.map_nil, List.replicate_succ, List.replicate_zero, List.cons_append, List.nil_append, List.getElem?_cons_zero, List.getElem?_cons_succ, List.set_cons_zero, List.set_cons_succ, Nat.reduceAdd, if_true, cond_true, cond_false, D.add, D.sub, dI0, D.toInt, Bool.not_true, Bool.not_false, id_eq, mod_ok (i := (mixed c k).fdiv 7) (j := top) (by omega)]
          · rw [List.map_append]; rfl
        · rw [e, List.append_assoc]; rfl
        · rcases List.mem_cons.mp hx with rfl | hx
          · exact fmod_rg h0
          · exact e3 x hx
  obtain ⟨l, left', v', e, e2, e3⟩ := step (List.range many) [] c (decide (1000000000000000000 ≤ c)) none (by rw [List.length_range, List.length_nil]; omega)
  refine ⟨l, ?_, by rw [e2, List.length_range], e3⟩
  rw [fn_run rfl]
  show (b__law_row [some (.int c), some (.int many), some (.int top), none, none, none, none]).res = _
  unfold b__law_row
  refine seq_res (set_nx (mLst_ok rfl (by decide))) ?_
  refine seq_res (set_nx rfl) ?_
  refine seq_res (set_nx rfl) ?_
  refine seq_res (for_nx (range1_ok (by omega)) e) ?_
  exact ret_res rfl
theorem f_at (ns : List Int) (k : Nat) (hn : ns.length ≤ 63) (hk : k ≤ 1000) : ∃ i : Int, m__law_at.fn [.scr (ns.map D.int), .int k] = .ok (.int i) := by
  rw [fn_run rfl]
  show ∃ i : Int, (b__law_at [some (.scr (ns.map D.int)), some (.int k)]).res = _
  unfold b__law_at
  by_cases h : k < ns.length
  · refine ⟨ns[k], ?_⟩
    have h1 : D.ix (.scr (ns.map D.int)) (.int (k : Int)) = .ok (.int ns[k]) := ix_scr (by rw [atI_nat (n := k) rfl (by rw [List.length_map]; exact h), List.getElem_map])
    have h2 : decide ((k : Int) < ((ns.map D.int).length : Int)) = true := decide_eq_true (by rw [List.length_map]; omega)
    have e : mIf (mB (m2 D.lt (mVar 1) (mCall (d1 D.len) (mCons (mVar 0) mNil)))) (mRet (mCall (d1 D.toInt) (mCons (m2 D.ix (mVar 0) (mVar 1)) mNil))) mNext [some (.scr (ns.map D.int)), some (.int k)] = .rt (.int ns[k]) := by
      refine if_t ?_ ?_
      · show R.ok (decide ((k : Int) < ((ns.map D.int).length : Int))) = _
        rw [h2]
      · simp only [mSeq, mSet, mRet, mRetN, mNext, mDrop, mIf, mVar, mC, m1, m2, mCons, mNil, mCall, mCallN, mCall0, mB, mAnd, mOr, mNot, mAndV, mOrV, mNotV, mIte, mChain, mTg, mPar, gnName, gnTup, gnCons, gnNil, d1, d2, D.toB, oBind_ok, Out.seq_nx, Out.seq_rt, R.bind_ok, R.val, Out.res, List.length_cons, List.length_nil, List.map_cons, List.map_nil, List.replicate_succ, List.replicate_zero, List.cons_append, List.nil_append, List.getElem?_cons_zero, List.getElem?_cons_succ, List.set_cons_zero, List.set_cons_succ, Nat.reduceAdd, if_true, cond_true, cond_false, D.add, D.sub, dI0, D.toInt, Bool.not_true, Bool.not_false, id_eq, h1]
    exact congrArg Out.res (seq_rt e)
  · refine ⟨5 + 3 * k, ?_⟩
    have h2 : decide ((k : Int) < ((ns.map D.int).length : Int)) = false := decide_eq_false (by rw [List.length_map]; omega)
    refine seq_res (ρ' := [some (.scr (ns.map D.int)), some (.int k)]) (if_f ?_ rfl) (ret_res ?_)
    · show R.ok (decide ((k : Int) < ((ns.map D.int).length : Int))) = _
      rw [h2]
    · simp only [mSeq, mSet, mRet, mRetN, mNext, mDrop, mIf, mVar, mC, m1, m2, mCons, mNil, mCall, mCallN, mCall0, mB, mAnd, mOr, mNot, mAndV, mOrV, mNotV, mIte, mChain, mTg, mPar, gnName, gnTup, gnCons, gnNil, d1, d2, D.toB, oBind_ok, Out.seq_nx, Out.seq_rt, R.bind_ok, R.val, Out.res, List.length_cons, List.length_nil, List.map_cons, List.map_nil, List.replicate_succ, List.replicate_zero, List.cons_append, List.nil_append, List.getElem?_cons_zero, List.getElem?_cons_succ, List.set_cons_zero, List.set_cons_succ, Nat.reduceAdd, if_true, cond_true, cond_false, D.add, D.sub, dI0, D.toInt, Bool.not_true, Bool.not_false, id_eq, mul_okL (i := 3) (j := (k : Int)) (by omega) (by omega)]
theorem fil_lot (n : Nat) (p : Nat → Bool) : Lot n ((List.range n).filter p) :=
  ⟨fun x hx => List.mem_range.mp (List.mem_filter.mp hx).1, List.Pairwise.filter _ List.pairwise_lt_range⟩
abbrev Row : Type := Nat × Nat × Nat
abbrev rowD (r : Row) : D := .tup [nI r.1, nI r.2.1, nI r.2.2]
abbrev webD (many : Nat) (rows : List Row) : D := .tup [nI many, .tup (rows.map rowD)]
theorem web0 (many : Nat) (rows : List Row) : D.ix (webD many rows) (.int 0) = .ok (nI many) := rfl
theorem web1 (many : Nat) (rows : List Row) : D.ix (webD many rows) (.int 1) = .ok (.tup (rows.map rowD)) := rfl
theorem row0 (r : Row) : D.ix (rowD r) (.int 0) = .ok (nI r.1) := rfl
theorem row1 (r : Row) : D.ix (rowD r) (.int 1) = .ok (nI r.2.1) := rfl
theorem rows_ix {rows : List Row} {k : Nat} (h : k < rows.length) : D.ix (.tup (rows.map rowD)) (nI k) = .ok (rowD rows[k]) := ix_tup (by
  rw [atI_nat (n := k) rfl (by rw [List.length_map]; exact h), List.getElem_map])
theorem deqN (a b : Nat) : D.eq (nI a) (nI b) = .ok (.bl (decide (a = b))) := by
  rw [deq]
  exact congrArg (fun z => R.ok (D.bl z)) (bool_ext (by rw [decide_eq_true_iff, decide_eq_true_iff]; omega))
def getsL (rows : List Row) (p : Nat) : List Nat := (List.range rows.length).filter fun k => decide ((rows.getD k (0, 0, 0)).2.1 = p)
theorem f_gets (many : Nat) (rows : List Row) (p : Nat) (hr : rows.length ≤ 1000) : m__law_gets.fn [webD many rows, nI p] = .ok (.lst ((getsL rows p).map nI)) := by
  rw [fn_run rfl]
  show (b__law_gets [some (webD many rows), some (nI p), none]).res = _
  unfold b__law_gets
  refine ret_res ?_
  rw [mLc_fil (emb := nI) (l := List.range rows.length) (r := fun k => [some (webD many rows), some (nI p), some (nI k)]) (p := fun k => decide ((rows.getD k (0, 0, 0)).2.1 = p)) (f := nI) ?_ (by rw [List.length_range]; omega) fun k hk => ⟨rfl, ?_, fun _ => rfl⟩]
  · rfl
  · show dRange1 (.int ((rows.map rowD).length : Int)) = _
    rw [List.length_map]
    exact range1_ok (by omega)
  · have hk := List.mem_range.mp hk
    have e : rows.getD k (0, 0, 0) = rows[k] := by rw [List.getD_eq_getElem?_getD, List.getElem?_eq_getElem hk]; rfl
    simp only [mSeq, mSet, mRet, mRetN, mNext, mDrop, mIf, mVar, mC, m1, m2, mCons, mNil, mCall, mCallN, mCall0, mB, mAnd, mOr, mNot, mAndV, mOrV, mNotV, mIte, mChain, mTg, mPar, gnName, gnTup, gnCons, gnNil, d1, d2, D.toB, oBind_ok, Out.seq_nx, Out.seq_rt, R.bind_ok, R.val, Out.res, List.length_cons, List.length_nil, List.map_cons, List.map_nil, List.replicate_succ, List.replicate_zero, List.cons_append, List.nil_append, List.getElem?_cons_zero, List.getElem?_cons_succ, List.set_cons_zero, List.set_cons_succ, Nat.reduceAdd, if_true, cond_true, cond_false, D.add, D.sub, dI0, D.toInt, Bool.not_true, Bool.not_false, id_eq, web1, rows_ix hk, row1, deqN, e]
theorem fmodN (a b : Nat) : Int.fmod (a : Int) (b : Int) = ((a % b : Nat) : Int) := (Int.ofNat_fmod a b).symm
def webB1 : G.Env → Out := (mSeq (mMut "list" 7 dAppend (mCons (mTup (mCons (m2 D.ix (mVar 9) (m2 D.sub (mVar 10) (mC (.int 1)))) (mCons (m2 D.ix (mVar 9) (mVar 10)) (mCons (m2 D.add (mC (.int 1)) (m2 D.mod (m2 D.ix (mVar 5) (mVar 8)) (mC (.int 3)))) mNil)))) mNil) kDrop) (mSet 8 (m2 D.add (mVar 8) (mC (.int 1)))))
def webB2 : G.Env → Out := (mFor (mSq dRange1 (mCall (d1 D.len) (mCons (mVar 9) mNil))) (gnName 10) webB1)
def webB3 : G.Env → Out := (mSeq (mSet 11 (m2 D.mod (m2 D.ix (mVar 5) (m2 D.add (mC (.int 11)) (m2 D.mul (mC (.int 3)) (mVar 10)))) (mVar 2))) (mSeq (mSet 12 (m2 D.mod (mCall (d1 D.toInt) (mCons (m2 D.add (m2 D.add (mVar 11) (mC (.int 1))) (m2 D.mod (m2 D.ix (mVar 5) (m2 D.add (mC (.int 12)) (m2 D.mul (mC (.int 3)) (mVar 10)))) (m2 D.sub (mVar 2) (mC (.int 1))))) mNil)) (mVar 2))) (mSeq (mSet 13 (m2 D.mod (m2 D.ix (mVar 5) (m2 D.add (mC (.int 13)) (m2 D.mul (mC (.int 3)) (mVar 10)))) (m2 D.add (mScal (mCall (d1 D.len) (mCons (mVar 7) mNil))) (mC (.int 1))))) (mMut "list" 7 dInsert (mCons (mVar 13) (mCons (mTup (mCons (mVar 11) (mCons (mVar 12) (mCons (m2 D.add (mC (.int 1)) (m2 D.mod (m2 D.ix (mVar 5) (m2 D.add (mC (.int 24)) (mVar 10))) (mC (.int 3)))) mNil)))) mNil)) kDrop))))
theorem m2_ok {f : D → D → R D} {a b : G.Env → R D} {ρ : G.Env} {x y : D} {r : R D} (ha : a ρ = .ok x) (hb : b ρ = .ok y) (h : f x y = r) : m2 f a b ρ = r := by
  unfold m2
  rw [ha, hb]
  exact h
theorem cons_ok {a : G.Env → R D} {r : G.Env → R (List D)} {ρ : G.Env} {x : D} {xs : List D} (h1 : a ρ = .ok x) (h2 : r ρ = .ok xs) : mCons a r ρ = .ok (x :: xs) := by
  unfold mCons
  rw [h1, h2]
  rfl
theorem f_rowN (c : Int) (many top : Nat) (hm : many ≤ 1000) (h0 : 0 < top) (h1 : top < 1000000) : ∃ l : List Nat, m__law_row.fn [.int c, .int many, .int top] = .ok (.lst (l.map nI)) ∧ l.length = many ∧ ∀ x ∈ l, x < top := by
  obtain ⟨l, e, h2, h3⟩ := f_row c many top hm (by omega) (by omega)
  refine ⟨l.map Int.toNat, ?_, by rw [List.length_map, h2], fun x hx => ?_⟩
  · rw [e, List.map_map]
    refine congrArg (fun z => R.ok (D.lst z)) (List.map_congr_left fun x hx => ?_)
    have := h3 x hx
    show D.int x = D.int ((x.toNat : Nat) : Int)
    rw [Int.toNat_of_nonneg this.1]
  · obtain ⟨y, hy, rfl⟩ := List.mem_map.mp hx
    have := h3 y hy
    omega
theorem ixL {l : List Nat} {k : Nat} (h : k < l.length) : D.ix (.lst (l.map nI)) (nI k) = .ok (nI l[k]) := ix_lst (by
  rw [atI_nat (n := k) rfl (by rw [List.length_map]; exact h), List.getElem_map])
theorem modN {a b : Nat} (h : b ≠ 0) : D.mod (nI a) (nI b) = .ok (nI (a % b)) := by
  rw [mod_ok (by omega), fmodN]
theorem mulN {a b : Nat} (h : a < 1000) : D.mul (nI a) (nI b) = .ok (nI (a * b)) := by
  rw [mul_okL (by omega) (by omega)]
  rfl
theorem subN {a : Nat} (h : 1 ≤ a) : D.sub (nI a) (.int 1) = .ok (nI (a - 1)) := by
  show R.ok (D.int ((a : Int) - 1)) = R.ok (D.int ((a - 1 : Nat) : Int))
  rw [show ((a - 1 : Nat) : Int) = (a : Int) - 1 by omega]
theorem perm_map {α β : Type} {f : α → β} {m n : List β} (h : m.Perm n) : ∀ l : List α, n = l.map f → ∃ l' : List α, l'.Perm l ∧ m = l'.map f := by
  induction h with
  | nil => intro l e; exact ⟨l, List.Perm.refl _, e⟩
  | cons x p ih =>
    intro l e
    cases l with
    | nil => cases e
    | cons a l =>
      rw [List.map_cons, List.cons.injEq] at e
      obtain ⟨l', h1, h2⟩ := ih l e.2
      exact ⟨a :: l', h1.cons a, by rw [List.map_cons, e.1, h2]⟩
  | swap x y t =>
    intro l e
    cases l with
    | nil => cases e
    | cons a l =>
      cases l with
      | nil => cases e
      | cons b l =>
        rw [List.map_cons, List.map_cons, List.cons.injEq, List.cons.injEq] at e
        exact ⟨b :: a :: l, List.Perm.swap _ _ _, by rw [List.map_cons, List.map_cons, e.1, e.2.1, e.2.2]⟩
  | trans p q ih1 ih2 =>
    intro l e
    obtain ⟨l2, h1, h2⟩ := ih2 l e
    obtain ⟨l1, h3, h4⟩ := ih1 l2 h2
    exact ⟨l1, h3.trans h1, h4⟩
def RowOk (many : Nat) (r : Row) : Prop := r.1 < many ∧ r.2.1 < many ∧ r.1 ≠ r.2.1 ∧ 1 ≤ r.2.2 ∧ r.2.2 ≤ 9
def prev (g : List Nat) (k : Nat) : Nat := g.getD (if k = 0 then g.length - 1 else k - 1) 0
def Grp (many : Nat) (g : List Nat) : Prop := 2 ≤ g.length ∧ g.Nodup ∧ ∀ x ∈ g, x < many
theorem grp_ok {many : Nat} {g : List Nat} (h : Grp many g) {k d : Nat} (hk : k < g.length) (h1 : 1 ≤ d) (h2 : d ≤ 9) : RowOk many (prev g k, g[k], d) := by
  have hl := h.1
  have hj : (if k = 0 then g.length - 1 else k - 1) < g.length := by split <;> omega
  have e : prev g k = g[if k = 0 then g.length - 1 else k - 1] := by
    unfold prev
    rw [List.getD_eq_getElem?_getD, List.getElem?_eq_getElem hj]
    rfl
  refine ⟨?_, h.2.2 _ (List.getElem_mem _), ?_, h1, h2⟩
  · show prev g k < many
    rw [e]
    exact h.2.2 _ (List.getElem_mem _)
  · show prev g k ≠ g[k]
    rw [e]
    have hne : (if k = 0 then g.length - 1 else k - 1) ≠ k := by split <;> omega
    have pw := List.pairwise_iff_getElem.mp h.2.1
    rcases Nat.lt_or_gt_of_ne hne with q | q
    · exact pw _ _ hj hk q
    · exact fun z => pw _ _ hk hj q z.symm
theorem prev_ix {g : List Nat} {k : Nat} (h : k < g.length) : D.ix (.lst (g.map nI)) (.int ((k : Int) - 1)) = .ok (nI (prev g k)) := by
  unfold prev
  by_cases h0 : k = 0
  · subst h0
    rw [if_pos rfl]
    refine ix_lst ?_
    rw [show (((0 : Nat) : Int) - 1) = -1 from rfl, atI_neg (by rw [List.length_map]; exact h), List.getElem_map, List.getD_eq_getElem?_getD, List.getElem?_eq_getElem (by omega)]
    simp only [List.length_map]
    rfl
  · rw [if_neg h0]
    refine ix_lst ?_
    rw [atI_nat (n := k - 1) (by omega) (by rw [List.length_map]; omega), List.getElem_map, List.getD_eq_getElem?_getD, List.getElem?_eq_getElem (by omega)]
    rfl
/-- one group's rows -/
theorem web1L {many : Nat} {g dg : List Nat} {c0 c1 c2 c3 c4 G6 : Option D} {v11 v12 v13 v14 : Option D} (hg : Grp many g) (hd : dg.length = 40) : ∀ (ks : List Nat) (rs : List Row) (at_ : Nat) (v : Option D), (∀ k ∈ ks, k < g.length) → rs.length + ks.length ≤ 1000 → at_ + ks.length ≤ 40 → ∃ (nr : List Row) (v' : Option D),
    loopD (stepD (gnName 10) webB1) (ks.map nI) [c0, c1, c2, c3, c4, some (.lst (dg.map nI)), G6, some (.lst (rs.map rowD)), some (nI at_), some (.lst (g.map nI)), v, v11, v12, v13, v14] = .nx [c0, c1, c2, c3, c4, some (.lst (dg.map nI)), G6, some (.lst ((rs ++ nr).map rowD)), some (nI (at_ + ks.length)), some (.lst (g.map nI)), v', v11, v12, v13, v14] ∧
      nr.length = ks.length ∧ (∀ r ∈ nr, RowOk many r) ∧ ∀ k ∈ ks, ∀ h : k < g.length, ∃ r ∈ nr, r.1 = prev g k ∧ r.2.1 = g[k] := by
  intro ks
  induction ks with
  | nil => intro rs at_ v _ _ _; exact ⟨[], v, by rw [List.append_nil]; rfl, rfl, (fun _ h => by cases h), (fun _ h => by cases h)⟩
  | cons k ks ih =>
    intro rs at_ v hk hl ha
    rw [List.length_cons] at hl ha
    have hk0 := hk k (.head _)
    let r : Row := (prev g k, g[k], 1 + dg[at_]'(by omega) % 3)
    have hr : RowOk many r := grp_ok hg hk0 (by omega) (by omega)
    obtain ⟨nr, v', e, h1, h2, h3⟩ := ih (rs ++ [r]) (at_ + 1) (some (nI k)) (fun j hj => hk j (.tail _ hj)) (by rw [List.length_append, List.length_singleton]; omega) (by omega)
    refine ⟨r :: nr, v', loop_cons (ρ1 := [c0, c1, c2, c3, c4, some (.lst (dg.map nI)), G6, some (.lst (rs.map rowD)), some (nI at_), some (.lst (g.map nI)), some (nI k), v11, v12, v13, v14])
      (ρ2 := [c0, c1, c2, c3, c4, some (.lst (dg.map nI)), G6, some (.lst ((rs ++ [r]).map rowD)), some (nI (at_ + 1)), some (.lst (g.map nI)), some (nI k), v11, v12, v13, v14]) rfl ?_ ?_, by rw [List.length_cons, List.length_cons, h1], fun x hx => ?_, fun j hj hlt => ?_⟩
    · have e7 : mTup (mCons (m2 D.ix (mVar 9) (m2 D.sub (mVar 10) (mC (.int 1)))) (mCons (m2 D.ix (mVar 9) (mVar 10)) (mCons (m2 D.add (mC (.int 1)) (m2 D.mod (m2 D.ix (mVar 5) (mVar 8)) (mC (.int 3)))) mNil))) [c0, c1, c2, c3, c4, some (.lst (dg.map nI)), G6, some (.lst (rs.map rowD)), some (nI at_), some (.lst (g.map nI)), some (nI k), v11, v12, v13, v14] = .ok (rowD r) := by
        have p1 : m2 D.ix (mVar 9) (m2 D.sub (mVar 10) (mC (.int 1))) [c0, c1, c2, c3, c4, some (.lst (dg.map nI)), G6, some (.lst (rs.map rowD)), some (nI at_), some (.lst (g.map nI)), some (nI k), v11, v12, v13, v14] = .ok (nI (prev g k)) := m2_ok rfl (m2_ok rfl rfl rfl) (prev_ix hk0)
        have p2 : m2 D.ix (mVar 9) (mVar 10) [c0, c1, c2, c3, c4, some (.lst (dg.map nI)), G6, some (.lst (rs.map rowD)), some (nI at_), some (.lst (g.map nI)), some (nI k), v11, v12, v13, v14] = .ok (nI g[k]) := m2_ok rfl rfl (ixL hk0)
        have p3 : m2 D.add (mC (.int 1)) (m2 D.mod (m2 D.ix (mVar 5) (mVar 8)) (mC (.int 3))) [c0, c1, c2, c3, c4, some (.lst (dg.map nI)), G6, some (.lst (rs.map rowD)), some (nI at_), some (.lst (g.map nI)), some (nI k), v11, v12, v13, v14] = .ok (nI (1 + dg[at_]'(by omega) % 3)) := m2_ok rfl (m2_ok (m2_ok rfl rfl (ixL (by omega))) rfl (modN (b := 3) (by omega))) rfl
        refine mTup_ok (ds := [nI (prev g k), nI g[k], nI (1 + dg[at_]'(by omega) % 3)]) ?_ (by show 3 ≤ 16777216; omega)
        exact cons_ok p1 (cons_ok p2 (cons_ok p3 rfl))
      refine seq_nx (mut_append (xs := rs.map rowD) (y := rowD r) rfl ?_ (by rw [List.length_map]; omega)) ((set_nx (d := nI (at_ + 1)) rfl).trans ?_)
      · exact cons_ok e7 rfl
      · rw [show (rs ++ [r]).map rowD = rs.map rowD ++ [rowD r] from List.map_append]; rfl
    · rw [e, List.append_assoc, List.length_cons, show at_ + 1 + ks.length = at_ + (ks.length + 1) by omega]; rfl
    · rcases List.mem_cons.mp hx with rfl | hx
      · exact hr
      · exact h2 x hx
    · rcases List.mem_cons.mp hj with rfl | hj
      · exact ⟨r, .head _, rfl, rfl⟩
      · obtain ⟨x, hx, q⟩ := h3 j hj hlt
        exact ⟨x, .tail _ hx, q⟩
abbrev gD (g : List Nat) : D := .lst (g.map nI)
def sumL (gs : List (List Nat)) : Nat := (gs.map List.length).sum
theorem web2L {many : Nat} {dg : List Nat} {c0 c1 c2 c3 c4 G6 : Option D} {v11 v12 v13 v14 : Option D} (hd : dg.length = 40) : ∀ (gs : List (List Nat)) (rs : List Row) (at_ : Nat) (v9 v10 : Option D), (∀ g ∈ gs, Grp many g) → rs.length + sumL gs ≤ 1000 → at_ + sumL gs ≤ 40 → ∃ (nr : List Row) (at' : Nat) (w9 w10 : Option D),
    loopD (stepD (gnName 9) webB2) (gs.map gD) [c0, c1, c2, c3, c4, some (.lst (dg.map nI)), G6, some (.lst (rs.map rowD)), some (nI at_), v9, v10, v11, v12, v13, v14] = .nx [c0, c1, c2, c3, c4, some (.lst (dg.map nI)), G6, some (.lst ((rs ++ nr).map rowD)), some (nI at'), w9, w10, v11, v12, v13, v14] ∧
      nr.length = sumL gs ∧ (∀ r ∈ nr, RowOk many r) ∧ ∀ g ∈ gs, ∀ k, ∀ h : k < g.length, ∃ r ∈ nr, r.1 = prev g k ∧ r.2.1 = g[k] := by
  intro gs
  induction gs with
  | nil => intro rs at_ v9 v10 _ _ _; exact ⟨[], at_, v9, v10, by rw [List.append_nil]; rfl, rfl, (fun _ h => by cases h), (fun _ h => by cases h)⟩
  | cons g gs ih =>
    intro rs at_ v9 v10 hg hl ha
    have es : sumL (g :: gs) = g.length + sumL gs := by unfold sumL; rw [List.map_cons, List.sum_cons]
    rw [es] at hl ha
    have hg0 := hg g (.head _)
    obtain ⟨nr, v', e, h1, h2, h3⟩ := web1L (c0 := c0) (c1 := c1) (c2 := c2) (c3 := c3) (c4 := c4) (G6 := G6) (v11 := v11) (v12 := v12) (v13 := v13) (v14 := v14) hg0 hd (List.range g.length) rs at_ v10 (fun k hk => List.mem_range.mp hk) (by rw [List.length_range]; omega) (by rw [List.length_range]; omega)
    rw [List.length_range] at h1 e
    obtain ⟨mr, at', w9, w10, e2, k1, k2, k3⟩ := ih (rs ++ nr) (at_ + g.length) (some (gD g)) v' (fun x hx => hg x (.tail _ hx)) (by rw [List.length_append]; omega) (by omega)
    refine ⟨nr ++ mr, at', w9, w10, loop_cons rfl (for_nx (ds := (List.range g.length).map nI) ?_ e) ?_, by rw [List.length_append, h1, k1, es], fun r hr => ?_, fun x hx k h => ?_⟩
    · show dRange1 (.int ((g.map nI).length : Int)) = _
      rw [List.length_map]
      exact range1_ok (by omega)
    · rw [e2, List.append_assoc]
    · rcases List.mem_append.mp hr with h | h
      · exact h2 r h
      · exact k2 r h
    · rcases List.mem_cons.mp hx with rfl | hx
      · obtain ⟨r, hr, q⟩ := h3 k (List.mem_range.mpr h) h
        exact ⟨r, List.mem_append_left _ hr, q⟩
      · obtain ⟨r, hr, q⟩ := k3 x hx k h
        exact ⟨r, List.mem_append_right _ hr, q⟩
theorem int_ok {a : G.Env → R D} {ρ : G.Env} {i : Int} (h : a ρ = .ok (.int i)) : mCall (d1 D.toInt) (mCons a mNil) ρ = .ok (.int i) := by
  show ((mCons a mNil ρ).bind _) = _
  rw [cons_ok h rfl]
  rfl
theorem taker_ne {a x many : Nat} (h1 : a < many) (h2 : x < many - 1) : a ≠ (a + 1 + x) % many := by
  by_cases h : a + 1 + x < many
  · rw [Nat.mod_eq_of_lt h]; omega
  · rw [Nat.mod_eq_sub_mod (by omega), Nat.mod_eq_of_lt (by omega)]; omega
theorem web3L {many : Nat} {dg : List Nat} {c0 c1 c3 c4 G6 : Option D} {v8 v9 v14 : Option D} (hm : 2 ≤ many) (hm2 : many ≤ 100) (hd : dg.length = 40) : ∀ (ks : List Nat) (rs : List Row) (v10 v11 v12 v13 : Option D), (∀ k ∈ ks, k < 4) → rs.length + ks.length ≤ 1000 → (∀ r ∈ rs, RowOk many r) → ∃ (rs' : List Row) (w10 w11 w12 w13 : Option D),
    loopD (stepD (gnName 10) webB3) (ks.map nI) [c0, c1, some (nI many), c3, c4, some (.lst (dg.map nI)), G6, some (.lst (rs.map rowD)), v8, v9, v10, v11, v12, v13, v14] = .nx [c0, c1, some (nI many), c3, c4, some (.lst (dg.map nI)), G6, some (.lst (rs'.map rowD)), v8, v9, w10, w11, w12, w13, v14] ∧
      rs'.length = rs.length + ks.length ∧ (∀ r ∈ rs', RowOk many r) ∧ ∀ r ∈ rs, r ∈ rs' := by
  intro ks
  induction ks with
  | nil => intro rs v10 v11 v12 v13 _ _ ho; exact ⟨rs, v10, v11, v12, v13, rfl, rfl, ho, fun _ h => h⟩
  | cons k ks ih =>
    intro rs v10 v11 v12 v13 hk hl ho
    rw [List.length_cons] at hl
    have hk0 := hk k (.head _)
    have a1 : 11 + 3 * k < dg.length := by omega
    have a2 : 12 + 3 * k < dg.length := by omega
    have a3 : 13 + 3 * k < dg.length := by omega
    have a4 : 24 + k < dg.length := by omega
    let gi := dg[11 + 3 * k] % many
    let ta := (gi + 1 + dg[12 + 3 * k] % (many - 1)) % many
    let pl := dg[13 + 3 * k] % (rs.length + 1)
    let r : Row := (gi, ta, 1 + dg[24 + k] % 3)
    have hgi : gi < many := Nat.mod_lt _ (by omega)
    have hr : RowOk many r := ⟨hgi, Nat.mod_lt _ (by omega), taker_ne hgi (Nat.mod_lt _ (by omega)), by show 1 ≤ 1 + dg[24 + k] % 3; omega, by show 1 + dg[24 + k] % 3 ≤ 9; omega⟩
    have hpl : pl < rs.length + 1 := Nat.mod_lt _ (by omega)
    let rs2 := rs.take pl ++ [r] ++ rs.drop pl
    have hl2 : rs2.length = rs.length + 1 := by
      show (rs.take pl ++ [r] ++ rs.drop pl).length = _
      rw [List.length_append, List.length_append, List.length_take, List.length_drop, List.length_singleton]
      omega
    have hin : ∀ x, x ∈ rs2 ↔ x = r ∨ x ∈ rs := fun x => by
      have : x ∈ rs ↔ x ∈ rs.take pl ∨ x ∈ rs.drop pl := by rw [← List.mem_append, List.take_append_drop]
      show x ∈ rs.take pl ++ [r] ++ rs.drop pl ↔ _
      rw [List.mem_append, List.mem_append, List.mem_singleton, this]
      constructor
      · rintro ((h | h) | h)
        · exact .inr (.inl h)
        · exact .inl h
        · exact .inr (.inr h)
      · rintro (h | h | h)
        · exact .inl (.inr h)
        · exact .inl (.inl h)
        · exact .inr h
    obtain ⟨rs', w10, w11, w12, w13, e, h1, h2, h3⟩ := ih rs2 (some (nI k)) (some (nI gi)) (some (nI ta)) (some (nI pl)) (fun j hj => hk j (.tail _ hj)) (by omega) fun x hx => by
      rcases (hin x).mp hx with rfl | h
      · exact hr
      · exact ho x h
    refine ⟨rs', w10, w11, w12, w13, loop_cons (ρ1 := [c0, c1, some (nI many), c3, c4, some (.lst (dg.map nI)), G6, some (.lst (rs.map rowD)), v8, v9, some (nI k), v11, v12, v13, v14])
      (ρ2 := [c0, c1, some (nI many), c3, c4, some (.lst (dg.map nI)), G6, some (.lst (rs2.map rowD)), v8, v9, some (nI k), some (nI gi), some (nI ta), some (nI pl), v14]) rfl ?_ e, by rw [h1, hl2, List.length_cons]; omega, h2, fun x hx => h3 x ((hin x).mpr (.inr hx))⟩
    refine seq_nx (set_nx (d := nI gi) (m2_ok (m2_ok rfl (m2_ok rfl (m2_ok rfl rfl (mulN (a := 3) (by omega))) rfl) (ixL (k := 11 + 3 * k) a1)) rfl (modN (by omega)))) ?_
    refine seq_nx (set_nx (d := nI ta) (m2_ok (int_ok (i := ((gi + 1 + dg[12 + 3 * k] % (many - 1) : Nat) : Int)) (m2_ok (m2_ok rfl rfl rfl) (m2_ok (m2_ok rfl (m2_ok rfl (m2_ok rfl rfl (mulN (a := 3) (by omega))) rfl) (ixL (k := 12 + 3 * k) a2)) (m2_ok rfl rfl (subN (by omega))) (modN (by omega))) rfl)) rfl (modN (by omega)))) ?_
    have hln : mScal (mCall (d1 D.len) (mCons (mVar 7) mNil)) [c0, c1, some (nI many), c3, c4, some (.lst (dg.map nI)), G6, some (.lst (rs.map rowD)), v8, v9, some (nI k), some (nI gi), some (nI ta), v13, v14] = .ok (nI rs.length) := by
      show R.ok (D.int ((rs.map rowD).length : Int)) = _
      rw [List.length_map]
    refine seq_nx (set_nx (d := nI pl) (m2_ok (m2_ok rfl (m2_ok rfl (m2_ok rfl rfl (mulN (a := 3) (by omega))) rfl) (ixL (k := 13 + 3 * k) a3)) (m2_ok hln rfl rfl) (modN (b := rs.length + 1) (by omega)))) ?_
    refine (mut_insert (xs := rs.map rowD) (y := rowD r) (n := pl) rfl (cons_ok rfl (cons_ok (mTup_ok (cons_ok rfl (cons_ok rfl (cons_ok (m2_ok rfl (m2_ok (m2_ok rfl (m2_ok rfl rfl rfl) (ixL (k := 24 + k) a4)) rfl (modN (b := 3) (by omega))) rfl) rfl))) (by show 3 ≤ 16777216; omega)) rfl)) (by rw [List.length_map]; omega) (by omega)).trans ?_
    rw [show rs2.map rowD = (rs.map rowD).take pl ++ [rowD r] ++ (rs.map rowD).drop pl by
      show (rs.take pl ++ [r] ++ rs.drop pl).map rowD = _
      rw [List.map_append, List.map_append, List.map_take, List.map_drop]; rfl]
    rfl
structure Valid (many : Nat) (rows : List Row) : Prop where
  m2 : 2 ≤ many
  m5 : many ≤ 6
  r1 : 1 ≤ rows.length
  r10 : rows.length ≤ 10
  ok : ∀ r ∈ rows, RowOk many r
  gv : ∀ p, p < many → ∃ r ∈ rows, r.1 = p
  tk : ∀ p, p < many → ∃ r ∈ rows, r.2.1 = p
theorem prev_succ {g : List Nat} {j : Nat} (hj : j < g.length) : ∃ k, ∃ h : k < g.length, prev g k = g[j] := by
  by_cases e : j + 1 < g.length
  · refine ⟨j + 1, e, ?_⟩
    unfold prev
    rw [if_neg (by omega), List.getD_eq_getElem?_getD, Nat.add_sub_cancel, List.getElem?_eq_getElem hj]
    rfl
  · refine ⟨0, by omega, ?_⟩
    unfold prev
    rw [if_pos rfl, List.getD_eq_getElem?_getD, show g.length - 1 = j by omega, List.getElem?_eq_getElem hj]
    rfl
theorem cut_to (ds : List D) (k : Nat) : D.cut (.lst ds) none (some (k : Int)) = .ok (.lst (ds.take k)) := by
  show R.ok (D.lst ((ds.drop (HT.sIx ds.length 0 none)).take (HT.sIx ds.length ds.length (some (k : Int)) - HT.sIx ds.length 0 none))) = _
  rw [HT.sIx_none, HT.sIx_nat, List.drop_zero, Nat.sub_zero]
  rcases Nat.le_total k ds.length with h | h
  · rw [Nat.min_eq_left h]
  · rw [Nat.min_eq_right h, List.take_length, List.take_of_length_le h]
theorem cut_from (ds : List D) (k : Nat) : D.cut (.lst ds) (some (k : Int)) none = .ok (.lst (ds.drop k)) := by
  show R.ok (D.lst ((ds.drop (HT.sIx ds.length 0 (some (k : Int)))).take (HT.sIx ds.length ds.length none - HT.sIx ds.length 0 (some (k : Int))))) = _
  rw [HT.sIx_none, HT.sIx_nat]
  rcases Nat.le_total k ds.length with h | h
  · rw [Nat.min_eq_left h, List.take_of_length_le (by rw [List.length_drop]; omega)]
  · rw [Nat.min_eq_right h, List.drop_length, List.drop_of_length_le h, List.take_nil]
theorem callN_ok {n : Nat} {fn : List D → R D} {ms : G.Env → R (List D)} {ρ : G.Env} {ds : List D} {r : R D} (h : ms ρ = .ok ds) (hl : ds.length = n) (hf : fn ds = r) : mCallN n fn ms ρ = r := by
  unfold mCallN
  rw [h, R.bind_ok, if_pos hl]
  exact hf
theorem call0_ok {n : Nat} {fn : List D → R D} {ms : G.Env → R (List D)} {ρ : G.Env} {ds : List D} {d : D} (h : ms ρ = .ok ds) (hl : ds.length = n) (hf : fn ds = .ok d) : mCall0 n fn ms ρ = .ok d := by
  unfold mCall0
  rw [h, R.bind_ok, if_pos hl, hf]
  rfl
theorem call1_ok {f : D → R D} {a : G.Env → R D} {ρ : G.Env} {x : D} {r : R D} (h : a ρ = .ok x) (hf : f x = r) : mCall (d1 f) (mCons a mNil) ρ = r := by
  show ((mCons a mNil ρ).bind _) = _
  rw [cons_ok h rfl]
  exact hf
theorem sq_ok {f : D → R (List D)} {m : G.Env → R D} {ρ : G.Env} {x : D} {r : R (List D)} (h : m ρ = .ok x) (hf : f x = r) : mSq f m ρ = r := by
  unfold mSq
  rw [h]
  exact hf
theorem and_tf {a b : G.Env → R Bool} {ρ : G.Env} {x y : Bool} (h1 : a ρ = .ok x) (h2 : b ρ = .ok y) : mAnd a b ρ = .ok (x && y) := by
  unfold mAnd
  rw [h1]
  show (bif x then b ρ else .ok false) = _
  cases x
  · rfl
  · rw [h2]; rfl
theorem b_ok {a : G.Env → R D} {ρ : G.Env} {x : Bool} (h : a ρ = .ok (.bl x)) : mB a ρ = .ok x := by
  unfold mB
  rw [h]
  rfl
theorem f_web8 (cell more : Int) : ∃ (many : Nat) (rows : List Row), m__law_web.fn [.int cell, .int more] = .ok (webD many rows) ∧ Valid many rows ∧ rows.length ≤ 8 := by
  obtain ⟨l1, e1, hl1, hb1⟩ := f_rowN cell 1 4 (by omega) (by omega) (by omega)
  have hx0 := hb1 (l1[0]'(by omega)) (List.getElem_mem _)
  let many := 2 + l1[0]'(by omega)
  have hm2 : 2 ≤ many := by show 2 ≤ 2 + l1[0]'(by omega); omega
  have hm5 : many ≤ 5 := by show 2 + l1[0]'(by omega) ≤ 5; omega
  obtain ⟨M, e2, hM, _⟩ := f_rowN (cell.fdiv 5 + 3) many 1000 (by omega) (by omega) (by omega)
  obtain ⟨dg, e3, hd, _⟩ := f_rowN more 40 30 (by omega) (by omega) (by omega)
  let pairD : Nat → D := fun k => .tup [nI (M.getD k 0), nI k]
  obtain ⟨ks, hks, es⟩ := perm_map (List.mergeSort_perm ((List.range many).map pairD) leD) (List.range many) rfl
  have hsP : D.sortP (.lst ((List.range many).map pairD)) = .ok (.lst (ks.map pairD)) := by
    unfold D.sortP
    dsimp only
    rw [if_pos (by rw [List.all_map, List.all_eq_true]; exact fun _ _ => rfl)]
    exact congrArg (fun z => R.ok (D.lst z)) es
  have hkl : ks.length = many := by rw [hks.length_eq, List.length_range]
  have hkm : ∀ x, x ∈ ks ↔ x < many := fun x => by rw [hks.mem_iff, List.mem_range]
  have hkn : ks.Nodup := hks.nodup_iff.mpr List.nodup_range
  -- the groups
  obtain ⟨gs, hIf, hgG, hgs, hgc⟩ : ∃ gs : List (List Nat), (mIf (mAnd (mB (m2 D.gt (mVar 2) (mC (.int 3)))) (mB (m2 D.lt (m2 D.ix (mVar 5) (mC (.int 0))) (mC (.int 12))))) (mSet 6 (mLst (mCons (mSl (mVar 4) mNoP (mPart (mC (.int 2)))) (mCons (mSl (mVar 4) (mPart (mC (.int 2))) mNoP) mNil)))) mNext [some (.int cell), some (.int more), some (nI many), some (.lst (M.map nI)), some (gD ks), some (.lst (dg.map nI)), some (.lst [gD ks]), none, none, none, none, none, none, none, none] = .nx [some (.int cell), some (.int more), some (nI many), some (.lst (M.map nI)), some (gD ks), some (.lst (dg.map nI)), some (.lst (gs.map gD)), none, none, none, none, none, none, none, none]) ∧ (∀ g ∈ gs, Grp many g) ∧ sumL gs = many ∧ ∀ p, p < many → ∃ g ∈ gs, p ∈ g := by
    have hc : mAnd (mB (m2 D.gt (mVar 2) (mC (.int 3)))) (mB (m2 D.lt (m2 D.ix (mVar 5) (mC (.int 0))) (mC (.int 12)))) [some (.int cell), some (.int more), some (nI many), some (.lst (M.map nI)), some (gD ks), some (.lst (dg.map nI)), some (.lst [gD ks]), none, none, none, none, none, none, none, none] = .ok (decide ((3 : Int) < (many : Int)) && decide (((dg[0]'(by omega) : Nat) : Int) < 12)) :=
      and_tf (b_ok (m2_ok rfl rfl (dgt _ _))) (b_ok (m2_ok (m2_ok rfl rfl (ixL (k := 0) (by omega))) rfl (dlt _ _)))
    cases hb : (decide ((3 : Int) < (many : Int)) && decide (((dg[0]'(by omega) : Nat) : Int) < 12)) with
    | true =>
      rw [hb] at hc
      have h3 : 3 < many := by
        have := (Bool.and_eq_true _ _).mp hb
        have := of_decide_eq_true this.1
        omega
      refine ⟨[ks.take 2, ks.drop 2], if_t hc (set_nx (mLst_ok (cons_ok ?_ (cons_ok ?_ rfl)) (by show 2 ≤ 16777216; omega))), fun g hg => ?_, ?_, fun p hp => ?_⟩
      · show D.cut (gD ks) none (some 2) = _
        rw [show gD (ks.take 2) = D.lst ((ks.map nI).take 2) by rw [← List.map_take]]
        exact cut_to (ks.map nI) 2
      · show D.cut (gD ks) (some 2) none = _
        rw [show gD (ks.drop 2) = D.lst ((ks.map nI).drop 2) by rw [← List.map_drop]]
        exact cut_from (ks.map nI) 2
      · rcases List.mem_cons.mp hg with rfl | hg
        · exact ⟨by rw [List.length_take]; omega, hkn.sublist (List.take_sublist _ _), fun x hx => (hkm x).mp (List.mem_of_mem_take hx)⟩
        · rcases List.mem_cons.mp hg with rfl | hg
          · exact ⟨by rw [List.length_drop]; omega, hkn.sublist (List.drop_sublist _ _), fun x hx => (hkm x).mp (List.mem_of_mem_drop hx)⟩
          · cases hg
      · show (ks.take 2).length + ((ks.drop 2).length + 0) = many
        rw [List.length_take, List.length_drop]; omega
      · have := (hkm p).mpr hp
        rw [← List.take_append_drop 2 ks, List.mem_append] at this
        rcases this with h | h
        · exact ⟨_, .head _, h⟩
        · exact ⟨_, .tail _ (.head _), h⟩
    | false =>
      rw [hb] at hc
      refine ⟨[ks], if_f hc rfl, fun g hg => ?_, ?_, fun p hp => ⟨ks, .head _, (hkm p).mpr hp⟩⟩
      · rcases List.mem_cons.mp hg with rfl | hg
        · exact ⟨by omega, hkn, fun x hx => (hkm x).mp hx⟩
        · cases hg
      · show ks.length + 0 = many
        omega
  obtain ⟨nr, at', w9, w10, e4, h4, h5, h6⟩ := web2L (c0 := some (.int cell)) (c1 := some (.int more)) (c2 := some (nI many)) (c3 := some (.lst (M.map nI))) (c4 := some (gD ks)) (G6 := some (.lst (gs.map gD))) (v11 := none) (v12 := none) (v13 := none) (v14 := none) hd gs [] 1 none none hgG (by rw [List.length_nil]; omega) (by omega)
  rw [List.nil_append] at e4
  have hq : dg[10]'(by omega) % 4 < 4 := Nat.mod_lt _ (by omega)
  obtain ⟨rows, y10, y11, y12, y13, e5, h7, h8, h9⟩ := web3L (c0 := some (.int cell)) (c1 := some (.int more)) (c3 := some (.lst (M.map nI))) (c4 := some (gD ks)) (G6 := some (.lst (gs.map gD))) (v8 := some (nI at')) (v9 := w9) (v14 := none) hm2 (by omega) hd (List.range (dg[10]'(by omega) % 4)) nr w10 none none none (fun k hk => by have := List.mem_range.mp hk; omega) (by rw [List.length_range]; omega) h5
  rw [List.length_range] at h7
  refine ⟨many, rows, ?_, ⟨hm2, by omega, by omega, by omega, h8, fun p hp => ?_, fun p hp => ?_⟩, by omega⟩
  · rw [fn_run rfl]
    show (b__law_web [some (.int cell), some (.int more), none, none, none, none, none, none, none, none, none, none, none, none, none]).res = _
    unfold b__law_web
    refine seq_res (set_nx (d := nI many) (m2_ok rfl (m2_ok (callN_ok (cons_ok rfl (cons_ok rfl (cons_ok rfl rfl))) rfl e1) rfl (ixL (k := 0) (by omega))) rfl)) ?_
    refine seq_res (set_nx (callN_ok (cons_ok (m2_ok (m2_ok (int_ok rfl) rfl (fdiv_ok (by omega) (by omega))) rfl rfl) (cons_ok rfl (cons_ok rfl rfl))) rfl e2)) ?_
    refine seq_res (set_nx (d := gD ks) (mLc_map (emb := pairD) (l := ks) (r := fun k => [some (.int cell), some (.int more), some (nI many), some (.lst (M.map nI)), none, none, none, none, none, none, none, none, none, none, some (pairD k)]) (f := nI) (sq_ok (call1_ok (mLc_map (emb := nI) (l := List.range many) (r := fun k => [some (.int cell), some (.int more), some (nI many), some (.lst (M.map nI)), none, none, none, none, none, none, some (nI k), none, none, none, none]) (f := pairD) (sq_ok rfl (range1_ok (by omega))) (by rw [List.length_range]; omega) fun k hk => ⟨rfl, mTup_ok (ds := [nI (M.getD k 0), nI k]) (cons_ok (m2_ok rfl rfl ?_) (cons_ok rfl rfl)) (by show 2 ≤ 16777216; omega)⟩) hsP) rfl) (by omega) fun k _ => ⟨rfl, m2_ok rfl rfl rfl⟩)) ?_
    · have hk := List.mem_range.mp hk
      rw [show M.getD k 0 = M[k]'(by omega) by rw [List.getD_eq_getElem?_getD, List.getElem?_eq_getElem (by omega)]; rfl]
      exact ixL (by omega)
    refine seq_res (set_nx (callN_ok (cons_ok rfl (cons_ok rfl (cons_ok rfl rfl))) rfl e3)) ?_
    refine seq_res (set_nx (mLst_ok (cons_ok rfl rfl) (by show 1 ≤ 16777216; omega))) ?_
    refine seq_res hIf ?_
    refine seq_res (set_nx (mLst_ok rfl (by decide))) ?_
    refine seq_res (set_nx rfl) ?_
    refine seq_res (for_nx rfl e4) ?_
    refine seq_res (for_nx (sq_ok (m2_ok (m2_ok rfl rfl (ixL (k := 10) (by omega))) rfl (modN (b := 4) (by omega))) (range1_ok (by omega))) e5) ?_
    exact ret_res (mTup_ok (cons_ok rfl (cons_ok (call1_ok rfl rfl) rfl)) (by show 2 ≤ 16777216; omega))
  · obtain ⟨g, hg, hp⟩ := hgc p hp
    obtain ⟨j, hj, rfl⟩ := List.getElem_of_mem hp
    obtain ⟨k, hk, e⟩ := prev_succ hj
    obtain ⟨r, hr, q1, q2⟩ := h6 g hg k hk
    exact ⟨r, h9 r hr, q1.trans e⟩
  · obtain ⟨g, hg, hp⟩ := hgc p hp
    obtain ⟨j, hj, rfl⟩ := List.getElem_of_mem hp
    obtain ⟨r, hr, q1, q2⟩ := h6 g hg j hj
    exact ⟨r, h9 r hr, q2⟩
theorem not_ok {a : G.Env → R Bool} {ρ : G.Env} {x : Bool} (h : a ρ = .ok x) : mNot a ρ = .ok (!x) := by
  unfold mNot
  rw [h]
  rfl
theorem or_tf {a b : G.Env → R Bool} {ρ : G.Env} {x y : Bool} (h1 : a ρ = .ok x) (h2 : b ρ = .ok y) : mOr a b ρ = .ok (x || y) := by
  unfold mOr
  rw [h1]
  show (bif x then .ok true else b ρ) = _
  cases x
  · rw [h2]; rfl
  · rfl
theorem andV_t {a b : G.Env → R D} {ρ : G.Env} {r : R D} (h1 : a ρ = .ok (.bl true)) (h2 : b ρ = r) : mAndV a b ρ = r := by
  unfold mAndV
  rw [h1]
  exact h2
theorem andV_f {a b : G.Env → R D} {ρ : G.Env} (h1 : a ρ = .ok (.bl false)) : mAndV a b ρ = .ok (.bl false) := by
  unfold mAndV
  rw [h1]
  rfl
theorem chain_t {f g : D → D → R D} {a b c : G.Env → R D} {ρ : G.Env} {x y z : D} {r : R D} (ha : a ρ = .ok x) (hb : b ρ = .ok y) (hf : f x y = .ok (.bl true)) (hc : c ρ = .ok z) (hg : g y z = r) : mChain f g a b c ρ = r := by
  unfold mChain
  rw [ha, hb]
  show ((f x y).bind _) = _
  rw [hf]
  show ((c ρ).bind _) = _
  rw [hc]
  exact hg
theorem drop_nx {a : G.Env → R D} {ρ : G.Env} {d : D} (h : a ρ = .ok d) : mDrop a ρ = .nx ρ := by
  unfold mDrop
  rw [h]
  rfl
theorem f_isRow {many : Nat} {r : Row} (h : RowOk many r) : m_is_row.fn [nI many, rowD r] = .ok (.bl true) := by
  obtain ⟨h1, h2, h3, h4, h5⟩ := h
  have u1 : m_is_under.fn [nI r.1, nI many] = .ok (.bl true) := by rw [f_under, decide_eq_true (by omega), decide_eq_true (by omega)]; rfl
  have u2 : m_is_under.fn [nI r.2.1, nI many] = .ok (.bl true) := by rw [f_under, decide_eq_true (by omega), decide_eq_true (by omega)]; rfl
  have u3 : m_is_between.fn [nI r.2.2, .int 1, .int 9] = .ok (.bl true) := by rw [f_between, decide_eq_true (by omega), decide_eq_true (by omega)]; rfl
  have u4 : m_is_tuple_of.fn [rowD r, .int 3] = .ok (.bl true) := by rw [f_tupleOf]; rfl
  rw [fn_run rfl]
  show (b_is_row [some (nI many), some (rowD r)]).res = _
  unfold b_is_row
  refine seq_res (ρ' := [some (nI many), some (rowD r)]) (if_f (or_tf (not_ok (b_ok (callN_ok (cons_ok rfl (cons_ok rfl rfl)) rfl u4))) (or_tf (not_ok (b_ok (callN_ok (cons_ok rfl (cons_ok rfl rfl)) rfl u1))) (not_ok (b_ok (callN_ok (cons_ok rfl (cons_ok rfl rfl)) rfl u2))))) rfl) ?_
  refine ret_res (andV_t (m2_ok rfl rfl ?_) (callN_ok (cons_ok rfl (cons_ok rfl (cons_ok rfl rfl))) rfl u3))
  rw [dne, decide_eq_false (by omega)]
  rfl
theorem f_isWeb {many : Nat} {rows : List Row} (h : Valid many rows) : m_is_web.fn [webD many rows] = .ok (.bl true) := by
  obtain ⟨a1, a2, a3, a4, a5, a6, a7⟩ := h
  have u1 : m_is_tuple_of.fn [webD many rows, .int 2] = .ok (.bl true) := by rw [f_tupleOf]; rfl
  have u2 : m_is_between.fn [nI many, .int 2, .int 6] = .ok (.bl true) := by rw [f_between, decide_eq_true (by omega), decide_eq_true (by omega)]; rfl
  rw [fn_run rfl]
  show (b_is_web [some (webD many rows), none, none, none, none, none, none]).res = _
  unfold b_is_web
  refine seq_res (if_f (or_tf (not_ok (b_ok (callN_ok (cons_ok rfl (cons_ok rfl rfl)) rfl u1))) (not_ok (b_ok (callN_ok (cons_ok rfl (cons_ok rfl (cons_ok rfl rfl))) rfl u2)))) rfl) ?_
  refine seq_res (ρ' := [some (webD many rows), some (nI many), some (.tup (rows.map rowD)), none, none, none, none]) rfl ?_
  refine seq_res (ρ' := [some (webD many rows), some (nI many), some (.tup (rows.map rowD)), none, none, none, none]) (if_f (or_tf (x := false) (y := false) (not_ok (x := true) rfl) (not_ok (x := true) (b_ok (chain_t rfl rfl ?_ rfl ?_)))) rfl) ?_
  · rw [dle, List.length_map, decide_eq_true (by omega)]
  · rw [dle, List.length_map, decide_eq_true (by omega)]
  refine seq_res (ρ' := [some (webD many rows), some (nI many), some (.tup (rows.map rowD)), none, none, none, none]) (if_f (not_ok (x := true) (b_ok (call1_ok (mLc_map (emb := rowD) (l := rows) (r := fun r => [some (webD many rows), some (nI many), some (.tup (rows.map rowD)), none, none, some (rowD r), none]) (f := fun _ => .bl true) (sq_ok rfl rfl) (by omega) fun r hr => ⟨rfl, call0_ok (cons_ok rfl (cons_ok rfl rfl)) rfl (f_isRow (a5 r hr))⟩) ?_))) rfl) ?_
  · rw [all_ok, List.all_eq_true.mpr fun _ _ => rfl]
  refine seq_res (ρ' := [some (webD many rows), some (nI many), some (.tup (rows.map rowD)), some (.lst (rows.map fun r => nI r.1)), some (.lst (rows.map fun r => nI r.2.1)), none, none]) ?_ ?_
  · have e : mTup (mCons (mLc [5] (mSq D.seq (mVar 2)) (gnName 5) mYes (m2 D.ix (mVar 5) (mC (.int 0)))) (mCons (mLc [5] (mSq D.seq (mVar 2)) (gnName 5) mYes (m2 D.ix (mVar 5) (mC (.int 1)))) mNil)) [some (webD many rows), some (nI many), some (.tup (rows.map rowD)), none, none, none, none] = .ok (.tup [.lst (rows.map fun r => nI r.1), .lst (rows.map fun r => nI r.2.1)]) :=
      mTup_ok (cons_ok (mLc_map (emb := rowD) (l := rows) (r := fun r => [some (webD many rows), some (nI many), some (.tup (rows.map rowD)), none, none, some (rowD r), none]) (f := fun r => nI r.1) (sq_ok rfl rfl) (by omega) fun r _ => ⟨rfl, rfl⟩) (cons_ok (mLc_map (emb := rowD) (l := rows) (r := fun r => [some (webD many rows), some (nI many), some (.tup (rows.map rowD)), none, none, some (rowD r), none]) (f := fun r => nI r.2.1) (sq_ok rfl rfl) (by omega) fun r _ => ⟨rfl, rfl⟩) rfl)) (by show 2 ≤ 16777216; omega)
    unfold mTg
    rw [e]
    rfl
  refine ret_res (call1_ok (mLc_map (emb := nI) (l := List.range many) (r := fun p => [some (webD many rows), some (nI many), some (.tup (rows.map rowD)), some (.lst (rows.map fun r => nI r.1)), some (.lst (rows.map fun r => nI r.2.1)), none, some (nI p)]) (f := fun _ => .bl true) (sq_ok rfl (range1_ok (by omega))) (by rw [List.length_range]; omega) fun p hp => ⟨rfl, ?_⟩) ?_)
  · have hp := List.mem_range.mp hp
    have i1 : D.isIn (nI p) (.lst (rows.map fun r => nI r.1)) = .ok (.bl true) := by
      rw [in_lst (n := 0) (by omega) okD_int (by rw [List.all_map, List.all_eq_true]; exact fun _ _ => okD_int)]
      obtain ⟨r, hr, e⟩ := a6 p hp
      rw [dIn_iff.mpr (List.mem_map.mpr ⟨r, hr, by rw [e]⟩)]
    have i2 : D.isIn (nI p) (.lst (rows.map fun r => nI r.2.1)) = .ok (.bl true) := by
      rw [in_lst (n := 0) (by omega) okD_int (by rw [List.all_map, List.all_eq_true]; exact fun _ _ => okD_int)]
      obtain ⟨r, hr, e⟩ := a7 p hp
      rw [dIn_iff.mpr (List.mem_map.mpr ⟨r, hr, by rw [e]⟩)]
    exact andV_t (m2_ok rfl rfl i1) (m2_ok rfl rfl i2)
  · rw [all_ok, List.all_eq_true.mpr fun _ _ => rfl]
theorem f_needWeb {many : Nat} {rows : List Row} (h : Valid many rows) : m_need_web.fn [webD many rows] = .ok .non := by
  rw [fn_run rfl]
  show (b_need_web [some (webD many rows)]).res = _
  unfold b_need_web
  exact (congrArg Out.res (if_f (not_ok (x := true) (b_ok (callN_ok (cons_ok rfl rfl) rfl (f_isWeb h)))) rfl)).trans rfl
theorem Lot.sub {n : Nat} {l m : List Nat} (h : Lot n m) (s : l.Sublist m) : Lot n l := ⟨fun x hx => h.1 x (s.subset hx), h.2.sublist s⟩
theorem Lot.nodup {n : Nat} {l : List Nat} (h : Lot n l) : l.Nodup := h.2.imp fun hlt => Nat.ne_of_lt hlt
theorem lot_len : ∀ (l : List Nat) (lo n : Nat), (∀ x ∈ l, lo ≤ x ∧ x < n) → l.Pairwise (· < ·) → l.length ≤ n - lo
  | [], _, _, _, _ => Nat.zero_le _
  | x :: xs, lo, n, h, hp => by
    obtain ⟨h1, h2⟩ := List.pairwise_cons.mp hp
    have ih := lot_len xs (x + 1) n (fun y hy => ⟨h1 y hy, (h y (.tail _ hy)).2⟩) h2
    have := h x (.head _)
    rw [List.length_cons]
    omega
theorem Lot.length {n : Nat} {l : List Nat} (h : Lot n l) : l.length ≤ n := lot_len l 0 n (fun x hx => ⟨Nat.zero_le _, h.1 x hx⟩) h.2
theorem row_getD {rows : List Row} {k : Nat} (h : k < rows.length) : rows.getD k (0, 0, 0) = rows[k] := by
  rw [List.getD_eq_getElem?_getD, List.getElem?_eq_getElem h]
  rfl
def lotsL : Nat → List (List Nat)
  | 0 => [[]]
  | n + 1 => lotsL n ++ (lotsL n).map fun l => l ++ [n]
theorem lotsL_len : ∀ n, (lotsL n).length = 2 ^ n
  | 0 => rfl
  | n + 1 => by rw [lotsL, List.length_append, List.length_map, lotsL_len n, Nat.pow_succ]; omega
theorem lotsL_le {n : Nat} (h : n ≤ 10) : (lotsL n).length ≤ 1024 := by
  rw [lotsL_len]
  exact Nat.le_trans (Nat.pow_le_pow_right (by omega) h) (by decide)
theorem mem_lots : ∀ (n : Nat) (l : List Nat), l ∈ lotsL n ↔ Lot n l
  | 0, l => by
    rw [lotsL, List.mem_singleton]
    constructor
    · rintro rfl; exact ⟨(fun _ h => by cases h), List.Pairwise.nil⟩
    · rintro ⟨h, _⟩
      cases l with
      | nil => rfl
      | cons a l => exact absurd (h a (.head _)) (by omega)
  | n + 1, l => by
    rw [lotsL, List.mem_append, mem_lots n l, List.mem_map]
    constructor
    · rintro (h | ⟨m, hm, rfl⟩)
      · exact ⟨fun x hx => by have := h.1 x hx; omega, h.2⟩
      · have hm := (mem_lots n m).mp hm
        refine ⟨fun x hx => ?_, ?_⟩
        · rcases List.mem_append.mp hx with h | h
          · have := hm.1 x h; omega
          · have := List.mem_singleton.mp h; omega
        · rw [List.pairwise_append]
          exact ⟨hm.2, List.pairwise_singleton _ _, fun x hx y hy => by have := hm.1 x hx; have := List.mem_singleton.mp hy; omega⟩
    · rintro ⟨h1, h2⟩
      rcases List.eq_nil_or_concat l with rfl | ⟨m, x, rfl⟩
      · exact .inl ⟨(fun _ h => by cases h), List.Pairwise.nil⟩
      · rw [List.concat_eq_append] at h1 h2 ⊢
        rw [List.pairwise_append] at h2
        have hx := h1 x (List.mem_append_right _ (List.mem_singleton.mpr rfl))
        have hlt : ∀ y ∈ m, y < x := fun y hy => h2.2.2 y hy x (List.mem_singleton.mpr rfl)
        by_cases e : x = n
        · subst e
          exact .inr ⟨m, (mem_lots x m).mpr ⟨hlt, h2.1⟩, rfl⟩
        · refine .inl ⟨fun y hy => ?_, List.pairwise_append.mpr h2⟩
          rcases List.mem_append.mp hy with h | h
          · have := hlt y h; omega
          · have := List.mem_singleton.mp h; omega
theorem add_lst {a b : List D} (h : a.length + b.length ≤ 16777216) : D.add (.lst a) (.lst b) = .ok (.lst (a ++ b)) := by
  show (if a.length + b.length ≤ sizeLine then _ else _) = _
  rw [if_pos (by rw [sizeLine_eq]; exact h)]
theorem add_tup {a b : List D} (h : a.length + b.length ≤ 16777216) : D.add (.tup a) (.tup b) = .ok (.tup (a ++ b)) := by
  show (if a.length + b.length ≤ sizeLine then _ else _) = _
  rw [if_pos (by rw [sizeLine_eq]; exact h)]
theorem lot_snoc {l : List Nat} {k : Nat} (h : l.length ≤ 1000) : D.add (lotD l) (.tup [nI k]) = .ok (lotD (l ++ [k])) := by
  rw [add_tup (by rw [List.length_map, List.length_singleton]; omega)]
  rw [show lotD (l ++ [k]) = .tup (l.map nI ++ [nI k]) by rw [← List.map_singleton, ← List.map_append]]
theorem lots_add {n : Nat} (h : n < 10) : D.add (.lst ((lotsL n).map lotD)) (.lst ((lotsL n).map fun l => lotD (l ++ [n]))) = .ok (.lst ((lotsL (n + 1)).map lotD)) := by
  have := lotsL_le (n := n) (by omega)
  rw [add_lst (by rw [List.length_map, List.length_map]; omega), lotsL, List.map_append, List.map_map]
  rfl
theorem lots_lt {n : Nat} {l : List Nat} (h : n ≤ 10) (hl : l ∈ lotsL n) : l.length ≤ 10 := Nat.le_trans ((mem_lots n l).mp hl).length h
theorem scalL_ok {m : G.Env → R D} {ρ : G.Env} {l : List Nat} (h : m ρ = .ok (.lst (l.map nI))) : mScalL m ρ = .ok (.lst (l.map nI)) := by
  unfold mScalL
  rw [h, R.bind_ok]
  dsimp only
  rw [if_pos]
  rw [List.all_map, List.all_eq_true]
  exact fun _ _ => rfl
theorem wh_step {c : G.Env → R Bool} {b : G.Env → Out} {n : Nat} {ρ ρ' : G.Env} {o : Out} (h1 : c ρ = .ok true) (h2 : b ρ = .nx ρ') (h3 : whileN c b n ρ' = o) : whileN c b (n + 1) ρ = o := by
  unfold whileN
  rw [h1]
  show (match b ρ with | .nx ρ' => whileN c b n ρ' | .ct ρ' => whileN c b n ρ' | .bk ρ' => .nx ρ' | x => x) = o
  rw [h2]
  exact h3
theorem wh_end {c : G.Env → R Bool} {b : G.Env → Out} {n : Nat} {ρ : G.Env} (h1 : c ρ = .ok false) : whileN c b (n + 1) ρ = .nx ρ := by
  unfold whileN
  rw [h1]
  rfl
theorem loop_stop {mg : D → G.Env → R G.Env} {mb : G.Env → Out} {d e : D} {ds : List D} {ρ ρ1 : G.Env} (h1 : mg d ρ = .ok ρ1) (h2 : mb ρ1 = .rt e) : loopD (stepD mg mb) (d :: ds) ρ = .rt e := by
  unfold loopD stepD
  rw [h1]
  dsimp only
  rw [h2]
theorem mLc_mapN {α : Type} {vs : List Nat} {mi : G.Env → R (List D)} {i : Nat} {me : G.Env → R D} {ρ : G.Env} {emb : α → D} {l : List α} (f : α → D) (hi : mi ρ = .ok (l.map emb)) (hl : l.length ≤ 16777216)
    (h : ∀ a ∈ l, me ((wipeD ρ vs).set i (some (emb a))) = .ok (f a)) : mLc vs mi (gnName i) mYes me ρ = .ok (.lst (l.map f)) :=
  mLc_map (fun a => (wipeD ρ vs).set i (some (emb a))) f hi hl fun a ha => ⟨rfl, h a ha⟩
theorem mLc_filN {α : Type} {vs : List Nat} {mi : G.Env → R (List D)} {i : Nat} {mt : G.Env → R Bool} {me : G.Env → R D} {ρ : G.Env} {emb : α → D} {l : List α} (p : α → Bool) (f : α → D) (hi : mi ρ = .ok (l.map emb)) (hl : l.length ≤ 16777216)
    (h : ∀ a ∈ l, mt ((wipeD ρ vs).set i (some (emb a))) = .ok (p a) ∧ me ((wipeD ρ vs).set i (some (emb a))) = .ok (f a)) : mLc vs mi (gnName i) mt me ρ = .ok (.lst ((l.filter p).map f)) :=
  mLc_fil (fun a => (wipeD ρ vs).set i (some (emb a))) p f hi hl fun a ha => ⟨rfl, (h a ha).1, fun _ => (h a ha).2⟩
theorem find_loop {α : Type} {emb : α → D} {f : D → G.Env → Out} (I : G.Env → Prop) (p : α → Bool) (v : α → D) :
    ∀ (l : List α) (ρ : G.Env), I ρ → (∀ a ∈ l, ∀ ρ, I ρ → (p a = true → f (emb a) ρ = .rt (v a)) ∧ (p a = false → ∃ ρ', I ρ' ∧ f (emb a) ρ = .nx ρ')) →
    (∀ a, l.find? p = some a → loopD f (l.map emb) ρ = .rt (v a)) ∧ (l.find? p = none → ∃ ρ', I ρ' ∧ loopD f (l.map emb) ρ = .nx ρ')
  | [], ρ, hI, _ => And.intro (fun _ h => nomatch h) (fun _ => ⟨ρ, hI, rfl⟩)
  | a :: l, ρ, hI, h => by
    have h0 := h a (.head _) ρ hI
    have ef : (a :: l).find? p = if p a = true then some a else l.find? p := by
      rw [List.find?_cons]
      cases p a <;> rfl
    cases hp : p a with
    | true =>
      rw [ef, if_pos hp, List.map_cons]
      refine ⟨fun b hb => ?_, fun hb => by cases hb⟩
      cases hb
      show (match f (emb a) ρ with | .nx ρ' => loopD f (l.map emb) ρ' | .ct ρ' => loopD f (l.map emb) ρ' | .bk ρ' => .nx ρ' | x => x) = _
      rw [h0.1 hp]
    | false =>
      obtain ⟨ρ', hI', e⟩ := h0.2 hp
      have ih := find_loop I p v l ρ' hI' fun b hb => h b (.tail _ hb)
      have e2 : loopD f ((a :: l).map emb) ρ = loopD f (l.map emb) ρ' := by
        rw [List.map_cons]
        show (match f (emb a) ρ with | .nx ρ' => loopD f (l.map emb) ρ' | .ct ρ' => loopD f (l.map emb) ρ' | .bk ρ' => .nx ρ' | x => x) = _
        rw [e]
      rw [e2, ef, if_neg (by rw [hp]; exact Bool.false_ne_true)]
      exact ih
theorem for_ok {mi : G.Env → R (List D)} {mg : D → G.Env → R G.Env} {mb : G.Env → Out} {ρ : G.Env} {ds : List D} {o : Out} (hi : mi ρ = .ok ds) (hl : loopD (stepD mg mb) ds ρ = o) : mFor mi mg mb ρ = o := by
  unfold mFor
  rw [hi]
  exact hl
theorem res_rt {a b : G.Env → Out} {ρ : G.Env} {d : D} (h : a ρ = .rt d) : (mSeq a b ρ).res = .ok d := congrArg Out.res (seq_rt h)
theorem in_nat (x : Nat) (l : List Nat) : D.isIn (nI x) (lotD l) = .ok (.bl (decide (x ∈ l))) := by rw [in_tup (n := 0) (by omega) okD_int (nI_ok l), dIn_nI]
theorem notIn_nat (x : Nat) (l : List Nat) : D.notIn (nI x) (lotD l) = .ok (.bl (!decide (x ∈ l))) := by rw [notIn_tup (n := 0) (by omega) okD_int (nI_ok l), dIn_nI]
theorem in_natL (x : Nat) (l : List Nat) : D.isIn (nI x) (.lst (l.map nI)) = .ok (.bl (decide (x ∈ l))) := by rw [in_lst (n := 0) (by omega) okD_int (nI_ok l), dIn_nI]
def rowK (rows : List Row) (k : Nat) : Row := rows.getD k (0, 0, 0)
def fromL (rows : List Row) (q : Row → Bool) : List Nat := (List.range rows.length).filter fun k => q (rowK rows k)
theorem mem_fromL {rows : List Row} {q : Row → Bool} {k : Nat} : k ∈ fromL rows q ↔ k < rows.length ∧ q (rowK rows k) = true := by
  unfold fromL
  rw [List.mem_filter, List.mem_range]
theorem fromL_lot (rows : List Row) (q : Row → Bool) : Lot rows.length (fromL rows q) := fil_lot _ _
theorem enum_rows (rows : List Row) : dEnum D.seq (.tup (rows.map rowD)) = .ok ((List.range rows.length).map fun i => .tup [nI i, rowD (rowK rows i)]) := by
  show R.ok (enumD (rows.map rowD)) = _
  unfold enumD rowK
  refine congrArg R.ok (List.ext_getElem ?_ fun i h1 h2 => ?_)
  · simp
  · have hi : i < rows.length := by simpa using h1
    simp [List.getD_eq_getElem?_getD, List.getElem?_eq_getElem hi]
theorem fromL_ok {many : Nat} {rows : List Row} {x : D} {mt : G.Env → R Bool} {q : Row → Bool} (hr : rows.length ≤ 1000) (ht : ∀ k, k < rows.length → mt [some (webD many rows), some x, some (nI k), some (rowD (rowK rows k))] = .ok (q (rowK rows k))) :
    mLc [2, 3] (mSq (dEnum D.seq) (m2 D.ix (mVar 0) (mC (.int 1)))) (gnTup 2 (gnCons (gnName 2) (gnCons (gnName 3) gnNil))) mt (mVar 2) [some (webD many rows), some x, none, none] = .ok (.lst ((fromL rows q).map nI)) :=
  mLc_fil (emb := fun i => .tup [nI i, rowD (rowK rows i)]) (l := List.range rows.length) (r := fun k => [some (webD many rows), some x, some (nI k), some (rowD (rowK rows k))]) (p := fun k => q (rowK rows k)) (f := nI) (sq_ok (m2_ok rfl rfl (web1 _ _)) (enum_rows rows)) (by rw [List.length_range]; omega) fun k hk => ⟨rfl, ht k (List.mem_range.mp hk), fun _ => rfl⟩
def gvL (rows : List Row) (p : Nat) : List Nat := fromL rows fun r => decide (r.1 = p)
def gtL (rows : List Row) (p : Nat) : List Nat := fromL rows fun r => decide (r.2.1 = p)
theorem f_givenBy {many : Nat} {rows : List Row} (hr : rows.length ≤ 1000) (p : Nat) : m_given_by.fn [webD many rows, nI p] = .ok (.lst ((gvL rows p).map nI)) := by
  rw [fn_run rfl]
  show (b_given_by [some (webD many rows), some (nI p), none, none]).res = _
  unfold b_given_by
  exact ret_res (fromL_ok hr fun k hk => b_ok (m2_ok (m2_ok rfl rfl (row0 _)) rfl (deqN _ _)))
theorem f_gotBy {many : Nat} {rows : List Row} (hr : rows.length ≤ 1000) (p : Nat) : m_got_by.fn [webD many rows, nI p] = .ok (.lst ((gtL rows p).map nI)) := by
  rw [fn_run rfl]
  show (b_got_by [some (webD many rows), some (nI p), none, none]).res = _
  unfold b_got_by
  exact ret_res (fromL_ok hr fun k hk => b_ok (m2_ok (m2_ok rfl rfl (row1 _)) rfl (deqN _ _)))
theorem fromL_le (rows : List Row) (q : Row → Bool) : (fromL rows q).length ≤ rows.length := (fromL_lot rows q).length
def optD : Option Nat → D
  | some p => nI p
  | none => .non
theorem nodup1 {α : Type} (a : α) : [a].Nodup := List.nodup_cons.mpr ⟨fun h => (List.not_mem_nil h).elim, List.nodup_nil⟩
theorem nodup_le {n : Nat} {l : List Nat} (h : l.Nodup) (hb : ∀ x ∈ l, x < n) : l.length ≤ n := by
  have := List.Nodup.length_le_of_subset h (l₂ := List.range n) fun x hx => List.mem_range.mpr (hb x hx)
  rwa [List.length_range] at this
theorem rowK_mem {rows : List Row} {k : Nat} (h : k < rows.length) : rowK rows k ∈ rows := by
  unfold rowK
  rw [row_getD h]
  exact List.getElem_mem h
theorem all_iff {l lot : List Nat} : (l.all fun k => decide (k ∈ lot)) = true ↔ ∀ k ∈ l, k ∈ lot := by
  rw [List.all_eq_true]
  exact ⟨fun h k hk => of_decide_eq_true (h k hk), fun h k hk => decide_eq_true (h k hk)⟩
theorem any_iff {l lot : List Nat} : (l.any fun k => decide (k ∈ lot)) = true ↔ ∃ k ∈ l, k ∈ lot := by
  rw [List.any_eq_true]
  exact ⟨fun ⟨k, hk, h⟩ => ⟨k, hk, of_decide_eq_true h⟩, fun ⟨k, hk, h⟩ => ⟨k, hk, decide_eq_true h⟩⟩
theorem scal_int {m : G.Env → R D} {ρ : G.Env} {i : Int} (h : m ρ = .ok (.int i)) : mScal m ρ = .ok (.int i) := by
  unfold mScal
  rw [h]
  rfl
theorem mem_gtL {rows : List Row} {p k : Nat} : k ∈ gtL rows p ↔ k < rows.length ∧ (rowK rows k).2.1 = p := by
  unfold gtL
  rw [mem_fromL, decide_eq_true_iff]
theorem tups_ix {X : List (List Nat)} {k : Nat} (h : k < X.length) : D.ix (.tup (X.map lotD)) (nI k) = .ok (lotD X[k]) := ix_tup (by
  rw [atI_nat (n := k) rfl (by rw [List.length_map]; exact h), List.getElem_map])
theorem rg1_ok {m : G.Env → R D} {ρ : G.Env} {n : Nat} {r : R D} (h : m ρ = .ok (nI n)) (h2 : dRgT 0 (n : Int) = r) : mRg1 dRgT m ρ = r := by
  unfold mRg1
  rw [h]
  exact h2
theorem lot_ok1 (l : List Nat) : okD 1 (lotD l) = true := nI_ok (n := 0) l
theorem f_lawGives {many : Nat} {rows : List Row} (hr : rows.length ≤ 1000) (p : Nat) : m__law_gives.fn [webD many rows, nI p] = .ok (.lst ((gvL rows p).map nI)) := by
  rw [fn_run rfl]
  show (b__law_gives [some (webD many rows), some (nI p), none]).res = _
  unfold b__law_gives
  refine ret_res (mLc_filN (emb := nI) (l := List.range rows.length) (fun k => decide ((rowK rows k).1 = p)) nI (sq_ok (call1_ok (m2_ok rfl rfl (web1 _ _)) ((len_tup _).trans (by rw [List.length_map]))) (range1_ok (by omega))) (by rw [List.length_range]; omega) fun k hk => ⟨b_ok (m2_ok (m2_ok (m2_ok (m2_ok rfl rfl (web1 _ _)) rfl ((rows_ix (List.mem_range.mp hk)).trans (by rw [rowK, row_getD (List.mem_range.mp hk)]))) rfl (row0 _)) rfl (deqN _ _)), rfl⟩)
theorem f_lawGets {many : Nat} {rows : List Row} (hr : rows.length ≤ 1000) (p : Nat) : m__law_gets.fn [webD many rows, nI p] = .ok (.lst ((gtL rows p).map nI)) := f_gets many rows p hr
/-- a transfer of the web, read by its number -/
theorem rowAt {many : Nat} {rows : List Row} {ρ : G.Env} {i j : Nat} {k : Nat} (h0 : ρ[i]? = some (some (webD many rows))) (h1 : ρ[j]? = some (some (nI k))) (hk : k < rows.length) : m2 D.ix (m2 D.ix (mVar i) (mC (.int 1))) (mVar j) ρ = .ok (rowD (rowK rows k)) := by
  have e0 : mVar i ρ = .ok (webD many rows) := by unfold mVar; rw [h0]
  have e1 : mVar j ρ = .ok (nI k) := by unfold mVar; rw [h1]
  exact m2_ok (m2_ok e0 rfl (web1 _ _)) e1 ((rows_ix hk).trans (by rw [rowK, row_getD hk]))
theorem and_f {a b : G.Env → R Bool} {ρ : G.Env} (h : a ρ = .ok false) : mAnd a b ρ = .ok false := by
  unfold mAnd
  rw [h]
  rfl
theorem single_of {α : Type} {g : α} : ∀ {B : List α}, B.Nodup → g ∈ B → (∀ S ∈ B, S = g) → B = [g]
  | [], _, h, _ => nomatch h
  | [a], _, _, h => by rw [h a (.head _)]
  | a :: b :: t, hn, _, h => by
    have e := (h a (.head _)).trans (h b (.tail _ (.head _))).symm
    exact absurd (e ▸ List.mem_cons_self) (List.nodup_cons.mp hn).1
theorem call2_ok {f : D → D → R D} {a b : G.Env → R D} {ρ : G.Env} {x y : D} {r : R D} (h1 : a ρ = .ok x) (h2 : b ρ = .ok y) (hf : f x y = r) : mCall (d2 f) (mCons a (mCons b mNil)) ρ = r := by
  unfold mCall
  rw [cons_ok h1 (cons_ok h2 rfl)]
  exact hf
def addL (f : List (List Nat)) (x : List Nat) : List (List Nat) := if x ∈ f then f else f ++ [x]
theorem mem_addL {f : List (List Nat)} {x y : List Nat} : y ∈ addL f x ↔ y ∈ f ∨ y = x := by
  unfold addL
  by_cases h : x ∈ f
  · rw [if_pos h]; exact ⟨.inl, fun z => z.elim id fun e => by rw [e]; exact h⟩
  · rw [if_neg h, List.mem_append, List.mem_singleton]
theorem addL_len (f : List (List Nat)) (x : List Nat) : (addL f x).length ≤ f.length + 1 := by
  unfold addL
  split
  · omega
  · rw [List.length_append, List.length_singleton]; omega
def kL (l : List Nat) : List Key := l.map fun (x : Nat) => Sum.inl (x : Int)
def kD (l : List Nat) : DK := .t (kL l)
def bndD (kl : List (List Nat)) : D := .dic true (kl.map kD) (kl.map fun _ => .bl true)
theorem keyL_lot : ∀ l : List Nat, D.keyL (l.map nI) = some (kL l)
  | [] => rfl
  | x :: l => by
    rw [List.map_cons]
    unfold D.keyL
    rw [keyL_lot l]
    rfl
theorem lot_key (l : List Nat) : (lotD l).key = some (kD l) := by
  show (D.keyL (l.map nI)).map DK.t = _
  rw [keyL_lot]
  rfl
theorem kL_inj : ∀ {l m : List Nat}, kL l = kL m → l = m
  | [], [], _ => rfl
  | [], _ :: _, h => nomatch h
  | _ :: _, [], h => nomatch h
  | x :: l, y :: m, h => by
    unfold kL at h
    rw [List.map_cons, List.map_cons] at h
    injection h with h1 h2
    injection h1 with h1
    rw [kL_inj (l := l) (m := m) h2, Int.ofNat.inj h1]
theorem kD_inj {l m : List Nat} (h : kD l = kD m) : l = m := kL_inj (by injection h)
theorem dhas_kD (kl : List (List Nat)) (x : List Nat) : dhas (kl.map kD) (kD x) = decide (x ∈ kl) := bool_ext (by
  unfold dhas
  rw [List.any_map, List.any_eq_true, decide_eq_true_iff]
  constructor
  · rintro ⟨y, hy, e⟩
    exact (kD_inj (of_decide_eq_true e)) ▸ hy
  · exact fun h => ⟨x, h, decide_eq_true rfl⟩)
theorem dputV_same (x : DK) : ∀ kl : List (List Nat), dputV (kl.map kD) (kl.map fun _ => D.bl true) x (.bl true) = kl.map fun _ => D.bl true
  | [] => rfl
  | k :: kl => by
    rw [List.map_cons, List.map_cons]
    show (if kD k = x then D.bl true else D.bl true) :: dputV (kl.map kD) (kl.map fun _ => D.bl true) x (.bl true) = _
    rw [dputV_same x kl]
    split <;> rfl
theorem dput_kD (kl : List (List Nat)) (x : List Nat) : dput (kl.map kD) (kl.map fun _ => D.bl true) (kD x) (.bl true) = ((addL kl x).map kD, (addL kl x).map fun _ => D.bl true) := by
  unfold dput addL
  rw [dhas_kD]
  by_cases h : x ∈ kl
  · rw [if_pos (decide_eq_true h), if_pos h, dputV_same]
  · rw [if_neg (by rw [decide_eq_false h]; exact Bool.false_ne_true), if_neg h, List.map_append, List.map_append]
    rfl
theorem bnd_put {i : Nat} {ρ : G.Env} {kl : List (List Nat)} {x : List Nat} {mk mv : G.Env → R D} (h1 : ρ[i]? = some (some (bndD kl))) (hk : mk ρ = .ok (lotD x)) (hv : mv ρ = .ok (.bl true)) (hl : kl.length ≤ 1000) :
    mDPut i mk mv ρ = .nx (ρ.set i (some (bndD (addL kl x)))) := by
  unfold mDPut
  rw [hv]
  show (match ρ[i]? with
    | some (some (.dic t ks ds)) => oBind (mk ρ) ρ fun j => (match j.key with
      | some k => if isKind t k = true ∧ ks.length < sizeLine then Out.nx (ρ.set i (some (.dic t (dput ks ds k (.bl true)).1 (dput ks ds k (.bl true)).2))) else .bad
      | none => .bad)
    | _ => .bad) = _
  rw [h1]
  show oBind (mk ρ) ρ _ = _
  rw [hk]
  show (match (lotD x).key with
      | some k => if isKind true k = true ∧ (kl.map kD).length < sizeLine then Out.nx (ρ.set i (some (.dic true (dput (kl.map kD) (kl.map fun _ => D.bl true) k (.bl true)).1 (dput (kl.map kD) (kl.map fun _ => D.bl true) k (.bl true)).2))) else .bad
      | none => .bad) = _
  rw [lot_key]
  dsimp only
  rw [if_pos ⟨rfl, by rw [List.length_map, sizeLine_eq]; omega⟩, dput_kD]
  rfl
theorem lot_nil (n : Nat) : Lot n [] := ⟨fun _ h => (nomatch h), .nil⟩
theorem fdivN {a b : Nat} (h : b ≠ 0) (h2 : b < 1000000) : D.fdiv (nI a) (nI b) = .ok (nI (a / b)) := by
  rw [show (nI a : D) = .int (a : Int) from rfl, show (nI b : D) = .int (b : Int) from rfl, fdiv_ok (by omega) (by omega)]
  exact congrArg (fun z => R.ok (D.int z)) (Int.ofNat_fdiv a b).symm
theorem ne_lot (l : List Nat) : D.ne (lotD l) (lotD l) = .ok (.bl false) := by
  rw [ne_ok (n := 1) (by omega) (lot_ok1 l) (lot_ok1 l), dq_iff.mpr rfl]
  rfl
theorem cut_tupF (ds : List D) (k : Nat) : D.cut (.tup ds) (some (k : Int)) none = .ok (.tup (ds.drop k)) := by
  show R.ok (D.tup ((ds.drop (HT.sIx ds.length 0 (some (k : Int)))).take (HT.sIx ds.length ds.length none - HT.sIx ds.length 0 (some (k : Int))))) = _
  rw [HT.sIx_none, HT.sIx_nat]
  rcases Nat.le_total k ds.length with h | h
  · rw [Nat.min_eq_left h, List.take_of_length_le (by rw [List.length_drop]; omega)]
  · rw [Nat.min_eq_right h, List.drop_length, List.drop_of_length_le h, List.take_nil]
theorem sl_from {a : G.Env → R D} {ρ : G.Env} {ds : List D} (h : a ρ = .ok (.tup ds)) : mSl a (mPart (mC (.int 1))) mNoP ρ = .ok (.tup (ds.drop 1)) := by
  unfold mSl
  rw [h]
  show D.cut (.tup ds) (some ((1 : Nat) : Int)) none = _
  rw [cut_tupF]
theorem neN (a b : Nat) : D.ne (nI a) (nI b) = .ok (.bl (!decide (a = b))) := by
  rw [show D.ne (nI a) (nI b) = D.ne (.int (a : Int)) (.int (b : Int)) from rfl, dne]
  have : decide ((a : Int) = (b : Int)) = decide (a = b) := bool_ext (by rw [decide_eq_true_iff, decide_eq_true_iff]; omega)
  rw [this]
abbrev amK (am : List Nat) (k : Nat) : Nat := am.getD k 0
def sumL2 (am : List Nat) (l : List Nat) : Nat := (l.map (amK am)).sum
theorem am_ix {am : List Nat} {k : Nat} (h : k < am.length) : D.ix (lotD am) (nI k) = .ok (nI (amK am k)) := ix_tup (by
  rw [atI_nat (n := k) rfl (by rw [List.length_map]; exact h), List.getElem_map]
  show some (nI am[k]) = some (nI (am.getD k 0))
  rw [List.getD_eq_getElem?_getD, List.getElem?_eq_getElem h]
  rfl)
theorem cast_sum : ∀ l : List Nat, (l.map fun (x : Nat) => (x : Int)).sum = ((l.sum : Nat) : Int)
  | [] => rfl
  | x :: l => by
    rw [List.map_cons, List.sum_cons, List.sum_cons, cast_sum l]
    omega
theorem sum_ok (l : List Nat) : D.sum (.lst (l.map nI)) = .ok (nI l.sum) := by
  have em : l.map nI = (l.map fun (x : Nat) => (x : Int)).map D.int := by rw [List.map_map]; rfl
  unfold D.sum dInts
  rw [em]
  dsimp only [D.items]
  rw [ints_map]
  show R.ok (D.int ((l.map fun (x : Nat) => (x : Int)).sum)) = _
  rw [cast_sum]
def outP (l lot : List Nat) : List Nat := l.filter fun k => !decide (k ∈ lot)
def netI (rows : List Row) (am : List Nat) (p : Nat) (lot : List Nat) : Int := (sumL2 am (outP (gvL rows p) lot) : Int) - (sumL2 am (outP (gtL rows p) lot) : Int)
theorem f_netOf {many : Nat} {rows : List Row} {am : List Nat} (hr : rows.length ≤ 1000) (ha : am.length = rows.length) (p : Nat) (lot : List Nat) : m_net_of.fn [webD many rows, lotD am, nI p, lotD lot] = .ok (.int (netI rows am p lot)) := by
  have h1 := fromL_le rows fun r => decide (r.1 = p)
  have h2 := fromL_le rows fun r => decide (r.2.1 = p)
  rw [fn_run rfl]
  show (b_net_of [some (webD many rows), some (lotD am), some (nI p), some (lotD lot), none, none]).res = _
  unfold b_net_of
  refine seq_res (ρ' := [some (webD many rows), some (lotD am), some (nI p), some (lotD lot), some (nI (sumL2 am (outP (gvL rows p) lot))), none]) (set_nx (d := nI (sumL2 am (outP (gvL rows p) lot))) (call1_ok (x := .lst (((outP (gvL rows p) lot).map (amK am)).map nI)) (Eq.trans (mLc_filN (emb := nI) (l := gvL rows p) (fun k => !decide (k ∈ lot)) (fun k => nI (amK am k)) (sq_ok (callN_ok (cons_ok rfl (cons_ok rfl rfl)) rfl (f_givenBy hr p)) rfl) (by unfold gvL; omega) fun k hk => ⟨b_ok (m2_ok rfl rfl (notIn_nat _ _)), m2_ok rfl rfl (am_ix (by rw [ha]; exact (mem_fromL.mp hk).1))⟩) (by rw [List.map_map]; rfl)) (sum_ok _))) ?_
  exact ret_res (m2_ok rfl (call1_ok (x := .lst (((outP (gtL rows p) lot).map (amK am)).map nI)) (Eq.trans (mLc_filN (emb := nI) (l := gtL rows p) (fun k => !decide (k ∈ lot)) (fun k => nI (amK am k)) (sq_ok (callN_ok (cons_ok rfl (cons_ok rfl rfl)) rfl (f_gotBy hr p)) rfl) (by unfold gtL; omega) fun k hk => ⟨b_ok (m2_ok rfl rfl (notIn_nat _ _)), m2_ok rfl rfl (am_ix (by rw [ha]; exact (mem_fromL.mp hk).1))⟩) (by rw [List.map_map]; rfl)) (sum_ok _)) rfl)
theorem f_lawNet {many : Nat} {rows : List Row} {am : List Nat} (hr : rows.length ≤ 1000) (ha : am.length = rows.length) (p : Nat) (lot : List Nat) : m__law_net.fn [webD many rows, lotD am, nI p, lotD lot] = .ok (.int (netI rows am p lot)) := by
  have h1 := fromL_le rows fun r => decide (r.1 = p)
  have h2 := fromL_le rows fun r => decide (r.2.1 = p)
  rw [fn_run rfl]
  show (b__law_net [some (webD many rows), some (lotD am), some (nI p), some (lotD lot), none, none]).res = _
  unfold b__law_net
  refine seq_res (ρ' := [some (webD many rows), some (lotD am), some (nI p), some (lotD lot), some (nI (sumL2 am (outP (gvL rows p) lot))), none]) (set_nx (d := nI (sumL2 am (outP (gvL rows p) lot))) (call1_ok (x := .lst (((outP (gvL rows p) lot).map (amK am)).map nI)) (Eq.trans (mLc_filN (emb := nI) (l := gvL rows p) (fun k => !decide (k ∈ lot)) (fun k => nI (amK am k)) (sq_ok (callN_ok (cons_ok rfl (cons_ok rfl rfl)) rfl (f_lawGives hr p)) rfl) (by unfold gvL; omega) fun k hk => ⟨b_ok (m2_ok rfl rfl (notIn_nat _ _)), m2_ok rfl rfl (am_ix (by rw [ha]; exact (mem_fromL.mp hk).1))⟩) (by rw [List.map_map]; rfl)) (sum_ok _))) ?_
  exact ret_res (m2_ok rfl (call1_ok (x := .lst (((outP (gtL rows p) lot).map (amK am)).map nI)) (Eq.trans (mLc_filN (emb := nI) (l := gtL rows p) (fun k => !decide (k ∈ lot)) (fun k => nI (amK am k)) (sq_ok (callN_ok (cons_ok rfl (cons_ok rfl rfl)) rfl (f_lawGets hr p)) rfl) (by unfold gtL; omega) fun k hk => ⟨b_ok (m2_ok rfl rfl (notIn_nat _ _)), m2_ok rfl rfl (am_ix (by rw [ha]; exact (mem_fromL.mp hk).1))⟩) (by rw [List.map_map]; rfl)) (sum_ok _)) rfl)
def honB (rows : List Row) (leader p : Nat) (lot : List Nat) : Bool := bif decide (p = leader) || ((gvL rows p).any fun k => decide (k ∈ lot)) then (gtL rows p).all fun k => decide (k ∈ lot) else true
def shortB (rows : List Row) (leader base : Nat) (am : List Nat) (p : Nat) (lot : List Nat) : Bool := honB rows leader p lot && decide (netI rows am p lot < (base : Int) * ((outP (gvL rows p) lot).length : Int))
theorem sumL2_le {am : List Nat} {base : Nat} : ∀ {l : List Nat}, (∀ k ∈ l, base ≤ amK am k) → base * l.length ≤ sumL2 am l
  | [], _ => Nat.zero_le _
  | k :: l, h => by
    have h1 := h k (.head _)
    have h2 := sumL2_le (l := l) fun j hj => h j (.tail _ hj)
    show base * (l.length + 1) ≤ amK am k + sumL2 am l
    rw [Nat.mul_add, Nat.mul_one]
    omega
theorem sumL2_fil {am : List Nat} (q : Nat → Bool) : ∀ l : List Nat, sumL2 am (l.filter q) ≤ sumL2 am l
  | [] => Nat.le_refl _
  | k :: l => by
    have h := sumL2_fil (am := am) q l
    rw [List.filter_cons]
    split
    · show amK am k + sumL2 am (l.filter q) ≤ amK am k + sumL2 am l
      omega
    · show sumL2 am (l.filter q) ≤ amK am k + sumL2 am l
      omega
/-- where each gift has its base and each but the leader is paid for all, nobody is paid too little by an honest lot -/
theorem short_none {rows : List Row} {leader base : Nat} {am : List Nat} {p : Nat} (h1 : ∀ k ∈ gvL rows p, base ≤ amK am k) (h2 : p ≠ leader → (base : Int) * ((gvL rows p).length : Int) ≤ netI rows am p []) (lot : List Nat) : shortB rows leader base am p lot = false := by
  unfold shortB
  cases hh : honB rows leader p lot with
  | false => rfl
  | true =>
    rw [Bool.true_and, decide_eq_false_iff_not]
    have hb : base * (outP (gvL rows p) lot).length ≤ sumL2 am (outP (gvL rows p) lot) := sumL2_le fun k hk => h1 k (List.mem_filter.mp hk).1
    have hb2 : (base : Int) * ((outP (gvL rows p) lot).length : Int) ≤ (sumL2 am (outP (gvL rows p) lot) : Int) := by exact_mod_cast hb
    unfold honB at hh
    by_cases c : (decide (p = leader) || ((gvL rows p).any fun k => decide (k ∈ lot))) = true
    · rw [c] at hh
      have hn : outP (gtL rows p) lot = [] := by
        unfold outP
        rw [List.filter_eq_nil_iff]
        intro k hk
        have := List.all_eq_true.mp hh k hk
        rw [this]
        exact Bool.false_ne_true
      unfold netI
      rw [hn]
      show ¬ (sumL2 am (outP (gvL rows p) lot) : Int) - ((0 : Nat) : Int) < _
      omega
    · have c2 : decide (p = leader) = false ∧ ((gvL rows p).any fun k => decide (k ∈ lot)) = false := by
        rw [Bool.not_eq_true, Bool.or_eq_false_iff] at c
        exact c
      have hp : p ≠ leader := of_decide_eq_false c2.1
      have hall : outP (gvL rows p) lot = gvL rows p := by
        unfold outP
        rw [List.filter_eq_self]
        intro k hk
        have := List.any_eq_false.mp c2.2 k hk
        rw [Bool.not_eq_true] at this
        rw [this]
        rfl
      have h3 := h2 hp
      have h4 : outP (gvL rows p) [] = gvL rows p := List.filter_eq_self.mpr fun _ _ => rfl
      have h5 : outP (gtL rows p) [] = gtL rows p := List.filter_eq_self.mpr fun _ _ => rfl
      have h6 := sumL2_fil (am := am) (fun k => !decide (k ∈ lot)) (gtL rows p)
      unfold netI at h3 ⊢
      rw [h4, h5] at h3
      rw [hall]
      have h7 : (sumL2 am (outP (gtL rows p) lot) : Int) ≤ (sumL2 am (gtL rows p) : Int) := by exact_mod_cast h6
      omega
/-- all transfers but one -/
def butL (n k : Nat) : List Nat := (List.range n).filter fun j => !decide (j = k)
theorem mem_but {n k j : Nat} : j ∈ butL n k ↔ j < n ∧ j ≠ k := by
  unfold butL
  rw [List.mem_filter, List.mem_range, Bool.not_eq_true', decide_eq_false_iff_not]
theorem short_one {many : Nat} {rows : List Row} {leader base : Nat} {am : List Nat} {p k : Nat} (hok : ∀ r ∈ rows, RowOk many r) (hk : k ∈ gvL rows p) (hb : amK am k < base) : shortB rows leader base am p (butL rows.length k) = true := by
  obtain ⟨hk1, hk2⟩ := mem_fromL.mp hk
  have hg : (rowK rows k).1 = p := of_decide_eq_true hk2
  have hgt : ∀ j ∈ gtL rows p, j ∈ butL rows.length k := fun j hj => by
    obtain ⟨h1, h2⟩ := mem_gtL.mp hj
    refine mem_but.mpr ⟨h1, fun e => ?_⟩
    subst e
    exact (hok _ (rowK_mem h1)).2.2.1 (by rw [hg, h2])
  have hon : honB rows leader p (butL rows.length k) = true := by
    unfold honB
    rw [all_iff.mpr hgt]
    cases (decide (p = leader) || ((gvL rows p).any fun j => decide (j ∈ butL rows.length k))) <;> rfl
  have h1 : outP (gvL rows p) (butL rows.length k) = [k] := by
    refine single_of (((fromL_lot rows _).nodup).sublist List.filter_sublist) (List.mem_filter.mpr ⟨hk, by rw [decide_eq_false fun z => (mem_but.mp z).2 rfl]; rfl⟩) fun j hj => ?_
    obtain ⟨a1, a2⟩ := List.mem_filter.mp hj
    have a3 : j ∉ butL rows.length k := by
      rw [Bool.not_eq_true', decide_eq_false_iff_not] at a2
      exact a2
    exact Classical.byContradiction fun z => a3 (mem_but.mpr ⟨(mem_fromL.mp a1).1, z⟩)
  have h2 : outP (gtL rows p) (butL rows.length k) = [] := by
    unfold outP
    rw [List.filter_eq_nil_iff]
    intro j hj
    rw [decide_eq_true (hgt j hj)]
    exact Bool.false_ne_true
  unfold shortB netI
  rw [hon, Bool.true_and, decide_eq_true_iff, h1, h2]
  show ((amK am k + 0 : Nat) : Int) - ((0 : Nat) : Int) < (base : Int) * (((0 + 1 : Nat)) : Int)
  omega
theorem short_bare {rows : List Row} {leader base : Nat} {am : List Nat} {p : Nat} (hp : p ≠ leader) (h : netI rows am p [] < (base : Int) * ((gvL rows p).length : Int)) : shortB rows leader base am p [] = true := by
  have hon : honB rows leader p [] = true := by
    unfold honB
    have : ((gvL rows p).any fun k => decide (k ∈ ([] : List Nat))) = false := by
      rw [List.any_eq_false]
      exact fun k _ => Bool.false_ne_true
    rw [this, decide_eq_false hp]
    rfl
  unfold shortB
  rw [hon, Bool.true_and, decide_eq_true_iff]
  rw [show outP (gvL rows p) [] = gvL rows p from List.filter_eq_self.mpr fun _ _ => rfl]
  exact h
/-- what the program tells -/
def shortP (n : Nat) (rows : List Row) (leader base : Nat) (am : List Nat) (p : Nat) : Option (List Nat) := match (gvL rows p).find? fun k => decide (amK am k < base) with
  | some k => some (butL n k)
  | none => if p ≠ leader ∧ netI rows am p [] < (base : Int) * ((gvL rows p).length : Int) then some [] else none
theorem shortP_none {rows : List Row} {leader base : Nat} {am : List Nat} {p : Nat} (h : shortP rows.length rows leader base am p = none) (lot : List Nat) : shortB rows leader base am p lot = false := by
  unfold shortP at h
  cases hf : (gvL rows p).find? fun k => decide (amK am k < base) with
  | some k => rw [hf] at h; exact nomatch h
  | none =>
    rw [hf] at h
    dsimp only at h
    have h1 := List.find?_eq_none.mp hf
    refine short_none (fun k hk => ?_) (fun hp => ?_) lot
    · have := h1 k hk
      have h3 : ¬ amK am k < base := fun z => this (decide_eq_true z)
      omega
    · split at h
      · exact nomatch h
      · rename_i q
        exact Int.not_lt.mp fun z => q ⟨hp, z⟩
theorem shortP_some {many : Nat} {rows : List Row} {leader base : Nat} {am : List Nat} {p : Nat} {lot : List Nat} (hok : ∀ r ∈ rows, RowOk many r) (h : shortP rows.length rows leader base am p = some lot) : shortB rows leader base am p lot = true ∧ Lot rows.length lot := by
  unfold shortP at h
  cases hf : (gvL rows p).find? fun k => decide (amK am k < base) with
  | some k =>
    rw [hf] at h
    cases h
    exact ⟨short_one hok (List.mem_of_find?_eq_some hf) (by have := List.find?_some hf; simpa using this), fil_lot _ _⟩
  | none =>
    rw [hf] at h
    dsimp only at h
    split at h
    · rename_i q
      cases h
      exact ⟨short_bare q.1 q.2, ⟨fun _ z => (nomatch z), .nil⟩⟩
    · exact nomatch h
theorem ret_rt {a : G.Env → R D} {ρ : G.Env} {d : D} (h : a ρ = .ok d) : mRet a ρ = .rt d := by
  unfold mRet
  rw [h]
  rfl
theorem mRg_range {m : G.Env → R D} {ρ : G.Env} {n : Nat} (h : m ρ = .ok (nI n)) (h2 : n ≤ 1000) : mRg1 dRgL m ρ = .ok (.lst ((List.range n).map nI)) := by
  unfold mRg1
  rw [h]
  show dRgL 0 (n : Int) = _
  unfold dRgL
  rw [if_pos (by unfold rgC; rw [rangeOk_nat (by omega), Bool.true_and]; exact decide_eq_true (by omega)), range_nat]
theorem gv_len (rows : List Row) (p : Nat) : (gvL rows p).length ≤ rows.length := fromL_le rows _
theorem gt_len (rows : List Row) (p : Nat) : (gtL rows p).length ≤ rows.length := fromL_le rows _
theorem f_lawHonest {many : Nat} {rows : List Row} (hr : rows.length ≤ 1000) (leader p : Nat) (lot : List Nat) : m__law_honest.fn [webD many rows, nI leader, nI p, lotD lot] = .ok (.bl (honB rows leader p lot)) := by
  have h1 := gv_len rows p
  have h2 := gt_len rows p
  rw [fn_run rfl]
  show (b__law_honest [some (webD many rows), some (nI leader), some (nI p), some (lotD lot), none]).res = _
  unfold b__law_honest
  have hc : (mOr (mB (m2 D.eq (mVar 2) (mVar 1))) (mB (mCall (d1 D.any) (mCons (mLc [4] (mSq D.seq (mCallN 2 m__law_gives.fn (mCons (mVar 0) (mCons (mVar 2) mNil)))) (gnName 4) mYes (m2 D.isIn (mVar 4) (mVar 3))) mNil)))) [some (webD many rows), some (nI leader), some (nI p), some (lotD lot), none] = .ok (decide (p = leader) || (gvL rows p).any fun k => decide (k ∈ lot)) :=
    or_tf (b_ok (m2_ok rfl rfl (deqN p leader))) (b_ok (call1_ok (mLc_mapN (emb := nI) (l := gvL rows p) (fun k => .bl (decide (k ∈ lot))) (sq_ok (callN_ok (cons_ok rfl (cons_ok rfl rfl)) rfl (f_lawGives hr p)) rfl) (by omega) fun k _ => m2_ok rfl rfl (in_nat _ _)) (any_ok _ _)))
  unfold honB
  cases c : (decide (p = leader) || (gvL rows p).any fun k => decide (k ∈ lot)) with
  | true =>
    rw [c] at hc
    exact res_rt (if_t hc (ret_rt (call1_ok (mLc_mapN (emb := nI) (l := gtL rows p) (fun k => .bl (decide (k ∈ lot))) (sq_ok (callN_ok (cons_ok rfl (cons_ok rfl rfl)) rfl (f_lawGets hr p)) rfl) (by omega) fun k _ => m2_ok rfl rfl (in_nat _ _)) (all_ok _ _))))
  | false =>
    rw [c] at hc
    exact seq_res (if_f hc rfl) (ret_res rfl)
theorem f_dueOf {many : Nat} {rows : List Row} {base : Nat} (hr : rows.length ≤ 1000) (hb : base < 1000) (p : Nat) (lot : List Nat) : m_due_of.fn [webD many rows, nI base, nI p, lotD lot] = .ok (.int ((base : Int) * ((outP (gvL rows p) lot).length : Int))) := by
  have h1 := gv_len rows p
  rw [fn_run rfl]
  show (b_due_of [some (webD many rows), some (nI base), some (nI p), some (lotD lot), none]).res = _
  unfold b_due_of
  exact ret_res (m2_ok rfl (call1_ok (x := .lst ((outP (gvL rows p) lot).map nI)) (mLc_filN (emb := nI) (l := gvL rows p) (fun k => !decide (k ∈ lot)) nI (sq_ok (callN_ok (cons_ok rfl (cons_ok rfl rfl)) rfl (f_givenBy hr p)) rfl) (by omega) fun k _ => ⟨b_ok (m2_ok rfl rfl (notIn_nat _ _)), rfl⟩) (Eq.trans (len_lst _) (by rw [List.length_map]))) (mulN (a := base) (b := (outP (gvL rows p) lot).length) hb))
theorem f_lawShort {many : Nat} {rows : List Row} {am : List Nat} {base : Nat} (hr : rows.length ≤ 1000) (ha : am.length = rows.length) (hb : base < 1000) (leader p : Nat) (lot : List Nat) : m__law_short_of.fn [webD many rows, nI leader, nI base, lotD am, nI p, lotD lot] = .ok (.bl (shortB rows leader base am p lot)) := by
  have h1 := gv_len rows p
  rw [fn_run rfl]
  show (b__law_short_of [some (webD many rows), some (nI leader), some (nI base), some (lotD am), some (nI p), some (lotD lot), none, none]).res = _
  unfold b__law_short_of
  have hc := f_lawHonest (many := many) hr leader p lot
  unfold shortB
  cases c : honB rows leader p lot with
  | false =>
    rw [c] at hc
    exact res_rt (if_t (not_ok (x := false) (b_ok (callN_ok (cons_ok rfl (cons_ok rfl (cons_ok rfl (cons_ok rfl rfl)))) rfl hc))) rfl)
  | true =>
    rw [c] at hc
    refine seq_res (ρ' := [some (webD many rows), some (nI leader), some (nI base), some (lotD am), some (nI p), some (lotD lot), none, none]) (if_f (not_ok (x := true) (b_ok (callN_ok (cons_ok rfl (cons_ok rfl (cons_ok rfl (cons_ok rfl rfl)))) rfl hc))) rfl) ?_
    refine seq_res (ρ' := [some (webD many rows), some (nI leader), some (nI base), some (lotD am), some (nI p), some (lotD lot), some (.lst ((outP (gvL rows p) lot).map nI)), none]) (set_nx (mLc_filN (emb := nI) (l := gvL rows p) (fun k => !decide (k ∈ lot)) nI (sq_ok (callN_ok (cons_ok rfl (cons_ok rfl rfl)) rfl (f_lawGives hr p)) rfl) (by omega) fun k _ => ⟨b_ok (m2_ok rfl rfl (notIn_nat _ _)), rfl⟩)) ?_
    exact ret_res (m2_ok (callN_ok (cons_ok rfl (cons_ok rfl (cons_ok rfl (cons_ok rfl rfl)))) rfl (f_lawNet hr ha p lot)) (m2_ok rfl (call1_ok rfl (Eq.trans (len_lst _) (by rw [List.length_map]))) (mulN (a := base) (b := (outP (gvL rows p) lot).length) hb)) (dlt _ _))
def shD : Option (Nat × List Nat) → D
  | some q => .tup [nI q.1, lotD q.2]
  | none => .non
def shortAt (m : Nat) (rows : List Row) (leader base : Nat) (am : List Nat) : Option (Nat × List Nat) := match (List.range m).find? fun p => (shortP rows.length rows leader base am p).isSome with
  | some p => (shortP rows.length rows leader base am p).map fun l => (p, l)
  | none => none
def shInB : G.Env → Out := (mIf (mB (m2 D.lt (m2 D.ix (mVar 3) (mVar 7)) (mVar 2))) (mRet (mTup (mCons (mVar 5) (mCons (mCall (d1 D.toTup) (mCons (mLc [9] (mSq D.seq (mVar 4)) (gnName 9) (mB (m2 D.ne (mVar 9) (mVar 7))) (mVar 9)) mNil)) mNil)))) mNext)
def shB : G.Env → Out := (mSeq (mSet 6 (mCallN 2 m_given_by.fn (mCons (mVar 0) (mCons (mVar 5) mNil)))) (mSeq (mFor (mSq D.seq (mVar 6)) (gnName 7) (mIf (mB (m2 D.lt (m2 D.ix (mVar 3) (mVar 7)) (mVar 2))) (mRet (mTup (mCons (mVar 5) (mCons (mCall (d1 D.toTup) (mCons (mLc [9] (mSq D.seq (mVar 4)) (gnName 9) (mB (m2 D.ne (mVar 9) (mVar 7))) (mVar 9)) mNil)) mNil)))) mNext)) (mIf (mB (m2 D.ne (mVar 5) (mVar 1))) (mSeq (mSet 8 (mTup mNil)) (mIf (mB (m2 D.lt (mCallN 4 m_net_of.fn (mCons (mVar 0) (mCons (mVar 3) (mCons (mVar 5) (mCons (mVar 8) mNil))))) (mCallN 4 m_due_of.fn (mCons (mVar 0) (mCons (mVar 2) (mCons (mVar 5) (mCons (mVar 8) mNil))))))) (mRet (mTup (mCons (mVar 5) (mCons (mVar 8) mNil)))) mNext)) mNext)))
theorem f_shortAt {many : Nat} {rows : List Row} {am : List Nat} {base : Nat} (hm : many ≤ 1000) (hr : rows.length ≤ 1000) (ha : am.length = rows.length) (hb : base < 1000) (leader : Nat) : m_short_at.fn [webD many rows, nI leader, nI base, lotD am] = .ok (shD (shortAt many rows leader base am)) := by
  rw [fn_run rfl]
  show (b_short_at [some (webD many rows), some (nI leader), some (nI base), some (lotD am), none, none, none, none, none, none]).res = _
  unfold b_short_at
  refine seq_res (ρ' := [some (webD many rows), some (nI leader), some (nI base), some (lotD am), some (.lst ((List.range rows.length).map nI)), none, none, none, none, none]) (set_nx (d := .lst ((List.range rows.length).map nI)) (mRg_range (call1_ok (m2_ok rfl rfl (web1 _ _)) (Eq.trans (len_tup _) (by rw [List.length_map]))) (by omega))) ?_
  have fl := find_loop (emb := nI) (f := stepD (gnName 5) shB) (fun ρ => ∃ a b c d, ρ = [some (webD many rows), some (nI leader), some (nI base), some (lotD am), some (.lst ((List.range rows.length).map nI)), a, b, c, d, none]) (fun p => (shortP rows.length rows leader base am p).isSome) (fun p => shD ((shortP rows.length rows leader base am p).map fun l => (p, l))) (List.range many) [some (webD many rows), some (nI leader), some (nI base), some (lotD am), some (.lst ((List.range rows.length).map nI)), none, none, none, none, none] ⟨none, none, none, none, rfl⟩ fun p hp ρ hρ => by
    obtain ⟨a, b, c, d, rfl⟩ := hρ
    have h1 := gv_len rows p
    have e6 : mSet 6 (mCallN 2 m_given_by.fn (mCons (mVar 0) (mCons (mVar 5) mNil))) [some (webD many rows), some (nI leader), some (nI base), some (lotD am), some (.lst ((List.range rows.length).map nI)), some (nI p), b, c, d, none] = .nx [some (webD many rows), some (nI leader), some (nI base), some (lotD am), some (.lst ((List.range rows.length).map nI)), some (nI p), some (.lst ((gvL rows p).map nI)), c, d, none] := set_nx (callN_ok (cons_ok rfl (cons_ok rfl rfl)) rfl (f_givenBy hr p))
    have fi := find_loop (emb := nI) (f := stepD (gnName 7) shInB) (fun ρ => ∃ c, ρ = [some (webD many rows), some (nI leader), some (nI base), some (lotD am), some (.lst ((List.range rows.length).map nI)), some (nI p), some (.lst ((gvL rows p).map nI)), c, d, none]) (fun k => decide (amK am k < base)) (fun k => .tup [nI p, lotD (butL rows.length k)]) (gvL rows p) [some (webD many rows), some (nI leader), some (nI base), some (lotD am), some (.lst ((List.range rows.length).map nI)), some (nI p), some (.lst ((gvL rows p).map nI)), c, d, none] ⟨c, rfl⟩ fun k hk ρ hρ => by
      obtain ⟨c, rfl⟩ := hρ
      have hc : mB (m2 D.lt (m2 D.ix (mVar 3) (mVar 7)) (mVar 2)) [some (webD many rows), some (nI leader), some (nI base), some (lotD am), some (.lst ((List.range rows.length).map nI)), some (nI p), some (.lst ((gvL rows p).map nI)), some (nI k), d, none] = .ok (decide (amK am k < base)) :=
        b_ok (m2_ok (m2_ok rfl rfl (am_ix (by rw [ha]; exact (mem_fromL.mp hk).1))) rfl (Eq.trans (dlt _ _) (by
          have : decide (((amK am k : Nat) : Int) < (base : Int)) = decide (amK am k < base) := bool_ext (by rw [decide_eq_true_iff, decide_eq_true_iff]; omega)
          rw [this])))
      refine ⟨fun hq => ?_, fun hq => ⟨_, ⟨some (nI k), rfl⟩, ?_⟩⟩
      · rw [hq] at hc
        exact if_t hc (ret_rt (mTup_ok (cons_ok rfl (cons_ok (call1_ok (x := .lst ((butL rows.length k).map nI)) (mLc_filN (emb := nI) (l := List.range rows.length) (fun j => !decide (j = k)) nI (sq_ok rfl rfl) (by rw [List.length_range]; omega) fun j _ => ⟨b_ok (m2_ok rfl rfl (neN j k)), rfl⟩) rfl) rfl)) (by show 2 ≤ 16777216; omega)))
      · rw [hq] at hc
        exact if_f hc rfl
    have hsp : shortP rows.length rows leader base am p = match (gvL rows p).find? fun k => decide (amK am k < base) with
      | some k => some (butL rows.length k)
      | none => if p ≠ leader ∧ netI rows am p [] < (base : Int) * ((gvL rows p).length : Int) then some [] else none := rfl
    cases hf : (gvL rows p).find? fun k => decide (amK am k < base) with
    | some k =>
      rw [hf] at hsp
      rw [hsp]
      refine ⟨fun _ => ?_, fun z => nomatch z⟩
      exact seq_nx e6 (seq_rt (for_ok (sq_ok rfl rfl) (fi.1 k hf)))
    | none =>
      rw [hf] at hsp
      obtain ⟨ρ', ⟨c2, rfl⟩, e7⟩ := fi.2 hf
      have s7 : mFor (mSq D.seq (mVar 6)) (gnName 7) shInB [some (webD many rows), some (nI leader), some (nI base), some (lotD am), some (.lst ((List.range rows.length).map nI)), some (nI p), some (.lst ((gvL rows p).map nI)), c, d, none] = .nx [some (webD many rows), some (nI leader), some (nI base), some (lotD am), some (.lst ((List.range rows.length).map nI)), some (nI p), some (.lst ((gvL rows p).map nI)), c2, d, none] := for_ok (sq_ok rfl rfl) e7
      have hc1 : mB (m2 D.ne (mVar 5) (mVar 1)) [some (webD many rows), some (nI leader), some (nI base), some (lotD am), some (.lst ((List.range rows.length).map nI)), some (nI p), some (.lst ((gvL rows p).map nI)), c2, d, none] = .ok (!decide (p = leader)) := b_ok (m2_ok rfl rfl (neN p leader))
      have hc2 : mB (m2 D.lt (mCallN 4 m_net_of.fn (mCons (mVar 0) (mCons (mVar 3) (mCons (mVar 5) (mCons (mVar 8) mNil))))) (mCallN 4 m_due_of.fn (mCons (mVar 0) (mCons (mVar 2) (mCons (mVar 5) (mCons (mVar 8) mNil)))))) [some (webD many rows), some (nI leader), some (nI base), some (lotD am), some (.lst ((List.range rows.length).map nI)), some (nI p), some (.lst ((gvL rows p).map nI)), c2, some (lotD []), none] = .ok (decide (netI rows am p [] < (base : Int) * ((gvL rows p).length : Int))) :=
        b_ok (m2_ok (callN_ok (cons_ok rfl (cons_ok rfl (cons_ok rfl (cons_ok rfl rfl)))) rfl (f_netOf hr ha p [])) (callN_ok (cons_ok rfl (cons_ok rfl (cons_ok rfl (cons_ok rfl rfl)))) rfl (f_dueOf hr hb p [])) (Eq.trans (dlt _ _) (by rw [show outP (gvL rows p) [] = gvL rows p from List.filter_eq_self.mpr fun _ _ => rfl])))
      have s8 : mSet 8 (mTup mNil) [some (webD many rows), some (nI leader), some (nI base), some (lotD am), some (.lst ((List.range rows.length).map nI)), some (nI p), some (.lst ((gvL rows p).map nI)), c2, d, none] = .nx [some (webD many rows), some (nI leader), some (nI base), some (lotD am), some (.lst ((List.range rows.length).map nI)), some (nI p), some (.lst ((gvL rows p).map nI)), c2, some (lotD []), none] := set_nx (d := lotD []) (mTup_ok rfl (by show 0 ≤ 16777216; omega))
      dsimp only at hsp
      by_cases q1 : p = leader
      · rw [if_neg fun z => z.1 q1] at hsp
        rw [hsp]
        refine ⟨fun z => (nomatch z), fun _ => ⟨_, ⟨_, _, _, _, rfl⟩, seq_nx e6 (seq_nx s7 (if_f ?_ rfl))⟩⟩
        rw [hc1, decide_eq_true q1]
        rfl
      · rw [decide_eq_false q1] at hc1
        by_cases q2 : netI rows am p [] < (base : Int) * ((gvL rows p).length : Int)
        · rw [if_pos ⟨q1, q2⟩] at hsp
          rw [hsp]
          rw [decide_eq_true q2] at hc2
          exact ⟨fun _ => seq_nx e6 (seq_nx s7 (if_t hc1 (seq_nx s8 (if_t hc2 (ret_rt (mTup_ok (cons_ok rfl (cons_ok rfl rfl)) (by show 2 ≤ 16777216; omega))))))), fun z => nomatch z⟩
        · rw [if_neg fun z => q2 z.2] at hsp
          rw [hsp]
          rw [decide_eq_false q2] at hc2
          exact ⟨fun z => (nomatch z), fun _ => ⟨_, ⟨_, _, _, _, rfl⟩, seq_nx e6 (seq_nx s7 (if_t hc1 (seq_nx s8 (if_f hc2 rfl))))⟩⟩
  unfold shortAt
  cases hf : (List.range many).find? fun p => (shortP rows.length rows leader base am p).isSome with
  | some p => exact res_rt (for_ok (sq_ok (m2_ok rfl rfl (web0 _ _)) (range1_ok (by omega))) (fl.1 p hf))
  | none =>
    obtain ⟨ρ', ⟨a, b, c, d, rfl⟩, e⟩ := fl.2 hf
    exact seq_res (for_ok (sq_ok (m2_ok rfl rfl (web0 _ _)) (range1_ok (by omega))) e) (ret_res rfl)
theorem dget_bnd (x : List Nat) : ∀ kl : List (List Nat), (dget (kl.map kD) (kl.map fun _ => D.bl true) (kD x)).isSome = decide (x ∈ kl)
  | [] => rfl
  | y :: kl => by
    rw [List.map_cons, List.map_cons]
    show (if kD y = kD x then some (D.bl true) else dget (kl.map kD) (kl.map fun _ => D.bl true) (kD x)).isSome = _
    by_cases e : y = x
    · subst e
      rw [if_pos rfl, decide_eq_true (List.mem_cons_self)]
      rfl
    · rw [if_neg fun z => e (kD_inj z), dget_bnd x kl]
      refine bool_ext ?_
      rw [decide_eq_true_iff, decide_eq_true_iff, List.mem_cons]
      exact ⟨.inr, fun z => z.elim (fun z => absurd z.symm e) id⟩
theorem notIn_bnd (x : List Nat) (kl : List (List Nat)) : D.notIn (lotD x) (bndD kl) = .ok (.bl (!decide (x ∈ kl))) := by
  show (match (lotD x).key with
    | some k => if isKind true k = true then R.ok (D.bl (!(dget (kl.map kD) (kl.map fun _ => D.bl true) k).isSome)) else .bad
    | none => .bad) = _
  rw [lot_key]
  dsimp only
  rw [if_pos (show isKind true (kD x) = true from rfl), dget_bnd]
def keyL (near l : List Nat) : List Nat := l.filter fun k => decide (k ∈ near)
def raLB : G.Env → Out := (mSet 4 (m2 D.add (mVar 4) (mLc [9] (mSq D.seq (mVar 4)) (gnName 9) mYes (m2 D.add (mVar 9) (mTup (mCons (mVar 5) mNil))))))
def raIn : G.Env → Out := (mSeq (mSet 10 (mCall (d1 D.toTup) (mCons (mLc [5] (mSq D.seq (mVar 9)) (gnName 5) (mB (m2 D.isIn (mVar 5) (mVar 7))) (mVar 5)) mNil))) (mIf (mB (m2 D.notIn (mVar 10) (mVar 8))) (mSeq (mDPut 8 (mVar 10) (mC (.bl true))) (mIf (mB (mCallN 6 m__law_short_of.fn (mCons (mVar 0) (mCons (mVar 1) (mCons (mVar 2) (mCons (mVar 3) (mCons (mVar 6) (mCons (mVar 10) mNil)))))))) (mRet (mC (.bl false))) mNext)) mNext))
def raOut : G.Env → Out := (mSeq (mSet 7 (m2 D.add (mCallN 2 m__law_gives.fn (mCons (mVar 0) (mCons (mVar 6) mNil))) (mCallN 2 m__law_gets.fn (mCons (mVar 0) (mCons (mVar 6) mNil))))) (mSeq (mSet 8 (mDic true)) (mFor (mSq D.seq (mVar 4)) (gnName 9) (mSeq (mSet 10 (mCall (d1 D.toTup) (mCons (mLc [5] (mSq D.seq (mVar 9)) (gnName 5) (mB (m2 D.isIn (mVar 5) (mVar 7))) (mVar 5)) mNil))) (mIf (mB (m2 D.notIn (mVar 10) (mVar 8))) (mSeq (mDPut 8 (mVar 10) (mC (.bl true))) (mIf (mB (mCallN 6 m__law_short_of.fn (mCons (mVar 0) (mCons (mVar 1) (mCons (mVar 2) (mCons (mVar 3) (mCons (mVar 6) (mCons (mVar 10) mNil)))))))) (mRet (mC (.bl false))) mNext)) mNext)))))
theorem ra_lots {c0 c1 c2 c3 c6 c7 c8 c10 : Option D} : ∀ (j m : Nat) (v : Option D), m + j ≤ 10 → ∃ v' : Option D, loopD (stepD (gnName 5) raLB) ((List.range' m j).map nI) [c0, c1, c2, c3, some (.lst ((lotsL m).map lotD)), v, c6, c7, c8, none, c10] = .nx [c0, c1, c2, c3, some (.lst ((lotsL (m + j)).map lotD)), v', c6, c7, c8, none, c10]
  | 0, m, v, _ => ⟨v, rfl⟩
  | j + 1, m, v, h => by
    obtain ⟨v', e⟩ := ra_lots (c0 := c0) (c1 := c1) (c2 := c2) (c3 := c3) (c6 := c6) (c7 := c7) (c8 := c8) (c10 := c10) j (m + 1) (some (nI m)) (by omega)
    refine ⟨v', ?_⟩
    rw [List.range'_succ, List.map_cons]
    refine loop_cons (ρ1 := [c0, c1, c2, c3, some (.lst ((lotsL m).map lotD)), some (nI m), c6, c7, c8, none, c10]) (ρ2 := [c0, c1, c2, c3, some (.lst ((lotsL (m + 1)).map lotD)), some (nI m), c6, c7, c8, none, c10]) rfl (set_nx (m2_ok rfl (mLc_mapN (emb := lotD) (l := lotsL m) (fun l => lotD (l ++ [m])) (sq_ok rfl rfl) (by have := lotsL_le (n := m) (by omega); omega) fun l hl => m2_ok rfl (mTup_ok (cons_ok rfl rfl) (by show 1 ≤ 16777216; omega)) (lot_snoc (by have := lots_lt (by omega) hl; omega))) (lots_add (by omega)))) ?_
    rw [e, show m + 1 + j = m + (j + 1) by omega]
theorem ra_in {many leader base p : Nat} {rows : List Row} {am near : List Nat} {c4 : Option D} (hr : rows.length ≤ 1000) (ha : am.length = rows.length) (hb : base < 1000) : ∀ (X kl : List (List Nat)) (v5 v9 v10 : Option D), (∀ l ∈ X, l.length ≤ 1000) → (∀ l ∈ kl, shortB rows leader base am p l = false) → kl.length + X.length ≤ 1000 →
    ((X.any fun l => shortB rows leader base am p (keyL near l)) = true → loopD (stepD (gnName 9) raIn) (X.map lotD) [some (webD many rows), some (nI leader), some (nI base), some (lotD am), c4, v5, some (nI p), some (.lst (near.map nI)), some (bndD kl), v9, v10] = .rt (.bl false)) ∧
    ((X.any fun l => shortB rows leader base am p (keyL near l)) = false → ∃ w8 w9 w10 : Option D, loopD (stepD (gnName 9) raIn) (X.map lotD) [some (webD many rows), some (nI leader), some (nI base), some (lotD am), c4, v5, some (nI p), some (.lst (near.map nI)), some (bndD kl), v9, v10] = .nx [some (webD many rows), some (nI leader), some (nI base), some (lotD am), c4, v5, some (nI p), some (.lst (near.map nI)), w8, w9, w10])
  | [], kl, v5, v9, v10, _, _, _ => ⟨fun z => (nomatch z), fun _ => ⟨_, _, _, rfl⟩⟩
  | l :: X, kl, v5, v9, v10, hX, hk, hl => by
    rw [List.length_cons] at hl
    have hll := hX l (.head _)
    have e10 : mSet 10 (mCall (d1 D.toTup) (mCons (mLc [5] (mSq D.seq (mVar 9)) (gnName 5) (mB (m2 D.isIn (mVar 5) (mVar 7))) (mVar 5)) mNil)) [some (webD many rows), some (nI leader), some (nI base), some (lotD am), c4, v5, some (nI p), some (.lst (near.map nI)), some (bndD kl), some (lotD l), v10] = .nx [some (webD many rows), some (nI leader), some (nI base), some (lotD am), c4, v5, some (nI p), some (.lst (near.map nI)), some (bndD kl), some (lotD l), some (lotD (keyL near l))] :=
      set_nx (d := lotD (keyL near l)) (call1_ok (x := .lst ((keyL near l).map nI)) (mLc_filN (emb := nI) (l := l) (fun k => decide (k ∈ near)) nI (sq_ok rfl rfl) (by omega) fun k _ => ⟨b_ok (m2_ok rfl rfl (in_natL _ _)), rfl⟩) rfl)
    have hc : mB (m2 D.notIn (mVar 10) (mVar 8)) [some (webD many rows), some (nI leader), some (nI base), some (lotD am), c4, v5, some (nI p), some (.lst (near.map nI)), some (bndD kl), some (lotD l), some (lotD (keyL near l))] = .ok (!decide (keyL near l ∈ kl)) := b_ok (m2_ok rfl rfl (notIn_bnd _ _))
    rw [List.any_cons, List.map_cons]
    by_cases q : keyL near l ∈ kl
    · rw [decide_eq_true q] at hc
      obtain ⟨i1, i2⟩ := ra_in (many := many) (leader := leader) (p := p) (near := near) (c4 := c4) hr ha hb X kl v5 (some (lotD l)) (some (lotD (keyL near l))) (fun j hj => hX j (.tail _ hj)) hk (by omega)
      rw [hk _ q, Bool.false_or]
      have st : raIn [some (webD many rows), some (nI leader), some (nI base), some (lotD am), c4, v5, some (nI p), some (.lst (near.map nI)), some (bndD kl), some (lotD l), v10] = .nx [some (webD many rows), some (nI leader), some (nI base), some (lotD am), c4, v5, some (nI p), some (.lst (near.map nI)), some (bndD kl), some (lotD l), some (lotD (keyL near l))] := seq_nx e10 (if_f hc rfl)
      exact ⟨fun z => loop_cons rfl st (i1 z), fun z => by
        obtain ⟨w8, w9, w10, e⟩ := i2 z
        exact ⟨w8, w9, w10, loop_cons rfl st e⟩⟩
    · rw [decide_eq_false q] at hc
      have put := bnd_put (i := 8) (ρ := [some (webD many rows), some (nI leader), some (nI base), some (lotD am), c4, v5, some (nI p), some (.lst (near.map nI)), some (bndD kl), some (lotD l), some (lotD (keyL near l))]) (kl := kl) (x := keyL near l) (mk := mVar 10) (mv := mC (.bl true)) rfl rfl rfl (by omega)
      have hs : mB (mCallN 6 m__law_short_of.fn (mCons (mVar 0) (mCons (mVar 1) (mCons (mVar 2) (mCons (mVar 3) (mCons (mVar 6) (mCons (mVar 10) mNil))))))) [some (webD many rows), some (nI leader), some (nI base), some (lotD am), c4, v5, some (nI p), some (.lst (near.map nI)), some (bndD (addL kl (keyL near l))), some (lotD l), some (lotD (keyL near l))] = .ok (shortB rows leader base am p (keyL near l)) :=
        b_ok (callN_ok (cons_ok rfl (cons_ok rfl (cons_ok rfl (cons_ok rfl (cons_ok rfl (cons_ok rfl rfl)))))) rfl (f_lawShort hr ha hb leader p (keyL near l)))
      cases hsb : shortB rows leader base am p (keyL near l) with
      | true =>
        rw [hsb] at hs
        exact ⟨fun _ => loop_stop rfl (seq_nx e10 (if_t hc (seq_nx put (if_t hs rfl)))), fun z => (nomatch z)⟩
      | false =>
        rw [hsb] at hs
        rw [Bool.false_or]
        have hal := addL_len kl (keyL near l)
        obtain ⟨i1, i2⟩ := ra_in (many := many) (leader := leader) (p := p) (near := near) (c4 := c4) hr ha hb X (addL kl (keyL near l)) v5 (some (lotD l)) (some (lotD (keyL near l))) (fun j hj => hX j (.tail _ hj)) (fun j hj => (mem_addL.mp hj).elim (hk j) fun e => by rw [e]; exact hsb) (by omega)
        have st : raIn [some (webD many rows), some (nI leader), some (nI base), some (lotD am), c4, v5, some (nI p), some (.lst (near.map nI)), some (bndD kl), some (lotD l), v10] = .nx [some (webD many rows), some (nI leader), some (nI base), some (lotD am), c4, v5, some (nI p), some (.lst (near.map nI)), some (bndD (addL kl (keyL near l))), some (lotD l), some (lotD (keyL near l))] := seq_nx e10 (if_t hc (seq_nx put (if_f hs rfl)))
        exact ⟨fun z => loop_cons rfl st (i1 z), fun z => by
          obtain ⟨w8, w9, w10, e⟩ := i2 z
          exact ⟨w8, w9, w10, loop_cons rfl st e⟩⟩
def nearL (rows : List Row) (p : Nat) : List Nat := gvL rows p ++ gtL rows p
def wrongB (n : Nat) (rows : List Row) (leader base : Nat) (am : List Nat) (p : Nat) : Bool := (lotsL n).any fun l => shortB rows leader base am p (keyL (nearL rows p) l)
theorem f_right {many leader base : Nat} {rows : List Row} {am : List Nat} (hm : many ≤ 1000) (h8 : rows.length ≤ 8) (ha : am.length = rows.length) (hb : base < 1000) : m__law_right_amounts.fn [webD many rows, nI leader, nI base, lotD am] = .ok (.bl ((List.range many).find? (wrongB rows.length rows leader base am)).isNone) := by
  have hL : (lotsL rows.length).length ≤ 256 := by
    rw [lotsL_len]
    exact Nat.le_trans (Nat.pow_le_pow_right (by omega) h8) (by omega)
  obtain ⟨v5, el⟩ := ra_lots (c0 := some (webD many rows)) (c1 := some (nI leader)) (c2 := some (nI base)) (c3 := some (lotD am)) (c6 := none) (c7 := none) (c8 := none) (c10 := none) rows.length 0 none (by omega)
  rw [Nat.zero_add, show (List.range' 0 rows.length) = List.range rows.length from (List.range_eq_range').symm] at el
  rw [fn_run rfl]
  show (b__law_right_amounts [some (webD many rows), some (nI leader), some (nI base), some (lotD am), none, none, none, none, none, none, none]).res = _
  unfold b__law_right_amounts
  refine seq_res (ρ' := [some (webD many rows), some (nI leader), some (nI base), some (lotD am), some (.lst ((lotsL 0).map lotD)), none, none, none, none, none, none]) (set_nx (mLst_ok (cons_ok (mTup_ok rfl (by show 0 ≤ 16777216; omega)) rfl) (by show 1 ≤ 16777216; omega))) ?_
  refine seq_res (for_ok (sq_ok (call1_ok (m2_ok rfl rfl (web1 _ _)) (Eq.trans (len_tup _) (by rw [List.length_map]))) (range1_ok (n := rows.length) (by omega))) el) ?_
  have fl := find_loop (emb := nI) (f := stepD (gnName 6) raOut) (fun ρ => ∃ a b c d e, ρ = [some (webD many rows), some (nI leader), some (nI base), some (lotD am), some (.lst ((lotsL rows.length).map lotD)), v5, a, b, c, d, e]) (wrongB rows.length rows leader base am) (fun _ => .bl false) (List.range many) [some (webD many rows), some (nI leader), some (nI base), some (lotD am), some (.lst ((lotsL rows.length).map lotD)), v5, none, none, none, none, none] ⟨none, none, none, none, none, rfl⟩ fun p _ ρ hρ => by
    obtain ⟨a, b, c, d, e, rfl⟩ := hρ
    have h1 := gv_len rows p
    have h2 := gt_len rows p
    have e7 : mSet 7 (m2 D.add (mCallN 2 m__law_gives.fn (mCons (mVar 0) (mCons (mVar 6) mNil))) (mCallN 2 m__law_gets.fn (mCons (mVar 0) (mCons (mVar 6) mNil)))) [some (webD many rows), some (nI leader), some (nI base), some (lotD am), some (.lst ((lotsL rows.length).map lotD)), v5, some (nI p), b, c, d, e] = .nx [some (webD many rows), some (nI leader), some (nI base), some (lotD am), some (.lst ((lotsL rows.length).map lotD)), v5, some (nI p), some (.lst ((nearL rows p).map nI)), c, d, e] :=
      set_nx (d := .lst ((nearL rows p).map nI)) (m2_ok (callN_ok (cons_ok rfl (cons_ok rfl rfl)) rfl (f_lawGives (by omega) p)) (callN_ok (cons_ok rfl (cons_ok rfl rfl)) rfl (f_lawGets (by omega) p)) (Eq.trans (add_lst (a := (gvL rows p).map nI) (b := (gtL rows p).map nI) (by rw [List.length_map, List.length_map]; omega)) (by unfold nearL; rw [List.map_append])))
    have e8 : mSet 8 (mDic true) [some (webD many rows), some (nI leader), some (nI base), some (lotD am), some (.lst ((lotsL rows.length).map lotD)), v5, some (nI p), some (.lst ((nearL rows p).map nI)), c, d, e] = .nx [some (webD many rows), some (nI leader), some (nI base), some (lotD am), some (.lst ((lotsL rows.length).map lotD)), v5, some (nI p), some (.lst ((nearL rows p).map nI)), some (bndD []), d, e] := set_nx rfl
    obtain ⟨i1, i2⟩ := ra_in (many := many) (leader := leader) (base := base) (p := p) (rows := rows) (am := am) (near := nearL rows p) (c4 := some (.lst ((lotsL rows.length).map lotD))) (by omega) ha hb (lotsL rows.length) [] v5 d e (fun l hl => by have := lots_lt (by omega) hl; omega) (fun _ z => nomatch z) (by rw [List.length_nil]; omega)
    refine ⟨fun hp => seq_nx e7 (seq_nx e8 (for_ok (sq_ok rfl rfl) (i1 hp))), fun hp => ?_⟩
    obtain ⟨w8, w9, w10, e9⟩ := i2 hp
    exact ⟨_, ⟨_, _, _, _, _, rfl⟩, seq_nx e7 (seq_nx e8 (for_ok (sq_ok rfl rfl) e9))⟩
  cases hf : (List.range many).find? (wrongB rows.length rows leader base am) with
  | some p => exact res_rt (for_ok (sq_ok (m2_ok rfl rfl (web0 _ _)) (range1_ok (by omega))) (fl.1 p hf))
  | none =>
    obtain ⟨ρ', ⟨a, b, c, d, e, rfl⟩, e9⟩ := fl.2 hf
    exact seq_res (for_ok (sq_ok (m2_ok rfl rfl (web0 _ _)) (range1_ok (by omega))) e9) (ret_res rfl)
theorem out_key {l near lot : List Nat} (h : ∀ k ∈ l, k ∈ near) : outP l (keyL near lot) = outP l lot := by
  refine List.filter_congr fun k hk => ?_
  refine congrArg Bool.not (bool_ext ?_)
  rw [decide_eq_true_iff, decide_eq_true_iff]
  unfold keyL
  rw [List.mem_filter]
  exact ⟨fun z => z.1, fun z => ⟨z, decide_eq_true (h k hk)⟩⟩
theorem short_key (rows : List Row) (leader base : Nat) (am : List Nat) (p : Nat) (lot : List Nat) : shortB rows leader base am p (keyL (nearL rows p) lot) = shortB rows leader base am p lot := by
  have h1 : ∀ k ∈ gvL rows p, k ∈ nearL rows p := fun k hk => List.mem_append_left _ hk
  have h2 : ∀ k ∈ gtL rows p, k ∈ nearL rows p := fun k hk => List.mem_append_right _ hk
  have e : ∀ k ∈ nearL rows p, decide (k ∈ keyL (nearL rows p) lot) = decide (k ∈ lot) := fun k hk => bool_ext (by
    rw [decide_eq_true_iff, decide_eq_true_iff]
    unfold keyL
    rw [List.mem_filter]
    exact ⟨fun z => z.1, fun z => ⟨z, decide_eq_true hk⟩⟩)
  have ha : ((gvL rows p).any fun k => decide (k ∈ keyL (nearL rows p) lot)) = (gvL rows p).any fun k => decide (k ∈ lot) := bool_ext (by
    rw [any_iff, any_iff]
    exact ⟨fun ⟨k, a, b⟩ => ⟨k, a, of_decide_eq_true ((e k (h1 k a)) ▸ decide_eq_true b)⟩, fun ⟨k, a, b⟩ => ⟨k, a, of_decide_eq_true ((e k (h1 k a)).symm ▸ decide_eq_true b)⟩⟩)
  have hb : ((gtL rows p).all fun k => decide (k ∈ keyL (nearL rows p) lot)) = (gtL rows p).all fun k => decide (k ∈ lot) := bool_ext (by
    rw [all_iff, all_iff]
    exact ⟨fun z k a => of_decide_eq_true ((e k (h2 k a)) ▸ decide_eq_true (z k a)), fun z k a => of_decide_eq_true ((e k (h2 k a)).symm ▸ decide_eq_true (z k a))⟩)
  unfold shortB honB netI
  rw [ha, hb, out_key h1, out_key h2]
theorem right_short {many leader base : Nat} {rows : List Row} {am : List Nat} (hok : ∀ r ∈ rows, RowOk many r) : ((List.range many).find? (wrongB rows.length rows leader base am)).isNone = (shortAt many rows leader base am).isNone := by
  have hw : ∀ p, wrongB rows.length rows leader base am p = (shortP rows.length rows leader base am p).isSome := fun p => by
    unfold wrongB
    cases h : shortP rows.length rows leader base am p with
    | none =>
      refine Bool.eq_false_iff.mpr fun z => ?_
      obtain ⟨l, _, hl⟩ := List.any_eq_true.mp z
      rw [short_key, shortP_none h] at hl
      exact nomatch hl
    | some lot =>
      obtain ⟨a, b⟩ := shortP_some hok h
      exact List.any_eq_true.mpr ⟨lot, (mem_lots _ _).mpr b, by rw [short_key]; exact a⟩
  unfold shortAt
  rw [show wrongB rows.length rows leader base am = fun p => (shortP rows.length rows leader base am p).isSome from funext hw]
  cases hf : (List.range many).find? fun p => (shortP rows.length rows leader base am p).isSome with
  | none => rfl
  | some p =>
    have := List.find?_some hf
    cases hs : shortP rows.length rows leader base am p with
    | none => rw [hs] at this; exact nomatch this
    | some l =>
      show false = ((shortP rows.length rows leader base am p).map fun l => (p, l)).isNone
      rw [hs]
      rfl
structure Case (many leader base : Nat) (rows : List Row) (am : List Nat) : Prop where
  v : Valid many rows
  h8 : rows.length ≤ 8
  hl : leader < many
  b1 : 1 ≤ base
  b2 : base < 1000
  ha : am.length = rows.length
  am6 : ∀ x ∈ am, x ≤ 1000000
theorem f_needPerson {many : Nat} {rows : List Row} {p : Nat} (hp : p < many) : m_need_person.fn [webD many rows, nI p] = .ok .non := by
  have u : m_is_under.fn [nI p, nI many] = .ok (.bl true) := by rw [f_under, decide_eq_true (by omega), decide_eq_true (by omega)]; rfl
  rw [fn_run rfl]
  show (b_need_person [some (webD many rows), some (nI p)]).res = _
  unfold b_need_person
  exact (congrArg Out.res (if_f (not_ok (x := true) (b_ok (callN_ok (cons_ok rfl (cons_ok (m2_ok rfl rfl (web0 _ _)) rfl)) rfl u))) rfl)).trans rfl
theorem f_needBase {base : Nat} (b1 : 1 ≤ base) (b2 : base < 1000) : m_need_base.fn [nI base] = .ok .non := by
  have u : m_is_between.fn [nI base, .int 1, .int 1000] = .ok (.bl true) := by rw [f_between, decide_eq_true (by omega), decide_eq_true (by omega)]; rfl
  rw [fn_run rfl]
  show (b_need_base [some (nI base)]).res = _
  unfold b_need_base
  exact (congrArg Out.res (if_f (not_ok (x := true) (b_ok (callN_ok (cons_ok rfl (cons_ok rfl (cons_ok rfl rfl))) rfl u))) rfl)).trans rfl
theorem f_needCase {many : Nat} {leader : Nat} {base : Nat} {rows : List Row} {am : List Nat} (c : Case many leader base rows am) : m_need_case.fn [webD many rows, nI leader, nI base] = .ok .non := by
  rw [fn_run rfl]
  show (b_need_case [some (webD many rows), some (nI leader), some (nI base)]).res = _
  unfold b_need_case
  refine seq_res (drop_nx (callN_ok (cons_ok rfl rfl) rfl (f_needWeb c.v))) ?_
  refine seq_res (drop_nx (callN_ok (cons_ok rfl (cons_ok rfl rfl)) rfl (f_needPerson c.hl))) ?_
  exact (congrArg Out.res (drop_nx (callN_ok (cons_ok rfl rfl) rfl (f_needBase c.b1 c.b2)))).trans rfl
theorem f_areAmounts {many : Nat} {leader : Nat} {base : Nat} {rows : List Row} {am : List Nat} (c : Case many leader base rows am) : m_are_amounts.fn [webD many rows, lotD am] = .ok (.bl true) := by
  have h8 := c.h8
  have ha := c.ha
  have u1 : m_is_tuple_of.fn [lotD am, .int (rows.map rowD).length] = .ok (.bl true) := by
    rw [f_tupleOf, List.length_map, List.length_map, ha, decide_eq_true rfl]
  rw [fn_run rfl]
  show (b_are_amounts [some (webD many rows), some (lotD am), none]).res = _
  unfold b_are_amounts
  refine seq_res (ρ' := [some (webD many rows), some (lotD am), none]) (if_f (not_ok (x := true) (b_ok (callN_ok (cons_ok rfl (cons_ok (call1_ok (m2_ok rfl rfl (web1 _ _)) (len_tup _)) rfl)) rfl u1))) rfl) ?_
  refine ret_res (call1_ok (mLc_mapN (emb := nI) (l := am) (fun _ => .bl true) (sq_ok rfl rfl) (by omega) fun x hx => ?_) (Eq.trans (all_ok _ _) (by rw [List.all_eq_true.mpr fun _ _ => rfl])))
  have := c.am6 x hx
  exact call0_ok (cons_ok rfl (cons_ok rfl (cons_ok rfl rfl))) rfl (by rw [f_between, decide_eq_true (by omega), decide_eq_true (by omega)]; rfl)
theorem f_needAmounts {many : Nat} {leader : Nat} {base : Nat} {rows : List Row} {am : List Nat} (c : Case many leader base rows am) : m_need_amounts.fn [webD many rows, lotD am] = .ok .non := by
  rw [fn_run rfl]
  show (b_need_amounts [some (webD many rows), some (lotD am)]).res = _
  unfold b_need_amounts
  exact (congrArg Out.res (if_f (not_ok (x := true) (b_ok (callN_ok (cons_ok rfl (cons_ok rfl rfl)) rfl (f_areAmounts c)))) rfl)).trans rfl
theorem is_shD (o : Option (Nat × List Nat)) : D.is (shD o) .non = .ok (.bl o.isNone) := by cases o <;> rfl
theorem f_isForfeits {many : Nat} {leader : Nat} {base : Nat} {rows : List Row} {am : List Nat} (c : Case many leader base rows am) : m_is_forfeits.fn [webD many rows, nI leader, nI base, lotD am] = .ok (.bl (shortAt many rows leader base am).isNone) := by
  have hm := c.v.m5
  have h8 := c.h8
  rw [fn_run rfl]
  show (b_is_forfeits [some (webD many rows), some (nI leader), some (nI base), some (lotD am)]).res = _
  unfold b_is_forfeits
  refine seq_res (drop_nx (callN_ok (cons_ok rfl (cons_ok rfl (cons_ok rfl rfl))) rfl (f_needCase c))) ?_
  exact ret_res (andV_t (callN_ok (cons_ok rfl (cons_ok rfl rfl)) rfl (f_areAmounts c)) (m2_ok (callN_ok (cons_ok rfl (cons_ok rfl (cons_ok rfl (cons_ok rfl rfl)))) rfl (f_shortAt (by omega) (by omega) c.ha c.b2 leader)) rfl (is_shD _)))
abbrev Ent : Type := Nat × Option Nat
def entD (fs : List Ent) : D := .dic false (fs.map fun e => DK.i (e.1 : Int)) (fs.map fun e => optD e.2)
abbrev ordL (fs : List Ent) : List Nat := fs.map fun e => e.1
structure Bf (m leader : Nat) (rows : List Row) (fs : List Ent) : Prop where
  nd : (ordL fs).Nodup
  lt : ∀ e ∈ fs, e.1 < m
  hd : ∃ r, fs = (leader, none) :: r
  ok : ∀ i e, fs[i]? = some e → i ≠ 0 → ∃ k, e.2 = some k ∧ k < rows.length ∧ (rowK rows k).1 = e.1 ∧ ∃ j e', j < i ∧ fs[j]? = some e' ∧ e'.1 = (rowK rows k).2.1
theorem Bf.start {m leader : Nat} {rows : List Row} (h : leader < m) : Bf m leader rows [(leader, none)] :=
  ⟨nodup1 _, fun e he => by rw [List.mem_singleton.mp he]; exact h, ⟨[], rfl⟩, fun i e he hi => by
    cases i with
    | zero => exact absurd rfl hi
    | succ i => exact nomatch he⟩
theorem Bf.grow {m leader : Nat} {rows : List Row} {fs : List Ent} (b : Bf m leader rows fs) (hok : ∀ r ∈ rows, RowOk m r) {k at_ : Nat} (hk : k < rows.length) (hat : at_ < fs.length) (ht : (rowK rows k).2.1 = (fs[at_]).1) (hn : (rowK rows k).1 ∉ ordL fs) : Bf m leader rows (fs ++ [((rowK rows k).1, some k)]) where
  nd := by
    unfold ordL
    rw [List.map_append, List.nodup_append]
    exact ⟨b.nd, nodup1 _, fun x hx y hy e => by
      have hy2 : y = (rowK rows k).1 := List.mem_singleton.mp hy
      rw [e, hy2] at hx
      exact hn hx⟩
  lt := fun e he => by
    rcases List.mem_append.mp he with he | he
    · exact b.lt e he
    · rw [List.mem_singleton.mp he]
      exact (hok _ (rowK_mem hk)).1
  hd := by
    obtain ⟨r, e⟩ := b.hd
    exact ⟨r ++ [((rowK rows k).1, some k)], by rw [e]; rfl⟩
  ok := fun i e he hi => by
    rcases Nat.lt_or_ge i fs.length with h | h
    · rw [List.getElem?_append_left h] at he
      obtain ⟨k', a1, a2, a3, j, e', a4, a5, a6⟩ := b.ok i e he hi
      exact ⟨k', a1, a2, a3, j, e', a4, by rw [List.getElem?_append_left (by omega)]; exact a5, a6⟩
    · rw [List.getElem?_append_right h] at he
      have hi2 : i = fs.length := by
        by_cases z : i - fs.length = 0
        · omega
        · rw [List.getElem?_eq_none (by show 1 ≤ i - fs.length; omega)] at he
          exact nomatch he
      subst hi2
      rw [Nat.sub_self] at he
      cases he
      exact ⟨k, rfl, hk, rfl, at_, fs[at_], hat, by rw [List.getElem?_append_left hat, List.getElem?_eq_getElem hat], ht.symm⟩
theorem Bf.len {m leader : Nat} {rows : List Row} {fs : List Ent} (b : Bf m leader rows fs) : fs.length ≤ m := by
  have := nodup_le b.nd (n := m) fun x hx => by
    obtain ⟨e, he, rfl⟩ := List.mem_map.mp hx
    exact b.lt e he
  rw [List.length_map] at this
  exact this
theorem dget_ent (x : Nat) : ∀ fs : List Ent, (dget (fs.map fun e => DK.i (e.1 : Int)) (fs.map fun e => optD e.2) (.i (x : Int))).isSome = decide (x ∈ ordL fs)
  | [] => rfl
  | e :: fs => by
    rw [List.map_cons, List.map_cons]
    show (if DK.i (e.1 : Int) = .i (x : Int) then some (optD e.2) else dget (fs.map fun e => DK.i (e.1 : Int)) (fs.map fun e => optD e.2) (.i (x : Int))).isSome = decide (x ∈ e.1 :: ordL fs)
    by_cases q : e.1 = x
    · subst q
      rw [if_pos rfl, decide_eq_true (List.mem_cons_self)]
      rfl
    · rw [if_neg fun z => q (by injection z with z; omega), dget_ent x fs]
      refine bool_ext ?_
      rw [decide_eq_true_iff, decide_eq_true_iff, List.mem_cons]
      exact ⟨.inr, fun z => z.elim (fun z => absurd z.symm q) id⟩
theorem notIn_ent (x : Nat) (fs : List Ent) : D.notIn (nI x) (entD fs) = .ok (.bl (!decide (x ∈ ordL fs))) := by
  show (if isKind false (DK.i (x : Int)) = true then R.ok (D.bl (!(dget (fs.map fun e => DK.i (e.1 : Int)) (fs.map fun e => optD e.2) (.i (x : Int))).isSome)) else .bad) = _
  rw [if_pos (show isKind false (DK.i (x : Int)) = true from rfl), dget_ent]
theorem dhas_ent (x : Nat) (fs : List Ent) : dhas (fs.map fun e => DK.i (e.1 : Int)) (.i (x : Int)) = decide (x ∈ ordL fs) := bool_ext (by
  unfold dhas
  rw [List.any_map, List.any_eq_true, decide_eq_true_iff]
  constructor
  · rintro ⟨e, he, q⟩
    have q2 : DK.i (e.1 : Int) = .i (x : Int) := of_decide_eq_true q
    have q3 : e.1 = x := by injection q2 with q2; omega
    exact List.mem_map.mpr ⟨e, he, q3⟩
  · intro h
    obtain ⟨e, he, rfl⟩ := List.mem_map.mp h
    exact ⟨e, he, decide_eq_true rfl⟩)
theorem put_ent {i : Nat} {ρ : G.Env} {fs : List Ent} {x k : Nat} {mk mv : G.Env → R D} (h1 : ρ[i]? = some (some (entD fs))) (hk : mk ρ = .ok (nI x)) (hv : mv ρ = .ok (nI k)) (hl : fs.length ≤ 1000) (hn : x ∉ ordL fs) :
    mDPut i mk mv ρ = .nx (ρ.set i (some (entD (fs ++ [(x, some k)])))) := by
  unfold mDPut
  rw [hv]
  show (match ρ[i]? with
    | some (some (.dic t ks ds)) => oBind (mk ρ) ρ fun j => (match j.key with
      | some q => if isKind t q = true ∧ ks.length < sizeLine then Out.nx (ρ.set i (some (.dic t (dput ks ds q (nI k)).1 (dput ks ds q (nI k)).2))) else .bad
      | none => .bad)
    | _ => .bad) = _
  rw [h1]
  show oBind (mk ρ) ρ _ = _
  rw [hk]
  show (if isKind false (DK.i (x : Int)) = true ∧ (fs.map fun e => DK.i (e.1 : Int)).length < sizeLine then Out.nx (ρ.set i (some (.dic false (dput (fs.map fun e => DK.i (e.1 : Int)) (fs.map fun e => optD e.2) (.i (x : Int)) (nI k)).1 (dput (fs.map fun e => DK.i (e.1 : Int)) (fs.map fun e => optD e.2) (.i (x : Int)) (nI k)).2))) else .bad) = _
  rw [if_pos ⟨rfl, by rw [List.length_map, sizeLine_eq]; omega⟩]
  have e : dput (fs.map fun e => DK.i (e.1 : Int)) (fs.map fun e => optD e.2) (.i (x : Int)) (nI k) = ((fs ++ [(x, some k)]).map fun e => DK.i (e.1 : Int), (fs ++ [(x, some k)]).map fun e => optD e.2) := by
    unfold dput
    rw [dhas_ent, decide_eq_false hn, if_neg Bool.false_ne_true, List.map_append, List.map_append]
    rfl
  rw [e]
  rfl
def lsC : G.Env → R Bool := (mB (m2 D.lt (mVar 4) (mScal (mCall (d1 D.len) (mCons (mVar 3) mNil)))))
def lsB : G.Env → Out := (mSeq (mFor (mSq D.seq (mCallN 2 m__law_gets.fn (mCons (mVar 0) (mCons (mScal (m2 D.ix (mVar 3) (mVar 4))) mNil)))) (gnName 5) (mIf (mB (m2 D.notIn (m2 D.ix (m2 D.ix (m2 D.ix (mVar 0) (mC (.int 1))) (mVar 5)) (mC (.int 0))) (mVar 2))) (mSeq (mDPut 2 (m2 D.ix (m2 D.ix (m2 D.ix (mVar 0) (mC (.int 1))) (mVar 5)) (mC (.int 0))) (mVar 5)) (mMut "list" 3 dAppend (mCons (m2 D.ix (m2 D.ix (m2 D.ix (mVar 0) (mC (.int 1))) (mVar 5)) (mC (.int 0))) mNil) kDrop)) mNext)) (mSet 4 (m2 D.add (mVar 4) (mC (.int 1)))))
def lsI : G.Env → Out := (mIf (mB (m2 D.notIn (m2 D.ix (m2 D.ix (m2 D.ix (mVar 0) (mC (.int 1))) (mVar 5)) (mC (.int 0))) (mVar 2))) (mSeq (mDPut 2 (m2 D.ix (m2 D.ix (m2 D.ix (mVar 0) (mC (.int 1))) (mVar 5)) (mC (.int 0))) (mVar 5)) (mMut "list" 3 dAppend (mCons (m2 D.ix (m2 D.ix (m2 D.ix (mVar 0) (mC (.int 1))) (mVar 5)) (mC (.int 0))) mNil) kDrop)) mNext)
theorem ls_in {many leader at_ : Nat} {rows : List Row} {c1 : Option D} (hok : ∀ r ∈ rows, RowOk many r) (hm : many ≤ 100) : ∀ (ks : List Nat) (fs : List Ent) (v5 : Option D) (hat : at_ < fs.length), Bf many leader rows fs → (∀ k ∈ ks, k < rows.length ∧ (rowK rows k).2.1 = (fs[at_]).1) → ∃ (fs' : List Ent) (w5 : Option D), Bf many leader rows fs' ∧ at_ < fs'.length ∧
    loopD (stepD (gnName 5) lsI) (ks.map nI) [some (webD many rows), c1, some (entD fs), some (.lst ((ordL fs).map nI)), some (nI at_), v5] = .nx [some (webD many rows), c1, some (entD fs'), some (.lst ((ordL fs').map nI)), some (nI at_), w5]
  | [], fs, v5, hat, b, _ => ⟨fs, v5, b, hat, rfl⟩
  | k :: ks, fs, v5, hat, b, h => by
    obtain ⟨hk, ht⟩ := h k (.head _)
    have hl := b.len
    have hx : m2 D.ix (m2 D.ix (m2 D.ix (mVar 0) (mC (.int 1))) (mVar 5)) (mC (.int 0)) [some (webD many rows), c1, some (entD fs), some (.lst ((ordL fs).map nI)), some (nI at_), some (nI k)] = .ok (nI (rowK rows k).1) := m2_ok (rowAt rfl rfl hk) rfl (row0 _)
    have hc : mB (m2 D.notIn (m2 D.ix (m2 D.ix (m2 D.ix (mVar 0) (mC (.int 1))) (mVar 5)) (mC (.int 0))) (mVar 2)) [some (webD many rows), c1, some (entD fs), some (.lst ((ordL fs).map nI)), some (nI at_), some (nI k)] = .ok (!decide ((rowK rows k).1 ∈ ordL fs)) := b_ok (m2_ok hx rfl (notIn_ent _ _))
    rw [List.map_cons]
    by_cases q : (rowK rows k).1 ∈ ordL fs
    · rw [decide_eq_true q] at hc
      obtain ⟨fs', w5, b', a', e⟩ := ls_in (c1 := c1) hok hm ks fs (some (nI k)) hat b fun j hj => h j (.tail _ hj)
      exact ⟨fs', w5, b', a', loop_cons (ρ1 := [some (webD many rows), c1, some (entD fs), some (.lst ((ordL fs).map nI)), some (nI at_), some (nI k)]) (ρ2 := [some (webD many rows), c1, some (entD fs), some (.lst ((ordL fs).map nI)), some (nI at_), some (nI k)]) rfl (if_f hc rfl) e⟩
    · rw [decide_eq_false q] at hc
      have b2 := b.grow hok hk hat ht q
      have hat2 : at_ < (fs ++ [((rowK rows k).1, some k)]).length := by rw [List.length_append]; omega
      have e0 : (fs ++ [((rowK rows k).1, some k)])[at_] = fs[at_] := List.getElem_append_left hat
      obtain ⟨fs', w5, b', a', e⟩ := ls_in (c1 := c1) hok hm ks (fs ++ [((rowK rows k).1, some k)]) (some (nI k)) hat2 b2 fun j hj => by rw [e0]; exact h j (.tail _ hj)
      refine ⟨fs', w5, b', a', loop_cons (ρ1 := [some (webD many rows), c1, some (entD fs), some (.lst ((ordL fs).map nI)), some (nI at_), some (nI k)]) (ρ2 := [some (webD many rows), c1, some (entD (fs ++ [((rowK rows k).1, some k)])), some (.lst ((ordL (fs ++ [((rowK rows k).1, some k)])).map nI)), some (nI at_), some (nI k)]) rfl (if_t hc (seq_nx (put_ent (k := k) rfl hx rfl (by omega) q) (Eq.trans (mut_append (xs := (ordL fs).map nI) (y := nI (rowK rows k).1) rfl (cons_ok (m2_ok (rowAt rfl rfl hk) rfl (row0 _)) rfl) (by rw [List.length_map, List.length_map]; omega)) ?_))) e⟩
      rw [show (ordL (fs ++ [((rowK rows k).1, some k)])).map nI = (ordL fs).map nI ++ [nI (rowK rows k).1] by unfold ordL; rw [List.map_append, List.map_append]; rfl]
      rfl
theorem ls_wh {many leader : Nat} {rows : List Row} {c1 : Option D} (hok : ∀ r ∈ rows, RowOk many r) (hm : many ≤ 100) (hr : rows.length ≤ 100) : ∀ (fuel N : Nat) (fs : List Ent) (at_ : Nat) (v5 : Option D), Bf many leader rows fs → at_ ≤ fs.length → many - at_ ≤ fuel → fuel + 2 ≤ N → ∃ (fs' : List Ent) (b : Nat) (w5 : Option D), Bf many leader rows fs' ∧
    whileN lsC lsB N [some (webD many rows), c1, some (entD fs), some (.lst ((ordL fs).map nI)), some (nI at_), v5] = .nx [some (webD many rows), c1, some (entD fs'), some (.lst ((ordL fs').map nI)), some (nI b), w5] := by
  intro fuel
  induction fuel with
  | zero =>
    intro N fs at_ v5 b hle hf hN
    obtain ⟨n1, rfl⟩ : ∃ n1, N = n1 + 1 := ⟨N - 1, by omega⟩
    have hl := b.len
    refine ⟨fs, at_, v5, b, wh_end (b_ok (m2_ok rfl (scal_int (call1_ok rfl (len_lst _))) ?_))⟩
    rw [dlt, List.length_map, List.length_map, decide_eq_false (by omega)]
  | succ fuel ih =>
    intro N fs at_ v5 b hle hf hN
    obtain ⟨n1, rfl⟩ : ∃ n1, N = n1 + 1 := ⟨N - 1, by omega⟩
    have hl := b.len
    by_cases ha : at_ < fs.length
    · have hc : lsC [some (webD many rows), c1, some (entD fs), some (.lst ((ordL fs).map nI)), some (nI at_), v5] = .ok true :=
        b_ok (m2_ok rfl (scal_int (call1_ok rfl (len_lst _))) (by rw [dlt, List.length_map, List.length_map, decide_eq_true (by omega)]))
      obtain ⟨fs', w5, b', a', e⟩ := ls_in (c1 := c1) hok hm (gtL rows (fs[at_]).1) fs v5 ha b fun k hk => mem_gtL.mp hk
      obtain ⟨fs2, b2, w52, q1, q2⟩ := ih n1 fs' (at_ + 1) w5 b' (by omega) (by omega) (by omega)
      have hix : mScal (m2 D.ix (mVar 3) (mVar 4)) [some (webD many rows), c1, some (entD fs), some (.lst ((ordL fs).map nI)), some (nI at_), v5] = .ok (nI (fs[at_]).1) := scal_int (m2_ok rfl rfl (Eq.trans (ixL (l := ordL fs) (k := at_) (by rw [List.length_map]; exact ha)) (by rw [List.getElem_map])))
      refine ⟨fs2, b2, w52, q1, wh_step hc (seq_nx (ρ' := [some (webD many rows), c1, some (entD fs'), some (.lst ((ordL fs').map nI)), some (nI at_), w5]) (for_ok (sq_ok (callN_ok (cons_ok rfl (cons_ok hix rfl)) rfl (f_lawGets (by omega) _)) rfl) e) (set_nx (d := nI (at_ + 1)) rfl)) q2⟩
    · refine ⟨fs, at_, v5, b, wh_end (b_ok (m2_ok rfl (scal_int (call1_ok rfl (len_lst _))) ?_))⟩
      rw [dlt, List.length_map, List.length_map, decide_eq_false (by omega)]
theorem f_lawSteps {many leader : Nat} {rows : List Row} (hok : ∀ r ∈ rows, RowOk many r) (hm : many ≤ 100) (hr : rows.length ≤ 100) (hl : leader < many) : ∃ fs : List Ent, m__law_steps.fn [webD many rows, nI leader] = .ok (entD fs) ∧ Bf many leader rows fs := by
  obtain ⟨fs, b, w5, q1, q2⟩ := ls_wh (c1 := some (nI leader)) hok hm hr many bigN [(leader, none)] 0 none (Bf.start hl) (by show 0 ≤ 1; omega) (by omega) (by show many + 2 ≤ 1000000000; omega)
  refine ⟨fs, ?_, q1⟩
  rw [fn_run rfl]
  show (b__law_steps [some (webD many rows), some (nI leader), none, none, none, none]).res = _
  unfold b__law_steps
  refine seq_res (ρ' := [some (webD many rows), some (nI leader), some (entD [(leader, none)]), none, none, none]) (set_nx (d := entD [(leader, none)]) ?_) ?_
  · show (if 1 ≤ 15 then R.ok (D.dic false (dmergeG [(Sum.inl (leader : Int), D.non)] ([], [])).1 (dmergeG [(Sum.inl (leader : Int), D.non)] ([], [])).2) else .bad) = _
    rw [if_pos (by omega)]
    rfl
  refine seq_res (ρ' := [some (webD many rows), some (nI leader), some (entD [(leader, none)]), some (.lst ((ordL [(leader, none)]).map nI)), none, none]) (set_nx (mLst_ok (cons_ok rfl rfl) (by show 1 ≤ 16777216; omega))) ?_
  refine seq_res (ρ' := [some (webD many rows), some (nI leader), some (entD [(leader, none)]), some (.lst ((ordL [(leader, none)]).map nI)), some (nI 0), none]) (set_nx rfl) ?_
  exact seq_res q2 (ret_res rfl)
theorem dget_at : ∀ {fs : List Ent} {x : Nat} {o : Option Nat}, (ordL fs).Nodup → (x, o) ∈ fs → dget (fs.map fun e => DK.i (e.1 : Int)) (fs.map fun e => optD e.2) (.i (x : Int)) = some (optD o)
  | e :: fs, x, o, hn, h => by
    rw [List.map_cons, List.map_cons]
    show (if DK.i (e.1 : Int) = .i (x : Int) then some (optD e.2) else dget (fs.map fun e => DK.i (e.1 : Int)) (fs.map fun e => optD e.2) (.i (x : Int))) = _
    have hn' : e.1 ∉ ordL fs ∧ (ordL fs).Nodup := List.nodup_cons.mp hn
    rcases List.mem_cons.mp h with q | q
    · rw [← q, if_pos rfl]
    · have hx : x ∈ ordL fs := List.mem_map.mpr ⟨_, q, rfl⟩
      rw [if_neg fun z => hn'.1 (by
        have : e.1 = x := by injection z with z; omega
        rw [this]; exact hx)]
      exact dget_at hn'.2 q
theorem get_ent {fs : List Ent} {x : Nat} {o : Option Nat} (hn : (ordL fs).Nodup) (h : (x, o) ∈ fs) : D.dgetE (entD fs) (nI x) = .ok (optD o) := by
  show (if isKind false (DK.i (x : Int)) = true then (match dget (fs.map fun e => DK.i (e.1 : Int)) (fs.map fun e => optD e.2) (.i (x : Int)) with | some d => R.ok d | none => .bad) else .bad) = _
  rw [if_pos (show isKind false (DK.i (x : Int)) = true from rfl), dget_at hn h]
theorem len_ent (fs : List Ent) : D.len (entD fs) = .ok (nI fs.length) := by
  show R.ok (D.int ((fs.map fun e => DK.i (e.1 : Int)).length : Nat)) = _
  rw [List.length_map]
/-- where all are found, each person is there -/
theorem Bf.all {m leader : Nat} {rows : List Row} {fs : List Ent} (b : Bf m leader rows fs) (h : fs.length = m) {x : Nat} (hx : x < m) : x ∈ ordL fs := by
  refine Classical.byContradiction fun z => ?_
  have h1 : (x :: ordL fs).Nodup := List.nodup_cons.mpr ⟨z, b.nd⟩
  have := nodup_le h1 (n := m) fun y hy => by
    rcases List.mem_cons.mp hy with e | hy
    · rw [e]; exact hx
    · obtain ⟨e, he, rfl⟩ := List.mem_map.mp hy
      exact b.lt e he
  rw [List.length_cons, List.length_map] at this
  omega
theorem lput_ok {i k x : Nat} {ρ : G.Env} {l : List Nat} {mk mv : G.Env → R D} (h1 : ρ[i]? = some (some (.lst (l.map nI)))) (hk : mk ρ = .ok (nI k)) (hv : mv ρ = .ok (nI x)) (hl : k < l.length) : mLPut i mk mv ρ = .nx (ρ.set i (some (.lst ((l.set k x).map nI)))) := by
  unfold mLPut
  rw [hv]
  show (match ρ[i]? with
    | some (some (.lst ds)) => oBind (mk ρ) ρ fun j => (match j with
      | .int k => (match ixN ds.length k with
        | some n => Out.nx (ρ.set i (some (.lst (ds.set n (nI x)))))
        | none => .bad)
      | _ => .bad)
    | _ => .bad) = _
  rw [h1]
  show oBind (mk ρ) ρ _ = _
  rw [hk]
  show (match ixN (l.map nI).length (k : Int) with
        | some n => Out.nx (ρ.set i (some (.lst ((l.map nI).set n (nI x)))))
        | none => .bad) = _
  have e : ixN (l.map nI).length (k : Int) = some k := by
    rw [List.length_map]
    unfold ixN
    simp
    omega
  rw [e]
  show Out.nx (ρ.set i (some (.lst ((l.map nI).set k (nI x))))) = _
  rw [List.map_set]
def waC : G.Env → R Bool := (mB (m2 D.isnt (m2 D.dgetE (mVar 6) (mVar 9)) (mC .non)))
def waB : G.Env → Out := (mSeq (mLPut 7 (m2 D.dgetE (mVar 6) (mVar 9)) (m2 D.add (mScal (m2 D.ix (mVar 7) (m2 D.dgetE (mVar 6) (mVar 9)))) (mVar 4))) (mSet 9 (m2 D.ix (m2 D.ix (m2 D.ix (mVar 2) (mC (.int 1))) (m2 D.dgetE (mVar 6) (mVar 9))) (mC (.int 1)))))
theorem wa_wh {many leader base : Nat} {rows : List Row} {fs : List Ent} {c0 c1 c3 c5 c8 : Option D} (b : Bf many leader rows fs) (hall : fs.length = many) (hok : ∀ r ∈ rows, RowOk many r) : ∀ (j N : Nat) (am : List Nat) (here B : Nat) (o : Option Nat), fs[j]? = some (here, o) → am.length = rows.length → (∀ x ∈ am, x ≤ B) → j + 2 ≤ N → ∃ (am' : List Nat) (here' : Nat), am'.length = rows.length ∧ (∀ x ∈ am', x ≤ B + base * (j + 1)) ∧
    whileN waC waB N [c0, c1, some (webD many rows), c3, some (nI base), c5, some (entD fs), some (.lst (am.map nI)), c8, some (nI here)] = .nx [c0, c1, some (webD many rows), c3, some (nI base), c5, some (entD fs), some (.lst (am'.map nI)), c8, some (nI here')] := by
  intro j
  induction j using Nat.strongRecOn with
  | _ j ih =>
    intro N am here B o hj ha hB hN
    obtain ⟨n1, rfl⟩ : ∃ n1, N = n1 + 1 := ⟨N - 1, by omega⟩
    have hmem : (here, o) ∈ fs := List.mem_of_getElem? hj
    have hget : ∀ (am2 : List Nat), m2 D.dgetE (mVar 6) (mVar 9) [c0, c1, some (webD many rows), c3, some (nI base), c5, some (entD fs), some (.lst (am2.map nI)), c8, some (nI here)] = .ok (optD o) := fun am2 => m2_ok rfl rfl (get_ent b.nd hmem)
    cases o with
    | none =>
      refine ⟨am, here, ha, fun x hx => Nat.le_trans (hB x hx) (Nat.le_add_right _ _), wh_end (b_ok (m2_ok (hget am) rfl rfl))⟩
    | some k =>
      have hj0 : j ≠ 0 := fun z => by
        subst z
        obtain ⟨r, e⟩ := b.hd
        rw [e] at hj
        cases hj
      obtain ⟨k', e1, hk, hgk, i, e', hi, hfi, hte⟩ := b.ok j _ hj hj0
      cases e1
      obtain ⟨e1', o'⟩ := e'
      have hte2 : e1' = (rowK rows k).2.1 := hte
      subst hte2
      have hka : k < am.length := by rw [ha]; exact hk
      obtain ⟨am', here', q1, q2, q3⟩ := ih i hi n1 (am.set k (am[k] + base)) (rowK rows k).2.1 (B + base) o' hfi (by rw [List.length_set]; exact ha) (fun x hx => by
        rcases List.mem_or_eq_of_mem_set hx with h | h
        · exact Nat.le_trans (hB x h) (Nat.le_add_right _ _)
        · rw [h]
          have := hB am[k] (List.getElem_mem _)
          omega) (by omega)
      refine ⟨am', here', q1, fun x hx => Nat.le_trans (q2 x hx) ?_, wh_step (b_ok (m2_ok (hget am) rfl rfl)) (seq_nx (lput_ok (l := am) (k := k) (x := am[k] + base) rfl (hget am) (m2_ok (scal_int (m2_ok rfl (hget am) (ixL hka))) rfl rfl) hka) (set_nx (m2_ok (m2_ok (m2_ok rfl rfl (web1 _ _)) (hget _) (Eq.trans (rows_ix hk) (by rw [rowK, row_getD hk]))) rfl (row1 (rowK rows k))))) q3⟩
      have : base * (i + 1) + base ≤ base * (j + 1) := by
        rw [← Nat.mul_succ]
        exact Nat.mul_le_mul_left _ (by omega)
      omega
def waF : G.Env → Out := (mSeq (mSet 9 (m2 D.ix (m2 D.ix (m2 D.ix (mVar 2) (mC (.int 1))) (mVar 8)) (mC (.int 1)))) (mWhile (mB (m2 D.isnt (m2 D.dgetE (mVar 6) (mVar 9)) (mC .non))) (mSeq (mLPut 7 (m2 D.dgetE (mVar 6) (mVar 9)) (m2 D.add (mScal (m2 D.ix (mVar 7) (m2 D.dgetE (mVar 6) (mVar 9)))) (mVar 4))) (mSet 9 (m2 D.ix (m2 D.ix (m2 D.ix (mVar 2) (mC (.int 1))) (m2 D.dgetE (mVar 6) (mVar 9))) (mC (.int 1)))))))
theorem wa_for {many leader base : Nat} {rows : List Row} {fs : List Ent} {c0 c1 c3 c5 : Option D} (b : Bf many leader rows fs) (hall : fs.length = many) (hm : many ≤ 100) (hok : ∀ r ∈ rows, RowOk many r) : ∀ (ks am : List Nat) (v8 v9 : Option D) (B : Nat), (∀ k ∈ ks, k < rows.length) → am.length = rows.length → (∀ x ∈ am, x ≤ B) → ∃ (am' : List Nat) (w8 w9 : Option D), am'.length = rows.length ∧ (∀ x ∈ am', x ≤ B + base * (many + 1) * ks.length) ∧
    loopD (stepD (gnName 8) waF) (ks.map nI) [c0, c1, some (webD many rows), c3, some (nI base), c5, some (entD fs), some (.lst (am.map nI)), v8, v9] = .nx [c0, c1, some (webD many rows), c3, some (nI base), c5, some (entD fs), some (.lst (am'.map nI)), w8, w9]
  | [], am, v8, v9, B, _, ha, hB => ⟨am, v8, v9, ha, fun x hx => Nat.le_trans (hB x hx) (Nat.le_add_right _ _), rfl⟩
  | k :: ks, am, v8, v9, B, hk, ha, hB => by
    have hkn := hk k (.head _)
    have ht := (hok _ (rowK_mem hkn)).2.1
    obtain ⟨e, he, hex⟩ := List.mem_map.mp (b.all hall ht)
    obtain ⟨j, hj, hje⟩ := List.getElem_of_mem he
    have hje2 : fs[j]? = some ((rowK rows k).2.1, e.2) := by rw [List.getElem?_eq_getElem hj, hje, ← hex]
    obtain ⟨am1, here, a1, a2, a3⟩ := wa_wh (base := base) (c0 := c0) (c1 := c1) (c3 := c3) (c5 := c5) (c8 := some (nI k)) b hall hok j bigN am (rowK rows k).2.1 B e.2 hje2 ha hB (by show j + 2 ≤ 1000000000; omega)
    have hb1 : base * (j + 1) ≤ base * (many + 1) := Nat.mul_le_mul_left _ (by omega)
    obtain ⟨am', w8, w9, q1, q2, q3⟩ := wa_for (base := base) (c0 := c0) (c1 := c1) (c3 := c3) (c5 := c5) b hall hm hok ks am1 (some (nI k)) (some (nI here)) (B + base * (many + 1)) (fun i hi => hk i (.tail _ hi)) a1 fun x hx => Nat.le_trans (a2 x hx) (Nat.add_le_add_left hb1 B)
    refine ⟨am', w8, w9, q1, fun x hx => ?_, ?_⟩
    · have := q2 x hx
      rw [List.length_cons, Nat.mul_succ]
      omega
    · rw [List.map_cons]
      exact loop_cons (ρ1 := [c0, c1, some (webD many rows), c3, some (nI base), c5, some (entD fs), some (.lst (am.map nI)), some (nI k), v9]) (ρ2 := [c0, c1, some (webD many rows), c3, some (nI base), c5, some (entD fs), some (.lst (am1.map nI)), some (nI k), some (nI here)]) rfl (seq_nx (ρ' := [c0, c1, some (webD many rows), c3, some (nI base), c5, some (entD fs), some (.lst (am.map nI)), some (nI k), some (nI (rowK rows k).2.1)]) (set_nx (m2_ok (rowAt rfl rfl hkn) rfl (row1 _))) a3) q3
theorem getDN {l : List Nat} {k : Nat} (h : k < l.length) : l.getD k 0 = l[k] := by
  rw [List.getD_eq_getElem?_getD, List.getElem?_eq_getElem h]
  rfl
theorem ixG {l : List Nat} {k : Nat} (h : k < l.length) : D.ix (.lst (l.map nI)) (nI k) = .ok (nI (l.getD k 0)) := by
  rw [ixL h, getDN h]
theorem toInt_bl (b : Bool) : D.toInt (.bl b) = .ok (nI (if b then 1 else 0)) := by cases b <;> rfl
theorem dec1 (x : Nat) : D.max2 (.int 0) (.int ((x : Int) - 1)) = .ok (nI (x - 1)) := by
  show R.ok (D.int (if (x : Int) - 1 > 0 then (x : Int) - 1 else 0)) = _
  refine congrArg (fun z => R.ok (D.int z)) ?_
  by_cases h : (x : Int) - 1 > 0
  · rw [if_pos h]
    omega
  · rw [if_neg h]
    omega
theorem f_lawAmounts {many leader base : Nat} {rows : List Row} (c1 c2 : Int) (v : Valid many rows) (h8 : rows.length ≤ 8) (hl : leader < many) (hb : base ≤ 9) : ∃ am : List Nat, m__law_amounts.fn [.int c1, .int c2, webD many rows, nI leader, nI base] = .ok (lotD am) ∧ am.length = rows.length ∧ ∀ x ∈ am, x ≤ 10000 := by
  have hm := v.m5
  have hr1 := v.r1
  obtain ⟨dg, ed, hd, hdb⟩ := f_rowN c1 20 60 (by omega) (by omega) (by omega)
  obtain ⟨fs, es, b⟩ := f_lawSteps v.ok (by omega) (by omega) hl
  obtain ⟨n, hn⟩ : ∃ n, n = rows.length := ⟨_, rfl⟩
  have hlen : ∀ ρ : G.Env, ρ[2]? = some (some (webD many rows)) → mCall (d1 D.len) (mCons (m2 D.ix (mVar 2) (mC (.int 1))) mNil) ρ = .ok (nI n) := fun ρ h => by
    have hv : mVar 2 ρ = .ok (webD many rows) := by unfold mVar; rw [h]
    exact call1_ok (m2_ok hv rfl (web1 _ _)) (Eq.trans (len_tup _) (by rw [List.length_map, hn]))
  rw [fn_run rfl]
  show ∃ am : List Nat, (b__law_amounts [some (.int c1), some (.int c2), some (webD many rows), some (nI leader), some (nI base), none, none, none, none, none]).res = .ok (lotD am) ∧ _
  unfold b__law_amounts
  obtain ⟨a0, ea0⟩ : ∃ a0 : List Nat, a0 = (List.range n).map fun k => dg.getD k 0 := ⟨_, rfl⟩
  have ha0 : a0.length = rows.length := by rw [ea0, List.length_map, List.length_range, hn]
  have hb0 : ∀ x ∈ a0, x ≤ 60 := fun x hx => by
    rw [ea0] at hx
    obtain ⟨k, hk, rfl⟩ := List.mem_map.mp hx
    have hk2 : k < dg.length := by have := List.mem_range.mp hk; omega
    rw [getDN hk2]
    have := hdb _ (List.getElem_mem hk2)
    omega
  have s5 : mSet 5 (mCallN 3 m__law_row.fn (mCons (mVar 0) (mCons (mC (.int 20)) (mCons (mC (.int 60)) mNil)))) [some (.int c1), some (.int c2), some (webD many rows), some (nI leader), some (nI base), none, none, none, none, none] = .nx [some (.int c1), some (.int c2), some (webD many rows), some (nI leader), some (nI base), some (.lst (dg.map nI)), none, none, none, none] := set_nx (d := .lst (dg.map nI)) (callN_ok (cons_ok rfl (cons_ok rfl (cons_ok rfl rfl))) rfl ed)
  have s6 : mSet 6 (mCallN 2 m__law_steps.fn (mCons (mVar 2) (mCons (mVar 3) mNil))) [some (.int c1), some (.int c2), some (webD many rows), some (nI leader), some (nI base), some (.lst (dg.map nI)), none, none, none, none] = .nx [some (.int c1), some (.int c2), some (webD many rows), some (nI leader), some (nI base), some (.lst (dg.map nI)), some (entD fs), none, none, none] := set_nx (d := entD fs) (callN_ok (cons_ok rfl (cons_ok rfl rfl)) rfl es)
  have s7 : mSet 7 (mLc [8] (mSq dRange1 (mCall (d1 D.len) (mCons (m2 D.ix (mVar 2) (mC (.int 1))) mNil))) (gnName 8) mYes (m2 D.ix (mVar 5) (mVar 8))) [some (.int c1), some (.int c2), some (webD many rows), some (nI leader), some (nI base), some (.lst (dg.map nI)), some (entD fs), none, none, none] = .nx [some (.int c1), some (.int c2), some (webD many rows), some (nI leader), some (nI base), some (.lst (dg.map nI)), some (entD fs), some (.lst (a0.map nI)), none, none] :=
    set_nx (d := .lst (a0.map nI)) (Eq.trans (mLc_mapN (emb := nI) (l := List.range n) (fun k => nI (dg.getD k 0)) (sq_ok (hlen _ rfl) (range1_ok (by omega))) (by rw [List.length_range]; omega) fun k hk => m2_ok rfl rfl (ixG (by have := List.mem_range.mp hk; omega))) (by rw [ea0, List.map_map]; rfl))
  have hc : (mAnd (mB (m2 D.lt (m2 D.ix (mVar 5) (mC (.int 12))) (mC (.int 40)))) (mB (m2 D.eq (mCall (d1 D.len) (mCons (mVar 6) mNil)) (m2 D.ix (mVar 2) (mC (.int 0)))))) [some (.int c1), some (.int c2), some (webD many rows), some (nI leader), some (nI base), some (.lst (dg.map nI)), some (entD fs), some (.lst (a0.map nI)), none, none] = .ok (decide (((dg.getD 12 0 : Nat) : Int) < 40) && decide (fs.length = many)) :=
    and_tf (b_ok (m2_ok (m2_ok rfl rfl (ixG (k := 12) (by omega))) rfl (dlt _ _))) (b_ok (m2_ok (call1_ok rfl (len_ent fs)) (m2_ok rfl rfl (web0 _ _)) (deqN _ _)))
  cases q : decide (((dg.getD 12 0 : Nat) : Int) < 40) && decide (fs.length = many) with
  | false =>
    rw [q] at hc
    refine ⟨a0, ?_, ha0, fun x hx => Nat.le_trans (hb0 x hx) (by omega)⟩
    exact seq_res s5 (seq_res s6 (seq_res s7 (seq_res (if_f hc rfl) (ret_res (call1_ok rfl rfl)))))
  | true =>
    rw [q] at hc
    have hall : fs.length = many := of_decide_eq_true (Bool.and_eq_true_iff.mp q).2
    obtain ⟨a1, ea1⟩ : ∃ a1 : List Nat, a1 = a0.map fun _ => base := ⟨_, rfl⟩
    have ha1 : a1.length = rows.length := by rw [ea1, List.length_map, ha0]
    have hb1 : ∀ x ∈ a1, x ≤ base := fun x hx => by
      rw [ea1] at hx
      obtain ⟨k, _, rfl⟩ := List.mem_map.mp hx
      exact Nat.le_refl _
    obtain ⟨a2, w8, w9, ha2, hb2, ef⟩ := wa_for (base := base) (c0 := some (.int c1)) (c1 := some (.int c2)) (c3 := some (nI leader)) (c5 := some (.lst (dg.map nI))) b hall (by omega) v.ok (List.range n) a1 none none base (fun k hk => by have := List.mem_range.mp hk; omega) ha1 hb1
    have hb22 : ∀ x ∈ a2, x ≤ 1000 := fun x hx => by
      refine Nat.le_trans (hb2 x hx) ?_
      rw [List.length_range]
      have h1 : base * (many + 1) ≤ 9 * 7 := Nat.mul_le_mul hb (by omega)
      have h2 : base * (many + 1) * n ≤ 63 * 8 := Nat.mul_le_mul h1 (by omega)
      omega
    obtain ⟨a3, ea3⟩ : ∃ a3 : List Nat, a3 = (List.range n).map fun k => a2.getD k 0 + dg.getD k 0 / 20 * (if decide (((dg.getD 13 0 : Nat) : Int) < 20) then 1 else 0) := ⟨_, rfl⟩
    have ha3 : a3.length = rows.length := by rw [ea3, List.length_map, List.length_range, hn]
    have hb3 : ∀ x ∈ a3, x ≤ 2000 := fun x hx => by
      rw [ea3] at hx
      obtain ⟨k, hk, rfl⟩ := List.mem_map.mp hx
      have hk0 := List.mem_range.mp hk
      have hk2 : k < dg.length := by omega
      have hk3 : k < a2.length := by omega
      rw [getDN hk2, getDN hk3]
      have h1 := hdb _ (List.getElem_mem hk2)
      have h2 := hb22 _ (List.getElem_mem hk3)
      have h3 : dg[k] / 20 * (if decide (((dg.getD 13 0 : Nat) : Int) < 20) = true then 1 else 0) ≤ 3 * 1 := Nat.mul_le_mul (by omega) (by split <;> omega)
      omega
    have t7 : mSet 7 (mScalL (mLc [8] (mSq D.seq (mVar 7)) (gnName 8) mYes (mVar 4))) [some (.int c1), some (.int c2), some (webD many rows), some (nI leader), some (nI base), some (.lst (dg.map nI)), some (entD fs), some (.lst (a0.map nI)), none, none] = .nx [some (.int c1), some (.int c2), some (webD many rows), some (nI leader), some (nI base), some (.lst (dg.map nI)), some (entD fs), some (.lst (a1.map nI)), none, none] :=
      set_nx (d := .lst (a1.map nI)) (scalL_ok (Eq.trans (mLc_mapN (emb := nI) (l := a0) (fun _ => nI base) (sq_ok rfl rfl) (by omega) fun k _ => rfl) (by rw [ea1, List.map_map]; rfl)))
    have u7 : mSet 7 (mScalL (mLc [8] (mSq dRange1 (mCall (d1 D.len) (mCons (mVar 7) mNil))) (gnName 8) mYes (m2 D.add (m2 D.ix (mVar 7) (mVar 8)) (m2 D.mul (m2 D.fdiv (m2 D.ix (mVar 5) (mVar 8)) (mC (.int 20))) (mCall (d1 D.toInt) (mCons (m2 D.lt (m2 D.ix (mVar 5) (mC (.int 13))) (mC (.int 20))) mNil)))))) [some (.int c1), some (.int c2), some (webD many rows), some (nI leader), some (nI base), some (.lst (dg.map nI)), some (entD fs), some (.lst (a2.map nI)), w8, w9] = .nx [some (.int c1), some (.int c2), some (webD many rows), some (nI leader), some (nI base), some (.lst (dg.map nI)), some (entD fs), some (.lst (a3.map nI)), w8, w9] :=
      set_nx (d := .lst (a3.map nI)) (scalL_ok (Eq.trans (mLc_mapN (emb := nI) (l := List.range n) (fun k => nI (a2.getD k 0 + dg.getD k 0 / 20 * (if decide (((dg.getD 13 0 : Nat) : Int) < 20) then 1 else 0))) (sq_ok (call1_ok rfl (Eq.trans (len_lst _) (by rw [List.length_map, ha2, ← hn]))) (range1_ok (by omega))) (by rw [List.length_range]; omega) fun k hk => by
        have hk0 := List.mem_range.mp hk
        refine m2_ok (m2_ok rfl rfl (ixG (by omega))) (m2_ok (m2_ok (m2_ok rfl rfl (ixG (by omega))) rfl (fdivN (b := 20) (by omega) (by omega))) (call1_ok (m2_ok (m2_ok rfl rfl (ixG (k := 13) (by omega))) rfl (dlt _ _)) (toInt_bl _)) (mulN ?_)) (Eq.trans rfl ?_)
        · have hk2 : k < dg.length := by omega
          rw [getDN hk2]
          have := hdb _ (List.getElem_mem hk2)
          omega
        · rfl) (by rw [ea3, List.map_map]; rfl)))
    have hc2 : mB (m2 D.lt (m2 D.ix (mVar 5) (mC (.int 14))) (mC (.int 20))) [some (.int c1), some (.int c2), some (webD many rows), some (nI leader), some (nI base), some (.lst (dg.map nI)), some (entD fs), some (.lst (a3.map nI)), w8, w9] = .ok (decide (((dg.getD 14 0 : Nat) : Int) < 20)) := b_ok (m2_ok (m2_ok rfl rfl (ixG (k := 14) (by omega))) rfl (dlt _ _))
    cases q2 : decide (((dg.getD 14 0 : Nat) : Int) < 20) with
    | false =>
      rw [q2] at hc2
      refine ⟨a3, ?_, ha3, fun x hx => Nat.le_trans (hb3 x hx) (by omega)⟩
      exact seq_res s5 (seq_res s6 (seq_res s7 (seq_res (if_t hc (seq_nx t7 (seq_nx (for_ok (sq_ok (hlen _ rfl) (range1_ok (by omega))) ef) (seq_nx u7 (if_f hc2 rfl))))) (ret_res (call1_ok rfl rfl)))))
    | true =>
      rw [q2] at hc2
      have hix : m2 D.mod (m2 D.ix (mVar 5) (mC (.int 15))) (mCall (d1 D.len) (mCons (mVar 7) mNil)) [some (.int c1), some (.int c2), some (webD many rows), some (nI leader), some (nI base), some (.lst (dg.map nI)), some (entD fs), some (.lst (a3.map nI)), w8, w9] = .ok (nI (dg.getD 15 0 % n)) := m2_ok (m2_ok rfl rfl (ixG (k := 15) (by omega))) (call1_ok rfl (Eq.trans (len_lst _) (by rw [List.length_map, ha3, ← hn]))) (modN (by omega))
      have hix2 : m2 D.mod (m2 D.ix (mVar 5) (mC (.int 15))) (mScal (mCall (d1 D.len) (mCons (mVar 7) mNil))) [some (.int c1), some (.int c2), some (webD many rows), some (nI leader), some (nI base), some (.lst (dg.map nI)), some (entD fs), some (.lst (a3.map nI)), w8, w9] = .ok (nI (dg.getD 15 0 % n)) := m2_ok (m2_ok rfl rfl (ixG (k := 15) (by omega))) (scal_int (call1_ok rfl (Eq.trans (len_lst _) (by rw [List.length_map, ha3, ← hn])))) (modN (by omega))
      have hlt : dg.getD 15 0 % n < a3.length := by rw [ha3, ← hn]; exact Nat.mod_lt _ (by omega)
      refine ⟨a3.set (dg.getD 15 0 % n) (a3[dg.getD 15 0 % n] - 1), ?_, by rw [List.length_set]; exact ha3, fun x hx => ?_⟩
      · exact seq_res s5 (seq_res s6 (seq_res s7 (seq_res (if_t hc (seq_nx t7 (seq_nx (for_ok (sq_ok (hlen _ rfl) (range1_ok (by omega))) ef) (seq_nx u7 (if_t hc2 (lput_ok (l := a3) rfl hix2 (Eq.trans (call2_ok rfl (m2_ok (scal_int (m2_ok rfl hix (ixL hlt))) rfl rfl) (dec1 _)) rfl) hlt)))))) (ret_res (call1_ok rfl rfl)))))
      · rcases List.mem_or_eq_of_mem_set hx with h | h
        · exact Nat.le_trans (hb3 x h) (by omega)
        · have := hb3 _ (List.getElem_mem hlt)
          omega
def sm : List Nat → (Nat → Int) → Int
  | [], _ => 0
  | k :: l, f => f k + sm l f
theorem sm_congr {f g : Nat → Int} : ∀ {l : List Nat}, (∀ k ∈ l, f k = g k) → sm l f = sm l g
  | [], _ => rfl
  | k :: l, h => by
    show f k + sm l f = g k + sm l g
    rw [h k (.head _), sm_congr fun j hj => h j (.tail _ hj)]
theorem sm_le {f g : Nat → Int} : ∀ {l : List Nat}, (∀ k ∈ l, f k ≤ g k) → sm l f ≤ sm l g
  | [], _ => Int.le_refl _
  | k :: l, h => Int.add_le_add (h k (.head _)) (sm_le fun j hj => h j (.tail _ hj))
theorem sm_add (f g : Nat → Int) : ∀ l : List Nat, sm l (fun k => f k + g k) = sm l f + sm l g
  | [] => rfl
  | k :: l => by
    show f k + g k + sm l _ = f k + sm l f + (g k + sm l g)
    rw [sm_add f g l]
    omega
theorem sm_sub (f g : Nat → Int) : ∀ l : List Nat, sm l (fun k => f k - g k) = sm l f - sm l g
  | [] => rfl
  | k :: l => by
    show f k - g k + sm l _ = f k + sm l f - (g k + sm l g)
    rw [sm_sub f g l]
    omega
theorem sm_mul (c : Int) (f : Nat → Int) : ∀ l : List Nat, sm l (fun k => c * f k) = c * sm l f
  | [] => (Int.mul_zero c).symm
  | k :: l => by
    show c * f k + sm l _ = c * (f k + sm l f)
    rw [sm_mul c f l, Int.mul_add]
theorem sm_zero : ∀ l : List Nat, sm l (fun _ => 0) = 0
  | [] => rfl
  | k :: l => by
    show 0 + sm l _ = 0
    rw [sm_zero l]
    rfl
theorem sm_one : ∀ l : List Nat, sm l (fun _ => 1) = (l.length : Int)
  | [] => rfl
  | k :: l => by
    show 1 + sm l _ = ((l.length + 1 : Nat) : Int)
    rw [sm_one l]
    omega
theorem sm_swap (f : Nat → Nat → Int) (l' : List Nat) : ∀ l : List Nat, sm l (fun a => sm l' fun b => f a b) = sm l' fun b => sm l fun a => f a b
  | [] => (sm_zero l').symm
  | a :: l => by
    show sm l' (fun b => f a b) + sm l (fun a => sm l' fun b => f a b) = sm l' fun b => f a b + sm l fun a => f a b
    rw [sm_swap f l' l, sm_add]
theorem sm_filter (q : Nat → Bool) (f : Nat → Int) : ∀ l : List Nat, sm (l.filter q) f = sm l fun k => if q k = true then f k else 0
  | [] => rfl
  | k :: l => by
    rw [List.filter_cons]
    by_cases h : q k = true
    · rw [if_pos h]
      show f k + sm (l.filter q) f = (if q k = true then f k else 0) + _
      rw [if_pos h, sm_filter q f l]
    · rw [if_neg h]
      show sm (l.filter q) f = (if q k = true then f k else 0) + _
      rw [if_neg h, sm_filter q f l, Int.zero_add]
theorem sm_pick (a : Nat) (x : Int) : ∀ {l : List Nat}, l.Nodup → sm l (fun p => if a = p then x else 0) = if a ∈ l then x else 0
  | [], _ => rfl
  | p :: l, h => by
    obtain ⟨h1, h2⟩ := List.nodup_cons.mp h
    show (if a = p then x else 0) + sm l _ = _
    rw [sm_pick a x h2]
    by_cases e : a = p
    · subst e
      rw [if_pos rfl, if_neg h1, if_pos List.mem_cons_self, Int.add_zero]
    · rw [if_neg e, Int.zero_add]
      by_cases e2 : a ∈ l
      · rw [if_pos e2, if_pos (List.mem_cons_of_mem _ e2)]
      · rw [if_neg e2, if_neg fun z => (List.mem_cons.mp z).elim e e2]
theorem sm_mem (f : Nat → Int) {R : List Nat} (hR : R.Nodup) : ∀ {W : List Nat}, W.Nodup → (∀ k ∈ W, k ∈ R) → sm R (fun k => if k ∈ W then f k else 0) = sm W f
  | [], _, _ => by
    rw [show (fun k => if k ∈ ([] : List Nat) then f k else 0) = fun _ => 0 from funext fun k => if_neg fun z => nomatch z]
    exact sm_zero R
  | a :: W, h, hs => by
    obtain ⟨h1, h2⟩ := List.nodup_cons.mp h
    have e : sm R (fun k => if k ∈ a :: W then f k else 0) = sm R (fun k => (if a = k then f a else 0) + if k ∈ W then f k else 0) := sm_congr fun k _ => by
      by_cases c : a = k
      · subst c
        rw [if_pos List.mem_cons_self, if_pos rfl, if_neg h1, Int.add_zero]
      · rw [if_neg c, Int.zero_add]
        by_cases c2 : k ∈ W
        · rw [if_pos c2, if_pos (List.mem_cons_of_mem _ c2)]
        · rw [if_neg c2, if_neg fun z => (List.mem_cons.mp z).elim (fun y => c y.symm) c2]
    rw [e, sm_add, sm_pick a (f a) hR, if_pos (hs a List.mem_cons_self), sm_mem f hR h2 fun k hk => hs k (List.mem_cons_of_mem _ hk)]
    rfl
theorem sum_sm (am : List Nat) : ∀ l : List Nat, ((sumL2 am l : Nat) : Int) = sm l fun k => ((amK am k : Nat) : Int)
  | [] => rfl
  | k :: l => by
    show ((amK am k + sumL2 am l : Nat) : Int) = ((amK am k : Nat) : Int) + sm l _
    rw [← sum_sm am l]
    omega
theorem range_nodup : ∀ n : Nat, (List.range n).Nodup := fun n => by
  rw [List.range_eq_range']
  exact List.nodup_range'
abbrev gK (rows : List Row) (k : Nat) : Nat := (rowK rows k).1
abbrev tK (rows : List Row) (k : Nat) : Nat := (rowK rows k).2.1
theorem out_sm (rows : List Row) (am : List Nat) (q : Row → Bool) (lot : List Nat) : ((sumL2 am (outP (fromL rows q) lot) : Nat) : Int) = sm (List.range rows.length) fun k => if k ∈ lot then 0 else if q (rowK rows k) = true then ((amK am k : Nat) : Int) else 0 := by
  rw [sum_sm]
  unfold outP fromL
  rw [sm_filter, sm_filter]
  refine sm_congr fun k _ => ?_
  by_cases h : k ∈ lot
  · rw [if_pos h, decide_eq_true h, if_neg (show ¬ (!true) = true from fun z => nomatch z)]
    split <;> rfl
  · rw [if_neg h, decide_eq_false h, if_pos (show (!false) = true from rfl)]
theorem net_sm (rows : List Row) (am : List Nat) (p : Nat) (lot : List Nat) : netI rows am p lot = sm (List.range rows.length) fun k => if k ∈ lot then 0 else (if gK rows k = p then ((amK am k : Nat) : Int) else 0) - if tK rows k = p then ((amK am k : Nat) : Int) else 0 := by
  unfold netI gvL gtL
  rw [out_sm, out_sm, ← sm_sub]
  refine sm_congr fun k _ => ?_
  by_cases h : k ∈ lot
  · rw [if_pos h, if_pos h, if_pos h]
    rfl
  · rw [if_neg h, if_neg h, if_neg h]
    by_cases h1 : gK rows k = p
    · rw [if_pos h1, if_pos (decide_eq_true h1)]
      by_cases h2 : tK rows k = p
      · rw [if_pos h2, if_pos (decide_eq_true h2)]
      · rw [if_neg h2, if_neg fun z => h2 (of_decide_eq_true z)]
    · rw [if_neg h1, if_neg fun z => h1 (of_decide_eq_true z)]
      by_cases h2 : tK rows k = p
      · rw [if_pos h2, if_pos (decide_eq_true h2)]
      · rw [if_neg h2, if_neg fun z => h2 (of_decide_eq_true z)]
theorem net_sm0 (rows : List Row) (am : List Nat) (p : Nat) : netI rows am p [] = sm (List.range rows.length) fun k => (if gK rows k = p then ((amK am k : Nat) : Int) else 0) - if tK rows k = p then ((amK am k : Nat) : Int) else 0 := by
  rw [net_sm]
  exact sm_congr fun k _ => if_neg fun z => nomatch z
/-- all the nets of a set of persons -/
theorem net_set {rows : List Row} {am : List Nat} {S : List Nat} (hS : S.Nodup) (lot : List Nat) : sm S (fun p => netI rows am p lot) = sm (List.range rows.length) fun k => if k ∈ lot then 0 else (if gK rows k ∈ S then ((amK am k : Nat) : Int) else 0) - if tK rows k ∈ S then ((amK am k : Nat) : Int) else 0 := by
  rw [sm_congr fun p _ => net_sm rows am p lot, sm_swap]
  refine sm_congr fun k _ => ?_
  by_cases h : k ∈ lot
  · rw [if_pos h]
    rw [sm_congr (g := fun _ => 0) fun p _ => if_pos h]
    exact sm_zero S
  · rw [if_neg h]
    rw [sm_congr (g := fun p => (if gK rows k = p then ((amK am k : Nat) : Int) else 0) - if tK rows k = p then ((amK am k : Nat) : Int) else 0) fun p _ => if_neg h]
    rw [sm_sub, sm_pick _ _ hS, sm_pick _ _ hS]
theorem net_total {m : Nat} {rows : List Row} {am : List Nat} (hok : ∀ r ∈ rows, RowOk m r) (lot : List Nat) : sm (List.range m) (fun p => netI rows am p lot) = 0 := by
  rw [net_set (range_nodup m)]
  rw [sm_congr (g := fun _ => 0) fun k hk => ?_, sm_zero]
  have hr := hok _ (rowK_mem (List.mem_range.mp hk))
  rw [if_pos (List.mem_range.mpr hr.1), if_pos (List.mem_range.mpr hr.2.1)]
  split
  · rfl
  · omega
def RightA (m : Nat) (rows : List Row) (leader base : Nat) (am : List Nat) : Prop := ∀ p, p < m → (∀ k ∈ gvL rows p, base ≤ amK am k) ∧ (p ≠ leader → (base : Int) * ((gvL rows p).length : Int) ≤ netI rows am p [])
theorem shortP_none_iff {n : Nat} {rows : List Row} {leader base : Nat} {am : List Nat} {p : Nat} : shortP n rows leader base am p = none ↔ (∀ k ∈ gvL rows p, base ≤ amK am k) ∧ (p ≠ leader → (base : Int) * ((gvL rows p).length : Int) ≤ netI rows am p []) := by
  have e : shortP n rows leader base am p = match (gvL rows p).find? fun k => decide (amK am k < base) with
      | some k => some (butL n k)
      | none => if p ≠ leader ∧ netI rows am p [] < (base : Int) * ((gvL rows p).length : Int) then some [] else none := rfl
  rw [e]
  cases hf : (gvL rows p).find? fun k => decide (amK am k < base) with
  | some k =>
    refine ⟨fun z => (nomatch z), fun z => ?_⟩
    have h1 := of_decide_eq_true (List.find?_some (p := fun k => decide (amK am k < base)) hf)
    have h2 := z.1 k (List.mem_of_find?_eq_some hf)
    omega
  | none =>
    have h1 : ∀ k ∈ gvL rows p, base ≤ amK am k := fun k hk => by
      have := List.find?_eq_none.mp hf k hk
      rw [decide_eq_true_iff] at this
      omega
    dsimp only
    constructor
    · intro h
      refine ⟨h1, fun hp => ?_⟩
      by_cases c : netI rows am p [] < (base : Int) * ((gvL rows p).length : Int)
      · rw [if_pos ⟨hp, c⟩] at h
        exact nomatch h
      · omega
    · intro h
      refine if_neg fun z => ?_
      have := h.2 z.1
      omega
theorem right_iff {m : Nat} {rows : List Row} {leader base : Nat} {am : List Nat} : shortAt m rows leader base am = none ↔ RightA m rows leader base am := by
  unfold shortAt
  cases hf : (List.range m).find? fun p => (shortP rows.length rows leader base am p).isSome with
  | some p =>
    have h1 := List.find?_some hf
    have h2 := List.mem_range.mp (List.mem_of_find?_eq_some hf)
    dsimp only
    cases hs : shortP rows.length rows leader base am p with
    | none => rw [hs] at h1; exact nomatch h1
    | some l =>
      refine ⟨fun z => (nomatch z), fun z => ?_⟩
      rw [shortP_none_iff.mpr (z p h2)] at hs
      exact nomatch hs
  | none =>
    refine ⟨fun _ p hp => ?_, fun _ => rfl⟩
    refine (shortP_none_iff (n := rows.length)).mp ?_
    have := List.find?_eq_none.mp hf p (List.mem_range.mpr hp)
    cases hs : shortP rows.length rows leader base am p with
    | none => rfl
    | some l => rw [hs] at this; exact absurd rfl this
inductive Pth (rows : List Row) (fs : List Ent) : Nat → Nat → List Nat → Prop
  | nil {i p : Nat} (h : fs[i]? = some (p, none)) : Pth rows fs i p []
  | cons {i j p k : Nat} {ks : List Nat} (h : fs[i]? = some (p, some k)) (hj : j < i) (t : Pth rows fs j (tK rows k) ks) : Pth rows fs i p (k :: ks)
theorem Bf.idx {m leader : Nat} {rows : List Row} {fs : List Ent} (b : Bf m leader rows fs) : ∀ {i j : Nat} {e e' : Ent}, fs[i]? = some e → fs[j]? = some e' → e.1 = e'.1 → i = j := fun {i j e e'} h1 h2 h => by
  obtain ⟨hi, q1⟩ := List.getElem?_eq_some_iff.mp h1
  obtain ⟨hj, q2⟩ := List.getElem?_eq_some_iff.mp h2
  refine (List.getElem?_inj (l := ordL fs) (by rw [List.length_map]; exact hi) b.nd).mp ?_
  unfold ordL
  rw [List.getElem?_map, List.getElem?_map, h1, h2]
  exact congrArg some h
theorem Bf.root {m leader : Nat} {rows : List Row} {fs : List Ent} (b : Bf m leader rows fs) {i p : Nat} (h : fs[i]? = some (p, none)) : p = leader := by
  by_cases hi : i = 0
  · subst hi
    obtain ⟨r, e⟩ := b.hd
    rw [e] at h
    cases h
    rfl
  · obtain ⟨k, e, _⟩ := b.ok i _ h hi
    exact nomatch e
theorem Bf.step {m leader : Nat} {rows : List Row} {fs : List Ent} (b : Bf m leader rows fs) {i p k : Nat} (h : fs[i]? = some (p, some k)) : i ≠ 0 ∧ k < rows.length ∧ gK rows k = p ∧ ∃ j e', j < i ∧ fs[j]? = some e' ∧ e'.1 = tK rows k := by
  have hi : i ≠ 0 := fun hi => by
    subst hi
    obtain ⟨r, e⟩ := b.hd
    rw [e] at h
    cases h
  obtain ⟨k', e, h1, h2, h3⟩ := b.ok i _ h hi
  cases e
  exact ⟨hi, h1, h2, h3⟩
theorem Pth.mem {m leader : Nat} {rows : List Row} {fs : List Ent} (b : Bf m leader rows fs) {i p : Nat} {ks : List Nat} (t : Pth rows fs i p ks) : ∀ k ∈ ks, k < rows.length ∧ ∃ i', i' ≤ i ∧ fs[i']? = some (gK rows k, some k) := by
  induction t with
  | nil h => exact fun k hk => nomatch hk
  | @cons i j p k ks h hj t ih =>
    intro k' hk'
    rcases List.mem_cons.mp hk' with e | hk'
    · subst e
      obtain ⟨_, h1, h2, _⟩ := b.step h
      exact ⟨h1, i, Nat.le_refl _, by rw [h2]; exact h⟩
    · obtain ⟨h1, i', h2, h3⟩ := ih k' hk'
      exact ⟨h1, i', by omega, h3⟩
theorem Pth.nodup {m leader : Nat} {rows : List Row} {fs : List Ent} (b : Bf m leader rows fs) {i p : Nat} {ks : List Nat} (t : Pth rows fs i p ks) : ks.Nodup := by
  induction t with
  | nil h => exact List.nodup_nil
  | @cons i j p k ks h hj t ih =>
    refine List.nodup_cons.mpr ⟨fun z => ?_, ih⟩
    obtain ⟨_, i', h2, h3⟩ := t.mem b k z
    obtain ⟨_, _, hg, _⟩ := b.step h
    have := b.idx h h3 hg.symm
    omega
/-- a way along the steps: no transfer twice -/
theorem Pth.way {m leader : Nat} {rows : List Row} {fs : List Ent} (b : Bf m leader rows fs) {i j : Nat} {ks : List Nat} (t : Pth rows fs i (tK rows j) ks) (hi : ∃ e, fs[i]? = some e ∧ e.1 = tK rows j) : (j :: ks).Nodup := by
  refine List.nodup_cons.mpr ⟨fun z => ?_, t.nodup b⟩
  obtain ⟨_, i', h2, h3⟩ := t.mem b j z
  obtain ⟨_, _, _, j', e', h4, h5, h6⟩ := b.step h3
  obtain ⟨e, h7, h8⟩ := hi
  have := b.idx h7 h5 (by rw [h8, h6])
  omega
theorem Pth.tele {m leader : Nat} {rows : List Row} {fs : List Ent} (b : Bf m leader rows fs) (p : Nat) {i q : Nat} {ks : List Nat} (t : Pth rows fs i q ks) : sm ks (fun k => (if gK rows k = p then 1 else 0) - if tK rows k = p then 1 else 0) = (if q = p then 1 else 0) - if leader = p then 1 else 0 := by
  induction t with
  | @nil i q h =>
    rw [b.root h]
    show (0 : Int) = _
    omega
  | @cons i j q k ks h hj t ih =>
    obtain ⟨_, _, hg, _⟩ := b.step h
    show ((if gK rows k = p then 1 else 0) - if tK rows k = p then 1 else 0) + sm ks _ = _
    rw [ih, hg]
    omega
theorem Pth.ends {m leader : Nat} {rows : List Row} {fs : List Ent} (b : Bf m leader rows fs) {i q : Nat} {ks : List Nat} (t : Pth rows fs i q ks) : sm ks (fun k => if tK rows k = leader then 1 else 0) = if q = leader then 0 else 1 := by
  induction t with
  | @nil i q h =>
    rw [b.root h, if_pos rfl]
    rfl
  | @cons i j q k ks h hj t ih =>
    obtain ⟨hi, _, hg, _⟩ := b.step h
    have hq : q ≠ leader := fun z => by
      obtain ⟨r, e⟩ := b.hd
      have h0 : fs[0]? = some (leader, none) := by rw [e]; rfl
      exact hi (b.idx h h0 z)
    show (if tK rows k = leader then 1 else 0) + sm ks _ = _
    rw [ih, if_neg hq]
    by_cases c : tK rows k = leader
    · rw [if_pos c, if_pos c]
      rfl
    · rw [if_neg c, if_neg c]
      rfl
/-- ways: one for each transfer -/
structure Ways (m leader : Nat) (rows : List Row) (fs : List Ent) (W : List (List Nat)) : Prop where
  len : W.length = rows.length
  at_ : ∀ j, j < rows.length → ∃ i ks e, W[j]? = some (j :: ks) ∧ fs[i]? = some e ∧ e.1 = tK rows j ∧ Pth rows fs i (tK rows j) ks
def cntW (W : List (List Nat)) (k : Nat) : Nat := (W.filter fun w => decide (k ∈ w)).length
def amW (base n : Nat) (W : List (List Nat)) : List Nat := (List.range n).map fun k => base * cntW W k
theorem cntW_sm (k : Nat) : ∀ W : List (List Nat), ((cntW W k : Nat) : Int) = sm (List.range W.length) fun j => if k ∈ W.getD j [] then 1 else 0 := fun W => by
  have e : ∀ (W : List (List Nat)) (P : List (List Nat)), ((cntW W k : Nat) : Int) = sm (List.range' P.length W.length) fun j => if k ∈ (P ++ W).getD j [] then 1 else 0 := by
    intro W
    induction W with
    | nil => exact fun P => rfl
    | cons w W ih =>
      intro P
      have h := ih (P ++ [w])
      rw [List.append_assoc, List.length_append] at h
      rw [List.length_cons, List.range'_succ]
      show ((cntW (w :: W) k : Nat) : Int) = (if k ∈ (P ++ w :: W).getD P.length [] then 1 else 0) + sm (List.range' (P.length + 1) W.length) _
      rw [show (P ++ w :: W) = P ++ ([w] ++ W) from rfl, ← show P.length + [w].length = P.length + 1 from rfl, ← h]
      have hw : (P ++ ([w] ++ W)).getD P.length [] = w := by
        rw [List.getD_eq_getElem?_getD, List.getElem?_append_right (Nat.le_refl _), Nat.sub_self]
        rfl
      rw [hw]
      unfold cntW
      rw [List.filter_cons]
      by_cases c : k ∈ w
      · rw [if_pos (decide_eq_true c), if_pos c, List.length_cons]
        omega
      · rw [if_neg fun z => c (of_decide_eq_true z), if_neg c]
        omega
  rw [List.range_eq_range']
  exact e W []
theorem amW_at {base n k : Nat} {W : List (List Nat)} (h : k < n) : amK (amW base n W) k = base * cntW W k := by
  unfold amK amW
  rw [List.getD_eq_getElem?_getD, List.getElem?_map, List.getElem?_range h]
  rfl
theorem Ways.get {m leader : Nat} {rows : List Row} {fs : List Ent} {W : List (List Nat)} (w : Ways m leader rows fs W) {j : Nat} (hj : j < rows.length) : ∃ i ks e, W.getD j [] = j :: ks ∧ fs[i]? = some e ∧ e.1 = tK rows j ∧ Pth rows fs i (tK rows j) ks := by
  obtain ⟨i, ks, e, h1, h2, h3, h4⟩ := w.at_ j hj
  exact ⟨i, ks, e, by rw [List.getD_eq_getElem?_getD, h1]; rfl, h2, h3, h4⟩
/-- a sum over all transfers of what the ways hold -/
theorem Ways.sum {m leader : Nat} {rows : List Row} {fs : List Ent} {W : List (List Nat)} (b : Bf m leader rows fs) (w : Ways m leader rows fs W) (base : Nat) (f : Nat → Int) : sm (List.range rows.length) (fun k => f k * ((amK (amW base rows.length W) k : Nat) : Int)) = (base : Int) * sm (List.range rows.length) fun j => sm (W.getD j []) f := by
  have e1 : sm (List.range rows.length) (fun k => f k * ((amK (amW base rows.length W) k : Nat) : Int)) = sm (List.range rows.length) (fun k => (base : Int) * sm (List.range rows.length) fun j => if k ∈ W.getD j [] then f k else 0) := sm_congr fun k hk => by
    rw [amW_at (List.mem_range.mp hk), Int.natCast_mul, cntW_sm, w.len]
    rw [show f k * ((base : Int) * sm (List.range rows.length) fun j => if k ∈ W.getD j [] then 1 else 0) = (base : Int) * (f k * sm (List.range rows.length) fun j => if k ∈ W.getD j [] then 1 else 0) by rw [← Int.mul_assoc, Int.mul_comm (f k), Int.mul_assoc]]
    rw [← sm_mul (f k)]
    refine congrArg _ (sm_congr fun j _ => ?_)
    by_cases c : k ∈ W.getD j []
    · rw [if_pos c, if_pos c, Int.mul_one]
    · rw [if_neg c, if_neg c, Int.mul_zero]
  rw [e1, sm_mul, sm_swap]
  refine congrArg _ (sm_congr fun j hj => ?_)
  have hj := List.mem_range.mp hj
  obtain ⟨i, ks, e, h1, h2, h3, h4⟩ := w.get hj
  rw [h1]
  refine sm_mem f (range_nodup _) (h4.way b ⟨e, h2, h3⟩) fun k hk => List.mem_range.mpr ?_
  rcases List.mem_cons.mp hk with z | hk
  · rw [z]; exact hj
  · exact (h4.mem b k hk).1
theorem Ways.net {m leader : Nat} {rows : List Row} {fs : List Ent} {W : List (List Nat)} (b : Bf m leader rows fs) (w : Ways m leader rows fs W) (base : Nat) {p : Nat} (hp : p ≠ leader) : netI rows (amW base rows.length W) p [] = (base : Int) * ((gvL rows p).length : Int) := by
  rw [net_sm0]
  have e1 : sm (List.range rows.length) (fun k => (if gK rows k = p then ((amK (amW base rows.length W) k : Nat) : Int) else 0) - if tK rows k = p then ((amK (amW base rows.length W) k : Nat) : Int) else 0) = sm (List.range rows.length) (fun k => ((if gK rows k = p then 1 else 0) - if tK rows k = p then 1 else 0) * ((amK (amW base rows.length W) k : Nat) : Int)) := sm_congr fun k _ => by
    rw [Int.sub_mul]
    by_cases c : gK rows k = p
    · rw [if_pos c, if_pos c, Int.one_mul]
      by_cases c2 : tK rows k = p
      · rw [if_pos c2, if_pos c2, Int.one_mul]
      · rw [if_neg c2, if_neg c2, Int.zero_mul]
    · rw [if_neg c, if_neg c, Int.zero_mul]
      by_cases c2 : tK rows k = p
      · rw [if_pos c2, if_pos c2, Int.one_mul]
      · rw [if_neg c2, if_neg c2, Int.zero_mul]
  rw [e1, w.sum b]
  refine congrArg _ ?_
  have e2 : (((gvL rows p).length : Nat) : Int) = sm (List.range rows.length) fun k => if gK rows k = p then 1 else 0 := by
    rw [← sm_one]
    unfold gvL fromL
    rw [sm_filter]
    refine sm_congr fun k _ => ?_
    by_cases c : gK rows k = p
    · rw [if_pos c, if_pos (decide_eq_true c)]
    · rw [if_neg c, if_neg fun z => c (of_decide_eq_true z)]
  rw [e2]
  refine sm_congr fun j hj => ?_
  obtain ⟨i, ks, e, h1, h2, h3, h4⟩ := w.get (List.mem_range.mp hj)
  rw [h1]
  show ((if gK rows j = p then 1 else 0) - if tK rows j = p then 1 else 0) + sm ks _ = _
  rw [h4.tele b p, if_neg (show ¬ leader = p from fun z => hp z.symm)]
  omega
theorem Ways.one_le {m leader : Nat} {rows : List Row} {fs : List Ent} {W : List (List Nat)} (w : Ways m leader rows fs W) {k : Nat} (hk : k < rows.length) : 1 ≤ cntW W k := by
  obtain ⟨i, ks, e, h1, _⟩ := w.at_ k hk
  exact List.length_pos_of_mem (a := k :: ks) (List.mem_filter.mpr ⟨List.mem_of_getElem? h1, decide_eq_true List.mem_cons_self⟩)
theorem Ways.right {m leader : Nat} {rows : List Row} {fs : List Ent} {W : List (List Nat)} (b : Bf m leader rows fs) (w : Ways m leader rows fs W) (base : Nat) : RightA m rows leader base (amW base rows.length W) := fun p _ => by
  refine ⟨fun k hk => ?_, fun hp => Int.le_of_eq (w.net b base hp).symm⟩
  have hk1 := (mem_fromL.mp hk).1
  rw [amW_at hk1]
  exact Nat.le_mul_of_pos_right _ (w.one_le hk1)
theorem Ways.owed {m leader : Nat} {rows : List Row} {fs : List Ent} {W : List (List Nat)} (b : Bf m leader rows fs) (w : Ways m leader rows fs W) (base : Nat) : ((sumL2 (amW base rows.length W) (gtL rows leader) : Nat) : Int) = (base : Int) * (rows.length : Int) := by
  rw [sum_sm]
  unfold gtL fromL
  rw [sm_filter]
  have e1 : sm (List.range rows.length) (fun k => if (fun r => decide (r.2.1 = leader)) (rowK rows k) = true then ((amK (amW base rows.length W) k : Nat) : Int) else 0) = sm (List.range rows.length) (fun k => (if tK rows k = leader then 1 else 0) * ((amK (amW base rows.length W) k : Nat) : Int)) := sm_congr fun k _ => by
    by_cases c : tK rows k = leader
    · rw [if_pos c, if_pos (decide_eq_true c), Int.one_mul]
    · rw [if_neg c, if_neg fun z => c (of_decide_eq_true z), Int.zero_mul]
  rw [e1, w.sum b]
  refine congrArg _ ?_
  have e2 := sm_one (List.range rows.length)
  rw [List.length_range] at e2
  rw [← e2]
  refine sm_congr fun j hj => ?_
  obtain ⟨i, ks, e, h1, h2, h3, h4⟩ := w.get (List.mem_range.mp hj)
  rw [h1]
  show (if tK rows j = leader then 1 else 0) + sm ks _ = _
  rw [h4.ends b]
  by_cases c : tK rows j = leader
  · rw [if_pos c, if_pos c]
    rfl
  · rw [if_neg c, if_neg c]
    rfl
def Cl (rows : List Row) (fs : List Ent) : Prop := ∀ k, k < rows.length → tK rows k ∈ ordL fs → gK rows k ∈ ordL fs
def shutL (m : Nat) (fs : List Ent) : List Nat := (List.range m).filter fun p => !decide (p ∈ ordL fs)
theorem mem_shut {m p : Nat} {fs : List Ent} : p ∈ shutL m fs ↔ p < m ∧ p ∉ ordL fs := by
  unfold shutL
  rw [List.mem_filter, List.mem_range, Bool.not_eq_true', decide_eq_false_iff_not]
theorem shut_nil {m leader : Nat} {rows : List Row} {fs : List Ent} (b : Bf m leader rows fs) : shutL m fs = [] ↔ fs.length = m := by
  constructor
  · intro h
    refine Nat.le_antisymm b.len ?_
    have := List.Nodup.length_le_of_subset (range_nodup m) (l₂ := ordL fs) fun x hx => by
      refine Classical.byContradiction fun z => ?_
      have : x ∈ shutL m fs := mem_shut.mpr ⟨List.mem_range.mp hx, z⟩
      rw [h] at this
      exact nomatch this
    rw [List.length_range, List.length_map] at this
    exact this
  · intro h
    refine List.filter_eq_nil_iff.mpr fun p hp => ?_
    rw [decide_eq_true (b.all h (List.mem_range.mp hp))]
    exact Bool.false_ne_true
def stC : G.Env → R Bool := (mB (m2 D.lt (mVar 4) (mScal (mCall (d1 D.len) (mCons (mVar 3) mNil)))))
def stB : G.Env → Out := (mSeq (mSet 5 (mScal (m2 D.ix (mVar 3) (mVar 4)))) (mSeq (mAug 4 (fun i j => i + j) (mC (.int 1))) (mFor (mSq D.seq (mCallN 2 m_got_by.fn (mCons (mVar 0) (mCons (mVar 5) mNil)))) (gnName 6) (mSeq (mSet 7 (m2 D.ix (m2 D.ix (m2 D.ix (mVar 0) (mC (.int 1))) (mVar 6)) (mC (.int 0)))) (mIf (mB (m2 D.notIn (mVar 7) (mVar 2))) (mSeq (mDPut 2 (mVar 7) (mVar 6)) (mMut "list" 3 dAppend (mCons (mVar 7) mNil) kDrop)) mNext)))))
def stI : G.Env → Out := (mSeq (mSet 7 (m2 D.ix (m2 D.ix (m2 D.ix (mVar 0) (mC (.int 1))) (mVar 6)) (mC (.int 0)))) (mIf (mB (m2 D.notIn (mVar 7) (mVar 2))) (mSeq (mDPut 2 (mVar 7) (mVar 6)) (mMut "list" 3 dAppend (mCons (mVar 7) mNil) kDrop)) mNext))
theorem st_in {many leader at_ : Nat} {rows : List Row} {c1 c4 c5 : Option D} (hok : ∀ r ∈ rows, RowOk many r) (hm : many ≤ 100) : ∀ (ks : List Nat) (fs : List Ent) (v6 v7 : Option D) (hat : at_ < fs.length), Bf many leader rows fs → (∀ k ∈ ks, k < rows.length ∧ (rowK rows k).2.1 = (fs[at_]).1) → ∃ (ext : List Ent) (w6 w7 : Option D), Bf many leader rows (fs ++ ext) ∧ (∀ k ∈ ks, gK rows k ∈ ordL (fs ++ ext)) ∧
    loopD (stepD (gnName 6) stI) (ks.map nI) [some (webD many rows), c1, some (entD fs), some (.lst ((ordL fs).map nI)), c4, c5, v6, v7] = .nx [some (webD many rows), c1, some (entD (fs ++ ext)), some (.lst ((ordL (fs ++ ext)).map nI)), c4, c5, w6, w7]
  | [], fs, v6, v7, hat, b, _ => ⟨[], v6, v7, by rw [List.append_nil]; exact b, fun _ z => (nomatch z), by rw [List.append_nil]; rfl⟩
  | k :: ks, fs, v6, v7, hat, b, h => by
    obtain ⟨hk, ht⟩ := h k (.head _)
    have hl := b.len
    have s7 : mSet 7 (m2 D.ix (m2 D.ix (m2 D.ix (mVar 0) (mC (.int 1))) (mVar 6)) (mC (.int 0))) [some (webD many rows), c1, some (entD fs), some (.lst ((ordL fs).map nI)), c4, c5, some (nI k), v7] = .nx [some (webD many rows), c1, some (entD fs), some (.lst ((ordL fs).map nI)), c4, c5, some (nI k), some (nI (rowK rows k).1)] := set_nx (d := nI (rowK rows k).1) (m2_ok (rowAt rfl rfl hk) rfl (row0 _))
    have hc : mB (m2 D.notIn (mVar 7) (mVar 2)) [some (webD many rows), c1, some (entD fs), some (.lst ((ordL fs).map nI)), c4, c5, some (nI k), some (nI (rowK rows k).1)] = .ok (!decide ((rowK rows k).1 ∈ ordL fs)) := b_ok (m2_ok rfl rfl (notIn_ent _ _))
    rw [List.map_cons]
    by_cases q : (rowK rows k).1 ∈ ordL fs
    · rw [decide_eq_true q] at hc
      obtain ⟨ext, w6, w7, b', a', e⟩ := st_in (c1 := c1) (c4 := c4) (c5 := c5) hok hm ks fs (some (nI k)) (some (nI (rowK rows k).1)) hat b fun j hj => h j (.tail _ hj)
      refine ⟨ext, w6, w7, b', fun j hj => ?_, loop_cons (ρ1 := [some (webD many rows), c1, some (entD fs), some (.lst ((ordL fs).map nI)), c4, c5, some (nI k), v7]) (ρ2 := [some (webD many rows), c1, some (entD fs), some (.lst ((ordL fs).map nI)), c4, c5, some (nI k), some (nI (rowK rows k).1)]) rfl (seq_nx s7 (if_f hc rfl)) e⟩
      rcases List.mem_cons.mp hj with z | hj
      · subst z
        unfold ordL
        rw [List.map_append]
        exact List.mem_append_left _ q
      · exact a' j hj
    · rw [decide_eq_false q] at hc
      have b2 := b.grow hok hk hat ht q
      have hat2 : at_ < (fs ++ [((rowK rows k).1, some k)]).length := by rw [List.length_append]; omega
      have e0 : (fs ++ [((rowK rows k).1, some k)])[at_] = fs[at_] := List.getElem_append_left hat
      obtain ⟨ext, w6, w7, b', a', e⟩ := st_in (c1 := c1) (c4 := c4) (c5 := c5) hok hm ks (fs ++ [((rowK rows k).1, some k)]) (some (nI k)) (some (nI (rowK rows k).1)) hat2 b2 fun j hj => by rw [e0]; exact h j (.tail _ hj)
      rw [List.append_assoc] at b' e a'
      refine ⟨[((rowK rows k).1, some k)] ++ ext, w6, w7, b', fun j hj => ?_, loop_cons (ρ1 := [some (webD many rows), c1, some (entD fs), some (.lst ((ordL fs).map nI)), c4, c5, some (nI k), v7]) (ρ2 := [some (webD many rows), c1, some (entD (fs ++ [((rowK rows k).1, some k)])), some (.lst ((ordL (fs ++ [((rowK rows k).1, some k)])).map nI)), c4, c5, some (nI k), some (nI (rowK rows k).1)]) rfl (seq_nx s7 (if_t hc (seq_nx (put_ent (k := k) rfl rfl rfl (by omega) q) (Eq.trans (mut_append (xs := (ordL fs).map nI) (y := nI (rowK rows k).1) rfl (cons_ok rfl rfl) (by rw [List.length_map, List.length_map]; omega)) ?_)))) e⟩
      · rcases List.mem_cons.mp hj with z | hj
        · subst z
          unfold ordL
          rw [List.map_append]
          exact List.mem_append_right _ List.mem_cons_self
        · exact a' j hj
      · rw [show (ordL (fs ++ [((rowK rows k).1, some k)])).map nI = (ordL fs).map nI ++ [nI (rowK rows k).1] by unfold ordL; rw [List.map_append, List.map_append]; rfl]
        rfl
def ClA (rows : List Row) (fs : List Ent) (a : Nat) : Prop := ∀ k, k < rows.length → (∃ i e, i < a ∧ fs[i]? = some e ∧ e.1 = tK rows k) → gK rows k ∈ ordL fs
theorem ClA.all {m leader : Nat} {rows : List Row} {fs : List Ent} {a : Nat} (b : Bf m leader rows fs) (c : ClA rows fs a) (h : fs.length ≤ a) : Cl rows fs := fun k hk ht => by
  obtain ⟨e, he, q⟩ := List.mem_map.mp ht
  obtain ⟨i, hi, q2⟩ := List.getElem_of_mem he
  exact c k hk ⟨i, e, by omega, by rw [List.getElem?_eq_getElem hi, q2], q⟩
theorem st_wh {many leader : Nat} {rows : List Row} {c1 : Option D} (hok : ∀ r ∈ rows, RowOk many r) (hm : many ≤ 100) (hr : rows.length ≤ 100) : ∀ (fuel N : Nat) (fs : List Ent) (at_ : Nat) (v5 v6 v7 : Option D), Bf many leader rows fs → ClA rows fs at_ → at_ ≤ fs.length → many - at_ ≤ fuel → fuel + 2 ≤ N → ∃ (fs' : List Ent) (b : Nat) (w5 w6 w7 : Option D), Bf many leader rows fs' ∧ Cl rows fs' ∧
    whileN stC stB N [some (webD many rows), c1, some (entD fs), some (.lst ((ordL fs).map nI)), some (nI at_), v5, v6, v7] = .nx [some (webD many rows), c1, some (entD fs'), some (.lst ((ordL fs').map nI)), some (nI b), w5, w6, w7] := by
  intro fuel
  induction fuel with
  | zero =>
    intro N fs at_ v5 v6 v7 b cl hle hf hN
    obtain ⟨n1, rfl⟩ : ∃ n1, N = n1 + 1 := ⟨N - 1, by omega⟩
    have hl := b.len
    refine ⟨fs, at_, v5, v6, v7, b, cl.all b (by omega), wh_end (b_ok (m2_ok rfl (scal_int (call1_ok rfl (len_lst _))) ?_))⟩
    rw [dlt, List.length_map, List.length_map, decide_eq_false (by omega)]
  | succ fuel ih =>
    intro N fs at_ v5 v6 v7 b cl hle hf hN
    obtain ⟨n1, rfl⟩ : ∃ n1, N = n1 + 1 := ⟨N - 1, by omega⟩
    have hl := b.len
    by_cases ha : at_ < fs.length
    · have hc : stC [some (webD many rows), c1, some (entD fs), some (.lst ((ordL fs).map nI)), some (nI at_), v5, v6, v7] = .ok true :=
        b_ok (m2_ok rfl (scal_int (call1_ok rfl (len_lst _))) (by rw [dlt, List.length_map, List.length_map, decide_eq_true (by omega)]))
      obtain ⟨ext, w6, w7, b', a', e⟩ := st_in (c1 := c1) (c4 := some (nI (at_ + 1))) (c5 := some (nI (fs[at_]).1)) hok hm (gtL rows (fs[at_]).1) fs v6 v7 ha b fun k hk => mem_gtL.mp hk
      have cl' : ClA rows (fs ++ ext) (at_ + 1) := fun k hk ⟨i, e, hi, h1, h2⟩ => by
        have hif : i < fs.length := by omega
        rw [List.getElem?_append_left hif] at h1
        by_cases z : i = at_
        · subst z
          rw [List.getElem?_eq_getElem ha] at h1
          cases h1
          exact a' k (mem_gtL.mpr ⟨hk, h2.symm⟩)
        · have := cl k hk ⟨i, e, by omega, h1, h2⟩
          unfold ordL
          rw [List.map_append]
          exact List.mem_append_left _ this
      obtain ⟨fs2, b2, w52, w62, w72, q1, q2, q3⟩ := ih n1 (fs ++ ext) (at_ + 1) (some (nI (fs[at_]).1)) w6 w7 b' cl' (by rw [List.length_append]; omega) (by omega) (by omega)
      have hix : mScal (m2 D.ix (mVar 3) (mVar 4)) [some (webD many rows), c1, some (entD fs), some (.lst ((ordL fs).map nI)), some (nI at_), v5, v6, v7] = .ok (nI (fs[at_]).1) := scal_int (m2_ok rfl rfl (Eq.trans (ixL (l := ordL fs) (k := at_) (by rw [List.length_map]; exact ha)) (by rw [List.getElem_map])))
      have s5 : mSet 5 (mScal (m2 D.ix (mVar 3) (mVar 4))) [some (webD many rows), c1, some (entD fs), some (.lst ((ordL fs).map nI)), some (nI at_), v5, v6, v7] = .nx [some (webD many rows), c1, some (entD fs), some (.lst ((ordL fs).map nI)), some (nI at_), some (nI (fs[at_]).1), v6, v7] := set_nx (d := nI (fs[at_]).1) hix
      have s4 : mAug 4 (fun i j => i + j) (mC (.int 1)) [some (webD many rows), c1, some (entD fs), some (.lst ((ordL fs).map nI)), some (nI at_), some (nI (fs[at_]).1), v6, v7] = .nx [some (webD many rows), c1, some (entD fs), some (.lst ((ordL fs).map nI)), some (nI (at_ + 1)), some (nI (fs[at_]).1), v6, v7] := rfl
      exact ⟨fs2, b2, w52, w62, w72, q1, q2, wh_step hc (seq_nx s5 (seq_nx s4 (for_ok (sq_ok (callN_ok (cons_ok rfl (cons_ok rfl rfl)) rfl (f_gotBy (by omega) _)) rfl) e))) q3⟩
    · refine ⟨fs, at_, v5, v6, v7, b, cl.all b (by omega), wh_end (b_ok (m2_ok rfl (scal_int (call1_ok rfl (len_lst _))) ?_))⟩
      rw [dlt, List.length_map, List.length_map, decide_eq_false (by omega)]
theorem f_stepsTo {many leader : Nat} {rows : List Row} (hok : ∀ r ∈ rows, RowOk many r) (hm : many ≤ 100) (hr : rows.length ≤ 100) (hl : leader < many) : ∃ fs : List Ent, m_steps_to.fn [webD many rows, nI leader] = .ok (entD fs) ∧ Bf many leader rows fs ∧ Cl rows fs := by
  obtain ⟨fs, b, w5, w6, w7, q1, q3, q2⟩ := st_wh (c1 := some (nI leader)) hok hm hr many bigN [(leader, none)] 0 none none none (Bf.start hl) (fun k hk ⟨i, e, hi, _⟩ => absurd hi (Nat.not_lt_zero i)) (by show 0 ≤ 1; omega) (by omega) (by show many + 2 ≤ 1000000000; omega)
  refine ⟨fs, ?_, q1, q3⟩
  rw [fn_run rfl]
  show (b_steps_to [some (webD many rows), some (nI leader), none, none, none, none, none, none]).res = _
  unfold b_steps_to
  refine seq_res (ρ' := [some (webD many rows), some (nI leader), some (entD [(leader, none)]), none, none, none, none, none]) (set_nx (d := entD [(leader, none)]) ?_) ?_
  · show (if 1 ≤ 15 then R.ok (D.dic false (dmergeG [(Sum.inl (leader : Int), D.non)] ([], [])).1 (dmergeG [(Sum.inl (leader : Int), D.non)] ([], [])).2) else .bad) = _
    rw [if_pos (by omega)]
    rfl
  refine seq_res (ρ' := [some (webD many rows), some (nI leader), some (entD [(leader, none)]), some (.lst ((ordL [(leader, none)]).map nI)), none, none, none, none]) (set_nx (mLst_ok (cons_ok rfl rfl) (by show 1 ≤ 16777216; omega))) ?_
  refine seq_res (ρ' := [some (webD many rows), some (nI leader), some (entD [(leader, none)]), some (.lst ((ordL [(leader, none)]).map nI)), some (nI 0), none, none, none]) (set_nx rfl) ?_
  exact seq_res q2 (ret_res rfl)
def woC : G.Env → R Bool := (mB (m2 D.isnt (m2 D.dgetE (mVar 1) (mVar 4)) (mC .non)))
def woB : G.Env → Out := (mSeq (mMut "list" 3 dAppend (mCons (m2 D.dgetE (mVar 1) (mVar 4)) mNil) kDrop) (mSet 4 (m2 D.ix (m2 D.ix (m2 D.ix (mVar 0) (mC (.int 1))) (m2 D.dgetE (mVar 1) (mVar 4))) (mC (.int 1)))))
theorem wo_wh {many leader : Nat} {rows : List Row} {fs : List Ent} {c2 : Option D} (b : Bf many leader rows fs) (hm : many ≤ 100) : ∀ (i N here : Nat) (o : Option Nat) (found : List Nat), fs[i]? = some (here, o) → found.length + i ≤ 1000 → i + 2 ≤ N → ∃ (ks : List Nat) (here' : Nat), Pth rows fs i here ks ∧ ks.length ≤ i ∧
    whileN woC woB N [some (webD many rows), some (entD fs), c2, some (.lst (found.map nI)), some (nI here)] = .nx [some (webD many rows), some (entD fs), c2, some (.lst ((found ++ ks).map nI)), some (nI here')] := by
  intro i
  induction i using Nat.strongRecOn with
  | _ i ih =>
    intro N here o found hj hl hN
    obtain ⟨n1, rfl⟩ : ∃ n1, N = n1 + 1 := ⟨N - 1, by omega⟩
    have hmem : (here, o) ∈ fs := List.mem_of_getElem? hj
    have hget : ∀ (l : List Nat), m2 D.dgetE (mVar 1) (mVar 4) [some (webD many rows), some (entD fs), c2, some (.lst (l.map nI)), some (nI here)] = .ok (optD o) := fun l => m2_ok rfl rfl (get_ent b.nd hmem)
    cases o with
    | none => exact ⟨[], here, .nil hj, Nat.zero_le _, by rw [List.append_nil]; exact wh_end (b_ok (m2_ok (hget found) rfl rfl))⟩
    | some k =>
      obtain ⟨hi0, hk, hgk, j, e', hji, hfj, hte⟩ := b.step hj
      obtain ⟨e1, o'⟩ := e'
      have hte2 : e1 = tK rows k := hte
      subst hte2
      obtain ⟨ks, here', q1, q2, q3⟩ := ih j hji n1 (tK rows k) o' (found ++ [k]) hfj (by rw [List.length_append, List.length_singleton]; omega) (by omega)
      rw [List.append_assoc] at q3
      refine ⟨k :: ks, here', .cons hj hji q1, by rw [List.length_cons]; omega, wh_step (b_ok (m2_ok (hget found) rfl rfl)) (seq_nx (ρ' := [some (webD many rows), some (entD fs), c2, some (.lst ((found ++ [k]).map nI)), some (nI here)]) (Eq.trans (mut_append (xs := found.map nI) (y := nI k) rfl (cons_ok (hget found) rfl) (by rw [List.length_map]; omega)) (by rw [List.map_append]; rfl)) (set_nx (m2_ok (m2_ok (m2_ok rfl rfl (web1 _ _)) (hget _) (Eq.trans (rows_ix hk) (by rw [rowK, row_getD hk]))) rfl (row1 (rowK rows k))))) q3⟩
theorem f_wayOn {many leader : Nat} {rows : List Row} {fs : List Ent} (b : Bf many leader rows fs) (hm : many ≤ 100) (hok : ∀ r ∈ rows, RowOk many r) (hall : fs.length = many) {k : Nat} (hk : k < rows.length) : ∃ i ks e, m_way_on.fn [webD many rows, entD fs, nI k] = .ok (lotD (k :: ks)) ∧ fs[i]? = some e ∧ e.1 = tK rows k ∧ Pth rows fs i (tK rows k) ks := by
  obtain ⟨e, he, hex⟩ := List.mem_map.mp (b.all hall (hok _ (rowK_mem hk)).2.1)
  obtain ⟨i, hi, hie⟩ := List.getElem_of_mem he
  have hif : fs[i]? = some e := by rw [List.getElem?_eq_getElem hi, hie]
  have hif2 : fs[i]? = some (tK rows k, e.2) := by rw [hif, show tK rows k = e.1 from hex.symm]
  have hl := b.len
  obtain ⟨ks, here', q1, q2, q3⟩ := wo_wh (c2 := some (nI k)) b hm i bigN (tK rows k) e.2 [k] hif2 (by show 1 + i ≤ 1000; omega) (by show i + 2 ≤ 1000000000; omega)
  refine ⟨i, ks, e, ?_, hif, hex, q1⟩
  rw [fn_run rfl]
  show (b_way_on [some (webD many rows), some (entD fs), some (nI k), none, none]).res = _
  unfold b_way_on
  refine seq_res (ρ' := [some (webD many rows), some (entD fs), some (nI k), some (.lst ([k].map nI)), none]) (set_nx (mLst_ok (cons_ok rfl rfl) (by show 1 ≤ 16777216; omega))) ?_
  refine seq_res (ρ' := [some (webD many rows), some (entD fs), some (nI k), some (.lst ([k].map nI)), some (nI (tK rows k))]) (set_nx (m2_ok (rowAt rfl rfl hk) rfl (row1 (rowK rows k)))) ?_
  exact seq_res q3 (ret_res (call1_ok rfl rfl))
theorem f_shutIn {many : Nat} {rows : List Row} {fs : List Ent} (hm : many ≤ 100) : m_shut_in.fn [webD many rows, entD fs] = .ok (lotD (shutL many fs)) := by
  rw [fn_run rfl]
  show (b_shut_in [some (webD many rows), some (entD fs), none]).res = _
  unfold b_shut_in
  exact ret_res (call1_ok (x := .lst ((shutL many fs).map nI)) (mLc_filN (emb := nI) (l := List.range many) (fun p => !decide (p ∈ ordL fs)) nI (sq_ok (m2_ok rfl rfl (web0 _ _)) (range1_ok (by omega))) (by rw [List.length_range]; omega) fun p _ => ⟨b_ok (m2_ok rfl rfl (notIn_ent _ _)), rfl⟩) rfl)
abbrev waysD (W : List (List Nat)) : D := .tup (W.map lotD)
theorem f_amountsBy {many base : Nat} {rows : List Row} {W : List (List Nat)} (hr : rows.length ≤ 100) (hW : W.length ≤ 100) (hb : base < 1000) : m_amounts_by.fn [webD many rows, nI base, waysD W] = .ok (lotD (amW base rows.length W)) := by
  rw [fn_run rfl]
  show (b_amounts_by [some (webD many rows), some (nI base), some (waysD W), none, none]).res = _
  unfold b_amounts_by
  refine ret_res (call1_ok (x := .lst ((amW base rows.length W).map nI)) (Eq.trans (mLc_mapN (emb := nI) (l := List.range rows.length) (fun k => nI (base * cntW W k)) (sq_ok (call1_ok (m2_ok rfl rfl (web1 _ _)) (Eq.trans (len_tup _) (by rw [List.length_map]))) (range1_ok (by omega))) (by rw [List.length_range]; omega) fun k _ => m2_ok rfl (call1_ok (x := .lst ((W.filter fun w => decide (k ∈ w)).map lotD)) (mLc_filN (emb := lotD) (l := W) (fun w => decide (k ∈ w)) lotD (sq_ok rfl rfl) (by omega) fun w _ => ⟨b_ok (m2_ok rfl rfl (in_nat _ _)), rfl⟩) (Eq.trans (len_lst _) (by rw [List.length_map]; rfl))) (mulN hb)) ?_) rfl)
  unfold amW
  rw [List.map_map]
  rfl
theorem tru_tup {m : G.Env → R D} {ρ : G.Env} {ds : List D} (h : m ρ = .ok (.tup ds)) : mTru m ρ = .ok (!ds.isEmpty) := by
  unfold mTru
  rw [h]
  cases ds <;> rfl
structure Stp (many leader : Nat) (rows : List Row) (fs : List Ent) : Prop where
  e : m_steps_to.fn [webD many rows, nI leader] = .ok (entD fs)
  b : Bf many leader rows fs
  c : Cl rows fs
theorem f_forfeits_lot {many : Nat} {leader : Nat} {base : Nat} {rows : List Row} {am : List Nat} {fs : List Ent} (c : Case many leader base rows am) (s : Stp many leader rows fs) (h : shutL many fs ≠ []) : m_forfeits.fn [webD many rows, nI leader, nI base] = .ok (.tup [.str "lot", lotD (shutL many fs)]) := by
  have hm := c.v.m5
  have e2 := f_shutIn (many := many) (rows := rows) (fs := fs) (by omega)
  rw [fn_run rfl]
  show (b_forfeits [some (webD many rows), some (nI leader), some (nI base), none, none, none]).res = _
  unfold b_forfeits
  refine seq_res (drop_nx (callN_ok (cons_ok rfl (cons_ok rfl (cons_ok rfl rfl))) rfl (f_needCase c))) ?_
  refine seq_res (ρ' := [some (webD many rows), some (nI leader), some (nI base), some (entD fs), none, none]) (set_nx (d := entD fs) (callN_ok (cons_ok rfl (cons_ok rfl rfl)) rfl s.e)) ?_
  refine res_rt (if_t (Eq.trans (tru_tup (callN_ok (cons_ok rfl (cons_ok rfl rfl)) rfl e2)) ?_) (ret_rt (mTup_ok (cons_ok rfl (cons_ok (callN_ok (cons_ok rfl (cons_ok rfl rfl)) rfl e2) rfl)) (by show 2 ≤ 16777216; omega))))
  cases q : shutL many fs with
  | nil => exact absurd q h
  | cons a l => rfl
theorem ways_of {many : Nat} {leader : Nat} {rows : List Row} {fs : List Ent} (s : Stp many leader rows fs) (v : Valid many rows) (h : shutL many fs = []) : ∃ W : List (List Nat), Ways many leader rows fs W ∧ ∃ w : Nat → List Nat, W = (List.range rows.length).map w ∧ ∀ k, k < rows.length → m_way_on.fn [webD many rows, entD fs, nI k] = .ok (lotD (w k)) := by
  have hm := v.m5
  have hall := (shut_nil s.b).mp h
  have hex : ∀ k, ∃ w : List Nat, k < rows.length → m_way_on.fn [webD many rows, entD fs, nI k] = .ok (lotD w) ∧ ∃ i ks e, w = k :: ks ∧ fs[i]? = some e ∧ e.1 = tK rows k ∧ Pth rows fs i (tK rows k) ks := fun k => by
    by_cases hk : k < rows.length
    · obtain ⟨i, ks, e, h1, h2, h3, h4⟩ := f_wayOn s.b (by omega) v.ok hall hk
      exact ⟨k :: ks, fun _ => ⟨h1, i, ks, e, rfl, h2, h3, h4⟩⟩
    · exact ⟨[], fun z => absurd z hk⟩
  refine ⟨(List.range rows.length).map fun k => (hex k).choose, ⟨by rw [List.length_map, List.length_range], fun j hj => ?_⟩, fun k => (hex k).choose, rfl, fun k hk => ((hex k).choose_spec hk).1⟩
  obtain ⟨_, i, ks, e, h1, h2, h3, h4⟩ := (hex j).choose_spec hj
  refine ⟨i, ks, e, ?_, h2, h3, h4⟩
  rw [List.getElem?_map, List.getElem?_range hj, ← h1]
  rfl
theorem f_forfeits_ways {many : Nat} {leader : Nat} {base : Nat} {rows : List Row} {am : List Nat} {fs : List Ent} {W : List (List Nat)} {w : Nat → List Nat} (c : Case many leader base rows am) (s : Stp many leader rows fs) (h : shutL many fs = []) (eW : W = (List.range rows.length).map w) (hw : ∀ k, k < rows.length → m_way_on.fn [webD many rows, entD fs, nI k] = .ok (lotD (w k))) : m_forfeits.fn [webD many rows, nI leader, nI base] = .ok (.tup [.str "ways", waysD W, lotD (amW base rows.length W)]) := by
  have hm := c.v.m5
  have h8 := c.h8
  have e2 := f_shutIn (many := many) (rows := rows) (fs := fs) (by omega)
  rw [h] at e2
  rw [fn_run rfl]
  show (b_forfeits [some (webD many rows), some (nI leader), some (nI base), none, none, none]).res = _
  unfold b_forfeits
  refine seq_res (drop_nx (callN_ok (cons_ok rfl (cons_ok rfl (cons_ok rfl rfl))) rfl (f_needCase c))) ?_
  refine seq_res (ρ' := [some (webD many rows), some (nI leader), some (nI base), some (entD fs), none, none]) (set_nx (d := entD fs) (callN_ok (cons_ok rfl (cons_ok rfl rfl)) rfl s.e)) ?_
  refine seq_res (ρ' := [some (webD many rows), some (nI leader), some (nI base), some (entD fs), none, none]) (if_f (Eq.trans (tru_tup (ds := []) (callN_ok (cons_ok rfl (cons_ok rfl rfl)) rfl e2)) rfl) rfl) ?_
  refine seq_res (ρ' := [some (webD many rows), some (nI leader), some (nI base), some (entD fs), some (waysD W), none]) (set_nx (d := waysD W) (call1_ok (x := .lst (W.map lotD)) (Eq.trans (mLc_mapN (emb := nI) (l := List.range rows.length) (fun k => lotD (w k)) (sq_ok (call1_ok (m2_ok rfl rfl (web1 _ _)) (Eq.trans (len_tup _) (by rw [List.length_map]))) (range1_ok (by omega))) (by rw [List.length_range]; omega) fun k hk => call0_ok (cons_ok rfl (cons_ok rfl (cons_ok rfl rfl))) rfl (hw k (List.mem_range.mp hk))) (by rw [eW, List.map_map]; rfl)) rfl)) ?_
  exact ret_res (mTup_ok (cons_ok rfl (cons_ok rfl (cons_ok (callN_ok (cons_ok rfl (cons_ok rfl (cons_ok rfl rfl))) rfl (f_amountsBy (by omega) (by rw [eW, List.length_map, List.length_range]; omega) c.b2)) rfl))) (by show 3 ≤ 16777216; omega))
theorem cntW_le (W : List (List Nat)) (k : Nat) : cntW W k ≤ W.length := List.length_filter_le _ _
theorem amW_le {base n b : Nat} {W : List (List Nat)} (hb : base * W.length ≤ b) : ∀ x ∈ amW base n W, x ≤ b := fun x hx => by
  obtain ⟨k, _, rfl⟩ := List.mem_map.mp hx
  exact Nat.le_trans (Nat.mul_le_mul_left _ (cntW_le W k)) hb
theorem amW_len (base n : Nat) (W : List (List Nat)) : (amW base n W).length = n := by unfold amW; rw [List.length_map, List.length_range]
theorem ok_lot (l : List Nat) : okD 2 (.tup [.str "lot", lotD l]) = true := by
  rw [okD_tup, List.all_cons, List.all_cons, lot_ok1]
  decide +kernel
theorem isNone_right {m leader base : Nat} {rows : List Row} {am : List Nat} (h : RightA m rows leader base am) : (shortAt m rows leader base am).isNone = true := by rw [right_iff.mpr h]; rfl
abbrev tkL (rows : List Row) (w : List Nat) : List Nat := w.map (tK rows)
structure WayOk (rows : List Row) (leader j : Nat) (w : List Nat) : Prop where
  ne : ∃ ks, w = j :: ks
  lt : ∀ k ∈ w, k < rows.length
  nd : w.Nodup
  ch : ∀ i, (h : i + 1 < w.length) → tK rows w[i] = gK rows w[i + 1]
  la : (tkL rows w).getLast? = some leader
  no : leader ∉ (tkL rows w).dropLast
theorem Pth.chain {m leader : Nat} {rows : List Row} {fs : List Ent} (b : Bf m leader rows fs) {i q : Nat} {ks : List Nat} (t : Pth rows fs i q ks) : ∀ j, tK rows j = q → (∀ i, (h : i + 1 < (j :: ks).length) → tK rows (j :: ks)[i] = gK rows (j :: ks)[i + 1]) ∧ (tkL rows (j :: ks)).getLast? = some leader ∧ leader ∉ (tkL rows (j :: ks)).dropLast := by
  induction t with
  | @nil i q h =>
    intro j hj
    rw [b.root h] at hj
    exact ⟨fun i h => absurd h (by show ¬ i + 1 < 1; omega), by show some (tK rows j) = _; rw [hj], fun z => nomatch z⟩
  | @cons i j0 q k ks h hj0 t ih =>
    intro j hj
    obtain ⟨hi, _, hg, _⟩ := b.step h
    have hq : q ≠ leader := fun z => by
      obtain ⟨r, e⟩ := b.hd
      have h0 : fs[0]? = some (leader, none) := by rw [e]; rfl
      exact hi (b.idx h h0 z)
    obtain ⟨h1, h2, h3⟩ := ih k rfl
    refine ⟨fun i hl => ?_, ?_, ?_⟩
    · cases i with
      | zero => exact hj.trans hg.symm
      | succ i => exact h1 i (by have : i + 1 + 1 < (k :: ks).length + 1 := hl; omega)
    · show (tK rows j :: tkL rows (k :: ks)).getLast? = _
      rw [List.getLast?_cons, h2]
      rfl
    · show leader ∉ (tK rows j :: tK rows k :: tkL rows ks).dropLast
      intro z
      rcases List.mem_cons.mp (show leader ∈ tK rows j :: (tK rows k :: tkL rows ks).dropLast from z) with e | z
      · exact hq (by rw [← hj, e])
      · exact h3 z
theorem Ways.ok {m leader : Nat} {rows : List Row} {fs : List Ent} {W : List (List Nat)} (b : Bf m leader rows fs) (w : Ways m leader rows fs W) {j : Nat} (hj : j < W.length) : WayOk rows leader j W[j] := by
  have hj2 : j < rows.length := by rw [← w.len]; exact hj
  obtain ⟨i, ks, e, h1, h2, h3, h4⟩ := w.at_ j hj2
  rw [List.getElem?_eq_getElem hj] at h1
  have h1 : W[j] = j :: ks := by injection h1
  rw [h1]
  obtain ⟨c1, c2, c3⟩ := h4.chain b j rfl
  exact ⟨⟨ks, rfl⟩, fun k hk => (List.mem_cons.mp hk).elim (fun z => z ▸ hj2) fun z => (h4.mem b k z).1, h4.way b ⟨e, h2, h3⟩, c1, c2, c3⟩
theorem Bf.same {m leader : Nat} {rows : List Row} {fs fs2 : List Ent} (b : Bf m leader rows fs) (b2 : Bf m leader rows fs2) (c2 : Cl rows fs2) : ∀ x ∈ ordL fs, x ∈ ordL fs2 := by
  have go : ∀ (i : Nat) (e : Ent), fs[i]? = some e → e.1 ∈ ordL fs2 := by
    intro i
    induction i using Nat.strongRecOn with
    | _ i ih =>
      intro e he
      obtain ⟨p, o⟩ := e
      cases o with
      | none =>
        obtain ⟨r, e2⟩ := b2.hd
        rw [e2, show p = leader from b.root he]
        exact List.mem_cons_self
      | some k =>
        obtain ⟨_, hk, hg, j, e', hj, hfj, hte⟩ := b.step he
        have := ih j hj e' hfj
        rw [hte] at this
        show p ∈ ordL fs2
        rw [← hg]
        exact c2 k hk this
  intro x hx
  obtain ⟨e, he, q⟩ := List.mem_map.mp hx
  obtain ⟨i, hi, q2⟩ := List.getElem_of_mem he
  rw [← q]
  exact go i e (by rw [List.getElem?_eq_getElem hi, q2])
theorem shut_same {m leader : Nat} {rows : List Row} {fs fs2 : List Ent} (b : Bf m leader rows fs) (c : Cl rows fs) (b2 : Bf m leader rows fs2) (c2 : Cl rows fs2) : shutL m fs2 = shutL m fs := by
  refine List.filter_congr fun p _ => congrArg Bool.not (bool_ext ?_)
  rw [decide_eq_true_iff, decide_eq_true_iff]
  exact ⟨b2.same b c p, b.same b2 c2 p⟩
theorem gv_sm (rows : List Row) (p : Nat) : (((gvL rows p).length : Nat) : Int) = sm (List.range rows.length) fun k => if gK rows k = p then 1 else 0 := by
  rw [← sm_one]
  unfold gvL fromL
  rw [sm_filter]
  refine sm_congr fun k _ => ?_
  by_cases c : gK rows k = p
  · rw [if_pos c, if_pos (decide_eq_true c)]
  · rw [if_neg c, if_neg fun z => c (of_decide_eq_true z)]
theorem gv_all {m : Nat} {rows : List Row} (hok : ∀ r ∈ rows, RowOk m r) : sm (List.range m) (fun p => ((gvL rows p).length : Int)) = (rows.length : Int) := by
  rw [sm_congr fun p _ => gv_sm rows p, sm_swap]
  have e := sm_one (List.range rows.length)
  rw [List.length_range] at e
  rw [← e]
  refine sm_congr fun k hk => ?_
  rw [sm_pick _ _ (range_nodup m), if_pos (List.mem_range.mpr (hok _ (rowK_mem (List.mem_range.mp hk))).1)]
theorem owed_le {m leader base : Nat} {rows : List Row} {am : List Nat} (v : Valid m rows) (hl : leader < m) (h : RightA m rows leader base am) : (base : Int) * (rows.length : Int) ≤ ((sumL2 am (gtL rows leader) : Nat) : Int) := by
  have h0 := net_total (am := am) v.ok []
  have h1 : sm (List.range m) (fun p => (base : Int) * ((gvL rows p).length : Int) - if leader = p then ((sumL2 am (gtL rows leader) : Nat) : Int) else 0) ≤ sm (List.range m) (fun p => netI rows am p []) := sm_le fun p hp => by
    have hp := List.mem_range.mp hp
    obtain ⟨a1, a2⟩ := h p hp
    by_cases e : leader = p
    · subst e
      rw [if_pos rfl]
      have h2 : base * (gvL rows leader).length ≤ sumL2 am (gvL rows leader) := sumL2_le a1
      have h4 : outP (gvL rows leader) [] = gvL rows leader := List.filter_eq_self.mpr fun _ _ => rfl
      have h5 : outP (gtL rows leader) [] = gtL rows leader := List.filter_eq_self.mpr fun _ _ => rfl
      unfold netI
      rw [h4, h5]
      have h6 : ((base * (gvL rows leader).length : Nat) : Int) ≤ ((sumL2 am (gvL rows leader) : Nat) : Int) := by exact_mod_cast h2
      rw [Int.natCast_mul] at h6
      omega
    · rw [if_neg e]
      have := a2 fun z => e z.symm
      omega
  rw [h0, sm_sub, sm_mul, gv_all v.ok, sm_pick _ _ (range_nodup m), if_pos (List.mem_range.mpr hl)] at h1
  omega
theorem nub_nodup : ∀ {l : List Nat}, l.Nodup → (nubI (l.map fun (x : Nat) => (x : Int))).length = l.length
  | [], _ => rfl
  | x :: l, h => by
    obtain ⟨h1, h2⟩ := List.nodup_cons.mp h
    have hn : (x : Int) ∉ l.map fun (x : Nat) => (x : Int) := fun z => by
      obtain ⟨y, hy, e⟩ := List.mem_map.mp z
      have : y = x := by omega
      exact h1 (this ▸ hy)
    show (if (x : Int) ∈ l.map (fun (x : Nat) => (x : Int)) then nubI (l.map fun (x : Nat) => (x : Int)) else (x : Int) :: nubI (l.map fun (x : Nat) => (x : Int))).length = _
    rw [if_neg hn, List.length_cons, List.length_cons, nub_nodup h2]
theorem nub_twice {l : List Nat} {x : Nat} (h : x ∈ l) : (nubI ((l ++ [x]).map fun (x : Nat) => (x : Int))).length < (l ++ [x]).length := by
  have h1 : (nubI ((l ++ [x]).map fun (x : Nat) => (x : Int))).length ≤ (l.map fun (x : Nat) => (x : Int)).length := List.Nodup.length_le_of_subset (nodup_nubI _) fun y hy => by
    have := mem_nubI.mp hy
    rw [List.map_append] at this
    rcases List.mem_append.mp this with z | z
    · exact z
    · rw [List.mem_singleton.mp z]
      exact List.mem_map.mpr ⟨x, h, rfl⟩
  rw [List.length_map] at h1
  rw [List.length_append, List.length_singleton]
  omega
theorem lt_in {many leader at_ : Nat} {rows : List Row} {c1 : Option D} (hok : ∀ r ∈ rows, RowOk many r) (hm : many ≤ 100) : ∀ (ks : List Nat) (fs : List Ent) (v5 : Option D) (hat : at_ < fs.length), Bf many leader rows fs → (∀ k ∈ ks, k < rows.length ∧ (rowK rows k).2.1 = (fs[at_]).1) → ∃ (ext : List Ent) (w5 : Option D), Bf many leader rows (fs ++ ext) ∧ (∀ k ∈ ks, gK rows k ∈ ordL (fs ++ ext)) ∧
    loopD (stepD (gnName 5) lsI) (ks.map nI) [some (webD many rows), c1, some (entD fs), some (.lst ((ordL fs).map nI)), some (nI at_), v5] = .nx [some (webD many rows), c1, some (entD (fs ++ ext)), some (.lst ((ordL (fs ++ ext)).map nI)), some (nI at_), w5]
  | [], fs, v5, hat, b, _ => ⟨[], v5, by rw [List.append_nil]; exact b, fun _ z => (nomatch z), by rw [List.append_nil]; rfl⟩
  | k :: ks, fs, v5, hat, b, h => by
    obtain ⟨hk, ht⟩ := h k (.head _)
    have hl := b.len
    have hx : m2 D.ix (m2 D.ix (m2 D.ix (mVar 0) (mC (.int 1))) (mVar 5)) (mC (.int 0)) [some (webD many rows), c1, some (entD fs), some (.lst ((ordL fs).map nI)), some (nI at_), some (nI k)] = .ok (nI (rowK rows k).1) := m2_ok (rowAt rfl rfl hk) rfl (row0 _)
    have hc : mB (m2 D.notIn (m2 D.ix (m2 D.ix (m2 D.ix (mVar 0) (mC (.int 1))) (mVar 5)) (mC (.int 0))) (mVar 2)) [some (webD many rows), c1, some (entD fs), some (.lst ((ordL fs).map nI)), some (nI at_), some (nI k)] = .ok (!decide ((rowK rows k).1 ∈ ordL fs)) := b_ok (m2_ok hx rfl (notIn_ent _ _))
    rw [List.map_cons]
    by_cases q : (rowK rows k).1 ∈ ordL fs
    · rw [decide_eq_true q] at hc
      obtain ⟨ext, w5, b', a', e⟩ := lt_in (c1 := c1) hok hm ks fs (some (nI k)) hat b fun j hj => h j (.tail _ hj)
      refine ⟨ext, w5, b', fun j hj => ?_, loop_cons (ρ1 := [some (webD many rows), c1, some (entD fs), some (.lst ((ordL fs).map nI)), some (nI at_), some (nI k)]) (ρ2 := [some (webD many rows), c1, some (entD fs), some (.lst ((ordL fs).map nI)), some (nI at_), some (nI k)]) rfl (if_f hc rfl) e⟩
      rcases List.mem_cons.mp hj with z | hj
      · subst z
        unfold ordL
        rw [List.map_append]
        exact List.mem_append_left _ q
      · exact a' j hj
    · rw [decide_eq_false q] at hc
      have b2 := b.grow hok hk hat ht q
      have hat2 : at_ < (fs ++ [((rowK rows k).1, some k)]).length := by rw [List.length_append]; omega
      have e0 : (fs ++ [((rowK rows k).1, some k)])[at_] = fs[at_] := List.getElem_append_left hat
      obtain ⟨ext, w5, b', a', e⟩ := lt_in (c1 := c1) hok hm ks (fs ++ [((rowK rows k).1, some k)]) (some (nI k)) hat2 b2 fun j hj => by rw [e0]; exact h j (.tail _ hj)
      rw [List.append_assoc] at b' e a'
      refine ⟨[((rowK rows k).1, some k)] ++ ext, w5, b', fun j hj => ?_, loop_cons (ρ1 := [some (webD many rows), c1, some (entD fs), some (.lst ((ordL fs).map nI)), some (nI at_), some (nI k)]) (ρ2 := [some (webD many rows), c1, some (entD (fs ++ [((rowK rows k).1, some k)])), some (.lst ((ordL (fs ++ [((rowK rows k).1, some k)])).map nI)), some (nI at_), some (nI k)]) rfl (if_t hc (seq_nx (put_ent (k := k) rfl hx rfl (by omega) q) (Eq.trans (mut_append (xs := (ordL fs).map nI) (y := nI (rowK rows k).1) rfl (cons_ok (m2_ok (rowAt rfl rfl hk) rfl (row0 _)) rfl) (by rw [List.length_map, List.length_map]; omega)) ?_))) e⟩
      · rcases List.mem_cons.mp hj with z | hj
        · subst z
          unfold ordL
          rw [List.map_append]
          exact List.mem_append_right _ List.mem_cons_self
        · exact a' j hj
      · rw [show (ordL (fs ++ [((rowK rows k).1, some k)])).map nI = (ordL fs).map nI ++ [nI (rowK rows k).1] by unfold ordL; rw [List.map_append, List.map_append]; rfl]
        rfl
theorem lt_wh {many leader : Nat} {rows : List Row} {c1 : Option D} (hok : ∀ r ∈ rows, RowOk many r) (hm : many ≤ 100) (hr : rows.length ≤ 100) : ∀ (fuel N : Nat) (fs : List Ent) (at_ : Nat) (v5 : Option D), Bf many leader rows fs → ClA rows fs at_ → at_ ≤ fs.length → many - at_ ≤ fuel → fuel + 2 ≤ N → ∃ (fs' : List Ent) (b : Nat) (w5 : Option D), Bf many leader rows fs' ∧ Cl rows fs' ∧
    whileN lsC lsB N [some (webD many rows), c1, some (entD fs), some (.lst ((ordL fs).map nI)), some (nI at_), v5] = .nx [some (webD many rows), c1, some (entD fs'), some (.lst ((ordL fs').map nI)), some (nI b), w5] := by
  intro fuel
  induction fuel with
  | zero =>
    intro N fs at_ v5 b cl hle hf hN
    obtain ⟨n1, rfl⟩ : ∃ n1, N = n1 + 1 := ⟨N - 1, by omega⟩
    have hl := b.len
    refine ⟨fs, at_, v5, b, cl.all b (by omega), wh_end (b_ok (m2_ok rfl (scal_int (call1_ok rfl (len_lst _))) ?_))⟩
    rw [dlt, List.length_map, List.length_map, decide_eq_false (by omega)]
  | succ fuel ih =>
    intro N fs at_ v5 b cl hle hf hN
    obtain ⟨n1, rfl⟩ : ∃ n1, N = n1 + 1 := ⟨N - 1, by omega⟩
    have hl := b.len
    by_cases ha : at_ < fs.length
    · have hc : lsC [some (webD many rows), c1, some (entD fs), some (.lst ((ordL fs).map nI)), some (nI at_), v5] = .ok true :=
        b_ok (m2_ok rfl (scal_int (call1_ok rfl (len_lst _))) (by rw [dlt, List.length_map, List.length_map, decide_eq_true (by omega)]))
      obtain ⟨ext, w5, b', a', e⟩ := lt_in (c1 := c1) hok hm (gtL rows (fs[at_]).1) fs v5 ha b fun k hk => mem_gtL.mp hk
      have cl' : ClA rows (fs ++ ext) (at_ + 1) := fun k hk ⟨i, e, hi, h1, h2⟩ => by
        have hif : i < fs.length := by omega
        rw [List.getElem?_append_left hif] at h1
        by_cases z : i = at_
        · subst z
          rw [List.getElem?_eq_getElem ha] at h1
          cases h1
          exact a' k (mem_gtL.mpr ⟨hk, h2.symm⟩)
        · have := cl k hk ⟨i, e, by omega, h1, h2⟩
          unfold ordL
          rw [List.map_append]
          exact List.mem_append_left _ this
      obtain ⟨fs2, b2, w52, q1, q2, q3⟩ := ih n1 (fs ++ ext) (at_ + 1) w5 b' cl' (by rw [List.length_append]; omega) (by omega) (by omega)
      have hix : mScal (m2 D.ix (mVar 3) (mVar 4)) [some (webD many rows), c1, some (entD fs), some (.lst ((ordL fs).map nI)), some (nI at_), v5] = .ok (nI (fs[at_]).1) := scal_int (m2_ok rfl rfl (Eq.trans (ixL (l := ordL fs) (k := at_) (by rw [List.length_map]; exact ha)) (by rw [List.getElem_map])))
      exact ⟨fs2, b2, w52, q1, q2, wh_step hc (seq_nx (ρ' := [some (webD many rows), c1, some (entD (fs ++ ext)), some (.lst ((ordL (fs ++ ext)).map nI)), some (nI at_), w5]) (for_ok (sq_ok (callN_ok (cons_ok rfl (cons_ok hix rfl)) rfl (f_lawGets (by omega) _)) rfl) e) (set_nx (d := nI (at_ + 1)) rfl)) q3⟩
    · refine ⟨fs, at_, v5, b, cl.all b (by omega), wh_end (b_ok (m2_ok rfl (scal_int (call1_ok rfl (len_lst _))) ?_))⟩
      rw [dlt, List.length_map, List.length_map, decide_eq_false (by omega)]
theorem f_lawStepsC {many leader : Nat} {rows : List Row} (hok : ∀ r ∈ rows, RowOk many r) (hm : many ≤ 100) (hr : rows.length ≤ 100) (hl : leader < many) : ∃ fs : List Ent, m__law_steps.fn [webD many rows, nI leader] = .ok (entD fs) ∧ Bf many leader rows fs ∧ Cl rows fs := by
  obtain ⟨fs, b, w5, q1, q3, q2⟩ := lt_wh (c1 := some (nI leader)) hok hm hr many bigN [(leader, none)] 0 none (Bf.start hl) (fun k hk ⟨i, e, hi, _⟩ => absurd hi (Nat.not_lt_zero i)) (by show 0 ≤ 1; omega) (by omega) (by show many + 2 ≤ 1000000000; omega)
  refine ⟨fs, ?_, q1, q3⟩
  rw [fn_run rfl]
  show (b__law_steps [some (webD many rows), some (nI leader), none, none, none, none]).res = _
  unfold b__law_steps
  refine seq_res (ρ' := [some (webD many rows), some (nI leader), some (entD [(leader, none)]), none, none, none]) (set_nx (d := entD [(leader, none)]) ?_) ?_
  · show (if 1 ≤ 15 then R.ok (D.dic false (dmergeG [(Sum.inl (leader : Int), D.non)] ([], [])).1 (dmergeG [(Sum.inl (leader : Int), D.non)] ([], [])).2) else .bad) = _
    rw [if_pos (by omega)]
    rfl
  refine seq_res (ρ' := [some (webD many rows), some (nI leader), some (entD [(leader, none)]), some (.lst ((ordL [(leader, none)]).map nI)), none, none]) (set_nx (mLst_ok (cons_ok rfl rfl) (by show 1 ≤ 16777216; omega))) ?_
  refine seq_res (ρ' := [some (webD many rows), some (nI leader), some (entD [(leader, none)]), some (.lst ((ordL [(leader, none)]).map nI)), some (nI 0), none]) (set_nx rfl) ?_
  exact seq_res q2 (ret_res rfl)
theorem m1_ok {f : D → R D} {a : G.Env → R D} {ρ : G.Env} {x : D} {r : R D} (h : a ρ = .ok x) (hf : f x = r) : m1 f a ρ = r := by
  unfold m1
  rw [h]
  exact hf
theorem rowX {many : Nat} {rows : List Row} {ρ : G.Env} {i k : Nat} {a : G.Env → R D} (h0 : ρ[i]? = some (some (webD many rows))) (h1 : a ρ = .ok (nI k)) (hk : k < rows.length) : m2 D.ix (m2 D.ix (mVar i) (mC (.int 1))) a ρ = .ok (rowD (rowK rows k)) := by
  have hv : mVar i ρ = .ok (webD many rows) := by unfold mVar; rw [h0]
  exact m2_ok (m2_ok hv rfl (web1 _ _)) h1 (Eq.trans (rows_ix hk) (by rw [rowK, row_getD hk]))
theorem lot_ix {w : List Nat} {k : Nat} (h : k < w.length) : D.ix (lotD w) (nI k) = .ok (nI w[k]) := ix_tup (by
  rw [atI_nat (n := k) rfl (by rw [List.length_map]; exact h), List.getElem_map])
theorem lenSet_lot {w : List Nat} (h : w.length ≤ 1000) : D.lenSet (lotD w) = .ok (.int ((nubI (w.map fun (x : Nat) => (x : Int))).length : Nat)) := by
  show (match D.ints (w.map nI) with
    | some ns => if ns.length ≤ 1000 then R.ok (D.int ((nubI ns).length : Nat)) else .bad
    | none => .bad) = _
  rw [show w.map nI = (w.map fun (x : Nat) => (x : Int)).map D.int by rw [List.map_map]; rfl, ints_map]
  dsimp only
  rw [if_pos (by rw [List.length_map]; exact h)]
theorem rg2_ok {b : G.Env → R D} {ρ : G.Env} {n : Nat} (h : b ρ = .ok (nI n)) (hn : n ≤ 1000) : mRange2 (mC (.int 1)) b ρ = .ok ((List.range (n - 1)).map fun i => nI (1 + i)) := by
  unfold mRange2
  rw [h]
  exact range2_nat (a := 1) (by omega) (by omega)
section
variable {m leader j : Nat} {rows : List Row} {w : List Nat}
theorem tr_one (hn : rows.length ≤ 100) (hne : 1 ≤ w.length) {o : Out} {c2 c3 : Option D} (h : mNext [some (webD m rows), some (lotD w), c2, c3] = o) : (mIf (mOr (mNot (mB (mCall (d2 D.isi) (mCons (mVar 1) (mCons (mC (.ty "tuple")) mNil))))) (mB (m2 D.eq (mCall (d1 D.len) (mCons (mVar 1) mNil)) (mC (.int 0))))) (mRet (mC (.bl false))) mNext) [some (webD m rows), some (lotD w), c2, c3] = o :=
  if_f (or_tf (x := false) (y := false) (not_ok (x := true) (b_ok (call2_ok rfl rfl rfl))) (b_ok (m2_ok (call1_ok rfl (len_tup _)) rfl (Eq.trans (deq _ _) (by rw [List.length_map, decide_eq_false (by omega)]))))) h
theorem tr_all (hn : rows.length ≤ 100) (hw : w.length ≤ 1000) (hlt : ∀ k ∈ w, k < rows.length) {c3 : Option D} : (mNot (mB (mCall (d1 D.all) (mCons (mLc [2] (mSq D.seq (mVar 1)) (gnName 2) mYes (mCall0 3 m_is_between.fn (mCons (mVar 2) (mCons (mC (.int 0)) (mCons (m2 D.sub (mCall (d1 D.len) (mCons (m2 D.ix (mVar 0) (mC (.int 1))) mNil)) (mC (.int 1))) mNil))))) mNil)))) [some (webD m rows), some (lotD w), none, c3] = .ok false :=
  not_ok (x := true) (b_ok (call1_ok (mLc_mapN (emb := nI) (l := w) (fun _ => .bl true) (sq_ok rfl rfl) (by omega) fun k hk => call0_ok (cons_ok rfl (cons_ok rfl (cons_ok (m2_ok (call1_ok (m2_ok rfl rfl (web1 _ _)) (Eq.trans (len_tup _) (by rw [List.length_map]))) rfl rfl) rfl))) rfl (by
    have := hlt k hk
    show m_is_between.fn [nI k, .int 0, .int ((rows.length : Int) - 1)] = _
    rw [f_between, decide_eq_true (by omega), decide_eq_true (by omega)]
    rfl)) (Eq.trans (all_ok _ _) (by rw [List.all_eq_true.mpr fun _ _ => rfl]))))
theorem f_isTrail_yes (hn : rows.length ≤ 100) (h : WayOk rows leader j w) : m_is_trail.fn [webD m rows, lotD w] = .ok (.bl true) := by
  have hw : w.length ≤ 100 := Nat.le_trans (nodup_le h.nd h.lt) hn
  have hne : 1 ≤ w.length := by
    obtain ⟨ks, e⟩ := h.ne
    rw [e, List.length_cons]
    omega
  rw [fn_run rfl]
  show (b_is_trail [some (webD m rows), some (lotD w), none, none]).res = _
  unfold b_is_trail
  refine seq_res (ρ' := [some (webD m rows), some (lotD w), none, none]) (tr_one hn hne rfl) ?_
  refine seq_res (ρ' := [some (webD m rows), some (lotD w), none, none]) (if_f (or_tf (x := false) (y := false) (tr_all hn (by omega) h.lt) (b_ok (m2_ok (m1_ok rfl (lenSet_lot (by omega))) (call1_ok rfl (len_tup _)) (Eq.trans (dne _ _) (by rw [nub_nodup h.nd, List.length_map, decide_eq_true rfl]; rfl))))) rfl) ?_
  refine ret_res (call1_ok (mLc_mapN (emb := fun i => nI (1 + i)) (l := List.range (w.length - 1)) (fun _ => .bl true) (rg2_ok (call1_ok rfl (Eq.trans (len_tup _) (by rw [List.length_map]))) (by omega)) (by rw [List.length_range]; omega) fun i hi => ?_) (Eq.trans (all_ok _ _) (by rw [List.all_eq_true.mpr fun _ _ => rfl])))
  have hi := List.mem_range.mp hi
  refine m2_ok (m2_ok (rowX rfl (m2_ok rfl (m2_ok (y := .int 1) (r := .ok (nI i)) rfl rfl ?_) (lot_ix (k := i) (by omega))) (h.lt _ (List.getElem_mem _))) rfl (row1 _)) (m2_ok (rowX rfl (m2_ok rfl rfl (lot_ix (k := 1 + i) (by omega))) (h.lt _ (List.getElem_mem _))) rfl (row0 _)) ?_
  · show R.ok (D.int (((1 + i : Nat) : Int) - 1)) = _
    exact congrArg (fun z => R.ok (D.int z)) (by omega)
  · have e := h.ch i (by omega)
    have e2 : tK rows w[i] = gK rows (w[1 + i]'(by omega)) := by
      rw [e]
      congr 1
      exact getElem_congr_idx (Nat.add_comm i 1)
    rw [deqN, decide_eq_true e2]
theorem f_isTrail_twice (hn : rows.length ≤ 100) (hw : w.length ≤ 100) (hlt : ∀ k ∈ w, k < rows.length) {x : Nat} (hx : x ∈ w) : m_is_trail.fn [webD m rows, lotD (w ++ [x])] = .ok (.bl false) := by
  have hl : (w ++ [x]).length = w.length + 1 := by rw [List.length_append, List.length_singleton]
  have hlt2 : ∀ k ∈ w ++ [x], k < rows.length := fun k hk => (List.mem_append.mp hk).elim (hlt k) fun z => by rw [List.mem_singleton.mp z]; exact hlt x hx
  rw [fn_run rfl]
  show (b_is_trail [some (webD m rows), some (lotD (w ++ [x])), none, none]).res = _
  unfold b_is_trail
  refine seq_res (ρ' := [some (webD m rows), some (lotD (w ++ [x])), none, none]) (tr_one hn (by omega) rfl) ?_
  refine res_rt (if_t (or_tf (x := false) (y := true) (tr_all hn (by omega) hlt2) (b_ok (m2_ok (m1_ok rfl (lenSet_lot (by omega))) (call1_ok rfl (len_tup _)) (Eq.trans (dne _ _) (by
    have := nub_twice hx
    rw [List.length_map (as := w ++ [x]), decide_eq_false (by omega)]
    rfl))))) rfl)
end
theorem atI_last {α : Type} {xs : List α} {x : α} (h : xs.getLast? = some x) : atI xs (-1) = some x := by
  have hl : 0 < xs.length := by
    cases xs with
    | nil => exact nomatch h
    | cons a l => rw [List.length_cons]; omega
  unfold atI ixN
  rw [if_neg (by omega), if_pos (by omega)]
  show xs[((-1 : Int) + (xs.length : Int)).toNat]? = some x
  rw [show ((-1 : Int) + (xs.length : Int)).toNat = xs.length - 1 by omega, ← List.getLast?_eq_getElem?]
  exact h
theorem last_ix {l : List Nat} {x : Nat} (h : l.getLast? = some x) : D.ix (.lst (l.map nI)) (.int (-1)) = .ok (nI x) := ix_lst (atI_last (by rw [List.getLast?_map, h]; rfl))
theorem sl_but {a : G.Env → R D} {ρ : G.Env} {l : List Nat} (h : a ρ = .ok (.lst (l.map nI))) : mSl a mNoP (mPart (m1 D.neg (mC (.int 1)))) ρ = .ok (.lst (l.dropLast.map nI)) := by
  unfold mSl
  rw [h]
  show R.ok (D.lst (((l.map nI).drop (HT.sIx (l.map nI).length 0 none)).take (HT.sIx (l.map nI).length (l.map nI).length (some (-1)) - HT.sIx (l.map nI).length 0 none))) = _
  rw [HT.sIx_none, List.drop_zero, Nat.sub_zero]
  show R.ok (D.lst ((l.map nI).take (((-1 : Int) + ((l.map nI).length : Int)).toNat))) = _
  rw [show ((-1 : Int) + ((l.map nI).length : Int)).toNat = l.length - 1 by rw [List.length_map]; omega, ← List.map_take, ← List.dropLast_eq_take]
theorem sl_lastT {a : G.Env → R D} {ρ : G.Env} {l : List Nat} {x : Nat} (h : a ρ = .ok (lotD l)) (hx : l.getLast? = some x) : mSl a (mPart (m1 D.neg (mC (.int 1)))) mNoP ρ = .ok (lotD [x]) := by
  have hl : 0 < l.length := by
    cases l with
    | nil => exact nomatch hx
    | cons a l => rw [List.length_cons]; omega
  unfold mSl
  rw [h]
  show R.ok (D.tup (((l.map nI).drop (((-1 : Int) + ((l.map nI).length : Int)).toNat)).take ((l.map nI).length - ((-1 : Int) + ((l.map nI).length : Int)).toNat))) = _
  rw [show ((-1 : Int) + ((l.map nI).length : Int)).toNat = l.length - 1 by rw [List.length_map]; omega, ← List.map_drop]
  have e : l.drop (l.length - 1) = [x] := by
    rw [List.getLast?_eq_getElem?] at hx
    obtain ⟨h1, h2⟩ := List.getElem?_eq_some_iff.mp hx
    rw [List.drop_eq_getElem_cons h1, h2, show l.length - 1 + 1 = l.length by omega, List.drop_length]
  rw [e, List.length_map, show l.length - (l.length - 1) = 1 by omega]
  rfl
theorem enum_lots (W : List (List Nat)) : dEnum D.seq (waysD W) = .ok ((List.range W.length).map fun i => .tup [nI i, lotD (W.getD i [])]) := by
  show R.ok (enumD (W.map lotD)) = _
  unfold enumD
  refine congrArg R.ok (List.ext_getElem ?_ fun i h1 h2 => ?_)
  · simp
  · have hi : i < W.length := by simpa using h1
    simp [List.getD_eq_getElem?_getD, List.getElem?_eq_getElem hi]
def WaysOk (rows : List Row) (leader : Nat) (W : List (List Nat)) : Prop := W.length = rows.length ∧ ∀ j, (h : j < W.length) → WayOk rows leader j W[j]
section
variable {m leader base : Nat} {rows : List Row} {W : List (List Nat)} {am : List Nat}
theorem WaysOk.get (h : WaysOk rows leader W) {j : Nat} (hj : j < rows.length) : WayOk rows leader j (W.getD j []) := by
  have hj2 : j < W.length := by rw [h.1]; exact hj
  rw [List.getD_eq_getElem?_getD, List.getElem?_eq_getElem hj2]
  exact h.2 j hj2
theorem WaysOk.mem (h : WaysOk rows leader W) {w : List Nat} (hw : w ∈ W) : ∃ j, WayOk rows leader j w := by
  obtain ⟨j, hj, e⟩ := List.getElem_of_mem hw
  exact ⟨j, e ▸ h.2 j hj⟩
theorem way_first {j : Nat} {w : List Nat} (h : WayOk rows leader j w) : D.ix (lotD w) (.int 0) = .ok (nI j) := by
  obtain ⟨ks, e⟩ := h.ne
  rw [e]
  exact lot_ix (w := j :: ks) (k := 0) (by rw [List.length_cons]; omega)
theorem trails_yes (hn : rows.length ≤ 100) (h : WaysOk rows leader W) {ρ : G.Env} {v : List Nat} {i : Nat} (h0 : (wipeD ρ v)[0]? = some (some (webD m rows))) (hi : 0 < i) (hr : i < (wipeD ρ v).length) {mi : G.Env → R (List D)} (hmi : mi ρ = .ok (W.map lotD)) : mCall (d1 D.all) (mCons (mLc v mi (gnName i) mYes (mCall0 2 m_is_trail.fn (mCons (mVar 0) (mCons (mVar i) mNil)))) mNil) ρ = .ok (.bl true) := by
  refine call1_ok (mLc_mapN (emb := lotD) (l := W) (fun _ => .bl true) hmi (by rw [h.1]; omega) fun w hw => ?_) (Eq.trans (all_ok _ _) (by rw [List.all_eq_true.mpr fun _ _ => rfl]))
  obtain ⟨j, hj⟩ := h.mem hw
  refine call0_ok (cons_ok (x := webD m rows) ?_ (cons_ok (x := lotD w) ?_ rfl)) rfl (f_isTrail_yes hn hj)
  · unfold mVar
    rw [List.getElem?_set_ne (by omega), h0]
  · unfold mVar
    rw [List.getElem?_set_self hr]
theorem f_rightWays_yes (hn : rows.length ≤ 100) (h : WaysOk rows leader W) : m_are_right_ways.fn [webD m rows, nI leader, waysD W] = .ok (.bl true) := by
  have u1 : m_is_tuple_of.fn [waysD W, .int (rows.map rowD).length] = .ok (.bl true) := by
    rw [f_tupleOf, List.length_map, List.length_map, h.1, decide_eq_true rfl]
  rw [fn_run rfl]
  show (b_are_right_ways [some (webD m rows), some (nI leader), some (waysD W), none, none, none, none]).res = _
  unfold b_are_right_ways
  refine seq_res (ρ' := [some (webD m rows), some (nI leader), some (waysD W), none, none, none, none]) (if_f (or_tf (x := false) (y := false) (not_ok (x := true) (b_ok (callN_ok (cons_ok rfl (cons_ok (call1_ok (m2_ok rfl rfl (web1 _ _)) (len_tup _)) rfl)) rfl u1))) (not_ok (x := true) (b_ok (trails_yes hn h rfl (by omega) (by show 4 < 7; omega) rfl)))) rfl) ?_
  have fl := find_loop (emb := fun i => .tup [nI i, lotD (W.getD i [])]) (f := stepD (gnTup 2 (gnCons (gnName 3) (gnCons (gnName 4) gnNil))) (mSeq (mSet 5 (mLc [6] (mSq D.seq (mVar 4)) (gnName 6) mYes (m2 D.ix (m2 D.ix (m2 D.ix (mVar 0) (mC (.int 1))) (mVar 6)) (mC (.int 1))))) (mIf (mOr (mB (m2 D.ne (m2 D.ix (mVar 4) (mC (.int 0))) (mVar 3))) (mOr (mB (m2 D.ne (m2 D.ix (mVar 5) (m1 D.neg (mC (.int 1)))) (mVar 1))) (mB (m2 D.isIn (mVar 1) (mSl (mVar 5) mNoP (mPart (m1 D.neg (mC (.int 1))))))))) (mRet (mC (.bl false))) mNext))) (fun ρ => ∃ a b c, ρ = [some (webD m rows), some (nI leader), some (waysD W), a, b, c, none]) (fun _ => false) (fun _ => .bl false) (List.range W.length) [some (webD m rows), some (nI leader), some (waysD W), none, none, none, none] ⟨none, none, none, rfl⟩ fun j hj ρ hρ => by
    obtain ⟨a, b, c, rfl⟩ := hρ
    have hj2 := List.mem_range.mp hj
    have hw := h.get (j := j) (by rw [← h.1]; exact hj2)
    have hwl : (W.getD j []).length ≤ 100 := Nat.le_trans (nodup_le hw.nd hw.lt) hn
    have s5 : mSet 5 (mLc [6] (mSq D.seq (mVar 4)) (gnName 6) mYes (m2 D.ix (m2 D.ix (m2 D.ix (mVar 0) (mC (.int 1))) (mVar 6)) (mC (.int 1)))) [some (webD m rows), some (nI leader), some (waysD W), some (nI j), some (lotD (W.getD j [])), c, none] = .nx [some (webD m rows), some (nI leader), some (waysD W), some (nI j), some (lotD (W.getD j [])), some (.lst ((tkL rows (W.getD j [])).map nI)), none] :=
      set_nx (d := .lst ((tkL rows (W.getD j [])).map nI)) (Eq.trans (mLc_mapN (emb := nI) (l := W.getD j []) (fun k => nI (tK rows k)) (sq_ok rfl rfl) (by omega) fun k hk => m2_ok (rowX rfl rfl (hw.lt k hk)) rfl (row1 _)) (by rw [List.map_map]; rfl))
    refine ⟨fun z => (nomatch z), fun _ => ⟨[some (webD m rows), some (nI leader), some (waysD W), some (nI j), some (lotD (W.getD j [])), some (.lst ((tkL rows (W.getD j [])).map nI)), none], ⟨_, _, _, rfl⟩, Eq.trans (show _ = (mSeq (mSet 5 (mLc [6] (mSq D.seq (mVar 4)) (gnName 6) mYes (m2 D.ix (m2 D.ix (m2 D.ix (mVar 0) (mC (.int 1))) (mVar 6)) (mC (.int 1))))) (mIf (mOr (mB (m2 D.ne (m2 D.ix (mVar 4) (mC (.int 0))) (mVar 3))) (mOr (mB (m2 D.ne (m2 D.ix (mVar 5) (m1 D.neg (mC (.int 1)))) (mVar 1))) (mB (m2 D.isIn (mVar 1) (mSl (mVar 5) mNoP (mPart (m1 D.neg (mC (.int 1))))))))) (mRet (mC (.bl false))) mNext)) [some (webD m rows), some (nI leader), some (waysD W), some (nI j), some (lotD (W.getD j [])), c, none] from rfl) (seq_nx s5 (if_f (or_tf (x := false) (y := false) (b_ok (m2_ok (m2_ok rfl rfl (way_first hw)) rfl (Eq.trans (neN _ _) (by rw [decide_eq_true rfl]; rfl)))) (or_tf (x := false) (y := false) (b_ok (m2_ok (m2_ok rfl (m1_ok rfl rfl) (last_ix hw.la)) rfl (Eq.trans (neN _ _) (by rw [decide_eq_true rfl]; rfl)))) (b_ok (m2_ok rfl (sl_but rfl) (Eq.trans (in_natL _ _) (by rw [decide_eq_false hw.no])))))) rfl))⟩⟩
  obtain ⟨ρ9, ⟨a, b, c, rfl⟩, e9⟩ := fl.2 (List.find?_eq_none.mpr fun _ _ z => nomatch z)
  exact seq_res (for_ok (sq_ok rfl (enum_lots W)) e9) (ret_res rfl)
theorem f_rightWays_no (hn : rows.length ≤ 100) (hW : W.length = rows.length) {w : List Nat} (hw : w ∈ W) (h : ∀ x ∈ W, ∃ b, m_is_trail.fn [webD m rows, lotD x] = .ok (.bl b)) (hf : m_is_trail.fn [webD m rows, lotD w] = .ok (.bl false)) : m_are_right_ways.fn [webD m rows, nI leader, waysD W] = .ok (.bl false) := by
  have u1 : m_is_tuple_of.fn [waysD W, .int (rows.map rowD).length] = .ok (.bl true) := by
    rw [f_tupleOf, List.length_map, List.length_map, hW, decide_eq_true rfl]
  have hb : ∀ x, ∃ b : Bool, x ∈ W → m_is_trail.fn [webD m rows, lotD x] = .ok (.bl b) := fun x => by
    by_cases c : x ∈ W
    · obtain ⟨b, e⟩ := h x c
      exact ⟨b, fun _ => e⟩
    · exact ⟨false, fun z => absurd z c⟩
  obtain ⟨tb, htb⟩ : ∃ tb : List Nat → Bool, ∀ x ∈ W, m_is_trail.fn [webD m rows, lotD x] = .ok (.bl (tb x)) := ⟨fun x => (hb x).choose, fun x hx => (hb x).choose_spec hx⟩
  have hbw : tb w = false := by
    have := htb w hw
    rw [hf] at this
    injection this with this
    injection this with this
    exact this.symm
  rw [fn_run rfl]
  show (b_are_right_ways [some (webD m rows), some (nI leader), some (waysD W), none, none, none, none]).res = _
  unfold b_are_right_ways
  refine res_rt (if_t (or_tf (x := false) (y := true) (not_ok (x := true) (b_ok (callN_ok (cons_ok rfl (cons_ok (call1_ok (m2_ok rfl rfl (web1 _ _)) (len_tup _)) rfl)) rfl u1))) (not_ok (x := false) (b_ok (call1_ok (mLc_mapN (emb := lotD) (l := W) (fun x => .bl (tb x)) (sq_ok rfl rfl) (by omega) fun x hx => call0_ok (cons_ok rfl (cons_ok rfl rfl)) rfl (htb x hx)) (Eq.trans (all_ok _ _) (congrArg (fun z => R.ok (D.bl z)) (Bool.eq_false_iff.mpr fun z => by
    have := List.all_eq_true.mp z w hw
    rw [hbw] at this
    exact nomatch this))))))) rfl)
theorem str_eq_ways : D.eq (.str "ways") (.str "ways") = .ok (.bl true) := by
  have h : okD 0 (.str "ways") = true := by decide +kernel
  rw [eq_ok (n := 0) (by omega) h h, dq_iff.mpr rfl]
theorem str_ne_ways : D.ne (.str "ways") (.str "ways") = .ok (.bl false) := by
  have h : okD 0 (.str "ways") = true := by decide +kernel
  rw [ne_ok (n := 0) (by omega) h h, dq_iff.mpr rfl]
  rfl
theorem str_ne_lot : D.ne (.str "lot") (.str "lot") = .ok (.bl false) := by
  have h : okD 0 (.str "lot") = true := by decide +kernel
  rw [ne_ok (n := 0) (by omega) h h, dq_iff.mpr rfl]
  rfl
theorem str_lw : D.eq (.str "lot") (.str "ways") = .ok (.bl false) := by
  have h : okD 0 (.str "lot") = true := by decide +kernel
  have h2 : okD 0 (.str "ways") = true := by decide +kernel
  rw [eq_ok (n := 0) (by omega) h h2]
  have e : dq (.str "lot") (.str "ways") = false := Bool.eq_false_iff.mpr fun z => by
    have := dq_iff.mp z
    injection this with this
    exact absurd this (by decide +kernel)
  rw [e]
theorem f_paper_ways {a : List Nat} {r e : Bool} (c : Case m leader base rows am) (hr : m_are_right_ways.fn [webD m rows, nI leader, waysD W] = .ok (.bl r)) (hW : W.length = rows.length) (he : r = true → D.eq (lotD a) (lotD (amW base rows.length W)) = .ok (.bl e)) : m_is_forfeit_paper.fn [webD m rows, nI leader, nI base, .tup [.str "ways", waysD W, lotD a]] = .ok (.bl (r && e)) := by
  have h8 := c.h8
  rw [fn_run rfl]
  show (b_is_forfeit_paper [some (webD m rows), some (nI leader), some (nI base), some (.tup [.str "ways", waysD W, lotD a]), none, none]).res = _
  unfold b_is_forfeit_paper
  refine seq_res (drop_nx (callN_ok (cons_ok rfl (cons_ok rfl (cons_ok rfl rfl))) rfl (f_needCase c))) ?_
  refine seq_res (ρ' := [some (webD m rows), some (nI leader), some (nI base), some (.tup [.str "ways", waysD W, lotD a]), none, none]) (if_f (or_tf (x := false) (y := false) (not_ok (x := true) (b_ok (call2_ok rfl rfl rfl))) (or_tf (x := false) (y := false) (b_ok (m2_ok (call1_ok rfl rfl) rfl (dlt 3 2))) (not_ok (x := true) (b_ok (call2_ok (m2_ok rfl rfl rfl) rfl rfl))))) rfl) ?_
  refine res_rt (if_t (and_tf (x := true) (y := true) (b_ok (m2_ok (m2_ok rfl rfl rfl) rfl str_eq_ways)) (b_ok (m2_ok (call1_ok rfl rfl) rfl (deq 3 3)))) (ret_rt ?_))
  cases r with
  | false => exact andV_f (callN_ok (cons_ok rfl (cons_ok rfl (cons_ok (m2_ok rfl rfl rfl) rfl))) rfl hr)
  | true => exact andV_t (callN_ok (cons_ok rfl (cons_ok rfl (cons_ok (m2_ok rfl rfl rfl) rfl))) rfl hr) (m2_ok (m2_ok rfl rfl rfl) (callN_ok (cons_ok rfl (cons_ok rfl (cons_ok (m2_ok rfl rfl rfl) rfl))) rfl (f_amountsBy (by omega) (by omega) c.b2)) (he rfl))
theorem f_paper_lot {S : List Nat} (c : Case m leader base rows am) (hS : Lot m S) : m_is_forfeit_paper.fn [webD m rows, nI leader, nI base, .tup [.str "lot", lotD S]] = .ok (.bl (!(S.isEmpty || decide (leader ∈ S)) && (rows.filter fun r => decide (r.1 ∈ S)).all fun r => decide (r.2.1 ∈ S))) := by
  have h8 := c.h8
  have hm := c.v.m5
  rw [fn_run rfl]
  show (b_is_forfeit_paper [some (webD m rows), some (nI leader), some (nI base), some (.tup [.str "lot", lotD S]), none, none]).res = _
  unfold b_is_forfeit_paper
  refine seq_res (drop_nx (callN_ok (cons_ok rfl (cons_ok rfl (cons_ok rfl rfl))) rfl (f_needCase c))) ?_
  refine seq_res (ρ' := [some (webD m rows), some (nI leader), some (nI base), some (.tup [.str "lot", lotD S]), none, none]) (if_f (or_tf (x := false) (y := false) (not_ok (x := true) (b_ok (call2_ok rfl rfl rfl))) (or_tf (x := false) (y := false) (b_ok (m2_ok (call1_ok rfl rfl) rfl (dlt 2 2))) (not_ok (x := true) (b_ok (call2_ok (m2_ok rfl rfl rfl) rfl rfl))))) rfl) ?_
  refine seq_res (ρ' := [some (webD m rows), some (nI leader), some (nI base), some (.tup [.str "lot", lotD S]), none, none]) (if_f (and_f (b_ok (m2_ok (m2_ok rfl rfl rfl) rfl str_lw))) rfl) ?_
  refine seq_res (ρ' := [some (webD m rows), some (nI leader), some (nI base), some (.tup [.str "lot", lotD S]), none, none]) (if_f (or_tf (x := false) (y := false) (b_ok (m2_ok (m2_ok rfl rfl rfl) rfl str_ne_lot)) (or_tf (x := false) (y := false) (b_ok (m2_ok (call1_ok rfl rfl) rfl (dne 2 2))) (not_ok (x := true) (b_ok (callN_ok (cons_ok (m2_ok rfl rfl rfl) (cons_ok (m2_ok rfl rfl (web0 _ _)) rfl)) rfl (f_isLot hS (by have := hS.length; omega))))))) rfl) ?_
  refine seq_res (ρ' := [some (webD m rows), some (nI leader), some (nI base), some (.tup [.str "lot", lotD S]), some (lotD S), none]) (set_nx (d := lotD S) (m2_ok rfl rfl rfl)) ?_
  have hc : (mOr (mB (m2 D.eq (mCall (d1 D.len) (mCons (mVar 4) mNil)) (mC (.int 0)))) (mB (m2 D.isIn (mVar 1) (mVar 4)))) [some (webD m rows), some (nI leader), some (nI base), some (.tup [.str "lot", lotD S]), some (lotD S), none] = .ok (S.isEmpty || decide (leader ∈ S)) := or_tf (b_ok (m2_ok (call1_ok rfl (len_tup _)) rfl (Eq.trans (deq _ _) (by
    cases S with
    | nil => rfl
    | cons a l => rw [List.length_map, decide_eq_false (by rw [List.length_cons]; omega)]; rfl)))) (b_ok (m2_ok rfl rfl (in_nat _ _)))
  cases q : S.isEmpty || decide (leader ∈ S) with
  | true =>
    rw [q] at hc
    exact res_rt (if_t hc rfl)
  | false =>
    rw [q] at hc
    refine seq_res (if_f hc rfl) (ret_res (call1_ok (x := .lst ((rows.filter fun r => decide (r.1 ∈ S)).map fun r => .bl (decide (r.2.1 ∈ S)))) (mLc_filN (emb := rowD) (l := rows) (fun r => decide (r.1 ∈ S)) (fun r => .bl (decide (r.2.1 ∈ S))) (sq_ok (m2_ok rfl rfl (web1 _ _)) rfl) (by omega) fun r _ => ⟨b_ok (m2_ok (m2_ok rfl rfl (row0 r)) rfl (in_nat _ _)), m2_ok (m2_ok rfl rfl (row1 r)) rfl (in_nat _ _)⟩) (Eq.trans (all_ok _ _) rfl)))
end
section
variable {m leader base : Nat} {rows : List Row} {W : List (List Nat)} {am : List Nat}
theorem f_goodWays (hn : rows.length ≤ 100) (h : WaysOk rows leader W) : m__law_good_ways.fn [webD m rows, nI leader, waysD W] = .ok (.bl true) := by
  rw [fn_run rfl]
  show (b__law_good_ways [some (webD m rows), some (nI leader), some (waysD W), none, none, none, none, none]).res = _
  unfold b__law_good_ways
  have fl := find_loop (emb := nI) (f := stepD (gnName 3) (mSeq (mSet 4 (m2 D.ix (mVar 2) (mVar 3))) (mSeq (mIf (mOr (mNot (mB (mCall (d2 D.isi) (mCons (mVar 4) (mCons (mC (.ty "tuple")) mNil))))) (mOr (mNot (mTru (mVar 4))) (mOr (mB (m2 D.ne (m2 D.ix (mVar 4) (mC (.int 0))) (mVar 3))) (mB (m2 D.ne (m1 D.lenSet (mVar 4)) (mCall (d1 D.len) (mCons (mVar 4) mNil))))))) (mRet (mC (.bl false))) mNext) (mSeq (mSet 5 (mLc [7] (mSq D.seq (mVar 4)) (gnName 7) mYes (m2 D.ix (m2 D.ix (m2 D.ix (mVar 0) (mC (.int 1))) (mVar 7)) (mC (.int 1))))) (mSeq (mFor (mRange2 (mC (.int 1)) (mCall (d1 D.len) (mCons (mVar 4) mNil))) (gnName 6) (mIf (mB (m2 D.ne (m2 D.ix (m2 D.ix (m2 D.ix (mVar 0) (mC (.int 1))) (m2 D.ix (mVar 4) (mVar 6))) (mC (.int 0))) (m2 D.ix (mVar 5) (m2 D.sub (mVar 6) (mC (.int 1)))))) (mRet (mC (.bl false))) mNext)) (mIf (mOr (mB (m2 D.ne (m2 D.ix (mVar 5) (m1 D.neg (mC (.int 1)))) (mVar 1))) (mB (m2 D.isIn (mVar 1) (mSl (mVar 5) mNoP (mPart (m1 D.neg (mC (.int 1)))))))) (mRet (mC (.bl false))) mNext)))))) (fun ρ => ∃ a b c d, ρ = [some (webD m rows), some (nI leader), some (waysD W), a, b, c, d, none]) (fun _ => false) (fun _ => .bl false) (List.range rows.length) [some (webD m rows), some (nI leader), some (waysD W), none, none, none, none, none] ⟨none, none, none, none, rfl⟩ fun j hj ρ hρ => by
    obtain ⟨a, b, c, d, rfl⟩ := hρ
    have hj2 := List.mem_range.mp hj
    have hjW : j < W.length := by rw [h.1]; exact hj2
    have hw := h.2 j hjW
    obtain ⟨w, ew⟩ : ∃ w, w = W[j] := ⟨_, rfl⟩
    rw [← ew] at hw
    have hwl : w.length ≤ 100 := Nat.le_trans (nodup_le hw.nd hw.lt) hn
    have hne : 1 ≤ w.length := by
      obtain ⟨ks, e⟩ := hw.ne
      rw [e, List.length_cons]
      omega
    have s4 : mSet 4 (m2 D.ix (mVar 2) (mVar 3)) [some (webD m rows), some (nI leader), some (waysD W), some (nI j), b, c, d, none] = .nx [some (webD m rows), some (nI leader), some (waysD W), some (nI j), some (lotD w), c, d, none] := set_nx (d := lotD w) (m2_ok rfl rfl (by rw [ew]; exact tups_ix hjW))
    have c4 : (mOr (mNot (mB (mCall (d2 D.isi) (mCons (mVar 4) (mCons (mC (.ty "tuple")) mNil))))) (mOr (mNot (mTru (mVar 4))) (mOr (mB (m2 D.ne (m2 D.ix (mVar 4) (mC (.int 0))) (mVar 3))) (mB (m2 D.ne (m1 D.lenSet (mVar 4)) (mCall (d1 D.len) (mCons (mVar 4) mNil))))))) [some (webD m rows), some (nI leader), some (waysD W), some (nI j), some (lotD w), c, d, none] = .ok false := by
      refine or_tf (x := false) (y := false) (not_ok (x := true) (b_ok (call2_ok rfl rfl rfl))) (or_tf (x := false) (y := false) (not_ok (x := true) (Eq.trans (tru_tup (ds := w.map nI) rfl) ?_)) (or_tf (x := false) (y := false) (b_ok (m2_ok (m2_ok rfl rfl (way_first hw)) rfl (Eq.trans (neN _ _) (by rw [decide_eq_true rfl]; rfl)))) (b_ok (m2_ok (m1_ok rfl (lenSet_lot (by omega))) (call1_ok rfl (len_tup _)) (Eq.trans (dne _ _) (by rw [nub_nodup hw.nd, List.length_map, decide_eq_true rfl]; rfl))))))
      obtain ⟨ks, e⟩ := hw.ne
      rw [e]
      rfl
    have s5 : mSet 5 (mLc [7] (mSq D.seq (mVar 4)) (gnName 7) mYes (m2 D.ix (m2 D.ix (m2 D.ix (mVar 0) (mC (.int 1))) (mVar 7)) (mC (.int 1)))) [some (webD m rows), some (nI leader), some (waysD W), some (nI j), some (lotD w), c, d, none] = .nx [some (webD m rows), some (nI leader), some (waysD W), some (nI j), some (lotD w), some (.lst ((tkL rows w).map nI)), d, none] :=
      set_nx (d := .lst ((tkL rows w).map nI)) (Eq.trans (mLc_mapN (emb := nI) (l := w) (fun k => nI (tK rows k)) (sq_ok rfl rfl) (by omega) fun k hk => m2_ok (rowX rfl rfl (hw.lt k hk)) rfl (row1 _)) (by rw [List.map_map]; rfl))
    have fi := find_loop (emb := fun i => nI (1 + i)) (f := stepD (gnName 6) (mIf (mB (m2 D.ne (m2 D.ix (m2 D.ix (m2 D.ix (mVar 0) (mC (.int 1))) (m2 D.ix (mVar 4) (mVar 6))) (mC (.int 0))) (m2 D.ix (mVar 5) (m2 D.sub (mVar 6) (mC (.int 1)))))) (mRet (mC (.bl false))) mNext)) (fun ρ => ∃ d, ρ = [some (webD m rows), some (nI leader), some (waysD W), some (nI j), some (lotD w), some (.lst ((tkL rows w).map nI)), d, none]) (fun _ => false) (fun _ => .bl false) (List.range (w.length - 1)) [some (webD m rows), some (nI leader), some (waysD W), some (nI j), some (lotD w), some (.lst ((tkL rows w).map nI)), d, none] ⟨d, rfl⟩ fun i hi ρ hρ => by
      obtain ⟨d, rfl⟩ := hρ
      have hi := List.mem_range.mp hi
      have e := hw.ch i (by omega)
      have e2 : gK rows (w[1 + i]'(by omega)) = tK rows w[i] := by
        rw [e]
        congr 1
        exact getElem_congr_idx (Nat.add_comm 1 i)
      refine ⟨fun z => (nomatch z), fun _ => ⟨[some (webD m rows), some (nI leader), some (waysD W), some (nI j), some (lotD w), some (.lst ((tkL rows w).map nI)), some (nI (1 + i)), none], ⟨_, rfl⟩, if_f (b_ok (m2_ok (m2_ok (rowX rfl (m2_ok rfl rfl (lot_ix (k := 1 + i) (by omega))) (hw.lt _ (List.getElem_mem _))) rfl (row0 _)) (m2_ok rfl (m2_ok (y := .int 1) (r := .ok (nI i)) rfl rfl ?_) (ixL (l := tkL rows w) (k := i) (by rw [List.length_map]; omega))) ?_)) rfl⟩⟩
      · show R.ok (D.int (((1 + i : Nat) : Int) - 1)) = _
        exact congrArg (fun z => R.ok (D.int z)) (by omega)
      · rw [neN, List.getElem_map, decide_eq_true e2]
        rfl
    obtain ⟨ρ9, ⟨d9, rfl⟩, e9⟩ := fi.2 (List.find?_eq_none.mpr fun _ _ z => nomatch z)
    refine ⟨fun z => (nomatch z), fun _ => ⟨[some (webD m rows), some (nI leader), some (waysD W), some (nI j), some (lotD w), some (.lst ((tkL rows w).map nI)), d9, none], ⟨_, _, _, _, rfl⟩, seq_nx s4 (seq_nx (if_f c4 rfl) (seq_nx s5 (seq_nx (for_ok (rg2_ok (call1_ok rfl (Eq.trans (len_tup _) (by rw [List.length_map]))) (by omega)) e9) (if_f (or_tf (x := false) (y := false) (b_ok (m2_ok (m2_ok rfl (m1_ok rfl rfl) (last_ix hw.la)) rfl (Eq.trans (neN _ _) (by rw [decide_eq_true rfl]; rfl)))) (b_ok (m2_ok rfl (sl_but rfl) (Eq.trans (in_natL _ _) (by rw [decide_eq_false hw.no]))))) rfl))))⟩⟩
  obtain ⟨ρ9, ⟨a, b, c, d, rfl⟩, e9⟩ := fl.2 (List.find?_eq_none.mpr fun _ _ z => nomatch z)
  exact seq_res (for_ok (sq_ok (call1_ok (m2_ok rfl rfl (web1 _ _)) (Eq.trans (len_tup _) (by rw [List.length_map]))) (range1_ok (by omega))) e9) (ret_res rfl)
theorem f_forfeitAmounts (c : Case m leader base rows am) (h : WaysOk rows leader W) : m_forfeit_amounts.fn [webD m rows, nI base, waysD W] = .ok (lotD (amW base rows.length W)) := by
  have h8 := c.h8
  have hW := h.1
  rw [fn_run rfl]
  show (b_forfeit_amounts [some (webD m rows), some (nI base), some (waysD W), none]).res = _
  unfold b_forfeit_amounts
  refine seq_res (drop_nx (callN_ok (cons_ok rfl rfl) rfl (f_needWeb c.v))) ?_
  refine seq_res (drop_nx (callN_ok (cons_ok rfl rfl) rfl (f_needBase c.b1 c.b2))) ?_
  refine seq_res (ρ' := [some (webD m rows), some (nI base), some (waysD W), none]) (if_f (or_tf (x := false) (y := false) (not_ok (x := true) (b_ok (call2_ok rfl rfl rfl))) (not_ok (x := true) (b_ok (trails_yes (by omega) h rfl (by omega) (by show 3 < 4; omega) rfl)))) rfl) ?_
  exact ret_res (callN_ok (cons_ok rfl (cons_ok rfl (cons_ok rfl rfl))) rfl (f_amountsBy (by omega) (by omega) c.b2))
theorem sum_at {ρ : G.Env} {mi : G.Env → R (List D)} {i j : Nat} {l : List Nat} (hr : rows.length ≤ 100) (ha : am.length = rows.length) (hl : ∀ k ∈ l, k < rows.length) (hll : l.length ≤ 1000) (hmi : mi ρ = .ok (l.map nI)) (h0 : (wipeD ρ [j])[i]? = some (some (lotD am))) (hij : i ≠ j) (hj : j < (wipeD ρ [j]).length) : mCall (d1 D.sum) (mCons (mLc [j] mi (gnName j) mYes (m2 D.ix (mVar i) (mVar j))) mNil) ρ = .ok (nI (sumL2 am l)) := by
  refine call1_ok (x := .lst ((l.map (amK am)).map nI)) (Eq.trans (mLc_mapN (emb := nI) (l := l) (fun k => nI (amK am k)) hmi (by omega) fun k hk => m2_ok (x := lotD am) (y := nI k) ?_ ?_ (am_ix (by rw [ha]; exact hl k hk))) (by rw [List.map_map]; rfl)) (sum_ok _)
  · unfold mVar
    rw [List.getElem?_set_ne (by omega), h0]
  · unfold mVar
    rw [List.getElem?_set_self hj]
theorem f_forfeitOwed (c : Case m leader base rows am) : m_forfeit_owed.fn [webD m rows, nI leader, lotD am] = .ok (nI (sumL2 am (gtL rows leader))) := by
  have h8 := c.h8
  rw [fn_run rfl]
  show (b_forfeit_owed [some (webD m rows), some (nI leader), some (lotD am), none]).res = _
  unfold b_forfeit_owed
  refine seq_res (drop_nx (callN_ok (cons_ok rfl rfl) rfl (f_needWeb c.v))) ?_
  refine seq_res (drop_nx (callN_ok (cons_ok rfl (cons_ok rfl rfl)) rfl (f_needPerson c.hl))) ?_
  refine seq_res (drop_nx (callN_ok (cons_ok rfl (cons_ok rfl rfl)) rfl (f_needAmounts c))) ?_
  exact ret_res (sum_at (by omega) c.ha (fun k hk => (mem_gtL.mp hk).1) (by have := gt_len rows leader; omega) (sq_ok (callN_ok (cons_ok rfl (cons_ok rfl rfl)) rfl (f_gotBy (by omega) leader)) rfl) rfl (by omega) (by show 3 < 4; omega))
end
theorem nil_ok {ρ : G.Env} : mTup mNil ρ = .ok (lotD []) := mTup_ok rfl (by show 0 ≤ 16777216; omega)
theorem isi_tup {a : G.Env → R D} {ρ : G.Env} {ds : List D} (h : a ρ = .ok (.tup ds)) : mNot (mB (mCall (d2 D.isi) (mCons a (mCons (mC (.ty "tuple")) mNil)))) ρ = .ok false := not_ok (x := true) (b_ok (call2_ok h rfl rfl))
theorem rgT_ok (n : Nat) (hn : n ≤ 1000) : dRgT 0 (n : Int) = .ok (lotD (List.range n)) := by
  unfold dRgT
  rw [if_pos (by unfold rgC; rw [rangeOk_nat (by omega), Bool.true_and]; exact decide_eq_true (by omega)), range_nat]
theorem eq_lot_ne {a b : List Nat} (h : a ≠ b) : D.eq (lotD a) (lotD b) = .ok (.bl false) := by
  rw [eq_ok (n := 1) (by omega) (lot_ok1 a) (lot_ok1 b)]
  have e : dq (lotD a) (lotD b) = false := Bool.eq_false_iff.mpr fun z => by
    have := dq_iff.mp z
    injection this with this
    refine h ?_
    have e2 : ∀ {x y : List Nat}, x.map nI = y.map nI → x = y := fun {x} => by
      induction x with
      | nil => intro y q; cases y with | nil => rfl | cons _ _ => exact nomatch q
      | cons p x ih =>
        intro y q
        cases y with
        | nil => exact nomatch q
        | cons p2 y =>
          rw [List.map_cons, List.map_cons] at q
          injection q with q1 q2
          injection q1 with q1
          rw [ih q2, show p = p2 by omega]
    exact e2 this
  rw [e]
theorem eq_lot_eq (a : List Nat) : D.eq (lotD a) (lotD a) = .ok (.bl true) := by
  rw [eq_ok (n := 1) (by omega) (lot_ok1 a) (lot_ok1 a), dq_iff.mpr rfl]
theorem range_lot (m : Nat) : Lot m (List.range m) := by
  have := fil_lot m fun _ => true
  rwa [List.filter_eq_self.mpr fun _ _ => rfl] at this
structure Cas65 (ns : List Int) (m leader base : Nat) (rows : List Row) (am : List Nat) (fs fs2 : List Ent) : Prop where
  c : Case m leader base rows am
  b9 : base ≤ 9
  s : Stp m leader rows fs
  e2 : m__law_steps.fn [webD m rows, nI leader] = .ok (entD fs2)
  f2 : Bf m leader rows fs2
  l2 : Cl rows fs2
  am : ∃ x3 x4 : Int, m__law_at.fn [.scr (ns.map D.int), .int 3] = .ok (.int x3) ∧ m__law_at.fn [.scr (ns.map D.int), .int 4] = .ok (.int x4) ∧ m__law_amounts.fn [.int x3, .int x4, webD m rows, nI leader, nI base] = .ok (lotD am)
def law65T : G.Env → Out := (mSeq (mSet 5 (mCallN 3 m_forfeits.fn (mCons (mVar 1) (mCons (mVar 3) (mCons (mVar 4) mNil))))) (mSeq (mSet 6 (mCallN 2 m__law_steps.fn (mCons (mVar 1) (mCons (mVar 3) mNil)))) (mSeq (mIf (mOr (mNot (mB (mCall (d2 D.isi) (mCons (mVar 5) (mCons (mC (.ty "tuple")) mNil))))) (mB (m2 D.isnt (mCallN 4 m_is_forfeit_paper.fn (mCons (mVar 1) (mCons (mVar 3) (mCons (mVar 4) (mCons (mVar 5) mNil))))) (mC (.bl true))))) (mRet (mC (.bl false))) mNext) (mSeq (mIf (mB (m2 D.lt (mCall (d1 D.len) (mCons (mVar 6) mNil)) (m2 D.ix (mVar 1) (mC (.int 0))))) (mSeq (mSet 7 (mCall (d1 D.toTup) (mCons (mLc [13] (mSq dRange1 (m2 D.ix (mVar 1) (mC (.int 0)))) (gnName 13) (mB (m2 D.notIn (mVar 13) (mVar 6))) (mVar 13)) mNil))) (mSeq (mIf (mB (m2 D.isnt (mCallN 4 m_is_forfeit_paper.fn (mCons (mVar 1) (mCons (mVar 3) (mCons (mVar 4) (mCons (mTup (mCons (mC (.str "lot")) (mCons (mTup mNil) mNil))) mNil))))) (mC (.bl false)))) (mRet (mC (.bl false))) mNext) (mRet (mAndV (m2 D.eq (mVar 5) (mTup (mCons (mC (.str "lot")) (mCons (mVar 7) mNil)))) (m2 D.is (mCallN 4 m_is_forfeit_paper.fn (mCons (mVar 1) (mCons (mVar 3) (mCons (mVar 4) (mCons (mTup (mCons (mC (.str "lot")) (mCons (mRg1 dRgT (m2 D.ix (mVar 1) (mC (.int 0)))) mNil))) mNil))))) (mC (.bl false))))))) mNext) (mSeq (mIf (mOr (mB (m2 D.ne (m2 D.ix (mVar 5) (mC (.int 0))) (mC (.str "ways")))) (mOr (mB (m2 D.ne (mCall (d1 D.len) (mCons (mVar 5) mNil)) (mC (.int 3)))) (mOr (mB (m2 D.ne (mCall (d1 D.len) (mCons (m2 D.ix (mVar 5) (mC (.int 1))) mNil)) (mVar 2))) (mNot (mB (mCallN 3 m__law_good_ways.fn (mCons (mVar 1) (mCons (mVar 3) (mCons (m2 D.ix (mVar 5) (mC (.int 1))) mNil))))))))) (mRet (mC (.bl false))) mNext) (mSeq (mSet 8 (mCall (d1 D.toTup) (mCons (mLc [13] (mSq dRange1 (mVar 2)) (gnName 13) mYes (m2 D.mul (mVar 4) (mCall (d1 D.len) (mCons (mLc [14] (mSq D.seq (m2 D.ix (mVar 5) (mC (.int 1)))) (gnName 14) (mB (m2 D.isIn (mVar 13) (mVar 14))) (mVar 14)) mNil)))) mNil))) (mSeq (mIf (mOr (mB (m2 D.ne (m2 D.ix (mVar 5) (mC (.int 2))) (mVar 8))) (mB (m2 D.ne (mCallN 3 m_forfeit_amounts.fn (mCons (mVar 1) (mCons (mVar 4) (mCons (m2 D.ix (mVar 5) (mC (.int 1))) mNil)))) (mVar 8)))) (mRet (mC (.bl false))) mNext) (mSeq (mIf (mOr (mNot (mB (mCallN 4 m__law_right_amounts.fn (mCons (mVar 1) (mCons (mVar 3) (mCons (mVar 4) (mCons (mVar 8) mNil))))))) (mB (m2 D.isnt (mCallN 4 m_is_forfeits.fn (mCons (mVar 1) (mCons (mVar 3) (mCons (mVar 4) (mCons (mVar 8) mNil))))) (mC (.bl true))))) (mRet (mC (.bl false))) mNext) (mSeq (mIf (mB (m2 D.ne (mCallN 3 m_forfeit_owed.fn (mCons (mVar 1) (mCons (mVar 3) (mCons (mVar 8) mNil)))) (m2 D.mul (mVar 4) (mVar 2)))) (mRet (mC (.bl false))) mNext) (mSeq (mSet 9 (mCallN 5 m__law_amounts.fn (mCons (mCallN 2 m__law_at.fn (mCons (mVar 0) (mCons (mC (.int 3)) mNil))) (mCons (mCallN 2 m__law_at.fn (mCons (mVar 0) (mCons (mC (.int 4)) mNil))) (mCons (mVar 1) (mCons (mVar 3) (mCons (mVar 4) mNil))))))) (mSeq (mSet 10 (mCall (d1 D.sum) (mCons (mLc [13] (mSq D.seq (mCallN 2 m__law_gets.fn (mCons (mVar 1) (mCons (mVar 3) mNil)))) (gnName 13) mYes (m2 D.ix (mVar 9) (mVar 13))) mNil))) (mSeq (mIf (mB (m2 D.ne (mCallN 3 m_forfeit_owed.fn (mCons (mVar 1) (mCons (mVar 3) (mCons (mVar 9) mNil)))) (mVar 10))) (mRet (mC (.bl false))) mNext) (mSeq (mIf (mAnd (mB (mCallN 4 m__law_right_amounts.fn (mCons (mVar 1) (mCons (mVar 3) (mCons (mVar 4) (mCons (mVar 9) mNil)))))) (mB (m2 D.lt (mVar 10) (m2 D.mul (mVar 4) (mVar 2))))) (mRet (mC (.bl false))) mNext) (mSeq (mSet 11 (m2 D.add (mTup (mCons (m2 D.add (m2 D.ix (mVar 8) (mC (.int 0))) (mC (.int 1))) mNil)) (mSl (mVar 8) (mPart (mC (.int 1))) mNoP))) (mSeq (mIf (mB (m2 D.isnt (mCallN 4 m_is_forfeit_paper.fn (mCons (mVar 1) (mCons (mVar 3) (mCons (mVar 4) (mCons (mTup (mCons (mC (.str "ways")) (mCons (m2 D.ix (mVar 5) (mC (.int 1))) (mCons (mVar 11) mNil)))) mNil))))) (mC (.bl false)))) (mRet (mC (.bl false))) mNext) (mSeq (mSet 12 (m2 D.add (mTup (mCons (m2 D.add (m2 D.ix (m2 D.ix (mVar 5) (mC (.int 1))) (mC (.int 0))) (mSl (m2 D.ix (m2 D.ix (mVar 5) (mC (.int 1))) (mC (.int 0))) (mPart (m1 D.neg (mC (.int 1)))) mNoP)) mNil)) (mSl (m2 D.ix (mVar 5) (mC (.int 1))) (mPart (mC (.int 1))) mNoP))) (mRet (m2 D.is (mCallN 4 m_is_forfeit_paper.fn (mCons (mVar 1) (mCons (mVar 3) (mCons (mVar 4) (mCons (mTup (mCons (mC (.str "ways")) (mCons (mVar 12) (mCons (mVar 8) mNil)))) mNil))))) (mC (.bl false))))))))))))))))))))
theorem tail65_lot {ns : List Int} {m leader base : Nat} {rows : List Row} {am : List Nat} {fs fs2 : List Ent} (k : Cas65 ns m leader base rows am fs fs2) (hs : shutL m fs ≠ []) : (law65T [some (.scr (ns.map D.int)), some (webD m rows), some (nI rows.length), some (nI leader), some (nI base), none, none, none, none, none, none, none, none, none, none]).res = .ok (.bl true) := by
  have hm := k.c.v.m5
  have hL : Lot m (shutL m fs) := fil_lot _ _
  have hse : (shutL m fs).isEmpty = false := by
    cases q : shutL m fs with
    | nil => exact absurd q hs
    | cons a l => rfl
  have hln : leader ∉ shutL m fs := fun z => (mem_shut.mp z).2 (by
    obtain ⟨r, e⟩ := k.s.b.hd
    rw [e]
    exact List.mem_cons_self)
  have hcl : ((rows.filter fun r => decide (r.1 ∈ shutL m fs)).all fun r => decide (r.2.1 ∈ shutL m fs)) = true := by
    rw [List.all_eq_true]
    intro r hr
    obtain ⟨hr1, hr2⟩ := List.mem_filter.mp hr
    obtain ⟨i, hi, e⟩ := List.getElem_of_mem hr1
    have ek : rowK rows i = r := by rw [rowK, row_getD hi, e]
    refine decide_eq_true (mem_shut.mpr ⟨(k.c.v.ok r hr1).2.1, fun z => (mem_shut.mp (of_decide_eq_true hr2)).2 ?_⟩)
    have := k.s.c i hi (by unfold tK; rw [ek]; exact z)
    unfold gK at this
    rwa [ek] at this
  have ep := f_paper_lot k.c hL
  rw [hse, decide_eq_false hln, hcl] at ep
  have hlen : fs2.length < m := by
    refine Nat.lt_of_le_of_ne k.f2.len fun z => hs ?_
    rw [← shut_same k.s.b k.s.c k.f2 k.l2]
    exact (shut_nil k.f2).mpr z
  have ep2 := f_paper_lot k.c (lot_nil m)
  have ep3 := f_paper_lot k.c (range_lot m)
  rw [decide_eq_true (List.mem_range.mpr k.c.hl), Bool.or_true] at ep3
  unfold law65T
  refine seq_res (ρ' := [some (.scr (ns.map D.int)), some (webD m rows), some (nI rows.length), some (nI leader), some (nI base), some (.tup [.str "lot", lotD (shutL m fs)]), none, none, none, none, none, none, none, none, none]) (set_nx (d := .tup [.str "lot", lotD (shutL m fs)]) (callN_ok (cons_ok rfl (cons_ok rfl (cons_ok rfl rfl))) rfl (f_forfeits_lot k.c k.s hs))) ?_
  refine seq_res (ρ' := [some (.scr (ns.map D.int)), some (webD m rows), some (nI rows.length), some (nI leader), some (nI base), some (.tup [.str "lot", lotD (shutL m fs)]), some (entD fs2), none, none, none, none, none, none, none, none]) (set_nx (d := entD fs2) (callN_ok (cons_ok rfl (cons_ok rfl rfl)) rfl k.e2)) ?_
  refine seq_res (ρ' := [some (.scr (ns.map D.int)), some (webD m rows), some (nI rows.length), some (nI leader), some (nI base), some (.tup [.str "lot", lotD (shutL m fs)]), some (entD fs2), none, none, none, none, none, none, none, none]) (if_f (or_tf (x := false) (y := false) (isi_tup rfl) (b_ok (m2_ok (callN_ok (cons_ok rfl (cons_ok rfl (cons_ok rfl (cons_ok rfl rfl)))) rfl ep) rfl rfl))) rfl) ?_
  refine res_rt (if_t (b_ok (m2_ok (call1_ok rfl (len_ent fs2)) (m2_ok rfl rfl (web0 _ _)) (Eq.trans (dlt _ _) (by rw [decide_eq_true (by omega)])))) (seq_nx (ρ' := [some (.scr (ns.map D.int)), some (webD m rows), some (nI rows.length), some (nI leader), some (nI base), some (.tup [.str "lot", lotD (shutL m fs)]), some (entD fs2), some (lotD (shutL m fs)), none, none, none, none, none, none, none]) (set_nx (d := lotD (shutL m fs)) (call1_ok (x := .lst ((shutL m fs2).map nI)) (mLc_filN (emb := nI) (l := List.range m) (fun p => !decide (p ∈ ordL fs2)) nI (sq_ok (m2_ok rfl rfl (web0 _ _)) (range1_ok (by omega))) (by rw [List.length_range]; omega) fun p _ => ⟨b_ok (m2_ok rfl rfl (notIn_ent _ _)), rfl⟩) (by rw [shut_same k.s.b k.s.c k.f2 k.l2]; rfl))) (seq_nx (ρ' := [some (.scr (ns.map D.int)), some (webD m rows), some (nI rows.length), some (nI leader), some (nI base), some (.tup [.str "lot", lotD (shutL m fs)]), some (entD fs2), some (lotD (shutL m fs)), none, none, none, none, none, none, none]) (if_f (b_ok (m2_ok (callN_ok (cons_ok rfl (cons_ok rfl (cons_ok rfl (cons_ok (mTup_ok (cons_ok rfl (cons_ok nil_ok rfl)) (by show 2 ≤ 16777216; omega)) rfl)))) rfl ep2) rfl rfl)) rfl) (ret_rt (andV_t (m2_ok rfl (mTup_ok (cons_ok rfl (cons_ok rfl rfl)) (by show 2 ≤ 16777216; omega)) ?_) (m2_ok (callN_ok (cons_ok rfl (cons_ok rfl (cons_ok rfl (cons_ok (mTup_ok (cons_ok rfl (cons_ok (rg1_ok (m2_ok rfl rfl (web0 _ _)) (rgT_ok m (by omega))) rfl)) (by show 2 ≤ 16777216; omega)) rfl)))) rfl ep3) rfl rfl))))))
  rw [eq_ok (n := 2) (by omega) (ok_lot _) (ok_lot _), dq_iff.mpr rfl]
theorem tail65_ways {ns : List Int} {m leader base : Nat} {rows : List Row} {am : List Nat} {fs fs2 : List Ent} {W : List (List Nat)} {wf : Nat → List Nat} (k : Cas65 ns m leader base rows am fs fs2) (hs : shutL m fs = []) (ww : Ways m leader rows fs W) (eW : W = (List.range rows.length).map wf) (hw : ∀ k, k < rows.length → m_way_on.fn [webD m rows, entD fs, nI k] = .ok (lotD (wf k))) : (law65T [some (.scr (ns.map D.int)), some (webD m rows), some (nI rows.length), some (nI leader), some (nI base), none, none, none, none, none, none, none, none, none, none]).res = .ok (.bl true) := by
  have hm := k.c.v.m5
  have h8 := k.c.h8
  have hr1 := k.c.v.r1
  have hb9 := k.b9
  have hgl := gt_len rows leader
  obtain ⟨i3, i4, a3, a4, eam⟩ := k.am
  have hW : WaysOk rows leader W := ⟨ww.len, fun j hj => ww.ok k.s.b hj⟩
  have hWl := ww.len
  have hlen : fs2.length = m := (shut_nil k.f2).mp (by rw [shut_same k.s.b k.s.c k.f2 k.l2]; exact hs)
  have cA : Case m leader base rows (amW base rows.length W) := ⟨k.c.v, k.c.h8, k.c.hl, k.c.b1, k.c.b2, amW_len _ _ _, amW_le (Nat.le_trans (Nat.mul_le_mul hb9 (show W.length ≤ 8 by omega)) (by omega))⟩
  have hR := ww.right k.s.b base
  have er := f_right (leader := leader) (many := m) (by omega) k.c.h8 cA.ha k.c.b2
  rw [right_short k.c.v.ok, isNone_right hR] at er
  have eif := f_isForfeits cA
  rw [isNone_right hR] at eif
  have er2 := f_right (leader := leader) (many := m) (by omega) k.c.h8 k.c.ha k.c.b2
  rw [right_short k.c.v.ok] at er2
  have how : sumL2 (amW base rows.length W) (gtL rows leader) = base * rows.length := by
    have := ww.owed k.s.b base
    rw [← Int.natCast_mul] at this
    exact_mod_cast this
  have hand : ((shortAt m rows leader base am).isNone && decide (((sumL2 am (gtL rows leader) : Nat) : Int) < ((base * rows.length : Nat) : Int))) = false := by
    cases q : (shortAt m rows leader base am).isNone with
    | false => rfl
    | true =>
      have q4 : RightA m rows leader base am := right_iff.mp (by
        cases e : shortAt m rows leader base am with
        | none => rfl
        | some x => rw [e] at q; exact nomatch q)
      have := owed_le k.c.v k.c.hl q4
      rw [← Int.natCast_mul] at this
      rw [decide_eq_false (by omega)]
      rfl
  have ep := f_paper_ways (e := true) k.c (f_rightWays_yes (by omega) hW) hWl fun _ => eq_lot_eq _
  obtain ⟨a0, Ar, eA⟩ : ∃ a0 Ar, amW base rows.length W = a0 :: Ar := by
    cases q : amW base rows.length W with
    | nil =>
      have := amW_len base rows.length W
      rw [q] at this
      have : 0 = rows.length := this
      omega
    | cons a l => exact ⟨a, l, rfl⟩
  have hAl : Ar.length + 1 = rows.length := by
    have := amW_len base rows.length W
    rw [eA, List.length_cons] at this
    exact this
  have hA0 : D.ix (lotD (amW base rows.length W)) (.int 0) = .ok (nI a0) := by
    rw [eA]
    exact lot_ix (w := a0 :: Ar) (k := 0) (by rw [List.length_cons]; omega)
  have ep2 := f_paper_ways (a := (a0 + 1) :: Ar) (e := false) k.c (f_rightWays_yes (by omega) hW) hWl fun _ => eq_lot_ne (by
    rw [eA]
    intro z
    injection z with z1 z2
    omega)
  obtain ⟨w0, Wr, eW0⟩ : ∃ w0 Wr, W = w0 :: Wr := by
    cases q : W with
    | nil => rw [q] at hWl; have : 0 = rows.length := hWl; omega
    | cons a l => exact ⟨a, l, rfl⟩
  have hWr : Wr.length + 1 = rows.length := by rw [← hWl, eW0, List.length_cons]
  have hw0 : WayOk rows leader 0 w0 := by
    have := hW.get (j := 0) (by omega)
    rw [eW0] at this
    exact this
  have hw0l : w0.length ≤ 100 := Nat.le_trans (nodup_le hw0.nd hw0.lt) (by omega)
  obtain ⟨x0, hx0⟩ : ∃ x0, w0.getLast? = some x0 := by
    obtain ⟨ks, e⟩ := hw0.ne
    rw [e, List.getLast?_cons]
    exact ⟨_, rfl⟩
  have hxm : x0 ∈ w0 := List.mem_of_getLast? hx0
  have hW0 : D.ix (waysD W) (.int 0) = .ok (lotD w0) := by
    rw [eW0]
    exact tups_ix (X := w0 :: Wr) (k := 0) (by rw [List.length_cons]; omega)
  have ebr := f_isTrail_twice (m := m) (by omega) hw0l hw0.lt hxm
  have ep3 := f_paper_ways (W := (w0 ++ [x0]) :: Wr) (a := amW base rows.length W) (e := false) k.c (f_rightWays_no (by omega) (by rw [List.length_cons]; exact hWr) List.mem_cons_self (fun x hx => by
    rcases List.mem_cons.mp hx with e | hx
    · rw [e]
      exact ⟨false, ebr⟩
    · obtain ⟨j, hj⟩ := hW.mem (w := x) (by rw [eW0]; exact List.mem_cons_of_mem _ hx)
      exact ⟨true, f_isTrail_yes (by omega) hj⟩) ebr) (by rw [List.length_cons]; exact hWr) fun z => nomatch z
  unfold law65T
  refine seq_res (ρ' := [some (.scr (ns.map D.int)), some (webD m rows), some (nI rows.length), some (nI leader), some (nI base), some (.tup [.str "ways", waysD W, lotD (amW base rows.length W)]), none, none, none, none, none, none, none, none, none]) (set_nx (d := .tup [.str "ways", waysD W, lotD (amW base rows.length W)]) (callN_ok (cons_ok rfl (cons_ok rfl (cons_ok rfl rfl))) rfl (f_forfeits_ways k.c k.s hs eW hw))) ?_
  refine seq_res (ρ' := [some (.scr (ns.map D.int)), some (webD m rows), some (nI rows.length), some (nI leader), some (nI base), some (.tup [.str "ways", waysD W, lotD (amW base rows.length W)]), some (entD fs2), none, none, none, none, none, none, none, none]) (set_nx (d := entD fs2) (callN_ok (cons_ok rfl (cons_ok rfl rfl)) rfl k.e2)) ?_
  refine seq_res (ρ' := [some (.scr (ns.map D.int)), some (webD m rows), some (nI rows.length), some (nI leader), some (nI base), some (.tup [.str "ways", waysD W, lotD (amW base rows.length W)]), some (entD fs2), none, none, none, none, none, none, none, none]) (if_f (or_tf (x := false) (y := false) (isi_tup rfl) (b_ok (m2_ok (callN_ok (cons_ok rfl (cons_ok rfl (cons_ok rfl (cons_ok rfl rfl)))) rfl ep) rfl rfl))) rfl) ?_
  refine seq_res (ρ' := [some (.scr (ns.map D.int)), some (webD m rows), some (nI rows.length), some (nI leader), some (nI base), some (.tup [.str "ways", waysD W, lotD (amW base rows.length W)]), some (entD fs2), none, none, none, none, none, none, none, none]) (if_f (b_ok (m2_ok (call1_ok rfl (len_ent fs2)) (m2_ok rfl rfl (web0 _ _)) (Eq.trans (dlt _ _) (by rw [decide_eq_false (by omega)])))) rfl) ?_
  refine seq_res (ρ' := [some (.scr (ns.map D.int)), some (webD m rows), some (nI rows.length), some (nI leader), some (nI base), some (.tup [.str "ways", waysD W, lotD (amW base rows.length W)]), some (entD fs2), none, none, none, none, none, none, none, none]) (if_f (or_tf (x := false) (y := false) (b_ok (m2_ok (m2_ok rfl rfl rfl) rfl str_ne_ways)) (or_tf (x := false) (y := false) (b_ok (m2_ok (call1_ok rfl rfl) rfl (dne 3 3))) (or_tf (x := false) (y := false) (b_ok (m2_ok (call1_ok (m2_ok rfl rfl rfl) (len_tup _)) rfl (Eq.trans (neN _ _) (by rw [List.length_map, hW.1, decide_eq_true rfl]; rfl)))) (not_ok (x := true) (b_ok (callN_ok (cons_ok rfl (cons_ok rfl (cons_ok (m2_ok rfl rfl rfl) rfl))) rfl (f_goodWays (by omega) hW))))))) rfl) ?_
  refine seq_res (ρ' := [some (.scr (ns.map D.int)), some (webD m rows), some (nI rows.length), some (nI leader), some (nI base), some (.tup [.str "ways", waysD W, lotD (amW base rows.length W)]), some (entD fs2), none, some (lotD (amW base rows.length W)), none, none, none, none, none, none]) (set_nx (d := lotD (amW base rows.length W)) (call1_ok (x := .lst ((amW base rows.length W).map nI)) (Eq.trans (mLc_mapN (emb := nI) (l := List.range rows.length) (fun k => nI (base * cntW W k)) (sq_ok rfl (range1_ok (by omega))) (by rw [List.length_range]; omega) fun k _ => m2_ok rfl (call1_ok (x := .lst ((W.filter fun w => decide (k ∈ w)).map lotD)) (mLc_filN (emb := lotD) (l := W) (fun w => decide (k ∈ w)) lotD (sq_ok (m2_ok rfl rfl rfl) rfl) (by omega) fun w _ => ⟨b_ok (m2_ok rfl rfl (in_nat _ _)), rfl⟩) (Eq.trans (len_lst _) (by rw [List.length_map]; rfl))) (mulN (by omega))) (by unfold amW; rw [List.map_map]; rfl)) rfl)) ?_
  refine seq_res (ρ' := [some (.scr (ns.map D.int)), some (webD m rows), some (nI rows.length), some (nI leader), some (nI base), some (.tup [.str "ways", waysD W, lotD (amW base rows.length W)]), some (entD fs2), none, some (lotD (amW base rows.length W)), none, none, none, none, none, none]) (if_f (or_tf (x := false) (y := false) (b_ok (m2_ok (m2_ok rfl rfl rfl) rfl (ne_lot _))) (b_ok (m2_ok (callN_ok (cons_ok rfl (cons_ok rfl (cons_ok (m2_ok rfl rfl rfl) rfl))) rfl (f_forfeitAmounts k.c hW)) rfl (ne_lot _)))) rfl) ?_
  refine seq_res (ρ' := [some (.scr (ns.map D.int)), some (webD m rows), some (nI rows.length), some (nI leader), some (nI base), some (.tup [.str "ways", waysD W, lotD (amW base rows.length W)]), some (entD fs2), none, some (lotD (amW base rows.length W)), none, none, none, none, none, none]) (if_f (or_tf (x := false) (y := false) (not_ok (x := true) (b_ok (callN_ok (cons_ok rfl (cons_ok rfl (cons_ok rfl (cons_ok rfl rfl)))) rfl er))) (b_ok (m2_ok (callN_ok (cons_ok rfl (cons_ok rfl (cons_ok rfl (cons_ok rfl rfl)))) rfl eif) rfl rfl))) rfl) ?_
  refine seq_res (ρ' := [some (.scr (ns.map D.int)), some (webD m rows), some (nI rows.length), some (nI leader), some (nI base), some (.tup [.str "ways", waysD W, lotD (amW base rows.length W)]), some (entD fs2), none, some (lotD (amW base rows.length W)), none, none, none, none, none, none]) (if_f (b_ok (m2_ok (callN_ok (cons_ok rfl (cons_ok rfl (cons_ok rfl rfl))) rfl (f_forfeitOwed cA)) (m2_ok rfl rfl (mulN (by omega))) (Eq.trans (neN _ _) (by rw [decide_eq_true how]; rfl)))) rfl) ?_
  refine seq_res (ρ' := [some (.scr (ns.map D.int)), some (webD m rows), some (nI rows.length), some (nI leader), some (nI base), some (.tup [.str "ways", waysD W, lotD (amW base rows.length W)]), some (entD fs2), none, some (lotD (amW base rows.length W)), some (lotD am), none, none, none, none, none]) (set_nx (d := lotD am) (callN_ok (cons_ok (callN_ok (cons_ok rfl (cons_ok rfl rfl)) rfl a3) (cons_ok (callN_ok (cons_ok rfl (cons_ok rfl rfl)) rfl a4) (cons_ok rfl (cons_ok rfl (cons_ok rfl rfl))))) rfl eam)) ?_
  refine seq_res (ρ' := [some (.scr (ns.map D.int)), some (webD m rows), some (nI rows.length), some (nI leader), some (nI base), some (.tup [.str "ways", waysD W, lotD (amW base rows.length W)]), some (entD fs2), none, some (lotD (amW base rows.length W)), some (lotD am), some (nI (sumL2 am (gtL rows leader))), none, none, none, none]) (set_nx (d := nI (sumL2 am (gtL rows leader))) (sum_at (by omega) k.c.ha (fun k hk => (mem_gtL.mp hk).1) (by omega) (sq_ok (callN_ok (cons_ok rfl (cons_ok rfl rfl)) rfl (f_lawGets (by omega) leader)) rfl) rfl (by omega) (by show 13 < 15; omega))) ?_
  refine seq_res (ρ' := [some (.scr (ns.map D.int)), some (webD m rows), some (nI rows.length), some (nI leader), some (nI base), some (.tup [.str "ways", waysD W, lotD (amW base rows.length W)]), some (entD fs2), none, some (lotD (amW base rows.length W)), some (lotD am), some (nI (sumL2 am (gtL rows leader))), none, none, none, none]) (if_f (b_ok (m2_ok (callN_ok (cons_ok rfl (cons_ok rfl (cons_ok rfl rfl))) rfl (f_forfeitOwed k.c)) rfl (Eq.trans (neN _ _) (by rw [decide_eq_true rfl]; rfl)))) rfl) ?_
  refine seq_res (ρ' := [some (.scr (ns.map D.int)), some (webD m rows), some (nI rows.length), some (nI leader), some (nI base), some (.tup [.str "ways", waysD W, lotD (amW base rows.length W)]), some (entD fs2), none, some (lotD (amW base rows.length W)), some (lotD am), some (nI (sumL2 am (gtL rows leader))), none, none, none, none]) (if_f (Eq.trans (and_tf (b_ok (callN_ok (cons_ok rfl (cons_ok rfl (cons_ok rfl (cons_ok rfl rfl)))) rfl er2)) (b_ok (m2_ok rfl (m2_ok rfl rfl (mulN (by omega))) (dlt _ _)))) (congrArg R.ok hand)) rfl) ?_
  refine seq_res (ρ' := [some (.scr (ns.map D.int)), some (webD m rows), some (nI rows.length), some (nI leader), some (nI base), some (.tup [.str "ways", waysD W, lotD (amW base rows.length W)]), some (entD fs2), none, some (lotD (amW base rows.length W)), some (lotD am), some (nI (sumL2 am (gtL rows leader))), some (lotD ((a0 + 1) :: Ar)), none, none, none]) (set_nx (d := lotD ((a0 + 1) :: Ar)) (m2_ok (mTup_ok (cons_ok (m2_ok (m2_ok rfl rfl hA0) rfl rfl) rfl) (by show 1 ≤ 16777216; omega)) (sl_from (ds := (amW base rows.length W).map nI) rfl) (by rw [eA]; exact add_tup (by rw [List.length_singleton, List.map_cons, List.drop_one, List.tail_cons, List.length_map]; omega)))) ?_
  refine seq_res (ρ' := [some (.scr (ns.map D.int)), some (webD m rows), some (nI rows.length), some (nI leader), some (nI base), some (.tup [.str "ways", waysD W, lotD (amW base rows.length W)]), some (entD fs2), none, some (lotD (amW base rows.length W)), some (lotD am), some (nI (sumL2 am (gtL rows leader))), some (lotD ((a0 + 1) :: Ar)), none, none, none]) (if_f (b_ok (m2_ok (callN_ok (cons_ok rfl (cons_ok rfl (cons_ok rfl (cons_ok (mTup_ok (cons_ok rfl (cons_ok (m2_ok rfl rfl rfl) (cons_ok rfl rfl))) (by show 3 ≤ 16777216; omega)) rfl)))) rfl ep2) rfl rfl)) rfl) ?_
  refine seq_res (ρ' := [some (.scr (ns.map D.int)), some (webD m rows), some (nI rows.length), some (nI leader), some (nI base), some (.tup [.str "ways", waysD W, lotD (amW base rows.length W)]), some (entD fs2), none, some (lotD (amW base rows.length W)), some (lotD am), some (nI (sumL2 am (gtL rows leader))), some (lotD ((a0 + 1) :: Ar)), some (waysD ((w0 ++ [x0]) :: Wr)), none, none]) (set_nx (d := waysD ((w0 ++ [x0]) :: Wr)) (m2_ok (mTup_ok (cons_ok (m2_ok (m2_ok (m2_ok rfl rfl rfl) rfl hW0) (sl_lastT (m2_ok (m2_ok rfl rfl rfl) rfl hW0) hx0) (Eq.trans (add_tup (a := w0.map nI) (b := [x0].map nI) (by rw [List.length_map, List.length_map, List.length_singleton]; omega)) (by rw [← List.map_append]))) rfl) (by show 1 ≤ 16777216; omega)) (sl_from (ds := W.map lotD) (m2_ok rfl rfl rfl)) (by rw [eW0]; exact add_tup (by rw [List.length_singleton, List.map_cons, List.drop_one, List.tail_cons, List.length_map]; omega)))) ?_
  exact ret_res (m2_ok (callN_ok (cons_ok rfl (cons_ok rfl (cons_ok rfl (cons_ok (mTup_ok (cons_ok rfl (cons_ok rfl (cons_ok rfl rfl))) (by show 3 ≤ 16777216; omega)) rfl)))) rfl ep3) rfl rfl)
theorem law_true (ns : List Int) (h : ns.length ≤ 63) : m_law.fn [.scr (ns.map D.int)] = .ok (.bl true) := by
  obtain ⟨i0, a0⟩ := f_at ns 0 h (by omega)
  obtain ⟨i1, a1⟩ := f_at ns 1 h (by omega)
  obtain ⟨i2, a2⟩ := f_at ns 2 h (by omega)
  obtain ⟨i3, a3⟩ := f_at ns 3 h (by omega)
  obtain ⟨i4, a4⟩ := f_at ns 4 h (by omega)
  obtain ⟨m, rows, ew, v, h8⟩ := f_web8 i0 i1
  have hm2 := v.m2
  have hm6 := v.m5
  have hr1 := v.r1
  obtain ⟨l3, e3, hl3, hb3⟩ := f_rowN i2 1 m (by omega) (by omega) (by omega)
  obtain ⟨leader, eleader⟩ : ∃ leader, leader = l3[0]'(by omega) := ⟨_, rfl⟩
  have hlead : leader < m := by rw [eleader]; exact hb3 _ (List.getElem_mem _)
  obtain ⟨l4, e4, hl4, hb4⟩ := f_rowN i2 2 9 (by omega) (by omega) (by omega)
  obtain ⟨base, ebase⟩ : ∃ base, base = 1 + l4[1]'(by omega) := ⟨_, rfl⟩
  have hbase : 1 ≤ base ∧ base ≤ 9 := by
    have := hb4 _ (List.getElem_mem (l := l4) (n := 1) (by omega))
    omega
  obtain ⟨am, eam, ham, ham5⟩ := f_lawAmounts (base := base) i3 i4 v h8 hlead hbase.2
  have ham6 : ∀ x ∈ am, x ≤ 1000000 := fun x hx => Nat.le_trans (ham5 x hx) (by omega)
  have c : Case m leader base rows am := ⟨v, h8, hlead, hbase.1, by omega, ham, ham6⟩
  obtain ⟨fs, efs, bf, cl⟩ := f_stepsTo v.ok (by omega) (by omega) hlead
  have s : Stp m leader rows fs := ⟨efs, bf, cl⟩
  obtain ⟨fs2, efs2, bf2, cl2⟩ := f_lawStepsC v.ok (by omega) (by omega) hlead
  have k : Cas65 ns m leader base rows am fs fs2 := ⟨c, hbase.2, s, efs2, bf2, cl2, ⟨i3, i4, a3, a4, eam⟩⟩
  have hend : (law65T [some (.scr (ns.map D.int)), some (webD m rows), some (nI rows.length), some (nI leader), some (nI base), none, none, none, none, none, none, none, none, none, none]).res = .ok (.bl true) := by
    by_cases hs : shutL m fs = []
    · obtain ⟨W, ww, fw, eW, hw⟩ := ways_of s v hs
      exact tail65_ways k hs ww eW hw
    · exact tail65_lot k hs
  rw [fn_run rfl]
  show (b_law [some (.scr (ns.map D.int)), none, none, none, none, none, none, none, none, none, none, none, none, none, none]).res = _
  unfold b_law
  refine seq_res (ρ' := [some (.scr (ns.map D.int)), some (webD m rows), none, none, none, none, none, none, none, none, none, none, none, none, none]) (set_nx (d := webD m rows) (callN_ok (cons_ok (callN_ok (cons_ok rfl (cons_ok rfl rfl)) rfl a0) (cons_ok (callN_ok (cons_ok rfl (cons_ok rfl rfl)) rfl a1) rfl)) rfl ew)) ?_
  refine seq_res (ρ' := [some (.scr (ns.map D.int)), some (webD m rows), some (nI rows.length), none, none, none, none, none, none, none, none, none, none, none, none]) (set_nx (d := nI rows.length) (call1_ok (m2_ok rfl rfl (web1 _ _)) (Eq.trans (len_tup _) (by rw [List.length_map])))) ?_
  refine seq_res (ρ' := [some (.scr (ns.map D.int)), some (webD m rows), some (nI rows.length), some (nI leader), none, none, none, none, none, none, none, none, none, none, none]) (set_nx (d := nI leader) (m2_ok (callN_ok (cons_ok (callN_ok (cons_ok rfl (cons_ok rfl rfl)) rfl a2) (cons_ok rfl (cons_ok (m2_ok rfl rfl (web0 _ _)) rfl))) rfl e3) rfl (Eq.trans (ixL (k := 0) (by omega)) (by rw [eleader])))) ?_
  refine seq_res (ρ' := [some (.scr (ns.map D.int)), some (webD m rows), some (nI rows.length), some (nI leader), some (nI base), none, none, none, none, none, none, none, none, none, none]) (set_nx (d := nI base) (m2_ok rfl (m2_ok (callN_ok (cons_ok (callN_ok (cons_ok rfl (cons_ok rfl rfl)) rfl a2) (cons_ok rfl (cons_ok rfl rfl))) rfl e4) rfl (ixL (k := 1) (by omega))) (by rw [ebase]; rfl))) ?_
  exact hend
end L
namespace L
open PySem PySem.Spec PyProof.Rows L2 G
def d__law_mixed : He.DefD := ⟨("_law_mixed", none), "_law_mixed", "_law_mixed", defArgs s__law_mixed, defBody s__law_mixed, defScope s__law_mixed, [], []⟩
def d__law_row : He.DefD := ⟨("_law_row", none), "_law_row", "_law_row", defArgs s__law_row, defBody s__law_row, defScope s__law_row, [], []⟩
def d__law_web : He.DefD := ⟨("_law_web", none), "_law_web", "_law_web", defArgs s__law_web, defBody s__law_web, defScope s__law_web, [], []⟩
def d__law_at : He.DefD := ⟨("_law_at", none), "_law_at", "_law_at", defArgs s__law_at, defBody s__law_at, defScope s__law_at, [], []⟩
def d_is_tuple_of : He.DefD := ⟨("is_tuple_of", none), "is_tuple_of", "is_tuple_of", defArgs s_is_tuple_of, defBody s_is_tuple_of, defScope s_is_tuple_of, [], []⟩
def d_is_integer : He.DefD := ⟨("is_integer", none), "is_integer", "is_integer", defArgs s_is_integer, defBody s_is_integer, defScope s_is_integer, [], []⟩
def d_is_between : He.DefD := ⟨("is_between", none), "is_between", "is_between", defArgs s_is_between, defBody s_is_between, defScope s_is_between, [], []⟩
def d_is_under : He.DefD := ⟨("is_under", none), "is_under", "is_under", defArgs s_is_under, defBody s_is_under, defScope s_is_under, [], []⟩
def d_is_row : He.DefD := ⟨("is_row", none), "is_row", "is_row", defArgs s_is_row, defBody s_is_row, defScope s_is_row, [], []⟩
def d_is_web : He.DefD := ⟨("is_web", none), "is_web", "is_web", defArgs s_is_web, defBody s_is_web, defScope s_is_web, [], []⟩
def d_need_web : He.DefD := ⟨("need_web", none), "need_web", "need_web", defArgs s_need_web, defBody s_need_web, defScope s_need_web, [], []⟩
def d_need_person : He.DefD := ⟨("need_person", none), "need_person", "need_person", defArgs s_need_person, defBody s_need_person, defScope s_need_person, [], []⟩
def d_need_base : He.DefD := ⟨("need_base", none), "need_base", "need_base", defArgs s_need_base, defBody s_need_base, defScope s_need_base, [], []⟩
def d_need_case : He.DefD := ⟨("need_case", none), "need_case", "need_case", defArgs s_need_case, defBody s_need_case, defScope s_need_case, [], []⟩
def d_got_by : He.DefD := ⟨("got_by", none), "got_by", "got_by", defArgs s_got_by, defBody s_got_by, defScope s_got_by, [], []⟩
def d_steps_to : He.DefD := ⟨("steps_to", none), "steps_to", "steps_to", defArgs s_steps_to, defBody s_steps_to, defScope s_steps_to, [], []⟩
def d_shut_in : He.DefD := ⟨("shut_in", none), "shut_in", "shut_in", defArgs s_shut_in, defBody s_shut_in, defScope s_shut_in, [], []⟩
def d_way_on : He.DefD := ⟨("way_on", none), "way_on", "way_on", defArgs s_way_on, defBody s_way_on, defScope s_way_on, [], []⟩
def d_amounts_by : He.DefD := ⟨("amounts_by", none), "amounts_by", "amounts_by", defArgs s_amounts_by, defBody s_amounts_by, defScope s_amounts_by, [], []⟩
def d_forfeits : He.DefD := ⟨("forfeits", none), "forfeits", "forfeits", defArgs s_forfeits, defBody s_forfeits, defScope s_forfeits, [], []⟩
def d__law_gets : He.DefD := ⟨("_law_gets", none), "_law_gets", "_law_gets", defArgs s__law_gets, defBody s__law_gets, defScope s__law_gets, [], []⟩
def d__law_steps : He.DefD := ⟨("_law_steps", none), "_law_steps", "_law_steps", defArgs s__law_steps, defBody s__law_steps, defScope s__law_steps, [], []⟩
def d_is_trail : He.DefD := ⟨("is_trail", none), "is_trail", "is_trail", defArgs s_is_trail, defBody s_is_trail, defScope s_is_trail, [], []⟩
def d_are_right_ways : He.DefD := ⟨("are_right_ways", none), "are_right_ways", "are_right_ways", defArgs s_are_right_ways, defBody s_are_right_ways, defScope s_are_right_ways, [], []⟩
def d_are_under : He.DefD := ⟨("are_under", none), "are_under", "are_under", defArgs s_are_under, defBody s_are_under, defScope s_are_under, [], []⟩
def d_is_lot : He.DefD := ⟨("is_lot", none), "is_lot", "is_lot", defArgs s_is_lot, defBody s_is_lot, defScope s_is_lot, [], []⟩
def d_is_forfeit_paper : He.DefD := ⟨("is_forfeit_paper", none), "is_forfeit_paper", "is_forfeit_paper", defArgs s_is_forfeit_paper, defBody s_is_forfeit_paper, defScope s_is_forfeit_paper, [], []⟩
def d__law_good_ways : He.DefD := ⟨("_law_good_ways", none), "_law_good_ways", "_law_good_ways", defArgs s__law_good_ways, defBody s__law_good_ways, defScope s__law_good_ways, [], []⟩
def d_forfeit_amounts : He.DefD := ⟨("forfeit_amounts", none), "forfeit_amounts", "forfeit_amounts", defArgs s_forfeit_amounts, defBody s_forfeit_amounts, defScope s_forfeit_amounts, [], []⟩
def d__law_gives : He.DefD := ⟨("_law_gives", none), "_law_gives", "_law_gives", defArgs s__law_gives, defBody s__law_gives, defScope s__law_gives, [], []⟩
def d__law_honest : He.DefD := ⟨("_law_honest", none), "_law_honest", "_law_honest", defArgs s__law_honest, defBody s__law_honest, defScope s__law_honest, [], []⟩
def d__law_net : He.DefD := ⟨("_law_net", none), "_law_net", "_law_net", defArgs s__law_net, defBody s__law_net, defScope s__law_net, [], []⟩
def d__law_short_of : He.DefD := ⟨("_law_short_of", none), "_law_short_of", "_law_short_of", defArgs s__law_short_of, defBody s__law_short_of, defScope s__law_short_of, [], []⟩
def d__law_right_amounts : He.DefD := ⟨("_law_right_amounts", none), "_law_right_amounts", "_law_right_amounts", defArgs s__law_right_amounts, defBody s__law_right_amounts, defScope s__law_right_amounts, [], []⟩
def d_are_amounts : He.DefD := ⟨("are_amounts", none), "are_amounts", "are_amounts", defArgs s_are_amounts, defBody s_are_amounts, defScope s_are_amounts, [], []⟩
def d_given_by : He.DefD := ⟨("given_by", none), "given_by", "given_by", defArgs s_given_by, defBody s_given_by, defScope s_given_by, [], []⟩
def d_net_of : He.DefD := ⟨("net_of", none), "net_of", "net_of", defArgs s_net_of, defBody s_net_of, defScope s_net_of, [], []⟩
def d_due_of : He.DefD := ⟨("due_of", none), "due_of", "due_of", defArgs s_due_of, defBody s_due_of, defScope s_due_of, [], []⟩
def d_short_at : He.DefD := ⟨("short_at", none), "short_at", "short_at", defArgs s_short_at, defBody s_short_at, defScope s_short_at, [], []⟩
def d_is_forfeits : He.DefD := ⟨("is_forfeits", none), "is_forfeits", "is_forfeits", defArgs s_is_forfeits, defBody s_is_forfeits, defScope s_is_forfeits, [], []⟩
def d_need_amounts : He.DefD := ⟨("need_amounts", none), "need_amounts", "need_amounts", defArgs s_need_amounts, defBody s_need_amounts, defScope s_need_amounts, [], []⟩
def d_forfeit_owed : He.DefD := ⟨("forfeit_owed", none), "forfeit_owed", "forfeit_owed", defArgs s_forfeit_owed, defBody s_forfeit_owed, defScope s_forfeit_owed, [], []⟩
def d__law_amounts : He.DefD := ⟨("_law_amounts", none), "_law_amounts", "_law_amounts", defArgs s__law_amounts, defBody s__law_amounts, defScope s__law_amounts, [], []⟩
def d_law : He.DefD := ⟨("law", none), "law", "law", defArgs s_law, defBody s_law, defScope s_law, [], []⟩
def fnL : List He.DefD := [d__law_mixed, d__law_row, d__law_web, d__law_at, d_is_tuple_of, d_is_integer, d_is_between, d_is_under, d_is_row, d_is_web, d_need_web, d_need_person, d_need_base, d_need_case, d_got_by, d_steps_to, d_shut_in, d_way_on, d_amounts_by, d_forfeits, d__law_gets, d__law_steps, d_is_trail, d_are_right_ways, d_are_under, d_is_lot, d_is_forfeit_paper, d__law_good_ways, d_forfeit_amounts, d__law_gives, d__law_honest, d__law_net, d__law_short_of, d__law_right_amounts, d_are_amounts, d_given_by, d_net_of, d_due_of, d_short_at, d_is_forfeits, d_need_amounts, d_forfeit_owed, d__law_amounts, d_law]
def faL : List He.Fa := [.glo "_law_mixed", .glo "_law_row", .glo "_law_web", .glo "_law_at", .glo "is_tuple_of", .glo "is_integer", .glo "is_between", .glo "is_under", .glo "is_row", .glo "is_web", .glo "need_web", .glo "need_person", .glo "need_base", .glo "need_case", .glo "got_by", .glo "steps_to", .glo "shut_in", .glo "way_on", .glo "amounts_by", .glo "forfeits", .glo "_law_gets", .glo "_law_steps", .glo "is_trail", .glo "are_right_ways", .glo "are_under", .glo "is_lot", .glo "is_forfeit_paper", .glo "_law_good_ways", .glo "forfeit_amounts", .glo "_law_gives", .glo "_law_honest", .glo "_law_net", .glo "_law_short_of", .glo "_law_right_amounts", .glo "are_amounts", .glo "given_by", .glo "net_of", .glo "due_of", .glo "short_at", .glo "is_forfeits", .glo "need_amounts", .glo "forfeit_owed", .glo "_law_amounts", .glo "law", .glo "NoWeb", .glo "NoPerson", .glo "NoBase", .glo "NoForfeits", .free "int", .free "range", .free "sorted", .free "len", .free "tuple", .free "isinstance", .free "bool", .free "all", .free "enumerate", .free "set", .free "str", .free "any", .free "sum", .free "list", .free "max", .int "MOST_DELAY" (9), .int "FEWEST_PERSONS" (2), .int "MOST_PERSONS" (6), .int "MOST_TRANSFERS" (10), .int "MOST_BASE" (1000), .int "MOST_FORFEIT" (1000000)]
def exL (K : PySem.W.Frag) : Bool := true && G.errB K "NoWeb" && G.errB K "NoPerson" && G.errB K "NoBase" && G.errB K "NoForfeits"
abbrev RL : PySem.W.OpenRow := PySem.W.OpenLaw.row PySem.Challenge.rw_chesthours_k65_whole_forfeits_flow
abbrev hkL : PySem.W.Hook := G.hookE 4 faL fnL exL
def obL (s : PySem.W.SharedT) : He.AlD × Bool := G.obsEG 4 faL fnL exL (HandSHeadRun.getT s)
theorem obL_eq (s : PySem.W.SharedT) : obL s = hkL.obs s.abs := G.obsEG_eq (HandSHeadRun.getT_eq s)
def looseL : List PySem.Str := (["__name__", "ChestError", "NoWeb", "NoPerson", "NoBase", "NoForfeits", "is_integer", "is_between", "is_under", "is_tuple_of", "are_under", "is_lot", "FEWEST_PERSONS", "MOST_PERSONS", "MOST_TRANSFERS", "MOST_DELAY", "is_row", "is_web", "need_web", "need_person"] : List PySem.Str) ++ (["given_by", "got_by", "MOST_BASE", "MOST_FORFEIT", "need_base", "are_amounts", "need_amounts", "need_case", "net_of", "due_of", "short_at", "is_forfeits", "steps_to", "way_on", "shut_in", "forfeits", "amounts_by", "forfeit_amounts", "is_trail", "are_right_ways"] : List PySem.Str) ++ (["is_forfeit_paper", "forfeit_owed", "_law_web", "_law_at", "_law_mixed", "_law_row", "_law_net", "_law_honest", "_law_short_of", "_law_right_amounts", "_law_steps", "_law_amounts", "_law_gives", "_law_gets", "_law_good_ways"] : List PySem.Str)
theorem runL (w : World) : HandSHeadRun.RunEq RL (PySem.W.view RL.prog [59]) hkL obL 4000 looseL w := by
  intro os
  kernel_rfl
theorem factsL {P : Program} {w : World} {K : PySem.W.Frag} {h : Heap} {mg : Str → Option Value} {f : Addr} (X : K.In h) (G : h.Ns mainGlobals mg) (hfa : mg ("law" : Str) = some (.ref f)) (c : He.SaysD faL fnL K) (cx : exL K = true) :
    ∃ fd : FuncData, (∀ (s : Shared) (v : Value), BindsTo s fd ⟨[v], []⟩ [("script", v)]) ∧ ∀ base : Heap, Fd P w K mg base 8 "law" ["script"] f fd m_law.fn := by
  obtain ⟨fd__law_mixed, F__law_mixed⟩ := c.def_ 0 (d := d__law_mixed) rfl
  obtain ⟨fd__law_row, F__law_row⟩ := c.def_ 1 (d := d__law_row) rfl
  obtain ⟨fd__law_web, F__law_web⟩ := c.def_ 2 (d := d__law_web) rfl
  obtain ⟨fd__law_at, F__law_at⟩ := c.def_ 3 (d := d__law_at) rfl
  obtain ⟨fd_is_tuple_of, F_is_tuple_of⟩ := c.def_ 4 (d := d_is_tuple_of) rfl
  obtain ⟨fd_is_integer, F_is_integer⟩ := c.def_ 5 (d := d_is_integer) rfl
  obtain ⟨fd_is_between, F_is_between⟩ := c.def_ 6 (d := d_is_between) rfl
  obtain ⟨fd_is_under, F_is_under⟩ := c.def_ 7 (d := d_is_under) rfl
  obtain ⟨fd_is_row, F_is_row⟩ := c.def_ 8 (d := d_is_row) rfl
  obtain ⟨fd_is_web, F_is_web⟩ := c.def_ 9 (d := d_is_web) rfl
  obtain ⟨fd_need_web, F_need_web⟩ := c.def_ 10 (d := d_need_web) rfl
  obtain ⟨fd_need_person, F_need_person⟩ := c.def_ 11 (d := d_need_person) rfl
  obtain ⟨fd_need_base, F_need_base⟩ := c.def_ 12 (d := d_need_base) rfl
  obtain ⟨fd_need_case, F_need_case⟩ := c.def_ 13 (d := d_need_case) rfl
  obtain ⟨fd_got_by, F_got_by⟩ := c.def_ 14 (d := d_got_by) rfl
  obtain ⟨fd_steps_to, F_steps_to⟩ := c.def_ 15 (d := d_steps_to) rfl
  obtain ⟨fd_shut_in, F_shut_in⟩ := c.def_ 16 (d := d_shut_in) rfl
  obtain ⟨fd_way_on, F_way_on⟩ := c.def_ 17 (d := d_way_on) rfl
  obtain ⟨fd_amounts_by, F_amounts_by⟩ := c.def_ 18 (d := d_amounts_by) rfl
  obtain ⟨fd_forfeits, F_forfeits⟩ := c.def_ 19 (d := d_forfeits) rfl
  obtain ⟨fd__law_gets, F__law_gets⟩ := c.def_ 20 (d := d__law_gets) rfl
  obtain ⟨fd__law_steps, F__law_steps⟩ := c.def_ 21 (d := d__law_steps) rfl
  obtain ⟨fd_is_trail, F_is_trail⟩ := c.def_ 22 (d := d_is_trail) rfl
  obtain ⟨fd_are_right_ways, F_are_right_ways⟩ := c.def_ 23 (d := d_are_right_ways) rfl
  obtain ⟨fd_are_under, F_are_under⟩ := c.def_ 24 (d := d_are_under) rfl
  obtain ⟨fd_is_lot, F_is_lot⟩ := c.def_ 25 (d := d_is_lot) rfl
  obtain ⟨fd_is_forfeit_paper, F_is_forfeit_paper⟩ := c.def_ 26 (d := d_is_forfeit_paper) rfl
  obtain ⟨fd__law_good_ways, F__law_good_ways⟩ := c.def_ 27 (d := d__law_good_ways) rfl
  obtain ⟨fd_forfeit_amounts, F_forfeit_amounts⟩ := c.def_ 28 (d := d_forfeit_amounts) rfl
  obtain ⟨fd__law_gives, F__law_gives⟩ := c.def_ 29 (d := d__law_gives) rfl
  obtain ⟨fd__law_honest, F__law_honest⟩ := c.def_ 30 (d := d__law_honest) rfl
  obtain ⟨fd__law_net, F__law_net⟩ := c.def_ 31 (d := d__law_net) rfl
  obtain ⟨fd__law_short_of, F__law_short_of⟩ := c.def_ 32 (d := d__law_short_of) rfl
  obtain ⟨fd__law_right_amounts, F__law_right_amounts⟩ := c.def_ 33 (d := d__law_right_amounts) rfl
  obtain ⟨fd_are_amounts, F_are_amounts⟩ := c.def_ 34 (d := d_are_amounts) rfl
  obtain ⟨fd_given_by, F_given_by⟩ := c.def_ 35 (d := d_given_by) rfl
  obtain ⟨fd_net_of, F_net_of⟩ := c.def_ 36 (d := d_net_of) rfl
  obtain ⟨fd_due_of, F_due_of⟩ := c.def_ 37 (d := d_due_of) rfl
  obtain ⟨fd_short_at, F_short_at⟩ := c.def_ 38 (d := d_short_at) rfl
  obtain ⟨fd_is_forfeits, F_is_forfeits⟩ := c.def_ 39 (d := d_is_forfeits) rfl
  obtain ⟨fd_need_amounts, F_need_amounts⟩ := c.def_ 40 (d := d_need_amounts) rfl
  obtain ⟨fd_forfeit_owed, F_forfeit_owed⟩ := c.def_ 41 (d := d_forfeit_owed) rfl
  obtain ⟨fd__law_amounts, F__law_amounts⟩ := c.def_ 42 (d := d__law_amounts) rfl
  obtain ⟨fd_law, F_law⟩ := c.def_ 43 (d := d_law) rfl
  have g__law_mixed := He.glo_ok X G (c.fact 0 (f := .glo "_law_mixed") rfl)
  have g__law_row := He.glo_ok X G (c.fact 1 (f := .glo "_law_row") rfl)
  have g__law_web := He.glo_ok X G (c.fact 2 (f := .glo "_law_web") rfl)
  have g__law_at := He.glo_ok X G (c.fact 3 (f := .glo "_law_at") rfl)
  have g_is_tuple_of := He.glo_ok X G (c.fact 4 (f := .glo "is_tuple_of") rfl)
  have g_is_integer := He.glo_ok X G (c.fact 5 (f := .glo "is_integer") rfl)
  have g_is_between := He.glo_ok X G (c.fact 6 (f := .glo "is_between") rfl)
  have g_is_under := He.glo_ok X G (c.fact 7 (f := .glo "is_under") rfl)
  have g_is_row := He.glo_ok X G (c.fact 8 (f := .glo "is_row") rfl)
  have g_is_web := He.glo_ok X G (c.fact 9 (f := .glo "is_web") rfl)
  have g_need_web := He.glo_ok X G (c.fact 10 (f := .glo "need_web") rfl)
  have g_need_person := He.glo_ok X G (c.fact 11 (f := .glo "need_person") rfl)
  have g_need_base := He.glo_ok X G (c.fact 12 (f := .glo "need_base") rfl)
  have g_need_case := He.glo_ok X G (c.fact 13 (f := .glo "need_case") rfl)
  have g_got_by := He.glo_ok X G (c.fact 14 (f := .glo "got_by") rfl)
  have g_steps_to := He.glo_ok X G (c.fact 15 (f := .glo "steps_to") rfl)
  have g_shut_in := He.glo_ok X G (c.fact 16 (f := .glo "shut_in") rfl)
  have g_way_on := He.glo_ok X G (c.fact 17 (f := .glo "way_on") rfl)
  have g_amounts_by := He.glo_ok X G (c.fact 18 (f := .glo "amounts_by") rfl)
  have g_forfeits := He.glo_ok X G (c.fact 19 (f := .glo "forfeits") rfl)
  have g__law_gets := He.glo_ok X G (c.fact 20 (f := .glo "_law_gets") rfl)
  have g__law_steps := He.glo_ok X G (c.fact 21 (f := .glo "_law_steps") rfl)
  have g_is_trail := He.glo_ok X G (c.fact 22 (f := .glo "is_trail") rfl)
  have g_are_right_ways := He.glo_ok X G (c.fact 23 (f := .glo "are_right_ways") rfl)
  have g_are_under := He.glo_ok X G (c.fact 24 (f := .glo "are_under") rfl)
  have g_is_lot := He.glo_ok X G (c.fact 25 (f := .glo "is_lot") rfl)
  have g_is_forfeit_paper := He.glo_ok X G (c.fact 26 (f := .glo "is_forfeit_paper") rfl)
  have g__law_good_ways := He.glo_ok X G (c.fact 27 (f := .glo "_law_good_ways") rfl)
  have g_forfeit_amounts := He.glo_ok X G (c.fact 28 (f := .glo "forfeit_amounts") rfl)
  have g__law_gives := He.glo_ok X G (c.fact 29 (f := .glo "_law_gives") rfl)
  have g__law_honest := He.glo_ok X G (c.fact 30 (f := .glo "_law_honest") rfl)
  have g__law_net := He.glo_ok X G (c.fact 31 (f := .glo "_law_net") rfl)
  have g__law_short_of := He.glo_ok X G (c.fact 32 (f := .glo "_law_short_of") rfl)
  have g__law_right_amounts := He.glo_ok X G (c.fact 33 (f := .glo "_law_right_amounts") rfl)
  have g_are_amounts := He.glo_ok X G (c.fact 34 (f := .glo "are_amounts") rfl)
  have g_given_by := He.glo_ok X G (c.fact 35 (f := .glo "given_by") rfl)
  have g_net_of := He.glo_ok X G (c.fact 36 (f := .glo "net_of") rfl)
  have g_due_of := He.glo_ok X G (c.fact 37 (f := .glo "due_of") rfl)
  have g_short_at := He.glo_ok X G (c.fact 38 (f := .glo "short_at") rfl)
  have g_is_forfeits := He.glo_ok X G (c.fact 39 (f := .glo "is_forfeits") rfl)
  have g_need_amounts := He.glo_ok X G (c.fact 40 (f := .glo "need_amounts") rfl)
  have g_forfeit_owed := He.glo_ok X G (c.fact 41 (f := .glo "forfeit_owed") rfl)
  have g__law_amounts := He.glo_ok X G (c.fact 42 (f := .glo "_law_amounts") rfl)
  have g_law := He.glo_ok X G (c.fact 43 (f := .glo "law") rfl)
  have g_NoWeb := He.glo_ok X G (c.fact 44 (f := .glo "NoWeb") rfl)
  have g_NoPerson := He.glo_ok X G (c.fact 45 (f := .glo "NoPerson") rfl)
  have g_NoBase := He.glo_ok X G (c.fact 46 (f := .glo "NoBase") rfl)
  have g_NoForfeits := He.glo_ok X G (c.fact 47 (f := .glo "NoForfeits") rfl)
  have n_int : mg "int" = none := He.free_ok X G (c.fact 48 (f := .free "int") rfl)
  have n_range : mg "range" = none := He.free_ok X G (c.fact 49 (f := .free "range") rfl)
  have n_sorted : mg "sorted" = none := He.free_ok X G (c.fact 50 (f := .free "sorted") rfl)
  have n_len : mg "len" = none := He.free_ok X G (c.fact 51 (f := .free "len") rfl)
  have n_tuple : mg "tuple" = none := He.free_ok X G (c.fact 52 (f := .free "tuple") rfl)
  have n_isinstance : mg "isinstance" = none := He.free_ok X G (c.fact 53 (f := .free "isinstance") rfl)
  have n_bool : mg "bool" = none := He.free_ok X G (c.fact 54 (f := .free "bool") rfl)
  have n_all : mg "all" = none := He.free_ok X G (c.fact 55 (f := .free "all") rfl)
  have n_enumerate : mg "enumerate" = none := He.free_ok X G (c.fact 56 (f := .free "enumerate") rfl)
  have n_set : mg "set" = none := He.free_ok X G (c.fact 57 (f := .free "set") rfl)
  have n_str : mg "str" = none := He.free_ok X G (c.fact 58 (f := .free "str") rfl)
  have n_any : mg "any" = none := He.free_ok X G (c.fact 59 (f := .free "any") rfl)
  have n_sum : mg "sum" = none := He.free_ok X G (c.fact 60 (f := .free "sum") rfl)
  have n_list : mg "list" = none := He.free_ok X G (c.fact 61 (f := .free "list") rfl)
  have n_max : mg "max" = none := He.free_ok X G (c.fact 62 (f := .free "max") rfl)
  have c_MOST_DELAY : ∃ t, mg "MOST_DELAY" = some (.int (9) t) := He.int_ok X G (c.fact 63 (f := .int "MOST_DELAY" (9)) rfl)
  have c_FEWEST_PERSONS : ∃ t, mg "FEWEST_PERSONS" = some (.int (2) t) := He.int_ok X G (c.fact 64 (f := .int "FEWEST_PERSONS" (2)) rfl)
  have c_MOST_PERSONS : ∃ t, mg "MOST_PERSONS" = some (.int (6) t) := He.int_ok X G (c.fact 65 (f := .int "MOST_PERSONS" (6)) rfl)
  have c_MOST_TRANSFERS : ∃ t, mg "MOST_TRANSFERS" = some (.int (10) t) := He.int_ok X G (c.fact 66 (f := .int "MOST_TRANSFERS" (10)) rfl)
  have c_MOST_BASE : ∃ t, mg "MOST_BASE" = some (.int (1000) t) := He.int_ok X G (c.fact 67 (f := .int "MOST_BASE" (1000)) rfl)
  have c_MOST_FORFEIT : ∃ t, mg "MOST_FORFEIT" = some (.int (1000000) t) := He.int_ok X G (c.fact 68 (f := .int "MOST_FORFEIT" (1000000)) rfl)
  obtain ⟨cx, z_NoForfeits⟩ := (Bool.and_eq_true _ _).mp cx
  have e_NoForfeits : ErrC K mg "NoForfeits" (He.ga K "NoForfeits") := _root_.G.errB_ok g_NoForfeits z_NoForfeits
  obtain ⟨cx, z_NoBase⟩ := (Bool.and_eq_true _ _).mp cx
  have e_NoBase : ErrC K mg "NoBase" (He.ga K "NoBase") := _root_.G.errB_ok g_NoBase z_NoBase
  obtain ⟨cx, z_NoPerson⟩ := (Bool.and_eq_true _ _).mp cx
  have e_NoPerson : ErrC K mg "NoPerson" (He.ga K "NoPerson") := _root_.G.errB_ok g_NoPerson z_NoPerson
  obtain ⟨cx, z_NoWeb⟩ := (Bool.and_eq_true _ _).mp cx
  have e_NoWeb : ErrC K mg "NoWeb" (He.ga K "NoWeb") := _root_.G.errB_ok g_NoWeb z_NoWeb
  have e := hfa.symm.trans g_law
  cases e
  have b := FunD.bindsA (ps := ["script"]) F_law fun _ _ _ _ _ _ us hl => match us, hl with | [_], _ => rfl
  refine ⟨fd_law, fun s v => b s [v] rfl, fun base => ?_⟩
  have h__law_mixed := k__law_mixed (P := P) (w := w) (base := base) F__law_mixed g__law_mixed n_int
  have h__law_row := k__law_row (P := P) (w := w) (base := base) F__law_row g__law_row h__law_mixed n_int n_range
  have h__law_web := k__law_web (P := P) (w := w) (base := base) F__law_web g__law_web h__law_row n_int n_sorted n_range n_len n_tuple
  have h__law_at := k__law_at (P := P) (w := w) (base := base) F__law_at g__law_at n_len n_int
  have h_is_tuple_of := k_is_tuple_of (P := P) (w := w) (base := base) F_is_tuple_of g_is_tuple_of n_isinstance n_tuple n_len
  have h_is_integer := k_is_integer (P := P) (w := w) (base := base) F_is_integer g_is_integer n_isinstance n_int n_bool
  have h_is_between := k_is_between (P := P) (w := w) (base := base) F_is_between g_is_between h_is_integer
  have h_is_under := k_is_under (P := P) (w := w) (base := base) F_is_under g_is_under h_is_integer
  have h_is_row := k_is_row (P := P) (w := w) (base := base) F_is_row g_is_row h_is_tuple_of h_is_under h_is_between c_MOST_DELAY
  have h_is_web := k_is_web (P := P) (w := w) (base := base) F_is_web g_is_web h_is_tuple_of h_is_between h_is_row n_isinstance n_tuple n_len n_all n_range c_FEWEST_PERSONS c_MOST_PERSONS c_MOST_TRANSFERS
  have h_need_web := k_need_web (P := P) (w := w) (base := base) F_need_web g_need_web h_is_web e_NoWeb
  have h_need_person := k_need_person (P := P) (w := w) (base := base) F_need_person g_need_person h_is_under e_NoPerson
  have h_need_base := k_need_base (P := P) (w := w) (base := base) F_need_base g_need_base h_is_between c_MOST_BASE e_NoBase
  have h_need_case := k_need_case (P := P) (w := w) (base := base) F_need_case g_need_case h_need_web h_need_person h_need_base
  have h_got_by := k_got_by (P := P) (w := w) (base := base) F_got_by g_got_by n_enumerate
  have h_steps_to := k_steps_to (P := P) (w := w) (base := base) F_steps_to g_steps_to h_got_by n_len
  have h_shut_in := k_shut_in (P := P) (w := w) (base := base) F_shut_in g_shut_in n_tuple n_range
  have h_way_on := k_way_on (P := P) (w := w) (base := base) F_way_on g_way_on n_tuple
  have h_amounts_by := k_amounts_by (P := P) (w := w) (base := base) F_amounts_by g_amounts_by n_tuple n_range n_len
  have h_forfeits := k_forfeits (P := P) (w := w) (base := base) F_forfeits g_forfeits h_need_case h_steps_to h_shut_in h_way_on h_amounts_by n_tuple n_range n_len
  have h__law_gets := k__law_gets (P := P) (w := w) (base := base) F__law_gets g__law_gets n_range n_len
  have h__law_steps := k__law_steps (P := P) (w := w) (base := base) F__law_steps g__law_steps h__law_gets n_len
  have h_is_trail := k_is_trail (P := P) (w := w) (base := base) F_is_trail g_is_trail h_is_between n_isinstance n_tuple n_len n_all n_set n_range
  have h_are_right_ways := k_are_right_ways (P := P) (w := w) (base := base) F_are_right_ways g_are_right_ways h_is_tuple_of h_is_trail n_len n_all n_enumerate
  have h_are_under := k_are_under (P := P) (w := w) (base := base) F_are_under g_are_under h_is_under n_isinstance n_tuple n_all
  have h_is_lot := k_is_lot (P := P) (w := w) (base := base) F_is_lot g_is_lot h_are_under n_all n_range n_len
  have h_is_forfeit_paper := k_is_forfeit_paper (P := P) (w := w) (base := base) F_is_forfeit_paper g_is_forfeit_paper h_need_case h_are_right_ways h_amounts_by h_is_lot n_isinstance n_tuple n_len n_str n_all
  have h__law_good_ways := k__law_good_ways (P := P) (w := w) (base := base) F__law_good_ways g__law_good_ways n_range n_len n_isinstance n_tuple n_set
  have h_forfeit_amounts := k_forfeit_amounts (P := P) (w := w) (base := base) F_forfeit_amounts g_forfeit_amounts h_need_web h_need_base h_is_trail h_amounts_by n_isinstance n_tuple n_all e_NoForfeits
  have h__law_gives := k__law_gives (P := P) (w := w) (base := base) F__law_gives g__law_gives n_range n_len
  have h__law_honest := k__law_honest (P := P) (w := w) (base := base) F__law_honest g__law_honest h__law_gives h__law_gets n_any n_all
  have h__law_net := k__law_net (P := P) (w := w) (base := base) F__law_net g__law_net h__law_gives h__law_gets n_sum
  have h__law_short_of := k__law_short_of (P := P) (w := w) (base := base) F__law_short_of g__law_short_of h__law_honest h__law_gives h__law_net n_len
  have h__law_right_amounts := k__law_right_amounts (P := P) (w := w) (base := base) F__law_right_amounts g__law_right_amounts h__law_gives h__law_gets h__law_short_of n_range n_len n_tuple
  have h_are_amounts := k_are_amounts (P := P) (w := w) (base := base) F_are_amounts g_are_amounts h_is_tuple_of h_is_between n_len n_all c_MOST_FORFEIT
  have h_given_by := k_given_by (P := P) (w := w) (base := base) F_given_by g_given_by n_enumerate
  have h_net_of := k_net_of (P := P) (w := w) (base := base) F_net_of g_net_of h_given_by h_got_by n_sum
  have h_due_of := k_due_of (P := P) (w := w) (base := base) F_due_of g_due_of h_given_by n_len
  have h_short_at := k_short_at (P := P) (w := w) (base := base) F_short_at g_short_at h_given_by h_net_of h_due_of n_list n_range n_len n_tuple
  have h_is_forfeits := k_is_forfeits (P := P) (w := w) (base := base) F_is_forfeits g_is_forfeits h_need_case h_are_amounts h_short_at
  have h_need_amounts := k_need_amounts (P := P) (w := w) (base := base) F_need_amounts g_need_amounts h_are_amounts e_NoForfeits
  have h_forfeit_owed := k_forfeit_owed (P := P) (w := w) (base := base) F_forfeit_owed g_forfeit_owed h_need_web h_need_person h_need_amounts h_got_by n_sum
  have h__law_amounts := k__law_amounts (P := P) (w := w) (base := base) F__law_amounts g__law_amounts h__law_row h__law_steps n_range n_len n_int n_max n_tuple
  have h_law := k_law (P := P) (w := w) (base := base) F_law g_law h__law_web h__law_at h__law_row h_forfeits h__law_steps h_is_forfeit_paper h__law_good_ways h_forfeit_amounts h__law_right_amounts h_is_forfeits h_forfeit_owed h__law_amounts h__law_gets n_len n_isinstance n_tuple n_range n_sum
  exact h_law
end L
open PySem PySem.W PySem.Calls PyProof.Rows
theorem PySem.Challenge.cw_chesthours_k65_whole_forfeits_flow_holds : PySem.Challenge.rw_chesthours_k65_whole_forfeits_flow.Holds := by
  w_on; o_law
  refine HandSHeadRun.head_any (r := OpenLaw.row PySem.Challenge.rw_chesthours_k65_whole_forfeits_flow) (q := view (OpenLaw.row PySem.Challenge.rw_chesthours_k65_whole_forfeits_flow).prog [59]) (H := L.hkL) (ob := L.obL) (M := 4000) (loose := L.looseL) (d := HandSHeadRun.topDef (OpenLaw.row PySem.Challenge.rw_chesthours_k65_whole_forfeits_flow).prog 59) (kwd := []) L.obL_eq
    (by kernel_rfl) (fun s => by kernel_rfl) L.runL (by kernel_rfl) (by kernel_rfl) (by kernel_rfl) (by rfl) (by first | assumption | decide +kernel) (by decide +kernel) ⟨rfl, rfl, rfl, rfl, rfl, by decide +kernel⟩ ?hw ?hc
  case hw => w_witness2
  case hc =>
    refine L2.walk_ofE (l := PySem.Challenge.rw_chesthours_k65_whole_forfeits_flow) (n := 63) (k := 8) (x := "script") (CX := L2.CX0) rfl (G.sl_le (by omega)) (by kernel_rfl) ⟨rfl, by decide, by decide⟩ ?F (fun _ _ _ _ z => z)
    intro w mg fa h Y GN hmg0
    obtain ⟨K, KX, c, cx⟩ := Y
    have hmg : mg ("law" : PySem.Str) = some (.ref fa) := by
      have e : (HandSHeadRun.topDef (OpenLaw.row PySem.Challenge.rw_chesthours_k65_whole_forfeits_flow).prog 59).name = ("law" : PySem.Str) := by kernel_rfl
      rw [← e]
      exact hmg0
    obtain ⟨fd, hb, hF⟩ := L.factsL (P := (PySem.Challenge.rw_chesthours_k65_whole_forfeits_flow).prog) (w := w) KX GN hmg c cx
    exact ⟨K, fd, fun vs H Q _ => G.spM ⟨K, mg⟩ 1 L.m_law.fn vs H Q fun _ _ _ => False, KX, hb, fun H a ns hl _ hS => G.law_end hS (L.law_true ns hl), fun base _ _ => G.FnOk.quiet (hF base).ok⟩
